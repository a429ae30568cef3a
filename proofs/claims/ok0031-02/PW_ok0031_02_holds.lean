import PyProof.Rows.All
import Wide.All
import OpenK.AllK
import Wide.FinOn
import PySem.Challenge.RW_ok0031_02
set_option Elab.async false
set_option genSizeOf false
set_option genInjectivity false
set_option compiler.extract_closed false
set_option linter.unusedVariables false
set_option linter.unusedSimpArgs false
set_option maxRecDepth 100000
set_option maxHeartbeats 8000000
namespace Mine
section
open PySem PySem.W
theorem looks_of {p : Program} (a1 : sreFenced p.main = true) (a2 : ((moduleNames p.main.body).isEmpty || lookedIntoSs (moduleNames p.main.body) p.main.body) = true) (a3 : namesResolve p = true)
  (a4 : p.boundNames.all (fun n => !worldNames.contains n) = true) (a5 : noRoadLSs { strict := !(importedModules p.main.body).all cThrough.contains, foot := none, bare := (["vars", "dir", "locals"] : List Str).filter (readsOut p p.main.body) } p.main.body = true)
  (a6 : (namesMeet p p.main.body fun _ n => attrL n) = true) : looksOpen p = true := by
 unfold looksOpen
 rw [a1, a2, a3, a4, a5, a6]; rfl
theorem row_of {r : OpenRow} (h : looksOpen r.prog = true) (b : (r.loose.isEmpty && r.makers.isEmpty &&
  (r.records.isEmpty || r.raises.all fun ct => ct.1 != .builtin "AttributeError" && ct.1 != .builtin "TypeError") &&
  (r.raises.all fun ct => match ct.1 with | .builtin n => !r.prog.boundNames.contains (Str.ofString n) && !ofTheWorld.contains n | .own _ => true) &&
  decide (r.records.map (·.1)).Nodup && (r.records.all fun x => !x.1.opensWith "__" && !builtinNamed x.1 && r.prog.boundNames.contains x.1 && x.2.all fun f => !f.1.opensWith "__") &&
  r.toRowW.solid && r.pre.litsOk && r.post.litsOk && r.raises.all (·.2.litsOk) &&
  r.mutates.all (fun i => match r.args[i]? with
   | some sh => !sh.arms.any WShape.isObj
   | none => false) &&
  r.within.all (fun i => decide (i < r.args.length)) && r.same.all (fun i => decide (i < r.args.length)) && r.prog.boundNames.contains r.name && !startupNames.contains r.name) = true) : r.wellSaid = true := by
 unfold OpenRow.wellSaid OpenRow.partSaid
 rw [h, Bool.true_and]; exact b
theorem law_of {l : OpenLaw} (h : l.row.wellSaid = true) (c1 : (decide (l.foot ≤ (behindTheImports l.prog).length) && l.footing.all footLine && noClassBlock l.prog l.footing &&
   l.most.all (fun n => decide (63 ≤ n)) && l.bound.all (fun n => decide (2 ^ 63 ≤ n))) = true)
  (c2 : noRoadLSs { strict := true, foot := some l.bound', writes := l.writes, may := l.may } l.footing = true)
  (c3 : defStands l.about l.above = true) (c3' : l.namesIt = true)
  (c4 : (["type", "isinstance", "issubclass", "getattr", "hasattr"] : List Str).all (fun n => l.about != [n]) = true)
  (c5 : l.bound'.all (fun n => !builtinNamed n || l.about == [n] || !l.reads n) = true)
  (c6 : (!l.writes || (l.prog.main.body.flatMap importedNames).all fun n => !l.reads n) = true)
  (c7 : (l.prog.main.body.flatMap importedNames).all (fun n => !l.reads n || (drawsOf n l.prog.main.body).all fun mn => mn.2 != ("attrgetter" : Str) && mn.2 != ("methodcaller" : Str)) = true)
  (c8 : namesMeet l.prog l.footing (fun sc n => (!(["type", "isinstance", "issubclass", "getattr", "hasattr"] : List Str).contains n || sc.names.lookup n == some .globalImplicit) &&
   (l.may != some n || sc.kind == .module || sc.names.lookup n == some .globalImplicit)) = true)
  (c9 : l.own.contains l.name = true) (d1 : (l.own.eraseDups.length == l.own.length) = true) (d2 : l.own.all (fun n => !builtinNamed n) = true)
  (d3 : namesMeet l.prog l.above (fun _ n => !l.own.contains n) = true) (d4 : (namesMeet l.prog l.footing fun sc n => sc.kind == .module || sc.names.lookup n != some .globalExplicit) = true) : l.wellSaid = true := by
 have c1' : l.most.all (fun n => decide (63 ≤ n)) = true ∧ l.bound.all (fun n => decide (2 ^ 63 ≤ n)) = true ∧ decide (l.foot ≤ (behindTheImports l.prog).length) = true ∧ l.footing.all footLine = true ∧ noClassBlock l.prog l.footing = true := by
  obtain ⟨⟨⟨⟨q1, q2⟩, q3⟩, q4⟩, q5⟩ := by simpa only [Bool.and_eq_true] using c1
  exact ⟨q4, q5, q1, q2, q3⟩
 unfold OpenLaw.wellSaid
 rw [h, c1'.1, c1'.2.1, c1'.2.2.1, c1'.2.2.2.1, c1'.2.2.2.2, c2, c3, c3', c4, c5, c6, c7, c8, c9, d1, d2, d3, d4]; rfl
noncomputable abbrev lw := PySem.Challenge.rw_ok0031_02
theorem sa1 : sreFenced lw.row.prog.main = true := by decide +kernel
theorem sa2 : ((moduleNames lw.row.prog.main.body).isEmpty || lookedIntoSs (moduleNames lw.row.prog.main.body) lw.row.prog.main.body) = true := by decide +kernel
theorem sa3 : namesResolve lw.row.prog = true := by decide +kernel
theorem sa4 : lw.row.prog.boundNames.all (fun n => !worldNames.contains n) = true := by decide +kernel
theorem sa5 : noRoadLSs { strict := !(importedModules lw.row.prog.main.body).all cThrough.contains, foot := none, bare := (["vars", "dir", "locals"] : List Str).filter (readsOut lw.row.prog lw.row.prog.main.body) } lw.row.prog.main.body = true := by decide +kernel
theorem sa6 : (namesMeet lw.row.prog lw.row.prog.main.body fun _ n => attrL n) = true := by decide +kernel
theorem sb : lw.row.wellSaid = true := row_of (looks_of sa1 sa2 sa3 sa4 sa5 sa6) (by decide +kernel)
theorem sc2 : noRoadLSs { strict := true, foot := some lw.bound', writes := lw.writes, may := lw.may } lw.footing = true := by decide +kernel
theorem sc5 : lw.bound'.all (fun n => !builtinNamed n || lw.about == [n] || !lw.reads n) = true := by decide +kernel
theorem sd3 : namesMeet lw.prog lw.above (fun _ n => !lw.own.contains n) = true := by decide +kernel
theorem said : lw.wellSaid = true := law_of sb (by decide +kernel) sc2 (by decide +kernel) (by decide +kernel) (by decide +kernel) sc5 (by decide +kernel) (by decide +kernel) (by decide +kernel) (by decide +kernel) (by decide +kernel) (by decide +kernel) sd3 (by decide +kernel)
end
end Mine
section
open PySem PySem.W PyProof.Rows PySem.Calls
namespace Mine
inductive AV where
 | none | bool (b : Bool) | int (i : Int) | str (n : Nat) | ref (a : Nat) | k (v : Value) | tup (l : List AV)
 deriving Inhabited
inductive AObj where
 | list (xs : List AV)
 | inst (C d : Nat)
 | ns (fs : List (Nat × AV))
 | idict (kvs : List (Int × AV))
 | sdict (kvs : List (Nat × AV))
 | tdict (kvs : List (List Int × AV))
 | edict
 deriving Inhabited
structure St where
 nx : Nat
 ob : Nat → AObj
 ver : Nat → Nat
 lst : Nat → Option (List AV)
noncomputable def upd (f : Nat → AObj) (a : Nat) (o : AObj) : Nat → AObj := fun b => if b = a then o else f b
@[simp] theorem upd_self (f a o) : upd f a o a = o := by simp [upd]
theorem upd_ne {f : Nat → AObj} {a b : Nat} {o} (h : b ≠ a) : upd f a o b = f b := by simp [upd, h]
noncomputable def St.set (σ : St) (a : Nat) (o : AObj) : St := ⟨σ.nx, upd σ.ob a o, fun b => if b = a then σ.ver b + 1 else σ.ver b, σ.lst⟩
noncomputable def St.new (σ : St) (o : AObj) : St := ⟨σ.nx + 1, upd σ.ob σ.nx o, σ.ver, σ.lst⟩
@[simp] theorem St.set_nx (σ : St) (a o) : (σ.set a o).nx = σ.nx := rfl
@[simp] theorem St.new_nx (σ : St) (o) : (σ.new o).nx = σ.nx + 1 := rfl
inductive Bop where | add | sub | mul | fdiv | mod | pow
inductive Cop where | eq | ne | lt | le | gt | ge
inductive Ex where
 | loc (i : Nat)
 | lit (v : AV)
 | tup (es : List Ex)
 | lst (es : List Ex)
 | attr (e : Ex) (f : Nat)
 | sub (e i : Ex)
 | slcL (e hi : Ex)
 | slc (e lo hi : Ex)
 | bin (op : Bop) (a b : Ex)
 | cmp (op : Cop) (a b : Ex)
 | isN (e : Ex)
 | bop (isAnd : Bool) (es : List Ex)
 | not (e : Ex)
 | neg (e : Ex)
 | call (f : Ex) (es : List Ex)
 | meth (e : Ex) (m : Nat) (es : List Ex)
 | app (e x : Ex)
 | pop (e : Ex)
 | dget (e k : Ex)
 | dgetd (e k d : Ex)
 | len (e : Ex)
 | abs (e : Ex)
 | edict
 | idict1 (k v : Ex)
 deriving Inhabited
inductive Sx where
 | asg (i : Nat) (e : Ex)
 | asg2 (i j : Nat) (e : Ex)
 | setA (o : Ex) (f : Nat) (e : Ex)
 | setS (o k e : Ex)
 | augL (i : Nat) (op : Bop) (e : Ex)
 | augA (o : Ex) (f : Nat) (op : Bop) (e : Ex)
 | expr (e : Ex)
 | ret (e : Ex)
 | retN
 | ite (c : Ex) (a b : List Sx)
 | whl (c : Ex) (b : List Sx)
 | forR (i : Nat) (hi : Ex) (b : List Sx)
 | forR2 (i : Nat) (lo hi : Ex) (b : List Sx)
 | forL (i : Nat) (e : Ex) (b : List Sx)
 | forK (i : Nat) (e : Ex) (b : List Sx)
 | delF (e lo : Ex)
 | pass
 | bad
 deriving Inhabited
structure FnIR where
 npar : Nat
 dflt : List AV
 nloc : Nat
 body : List Sx
structure Tab where
 fn : Nat → Option FnIR
 prim : Nat → Option (List (Nat × AV))
 init : Nat → Option Nat
 meth : Nat → Nat → Option Nat
 cmeth : Nat → Nat → Option Nat
 fld : Nat → Nat → Bool
noncomputable abbrev Lc := List (Option AV)
inductive Fl where | next | ret (v : AV)
noncomputable def loopN {S R : Type} (f : S → Option (S ⊕ R)) : Nat → S → Option R
 | 0, _ => Option.none
 | n + 1, s => match f s with
  | Option.none => Option.none
  | some (.inl s') => loopN f n s'
  | some (.inr r) => some r
theorem loopN_more {S R : Type} {f : S → Option (S ⊕ R)} : ∀ {n k : Nat} {s : S} {r : R}, loopN f n s = some r → loopN f (n + k) s = some r
 | 0, _, _, _, h => by simp [loopN] at h
 | n + 1, k, s, r, h => by
  rw [Nat.add_right_comm]
  simp only [loopN] at h ⊢
  cases e : f s with
  | none => rw [e] at h; cases h
  | some x =>
   rw [e] at h
   cases x with
   | inl s' => exact loopN_more h
   | inr r' => exact h
open Classical in
noncomputable def loopF {S R : Type} (f : S → Option (S ⊕ R)) (s : S) : Option R :=
 if h : ∃ n, (loopN f n s).isSome = true then loopN f (Classical.choose h) s else Option.none
theorem loopF_iff {S R : Type} {f : S → Option (S ⊕ R)} {s : S} {r : R} : loopF f s = some r ↔ ∃ n, loopN f n s = some r := by
 unfold loopF
 constructor
 ·intro h
  split at h
  ·exact ⟨_, h⟩
  ·cases h
 ·rintro ⟨n, h⟩
  have hx : ∃ n, (loopN f n s).isSome = true := ⟨n, by rw [h]; rfl⟩
  rw [dif_pos hx]
  have h2 := Classical.choose_spec hx
  obtain ⟨r', h3⟩ := Option.isSome_iff_exists.mp h2
  rw [h3]
  have a := loopN_more (k := Classical.choose hx) h
  have b := loopN_more (k := n) h3
  rw [Nat.add_comm] at b
  rw [a] at b
  exact b.symm
theorem loopF_unfold {S R : Type} (f : S → Option (S ⊕ R)) (s : S) : loopF f s = match f s with
  | Option.none => Option.none
  | some (.inl s') => loopF f s'
  | some (.inr r) => some r := by
 cases e : f s with
 | none =>
  cases h : loopF f s with
  | none => rfl
  | some r =>
   obtain ⟨n, hn⟩ := loopF_iff.mp h
   cases n with
   | zero => simp [loopN] at hn
   | succ n => simp [loopN, e] at hn
 | some x =>
  cases x with
  | inr r => exact loopF_iff.mpr ⟨1, by simp [loopN, e]⟩
  | inl s' =>
   show loopF f s = loopF f s'
   cases h : loopF f s' with
   | some r =>
    obtain ⟨n, hn⟩ := loopF_iff.mp h
    exact loopF_iff.mpr ⟨n + 1, by simp [loopN, e, hn]⟩
   | none =>
    cases h2 : loopF f s with
    | none => rfl
    | some r =>
     obtain ⟨n, hn⟩ := loopF_iff.mp h2
     cases n with
     | zero => simp [loopN] at hn
     | succ n =>
      simp [loopN, e] at hn
      have := loopF_iff.mpr ⟨n, hn⟩
      rw [h] at this; cases this
noncomputable def fget (f : Nat) : List (Nat × AV) → Option AV
 | [] => Option.none
 | (g, v) :: r => if g = f then some v else fget f r
noncomputable def fput (f : Nat) (v : AV) : List (Nat × AV) → List (Nat × AV)
 | [] => [(f, v)]
 | (g, u) :: r => if g = f then (f, v) :: r else (g, u) :: fput f v r
noncomputable def dgetT (k : List Int) : List (List Int × AV) → Option AV
 | [] => Option.none
 | (g, v) :: r => if g = k then some v else dgetT k r
noncomputable def dputT (k : List Int) (v : AV) : List (List Int × AV) → List (List Int × AV)
 | [] => [(k, v)]
 | (g, u) :: r => if g = k then (g, v) :: r else (g, u) :: dputT k v r
noncomputable def dgetI (k : Int) : List (Int × AV) → Option AV
 | [] => Option.none
 | (g, v) :: r => if g = k then some v else dgetI k r
noncomputable def dputI (k : Int) (v : AV) : List (Int × AV) → List (Int × AV)
 | [] => [(k, v)]
 | (g, u) :: r => if g = k then (g, v) :: r else (g, u) :: dputI k v r
noncomputable def ints? : List AV → Option (List Int)
 | [] => some []
 | .int i :: r => (ints? r).map (i :: ·)
 | _ :: _ => Option.none
noncomputable def asInt : AV → Option Int
 | .int i => some i
 | _ => Option.none
noncomputable def asBool : AV → Option Bool
 | .bool b => some b
 | _ => Option.none
noncomputable def asRef : AV → Option Nat
 | .ref a => some a
 | _ => Option.none
noncomputable def asStr : AV → Option Nat
 | .str a => some a
 | _ => Option.none
noncomputable def asTup : AV → Option (List AV)
 | .tup l => some l
 | _ => Option.none
noncomputable def asKR : AV → Option Nat
 | .k (.ref a) => some a
 | _ => Option.none
noncomputable def isNA : AV → Bool
 | .none => true
 | _ => false
noncomputable def isUnit : AV → Bool
 | .none => true
 | .int _ => true
 | .bool _ => true
 | _ => false
noncomputable def asList : AObj → Option (List AV)
 | .list xs => some xs
 | _ => Option.none
noncomputable def asInst : AObj → Option (Nat × Nat)
 | .inst C d => some (C, d)
 | _ => Option.none
noncomputable def asNs : AObj → Option (List (Nat × AV))
 | .ns fs => some fs
 | _ => Option.none
noncomputable def asSd : AObj → Option (List (Nat × AV))
 | .sdict fs => some fs
 | _ => Option.none
noncomputable def pair? : List AV → Option (AV × AV)
 | [x, y] => some (x, y)
 | _ => Option.none
theorem asInt_inv {v i} (h : asInt v = some i) : v = .int i := by cases v <;> cases h; rfl
theorem asBool_inv {v i} (h : asBool v = some i) : v = .bool i := by cases v <;> cases h; rfl
theorem asRef_inv {v i} (h : asRef v = some i) : v = .ref i := by cases v <;> cases h; rfl
theorem asStr_inv {v i} (h : asStr v = some i) : v = .str i := by cases v <;> cases h; rfl
theorem asTup_inv {v i} (h : asTup v = some i) : v = .tup i := by cases v <;> cases h; rfl
theorem asKR_inv {v i} (h : asKR v = some i) : v = .k (.ref i) := by
 cases v with
 | k c => cases c <;> cases h; rfl
 | _ => cases h
theorem isNA_inv {v} (h : isNA v = true) : v = .none := by cases v <;> first | rfl | cases h
theorem asList_inv {v i} (h : asList v = some i) : v = .list i := by cases v <;> cases h; rfl
theorem asInst_inv {v C d} (h : asInst v = some (C, d)) : v = .inst C d := by cases v <;> cases h; rfl
theorem asNs_inv {v i} (h : asNs v = some i) : v = .ns i := by cases v <;> cases h; rfl
theorem asSd_inv {v i} (h : asSd v = some i) : v = .sdict i := by cases v <;> cases h; rfl
theorem pair?_inv {l x y} (h : pair? l = some (x, y)) : l = [x, y] := by
 match l, h with
 | [a, b], h => cases h; rfl
theorem hide {G : Prop} (h : ∀ P : Prop, (G → P) → P) : G := h G id
theorem bind_inv {α β : Type} {x : Option α} {f : α → Option β} {b : β} (h : x.bind f = some b) : ∃ a, x = some a ∧ f a = some b := by
 cases x with
 | none => cases h
 | some a => exact ⟨a, rfl, h⟩
theorem map_inv {α β : Type} {x : Option α} {f : α → β} {b : β} (h : x.map f = some b) : ∃ a, x = some a ∧ f a = b := by
 cases x with
 | none => cases h
 | some a => exact ⟨a, rfl, Option.some.inj h⟩
theorem ite_inv {α : Type} {c : Prop} {i : Decidable c} {x : Option α} {b : α} (h : (if c then x else Option.none) = some b) : c ∧ x = some b := by
 by_cases hc : c
 ·rw [if_pos hc] at h; exact ⟨hc, h⟩
 ·rw [if_neg hc] at h; cases h
section
variable {P : Prop}
theorem bind_k {α β : Type} {x : Option α} {f : α → Option β} {b : β} (h : x.bind f = some b) (K : ∀ a, x = some a → f a = some b → P) : P := by
 obtain ⟨a, p, q⟩ := bind_inv h
 exact K a p q
theorem bind2_k {α γ β : Type} {x : Option (α × γ)} {f : α × γ → Option β} {b : β} (h : x.bind f = some b) (K : ∀ a c, x = some (a, c) → f (a, c) = some b → P) : P := by
 obtain ⟨a, p, q⟩ := bind_inv h
 exact K a.1 a.2 p q
theorem bind3_k {α γ δ β : Type} {x : Option (α × γ × δ)} {f : α × γ × δ → Option β} {b : β} (h : x.bind f = some b) (K : ∀ a c d, x = some (a, c, d) → f (a, c, d) = some b → P) : P := by
 obtain ⟨a, p, q⟩ := bind_inv h
 exact K a.1 a.2.1 a.2.2 p q
theorem map_k {α β : Type} {x : Option α} {f : α → β} {b : β} (h : x.map f = some b) (K : ∀ a, x = some a → f a = b → P) : P := by
 obtain ⟨a, p, q⟩ := map_inv h
 exact K a p q
theorem map2_k {α γ β : Type} {x : Option (α × γ)} {f : α × γ → β} {b : β} (h : x.map f = some b) (K : ∀ a c, x = some (a, c) → f (a, c) = b → P) : P := by
 obtain ⟨a, p, q⟩ := map_inv h
 exact K a.1 a.2 p q
theorem map3_k {α γ δ β : Type} {x : Option (α × γ × δ)} {f : α × γ × δ → β} {b : β} (h : x.map f = some b) (K : ∀ a c d, x = some (a, c, d) → f (a, c, d) = b → P) : P := by
 obtain ⟨a, p, q⟩ := map_inv h
 exact K a.1 a.2.1 a.2.2 p q
theorem ite_k {α : Type} {c : Prop} {i : Decidable c} {x : Option α} {b : α} (h : (if c then x else Option.none) = some b) (K : c → x = some b → P) : P := by
 obtain ⟨p, q⟩ := ite_inv h
 exact K p q
end
noncomputable def getF (T : Tab) (σ : St) (v : AV) (f : Nat) : Option AV :=
 (asRef v).bind fun a => (asInst (σ.ob a)).bind fun p => (asNs (σ.ob p.2)).bind fun fs => if T.fld p.1 f = true then fget f fs else Option.none
noncomputable def setF (T : Tab) (σ : St) (v : AV) (f : Nat) (x : AV) : Option St :=
 (asRef v).bind fun a => (asInst (σ.ob a)).bind fun p => (asNs (σ.ob p.2)).bind fun fs => if T.fld p.1 f = true ∧ fs.length < 900 then some (σ.set p.2 (.ns (fput f x fs))) else Option.none
noncomputable def LIM : Nat := 1000000
noncomputable def binI (op : Bop) (a b : Int) : Option Int := match op with
 | .add => some (a + b)
 | .sub => some (a - b)
 | .mul => if -1000000 < a ∧ a < 1000000 then some (a * b) else Option.none
 | .fdiv => if b ≠ 0 then some (Int.fdiv a b) else Option.none
 | .mod => if b ≠ 0 then some (Int.fmod a b) else Option.none
 | .pow => if a = 7 ∧ 0 ≤ b ∧ b < 64 then some (a ^ b.toNat) else Option.none
noncomputable def isAdd : Bop → Bool
 | .add => true
 | _ => false
noncomputable def binA (op : Bop) (x y : AV) (σ : St) : Option (AV × St) := match x with
 | .int a => (asInt y).bind fun b => (binI op a b).bind fun c => some (.int c, σ)
 | .ref a => (asRef y).bind fun b => (asList (σ.ob a)).bind fun xs => (asList (σ.ob b)).bind fun ys => if isAdd op = true ∧ xs.length + ys.length < LIM then some (.ref σ.nx, σ.new (.list (xs ++ ys))) else Option.none
 | _ => Option.none
noncomputable def cmpI : Cop → Int → Int → Bool
 | .eq, a, b => decide (a = b)
 | .ne, a, b => decide (a ≠ b)
 | .lt, a, b => decide (a < b)
 | .le, a, b => decide (a ≤ b)
 | .gt, a, b => decide (b < a)
 | .ge, a, b => decide (b ≤ a)
noncomputable def cmpE (op : Cop) (b : Bool) : Option Bool := match op with
 | .eq => some b
 | .ne => some !b
 | _ => Option.none
noncomputable def flat : List AV → Bool
 | [] => true
 | .int _ :: r => flat r
 | .none :: r => flat r
 | _ :: _ => false
noncomputable def cmpA (op : Cop) (x y : AV) (σ : St) : Option Bool := match x with
 | .int a => (asInt y).bind fun b => some (cmpI op a b)
 | .bool a => (asBool y).bind fun b => cmpE op (a == b)
 | .str a => (asStr y).bind fun b => cmpE op (decide (a = b))
 | .tup a => (asTup y).bind fun b => (ints? a).bind fun i => (ints? b).bind fun j => cmpE op (decide (i = j))
 | .ref a => (asRef y).bind fun b => (asList (σ.ob a)).bind fun xs => (asList (σ.ob b)).bind fun ys => if ys = [] ∧ flat xs = true then cmpE op xs.isEmpty else Option.none
 | _ => Option.none
noncomputable def at? (i : Int) (n : Nat) : Option Nat := if 0 ≤ i ∧ i < n then some i.toNat else Option.none
noncomputable def subO (o : AObj) (i : AV) : Option AV := match o with
 | .list xs => (asInt i).bind fun i => (at? i xs.length).bind fun j => xs[j]?
 | .idict kvs => (asInt i).bind fun i => dgetI i kvs
 | .sdict kvs => (asStr i).bind fun n => fget n kvs
 | _ => Option.none
noncomputable def subA (x i : AV) (σ : St) : Option AV := match x with
 | .ref a => subO (σ.ob a) i
 | .tup xs => (asInt i).bind fun i => (at? i xs.length).bind fun j => xs[j]?
 | _ => Option.none
noncomputable def putO (o : AObj) (i v : AV) : Option AObj := match o with
 | .list xs => (asInt i).bind fun i => (at? i xs.length).bind fun j => some (.list (xs.set j v))
 | .idict kvs => (asInt i).bind fun i => if kvs.length < 900 then some (.idict (dputI i v kvs)) else Option.none
 | .sdict kvs => (asStr i).bind fun n => if kvs.length < 900 then some (.sdict (fput n v kvs)) else Option.none
 | .tdict kvs => (asTup i).bind fun l => (ints? l).bind fun k => if kvs.length < 900 then some (.tdict (dputT k v kvs)) else Option.none
 | .edict => match i with
  | .int i => some (.idict [(i, v)])
  | .str n => some (.sdict [(n, v)])
  | .tup l => (ints? l).bind fun k => some (.tdict [(k, v)])
  | _ => Option.none
 | _ => Option.none
noncomputable def setS (x i v : AV) (σ : St) : Option St := (asRef x).bind fun a => (putO (σ.ob a) i v).bind fun o => some (σ.set a o)
noncomputable def getO (o : AObj) (k d : AV) : Option AV := match o with
 | .idict kvs => (asInt k).bind fun i => some ((dgetI i kvs).getD d)
 | .tdict kvs => (asTup k).bind fun l => (ints? l).bind fun k => some ((dgetT k kvs).getD d)
 | .edict => match k with
  | .int _ => some d
  | .tup l => (ints? l).bind fun _ => some d
  | _ => Option.none
 | _ => Option.none
noncomputable def isDO : AObj → Bool
 | .idict _ => true
 | .sdict _ => true
 | .tdict _ => true
 | .edict => true
 | _ => false
noncomputable def isD (x : AV) (σ : St) : Option Nat := (asRef x).bind fun a => if isDO (σ.ob a) = true then some a else Option.none
noncomputable def listA (x : AV) (σ : St) : Option (List AV) := (asRef x).bind fun a => asList (σ.ob a)
noncomputable def lstA (x : AV) (σ : St) : Option (List AV) := match asKR x with
 | some a => σ.lst a
 | Option.none => listA x σ
noncomputable abbrev CF := AV → List AV → St → Option (AV × St)
mutual
noncomputable def ev (T : Tab) (cf : CF) : Ex → Lc → St → Option (AV × St)
 | .loc i, ρ, σ => (ρ[i]?).bind fun o => o.bind fun v => some (v, σ)
 | .lit v, _, σ => some (v, σ)
 | .tup es, ρ, σ => (evs T cf es ρ σ).bind fun p => some (.tup p.1, p.2)
 | .lst es, ρ, σ => (evs T cf es ρ σ).bind fun p => some (.ref p.2.nx, p.2.new (.list p.1))
 | .attr e f, ρ, σ => (ev T cf e ρ σ).bind fun p => (getF T p.2 p.1 f).bind fun x => some (x, p.2)
 | .sub e i, ρ, σ => (ev T cf e ρ σ).bind fun p => (ev T cf i ρ p.2).bind fun q => (subA p.1 q.1 q.2).bind fun x => some (x, q.2)
 | .slcL e hi, ρ, σ => (ev T cf e ρ σ).bind fun p => (ev T cf hi ρ p.2).bind fun q => (asInt q.1).bind fun k => (lstA p.1 q.2).bind fun xs => if 0 ≤ k then some (.ref q.2.nx, q.2.new (.list (xs.take k.toNat))) else Option.none
 | .slc e lo hi, ρ, σ => (ev T cf e ρ σ).bind fun p => (ev T cf lo ρ p.2).bind fun q => (ev T cf hi ρ q.2).bind fun r => (asInt q.1).bind fun k => (asInt r.1).bind fun n => (listA p.1 r.2).bind fun xs => if 0 ≤ k ∧ 0 ≤ n then some (.ref r.2.nx, r.2.new (.list ((xs.take n.toNat).drop k.toNat))) else Option.none
 | .bin op a b, ρ, σ => (ev T cf a ρ σ).bind fun p => (ev T cf b ρ p.2).bind fun q => binA op p.1 q.1 q.2
 | .cmp op a b, ρ, σ => (ev T cf a ρ σ).bind fun p => (ev T cf b ρ p.2).bind fun q => (cmpA op p.1 q.1 q.2).bind fun c => some (.bool c, q.2)
 | .isN e, ρ, σ => (ev T cf e ρ σ).bind fun p => some (.bool (isNA p.1), p.2)
 | .bop a es, ρ, σ => evb T cf a es ρ σ
 | .not e, ρ, σ => (ev T cf e ρ σ).bind fun p => (asBool p.1).bind fun b => some (.bool !b, p.2)
 | .neg e, ρ, σ => (ev T cf e ρ σ).bind fun p => (asInt p.1).bind fun i => some (.int (-i), p.2)
 | .call f es, ρ, σ => (ev T cf f ρ σ).bind fun p => (evs T cf es ρ p.2).bind fun q => cf p.1 q.1 q.2
 | .meth e m es, ρ, σ => (ev T cf e ρ σ).bind fun p => match asKR p.1 with
  | some C => (T.cmeth C m).bind fun f => (evs T cf es ρ p.2).bind fun q => cf (.k (.ref f)) q.1 q.2
  | Option.none => (asRef p.1).bind fun a => (asInst (p.2.ob a)).bind fun c => (asNs (p.2.ob c.2)).bind fun fs => (T.meth c.1 m).bind fun f =>
   if (fget m fs).isNone = true then (evs T cf es ρ p.2).bind fun q => cf (.k (.ref f)) (.ref a :: q.1) q.2 else Option.none
 | .app e x, ρ, σ => (ev T cf e ρ σ).bind fun p => (asRef p.1).bind fun a => (asList (p.2.ob a)).bind fun _ => (ev T cf x ρ p.2).bind fun q => (asList (q.2.ob a)).bind fun xs => if xs.length < LIM then some (.none, q.2.set a (.list (xs ++ [q.1]))) else Option.none
 | .pop e, ρ, σ => (ev T cf e ρ σ).bind fun p => (asRef p.1).bind fun a => (asList (p.2.ob a)).bind fun xs => (xs.getLast?).bind fun y => some (y, p.2.set a (.list xs.dropLast))
 | .dget e k, ρ, σ => (ev T cf e ρ σ).bind fun p => (isD p.1 p.2).bind fun a => (ev T cf k ρ p.2).bind fun q => (getO (q.2.ob a) q.1 .none).bind fun x => some (x, q.2)
 | .dgetd e k d, ρ, σ => (ev T cf e ρ σ).bind fun p => (isD p.1 p.2).bind fun a => (ev T cf k ρ p.2).bind fun q => (ev T cf d ρ q.2).bind fun r => (getO (r.2.ob a) q.1 r.1).bind fun x => some (x, r.2)
 | .len e, ρ, σ => (ev T cf e ρ σ).bind fun p => (listA p.1 p.2).bind fun xs => some (.int xs.length, p.2)
 | .abs e, ρ, σ => (ev T cf e ρ σ).bind fun p => (asInt p.1).bind fun i => some (.int (i.natAbs : Int), p.2)
 | .edict, _, σ => some (.ref σ.nx, σ.new .edict)
 | .idict1 k v, ρ, σ => (ev T cf k ρ σ).bind fun p => (ev T cf v ρ p.2).bind fun q => (asInt p.1).bind fun i => some (.ref q.2.nx, q.2.new (.idict [(i, q.1)]))
noncomputable def evs (T : Tab) (cf : CF) : List Ex → Lc → St → Option (List AV × St)
 | [], _, σ => some ([], σ)
 | e :: r, ρ, σ => (ev T cf e ρ σ).bind fun p => (evs T cf r ρ p.2).bind fun q => some (p.1 :: q.1, q.2)
noncomputable def evb (T : Tab) (cf : CF) : Bool → List Ex → Lc → St → Option (AV × St)
 | _, [], _, _ => Option.none
 | a, e :: r, ρ, σ => (ev T cf e ρ σ).bind fun p => (asBool p.1).bind fun b => if r.isEmpty = true then some (.bool b, p.2) else if b = a then evb T cf a r ρ p.2 else some (.bool b, p.2)
end
noncomputable def setL (ρ : Lc) (i : Nat) (v : AV) : Lc := ρ.set i (some v)
noncomputable def unp2 (v : AV) (σ : St) : Option (AV × AV) := match v with
 | .tup l => pair? l
 | .ref a => (asList (σ.ob a)).bind pair?
 | _ => Option.none
noncomputable abbrev Rs := Fl × Lc × St
noncomputable def turnTo {S : Type} (nxt : Lc → St → S) (r : Rs) : S ⊕ Rs := match r with
 | (.next, ρ, σ) => .inl (nxt ρ σ)
 | r => .inr r
noncomputable def rng (h : Int) : Bool := decide (-1000000 ≤ h) && decide (h ≤ 1000000)
mutual
noncomputable def ex (T : Tab) (cf : CF) : Sx → Lc → St → Option Rs
 | .asg i e, ρ, σ => (ev T cf e ρ σ).bind fun p => some (.next, setL ρ i p.1, p.2)
 | .asg2 i j e, ρ, σ => (ev T cf e ρ σ).bind fun p => (unp2 p.1 p.2).bind fun q => some (.next, setL (setL ρ i q.1) j q.2, p.2)
 | .setA o f e, ρ, σ => (ev T cf e ρ σ).bind fun p => (ev T cf o ρ p.2).bind fun q => (setF T q.2 q.1 f p.1).bind fun σ => some (.next, ρ, σ)
 | .setS o k e, ρ, σ => (ev T cf e ρ σ).bind fun p => (ev T cf o ρ p.2).bind fun q => (ev T cf k ρ q.2).bind fun r => (setS q.1 r.1 p.1 r.2).bind fun σ => some (.next, ρ, σ)
 | .augL i op e, ρ, σ => (ρ[i]?).bind fun o => o.bind fun w => (asInt w).bind fun a => (ev T cf e ρ σ).bind fun p => (asInt p.1).bind fun b => (binI op a b).bind fun c => some (.next, setL ρ i (.int c), p.2)
 | .augA o f op e, ρ, σ => (ev T cf o ρ σ).bind fun p => (getF T p.2 p.1 f).bind fun old => (ev T cf e ρ p.2).bind fun q => (asInt old).bind fun a => (asInt q.1).bind fun b => (binI op a b).bind fun c => (setF T q.2 p.1 f (.int c)).bind fun σ => some (.next, ρ, σ)
 | .expr e, ρ, σ => (ev T cf e ρ σ).bind fun p => if isUnit p.1 = true then some (.next, ρ, p.2) else Option.none
 | .ret e, ρ, σ => (ev T cf e ρ σ).bind fun p => some (.ret p.1, ρ, p.2)
 | .retN, ρ, σ => some (.ret .none, ρ, σ)
 | .ite c a b, ρ, σ => (ev T cf c ρ σ).bind fun p => (asBool p.1).bind fun t => cond t (exs T cf a ρ p.2) (exs T cf b ρ p.2)
 | .whl c b, ρ, σ => loopF (fun (p : Lc × St) => (ev T cf c p.1 p.2).bind fun q => (asBool q.1).bind fun t => cond t ((exs T cf b p.1 q.2).map (turnTo fun ρ σ => (ρ, σ))) (some (.inr (.next, p.1, q.2)))) (ρ, σ)
 | .forR i hi b, ρ, σ => (ev T cf hi ρ σ).bind fun q => (asInt q.1).bind fun h => if rng h = true then loopF (fun (p : Int × Lc × St) => if p.1 < h then (exs T cf b (setL p.2.1 i (.int p.1)) p.2.2).map (turnTo fun ρ σ => (p.1 + 1, ρ, σ)) else some (.inr (.next, p.2.1, p.2.2))) (0, ρ, q.2) else Option.none
 | .forR2 i lo hi b, ρ, σ => (ev T cf lo ρ σ).bind fun r => (ev T cf hi ρ r.2).bind fun q => (asInt r.1).bind fun l => (asInt q.1).bind fun h => if rng l = true ∧ rng h = true then loopF (fun (p : Int × Lc × St) => if p.1 < h then (exs T cf b (setL p.2.1 i (.int p.1)) p.2.2).map (turnTo fun ρ σ => (p.1 + 1, ρ, σ)) else some (.inr (.next, p.2.1, p.2.2))) (l, ρ, q.2) else Option.none
 | .forL i e b, ρ, σ => (ev T cf e ρ σ).bind fun q => loopF (fun (p : Nat × Lc × St) => (listA q.1 p.2.2).bind fun xs => match xs[p.1]? with
   | some x => (exs T cf b (setL p.2.1 i x) p.2.2).map (turnTo fun ρ σ => (p.1 + 1, ρ, σ))
   | Option.none => some (.inr (.next, p.2.1, p.2.2))) (0, ρ, q.2)
 | .forK i e b, ρ, σ => (ev T cf e ρ σ).bind fun q => (asRef q.1).bind fun a => (asSd (q.2.ob a)).bind fun kvs => loopF (fun (p : Nat × Lc × St) => if p.2.2.ver a = q.2.ver a then (match kvs[p.1]? with
      | some x => (exs T cf b (setL p.2.1 i (.str x.1)) p.2.2).map (turnTo fun ρ σ => (p.1 + 1, ρ, σ))
      | Option.none => some (.inr (.next, p.2.1, p.2.2))) else Option.none) (0, ρ, q.2)
 | .delF e lo, ρ, σ => (ev T cf e ρ σ).bind fun p => (ev T cf lo ρ p.2).bind fun q => (asRef p.1).bind fun a => (asInt q.1).bind fun k => (asList (q.2.ob a)).bind fun xs => if 0 ≤ k then some (.next, ρ, q.2.set a (.list (xs.take k.toNat))) else Option.none
 | .pass, ρ, σ => some (.next, ρ, σ)
 | .bad, _, _ => Option.none
noncomputable def exs (T : Tab) (cf : CF) : List Sx → Lc → St → Option Rs
 | [], ρ, σ => some (.next, ρ, σ)
 | s :: r, ρ, σ => (ex T cf s ρ σ).bind fun q => match q.1 with
  | .next => exs T cf r q.2.1 q.2.2
  | .ret v => some (.ret v, q.2.1, q.2.2)
end
noncomputable def bindA (F : FnIR) (vs : List AV) : Option Lc :=
 if vs.length + F.dflt.length = F.npar ∧ F.npar ≤ F.nloc then some ((vs ++ F.dflt).map some ++ List.replicate (F.nloc - F.npar) Option.none) else Option.none
noncomputable def flV : Fl → AV
 | .next => .none
 | .ret v => v
noncomputable def mkI (C : Nat) (σ : St) : St := (σ.new (.inst C (σ.nx + 1))).new (.ns [])
noncomputable def cfN (T : Tab) : Nat → CF
 | 0, _, _, _ => Option.none
 | d + 1, f, vs, σ => (asKR f).bind fun a => match T.fn a with
  | some F => (bindA F vs).bind fun ρ => (exs T (cfN T d) F.body ρ σ).bind fun q => some (flV q.1, q.2.2)
  | Option.none => match T.init a with
   | some g => (cfN T d (.k (.ref g)) (.ref σ.nx :: vs) (mkI a σ)).bind fun q => if isNA q.1 = true then some (.ref σ.nx, q.2) else Option.none
   | Option.none => (T.prim a).bind fun kvs => if vs.isEmpty = true then some (.ref σ.nx, σ.new (.sdict kvs)) else Option.none
end Mine
end
section
open PySem PySem.W PyProof.Rows PySem.Calls
namespace Mine
noncomputable def NT : List Str := (["_wall", "system_error", "formal_of", "resource_error", "push_arguments", "push_pairs", "same_shape", "is_variable", "unify", "bind_checked", "occurs_in", "reaches", "slot_index", "read", "write", "match_constant", "next_argument", "closes_cycle", "push_local", "get_variable", "get_value", "get_constant", "get_list", "get_structure", "unify_variable", "unify_value", "unify_local_value", "unify_constant", "unify_void", "push_variables", "put_variable", "put_void", "put_value", "put_unsafe_value", "put_constant", "put_list", "put_structure", "set_variable", "set_value", "set_local_value", "set_constant", "set_void", "move_table", "do_call", "do_execute", "do_proceed", "do_allocate", "do_deallocate", "do_neck_cut", "do_get_level", "do_mark", "do_cut_to", "do_fail", "do_halt", "do_try", "do_retry", "do_trust", "do_switch_on_term", "do_switch_on_constant", "do_switch_on_structure", "plain_control_table", "_law_take", "_law_clause", "_law_rows", "_law_answers", "law", "clausemill.symbols", "__init__", "clausemill.terms", "clausemill.store", "push", "new_var", "reserve", "trim", "deref", "is_unbound", "bind", "bind_pair", "globalise", "mark", "undo_to", "stack_put", "is_compound", "functor_of", "width", "base", "arg", "new_block", "new_struct", "build_list", "list_cells", "put_term", "take_term", "clausemill.unify", "add", "clausemill.areas", "reset", "set_x", "set_arguments", "take", "put", "top", "push_environment", "pop_environment", "in_chain", "set_choice", "push_choice", "set_alternative", "choice_part", "restore_choice", "pop_choice", "cut_back", "choices", "environments", "clausemill.moves", "clausemill.control", "clausemill.emulator", "clear", "backtrack", "enter", "start_at", "step", "run", "redo", "law_ok0031_01", "s", "store", "cp", "p", "halted", "ball", "steps", "symbols", "max_heap", "heap", "stack", "trail", "hb", "bb", "span", "met", "code", "occurs", "max_bits", "x", "e", "b", "b0", "mode", "guard", "roots", "bags", "collect_wanted", "get", "call", "execute", "proceed", "allocate", "deallocate", "neck_cut", "get_level", "cut_to", "fail", "halt", "try", "retry", "trust", "switch_on_term", "switch_on_constant", "switch_on_structure", "entries", "max_steps", "table", "failed", "rule", "fact", "any", "append", "func", "pop", "memory", "functor", "arity", "y", "a", "atom", "law_ok0031_02", "_law_filled", "law_ok0031_03"] : List String).map Str.ofString
noncomputable def nm (n : Nat) : Str := NT.getD n (Str.ofString "")
theorem NT_nodup : NT.Nodup := by decide +kernel
theorem nm_inj {a b : Nat} (ha : a < NT.length) (hb : b < NT.length) (h : nm a = nm b) : a = b := by
 unfold nm at h
 rw [List.getD_eq_getElem?_getD, List.getD_eq_getElem?_getD, List.getElem?_eq_getElem ha, List.getElem?_eq_getElem hb] at h
 have P := List.pairwise_iff_getElem.mp NT_nodup
 rcases Nat.lt_trichotomy a b with q | q | q
 ·exact absurd h (P a b ha hb q)
 ·exact q
 ·exact absurd h.symm (P b a hb ha q)
mutual
noncomputable def RelV (ι : Nat → Addr) (n : Nat) (h : Heap) : AV → Value → Prop
 | .none, c => c = .none
 | .bool b, c => c = .bool b
 | .int i, c => ∃ t, c = .int i t
 | .str x, c => x < NT.length ∧ ∃ t, c = .str (nm x) t
 | .ref a, c => a < n ∧ c = .ref (ι a)
 | .k v, c => c = v ∧ ∃ a, v = .ref a
 | .tup l, c => ∃ a vs, c = .ref a ∧ IsTup h a vs.toArray ∧ RelVs ι n h l vs ∧ l.length < LIM
noncomputable def RelVs (ι : Nat → Addr) (n : Nat) (h : Heap) : List AV → List Value → Prop
 | [], cs => cs = []
 | x :: l, cs => ∃ c r, cs = c :: r ∧ RelV ι n h x c ∧ RelVs ι n h l r
end
structure Up (ι : Nat → Addr) (n : Nat) (h : Heap) (ι' : Nat → Addr) (n' : Nat) (h' : Heap) : Prop where
 ext : ∀ a, a < n → ι' a = ι a
 le : n ≤ n'
 tup : ∀ a vs, IsTup h a vs → IsTup h' a vs
section
variable {ι ι' : Nat → Addr} {n n' : Nat} {h h' : Heap}
mutual
theorem RelV.up (u : Up ι n h ι' n' h') : ∀ {x : AV} {c : Value}, RelV ι n h x c → RelV ι' n' h' x c
 | .none, _, e | .bool _, _, e | .int _, _, e | .str _, _, e | .k _, _, e => by simpa only [RelV] using e
 | .ref a, _, e => by
  simp only [RelV] at e ⊢
  exact ⟨Nat.lt_of_lt_of_le e.1 u.le, by rw [u.ext a e.1]; exact e.2⟩
 | .tup _, _, e => by
  simp only [RelV] at e ⊢
  obtain ⟨a, vs, e, ho, hr, hl⟩ := e
  exact ⟨a, vs, e, u.tup _ _ ho, RelVs.up u hr, hl⟩
theorem RelVs.up (u : Up ι n h ι' n' h') : ∀ {l : List AV} {cs : List Value}, RelVs ι n h l cs → RelVs ι' n' h' l cs
 | [], _, e => by simpa only [RelVs] using e
 | x :: l, _, e => by
  simp only [RelVs] at e ⊢
  obtain ⟨c, r, e, h1, h2⟩ := e
  exact ⟨c, r, e, RelV.up u h1, RelVs.up u h2⟩
end
theorem RelVs.length : ∀ {l : List AV} {cs : List Value}, RelVs ι n h l cs → cs.length = l.length
 | [], _, e => by simp only [RelVs] at e; subst e; rfl
 | x :: l, _, e => by
  simp only [RelVs] at e
  obtain ⟨c, r, rfl, _, h2⟩ := e
  simp [RelVs.length h2]
theorem RelVs.get : ∀ {l : List AV} {cs : List Value}, RelVs ι n h l cs → ∀ {i : Nat} {x : AV}, l[i]? = some x → ∃ c, cs[i]? = some c ∧ RelV ι n h x c
 | [], _, _, i, x, hi => by simp at hi
 | y :: l, _, e, i, x, hi => by
  simp only [RelVs] at e
  obtain ⟨c, r, rfl, h1, h2⟩ := e
  cases i with
  | zero => simp at hi; subst hi; exact ⟨c, rfl, h1⟩
  | succ j => simpa using RelVs.get h2 (by simpa using hi)
theorem RelVs.nil : RelVs ι n h [] [] := by simp only [RelVs]
theorem RelVs.cons {x : AV} {l : List AV} {c : Value} {cs : List Value} (a : RelV ι n h x c) (b : RelVs ι n h l cs) : RelVs ι n h (x :: l) (c :: cs) := by
 simp only [RelVs]; exact ⟨c, cs, rfl, a, b⟩
theorem RelVs.append : ∀ {l l' : List AV} {cs cs' : List Value}, RelVs ι n h l cs → RelVs ι n h l' cs' → RelVs ι n h (l ++ l') (cs ++ cs')
 | [], _, _, _, e, e' => by simp only [RelVs] at e; subst e; exact e'
 | x :: l, _, _, _, e, e' => by
  simp only [RelVs] at e
  obtain ⟨c, r, rfl, h1, h2⟩ := e
  exact .cons h1 (RelVs.append h2 e')
theorem RelVs.set : ∀ {l : List AV} {cs : List Value}, RelVs ι n h l cs → ∀ (i : Nat) {x : AV} {c : Value}, RelV ι n h x c → RelVs ι n h (l.set i x) (cs.set i c)
 | [], _, e, _, _, _, _ => by simp only [RelVs] at e; subst e; exact .nil
 | y :: l, _, e, i, x, c, hx => by
  simp only [RelVs] at e
  obtain ⟨c', r, rfl, h1, h2⟩ := e
  cases i with
  | zero => exact .cons hx h2
  | succ j => exact .cons h1 (RelVs.set h2 j hx)
theorem RelVs.take : ∀ {l : List AV} {cs : List Value}, RelVs ι n h l cs → ∀ (k : Nat), RelVs ι n h (l.take k) (cs.take k)
 | [], _, e, k => by simp only [RelVs] at e; subst e; simp; exact .nil
 | y :: l, _, e, k => by
  simp only [RelVs] at e
  obtain ⟨c', r, rfl, h1, h2⟩ := e
  cases k with
  | zero => exact .nil
  | succ j => exact .cons h1 (RelVs.take h2 j)
theorem RelVs.drop : ∀ {l : List AV} {cs : List Value}, RelVs ι n h l cs → ∀ (k : Nat), RelVs ι n h (l.drop k) (cs.drop k)
 | [], _, e, k => by simp only [RelVs] at e; subst e; simp; exact .nil
 | y :: l, _, e, k => by
  simp only [RelVs] at e
  obtain ⟨c', r, rfl, h1, h2⟩ := e
  cases k with
  | zero => exact .cons h1 h2
  | succ j => exact RelVs.drop h2 j
theorem RelVs.dropLast {l : List AV} {cs : List Value} (x : RelVs ι n h l cs) : RelVs ι n h l.dropLast cs.dropLast := by
 rw [List.dropLast_eq_take, List.dropLast_eq_take, x.length]; exact x.take _
theorem RelVs.getLast {l : List AV} {cs : List Value} (x : RelVs ι n h l cs) {y : AV} (e : l.getLast? = some y) : ∃ c, cs.getLast? = some c ∧ RelV ι n h y c := by
 rw [List.getLast?_eq_getElem?] at e ⊢
 rw [x.length]; exact x.get e
end
noncomputable def PairsR {K : Type} (ι : Nat → Addr) (n : Nat) (h : Heap) : List (K × AV) → List (K × Value) → Prop
 | [], cs => cs = []
 | (k, x) :: l, cs => ∃ c r, cs = (k, c) :: r ∧ RelV ι n h x c ∧ PairsR ι n h l r
noncomputable def TrisR (ι : Nat → Addr) (n : Nat) (h : Heap) : List (List Int × AV) → List (List Int × Addr × Value) → Prop
 | [], cs => cs = []
 | (k, x) :: l, cs => ∃ a c r, cs = (k, a, c) :: r ∧ RelV ι n h x c ∧ TrisR ι n h l r
noncomputable def NsR (ι : Nat → Addr) (n : Nat) (h : Heap) : List (Nat × AV) → List DictEntry → Prop
 | [], es => es = []
 | (k, x) :: l, es => ∃ e r, es = e :: r ∧ k < NT.length ∧ (∃ t, e.key = .str (nm k) t) ∧ RelV ι n h x e.val ∧ NsR ι n h l r
section
variable {ι ι' : Nat → Addr} {n n' : Nat} {h h' : Heap}
theorem PairsR.up {K : Type} (u : Up ι n h ι' n' h') : ∀ {l : List (K × AV)} {cs : List (K × Value)}, PairsR ι n h l cs → PairsR ι' n' h' l cs
 | [], _, e => e
 | (_, _) :: l, _, ⟨c, r, e, h1, h2⟩ => ⟨c, r, e, h1.up u, PairsR.up u h2⟩
theorem TrisR.up (u : Up ι n h ι' n' h') : ∀ {l : List (List Int × AV)} {cs}, TrisR ι n h l cs → TrisR ι' n' h' l cs
 | [], _, e => e
 | (_, _) :: l, _, ⟨a, c, r, e, h1, h2⟩ => ⟨a, c, r, e, h1.up u, TrisR.up u h2⟩
theorem NsR.up (u : Up ι n h ι' n' h') : ∀ {l : List (Nat × AV)} {cs}, NsR ι n h l cs → NsR ι' n' h' l cs
 | [], _, e => e
 | (_, _) :: l, _, ⟨c, r, e, hk, h0, h1, h2⟩ => ⟨c, r, e, hk, h0, h1.up u, NsR.up u h2⟩
end
structure Base where
 prog : Program
 w : World
 K : Frag
 h₀ : Heap
 os : OsState
 mg : Str → Option Value
 mb : Str → Option Value
structure Base.Good (B : Base) : Prop where
 kin : B.K.In B.h₀
 nolimit : B.h₀.NoLimit
 g : B.h₀.Ns mainGlobals B.mg
 b : B.h₀.Ns builtinsNs B.mb
 builtins : ∀ x : Str, x ≠ "__name__" → B.mb x = bootBuiltins x
 mods : ∃ o, B.h₀.get? sysModules = some o
 seer : B.h₀.NoSeer
 tree : B.prog.given.tree = none
noncomputable def ObjOk (B : Base) (ι : Nat → Addr) (n : Nat) (h : Heap) (b : Addr) : AObj → Prop
 | .list xs => ∃ vs k, h.get? b = some (listOf vs k) ∧ RelVs ι n h xs vs.toList ∧ xs.length ≤ LIM
 | .inst C d => d < n ∧ h.get? b = some (instObj C (ι d))
 | .ns fs => ∃ es k, h.get? b = some (dictOf es k) ∧ NsR ι n h fs es
 | .idict kvs => ∃ cs, h.DictOf (intKind B.prog B.w) b cs ∧ PairsR ι n h kvs cs
 | .sdict kvs => ∃ cs kvs', h.DictOf (strKind B.prog B.w) b cs ∧ PairsR ι n h kvs' cs ∧ kvs' = kvs.map (fun p => (nm p.1, p.2)) ∧ ∀ p ∈ kvs, p.1 < NT.length
 | .tdict kvs => ∃ cs, h.DictOfH (tupleKind (intKind B.prog B.w)) b cs ∧ TrisR ι n h kvs cs
 | .edict => h.get? b = some { cls := .type "dict", data := .dict #[] }
noncomputable def ImmObj (o : Obj) : Prop := o.cls = .type "tuple"
theorem ObjOk.at {B : Base} {ι n h b} {o : AObj} (x : ObjOk B ι n h b o) : ∃ c, h.get? b = some c ∧ ¬ ImmObj c ∧ c.isFreed = false := by
 cases o with
 | list xs => obtain ⟨vs, n, e, _⟩ := x; exact ⟨_, e, by intro e; simp [ImmObj] at e, rfl⟩
 | inst C d => exact ⟨_, x.2, by intro e; simp [ImmObj] at e, rfl⟩
 | ns fs => obtain ⟨vs, n, e, _⟩ := x; exact ⟨_, e, by intro e; simp [ImmObj] at e, rfl⟩
 | edict => exact ⟨_, x, by intro e; simp [ImmObj] at e, rfl⟩
 | idict kvs =>
  obtain ⟨cs, ⟨o, es, ep, e, hx, hd, _⟩, _⟩ := x
  obtain ⟨c, dd, dt, sl⟩ := o
  obtain ⟨h1, h2, h3⟩ := hx
  simp only at h1 h2 h3 hd
  subst h1 h2 h3 hd
  exact ⟨_, e, by intro e; simp [ImmObj] at e, rfl⟩
 | sdict kvs =>
  obtain ⟨cs, _, ⟨o, es, ep, e, hx, hd, _⟩, _⟩ := x
  obtain ⟨c, dd, dt, sl⟩ := o
  obtain ⟨h1, h2, h3⟩ := hx
  simp only at h1 h2 h3 hd
  subst h1 h2 h3 hd
  exact ⟨_, e, by intro e; simp [ImmObj] at e, rfl⟩
 | tdict kvs =>
  obtain ⟨cs, ⟨o, es, ep, e, hx, hd, _⟩, _⟩ := x
  obtain ⟨c, dd, dt, sl⟩ := o
  obtain ⟨h1, h2, h3⟩ := hx
  simp only at h1 h2 h3 hd
  subst h1 h2 h3 hd
  exact ⟨_, e, by intro e; simp [ImmObj] at e, rfl⟩
theorem tupleKey_up {prog : Program} {w : World} {h h' : Heap} (k : ∀ a vs, IsTup h a vs → IsTup h' a vs) {ks : List Int} {a : Addr} (x : (tupleKind (intKind prog w)).is h ks a) : (tupleKind (intKind prog w)).is h' ks a := by
 obtain ⟨o, items, n, e, hc, hd, r⟩ := x
 obtain ⟨o', e', hc', n', hd'⟩ := k a items ⟨o, e, hc, n, hd⟩
 exact ⟨o', items, n', e', hc', hd', r⟩
theorem ObjOk.up {B : Base} {ι n h ι' n' h'} (u : Up ι n h ι' n' h') {b b' : Addr} (hb : b' = b) (ha : h'.get? b = h.get? b) : ∀ {o : AObj}, ObjOk B ι n h b o → ObjOk B ι' n' h' b' o := by
 subst hb
 intro o x
 cases o with
 | list xs => obtain ⟨vs, k, e, r, hl⟩ := x; exact ⟨vs, k, ha.trans e, r.up u, hl⟩
 | inst C d => exact ⟨Nat.lt_of_lt_of_le x.1 u.le, by rw [u.ext d x.1]; exact ha.trans x.2⟩
 | ns fs => obtain ⟨es, k, e, r⟩ := x; exact ⟨es, k, ha.trans e, r.up u⟩
 | edict => exact ha.trans x
 | idict kvs => obtain ⟨cs, ⟨o, es, ep, e, r⟩, q⟩ := x; exact ⟨cs, ⟨o, es, ep, ha.trans e, r⟩, q.up u⟩
 | sdict kvs => obtain ⟨cs, k', ⟨o, es, ep, e, r⟩, q, z⟩ := x; exact ⟨cs, k', ⟨o, es, ep, ha.trans e, r⟩, q.up u, z⟩
 | tdict kvs => obtain ⟨cs, ⟨o, es, ep, e, r1, r2, r3, r4, r5⟩, q⟩ := x; exact ⟨cs, ⟨o, es, ep, ha.trans e, r1, r2, r3, fun x hx => tupleKey_up u.tup (r4 x hx), r5⟩, q.up u⟩
structure Sim (B : Base) (ι : Nat → Addr) (σ : St) (s : Shared) : Prop where
 objs : ∀ a, a < σ.nx → ObjOk B ι σ.nx s.heap (ι a) (σ.ob a)
 inj : ∀ a b, a < σ.nx → b < σ.nx → ι a = ι b → a = b
 base : ∀ b o, B.h₀.get? b = some o → s.heap.get? b = some o
 off : ∀ a, a < σ.nx → B.h₀.get? (ι a) = none
 gens : s.gens = #[]
 os : s.os = B.os
 lst : ∀ a xs, σ.lst a = some xs → ∃ vs k, B.h₀.get? a = some (listOf vs k) ∧ (∀ ι n h, RelVs ι n h xs vs.toList) ∧ xs.length ≤ LIM
structure Tr (L : Option Addr) (ι : Nat → Addr) (σ : St) (s : Shared) (ι' : Nat → Addr) (σ' : St) (s' : Shared) : Prop where
 ext : ∀ a, a < σ.nx → ι' a = ι a
 le : σ.nx ≤ σ'.nx
 keep : ∀ b o, s.heap.get? b = some o → (∀ a, a < σ.nx → ι a ≠ b) → L ≠ some b → s'.heap.get? b = some o
 fresh : ∀ a, σ.nx ≤ a → a < σ'.nx → s.heap.get? (ι' a) = none
 mono : ∀ a, σ.ver a ≤ σ'.ver a
 unch : ∀ a o, a < σ.nx → σ'.ver a = σ.ver a → s.heap.get? (ι a) = some o → s'.heap.get? (ι a) = some o
noncomputable def Sep (L : Option Addr) (ι : Nat → Addr) (σ : St) : Prop := (∀ a b, a < σ.nx → b < σ.nx → ι a = ι b → a = b) ∧ ∀ l, L = some l → ∀ a, a < σ.nx → ι a ≠ l
theorem Tr.refl (L ι σ s) : Tr L ι σ s ι σ s := ⟨fun _ _ => rfl, Nat.le_refl _, fun _ _ e _ _ => e, fun a h1 h2 => absurd h2 (Nat.not_lt.mpr h1), fun _ => Nat.le_refl _, fun _ _ _ _ e => e⟩
theorem Tr.other {L ι σ s ι' σ' s'} (x : Tr L ι σ s ι' σ' s') {b : Addr} {o : Obj} (e : s.heap.get? b = some o) (n : ∀ a, a < σ.nx → ι a ≠ b) : ∀ a, a < σ'.nx → ι' a ≠ b := fun a ha q => by
 by_cases h : a < σ.nx
 ·exact n a h ((x.ext a h).symm.trans q)
 ·have := x.fresh a (Nat.le_of_not_lt h) ha
  rw [q, e] at this; cases this
theorem Tr.trans {L ι σ s ι' σ' s' ι'' σ'' s''} (x : Tr L ι σ s ι' σ' s') (y : Tr L ι' σ' s' ι'' σ'' s'') (sp : Sep L ι'' σ'') : Tr L ι σ s ι'' σ'' s'' := by
 refine ⟨fun a l => (y.ext a (Nat.lt_of_lt_of_le l x.le)).trans (x.ext a l), Nat.le_trans x.le y.le, fun b o e n l => ?_, fun a h1 h2 => ?_, fun a => Nat.le_trans (x.mono a) (y.mono a), fun a o l v e => ?_⟩
 rotate_left 2
 ·have m1 := x.mono a
  have m2 := y.mono a
  have h1 := x.unch a o l (by lia) e
  rw [← x.ext a l] at h1 ⊢
  exact y.unch a o (Nat.lt_of_lt_of_le l x.le) (by lia) h1
 ·exact y.keep b o (x.keep b o e n l) (x.other e n) l
 ·by_cases h : a < σ'.nx
  ·rw [y.ext a h]; exact x.fresh a h1 h
  ·have f := y.fresh a (Nat.le_of_not_lt h) h2
   cases q : s.heap.get? (ι'' a) with
   | none => rfl
   | some o =>
    exfalso
    by_cases hl : L = some (ι'' a)
    ·exact sp.2 _ hl a h2 rfl
    ·by_cases hn : ∀ b, b < σ.nx → ι b ≠ ι'' a
     ·rw [x.keep _ _ q hn hl] at f; cases f
     ·obtain ⟨b, hb⟩ := Classical.not_forall.mp hn
      obtain ⟨hb, e⟩ := Classical.not_imp.mp hb
      have e := Classical.not_not.mp e
      have hb' := Nat.lt_of_lt_of_le hb x.le
      have e2 : ι'' b = ι'' a := ((y.ext b hb').trans (x.ext b hb)).trans e
      have := sp.1 b a (Nat.lt_of_lt_of_le hb' y.le) h2 e2
      lia
theorem Sim.tup_off {B ι σ s} (S : Sim B ι σ s) {b : Addr} {vs} (t : IsTup s.heap b vs) : ∀ a, a < σ.nx → ι a ≠ b := fun a ha q => by
 obtain ⟨c, e, n, _⟩ := (S.objs a ha).at
 obtain ⟨o, e', hc, _⟩ := t
 rw [q, e'] at e; cases e
 exact n hc
structure FrL (B : Base) (ns : List Str) (L : Addr) (ι : Nat → Addr) (σ : St) (ρ : Lc) (s : Shared) : Prop where
 len : ρ.length = ns.length
 loc : ∃ m : Str → Option Value, s.heap.Ns L m ∧ ∀ (i : Nat) (x : Str) (v : AV), ns[i]? = some x → ρ[i]? = some (some v) → ∃ c, m x = some c ∧ RelV ι σ.nx s.heap v c
 offL : ∀ a, a < σ.nx → ι a ≠ L
 newL : B.h₀.get? L = none
structure SL (B : Base) (ns : List Str) (L : Addr) (ι : Nat → Addr) (σ : St) (ρ : Lc) (s : Shared) : Prop where
 sim : Sim B ι σ s
 fr : FrL B ns L ι σ ρ s
theorem Tr.up {B ns L ι σ ρ s ι' σ' s'} (S : SL B ns L ι σ ρ s) (t : Tr (some L) ι σ s ι' σ' s') : Up ι σ.nx s.heap ι' σ'.nx s'.heap :=
 ⟨t.ext, t.le, fun a vs e => by
  have off := S.sim.tup_off e
  obtain ⟨o, e1, hc, n, hd⟩ := e
  refine ⟨o, t.keep a o e1 off (fun q => ?_), hc, n, hd⟩
  obtain ⟨m, ⟨o', es, ep, e2, hd', _⟩, _⟩ := S.fr.loc
  cases q
  rw [e1] at e2; cases e2
  rw [hd] at hd'; cases hd'⟩
theorem Tr.up0 {B ι σ s ι' σ' s'} (S : Sim B ι σ s) (t : Tr none ι σ s ι' σ' s') : Up ι σ.nx s.heap ι' σ'.nx s'.heap :=
 ⟨t.ext, t.le, fun a vs e => by
  have off := S.tup_off e
  obtain ⟨o, e1, hc, n, hd⟩ := e
  exact ⟨o, t.keep a o e1 off (fun q => by cases q), hc, n, hd⟩⟩
theorem Sim.sep {B ι σ s} (S : Sim B ι σ s) : Sep none ι σ := ⟨S.inj, fun _ e => nomatch e⟩
theorem SL.sep {B ns L ι σ ρ s} (S : SL B ns L ι σ ρ s) : Sep (some L) ι σ := ⟨S.sim.inj, fun l e a ha => by cases e; exact S.fr.offL a ha⟩
theorem Tr.fr0 {B ns L ι σ ρ s ι' σ' s'} (S : SL B ns L ι σ ρ s) (t : Tr none ι σ s ι' σ' s') (S' : Sim B ι' σ' s') : Tr (some L) ι σ s ι' σ' s' ∧ SL B ns L ι' σ' ρ s' := by
 have kp := fun b o e n => t.keep b o e n (by intro q; cases q)
 obtain ⟨len, ⟨m, ⟨o', es, ep, e, r⟩, hl⟩, off, nw⟩ := S.fr
 refine ⟨⟨t.ext, t.le, fun b o e n _ => kp b o e n, t.fresh, t.mono, t.unch⟩, S', len, ⟨m, ⟨o', es, ep, kp L o' e off, r⟩, fun i x v h1 h2 => ?_⟩, t.other e off, nw⟩
 obtain ⟨c, e, r⟩ := hl i x v h1 h2
 exact ⟨c, e, r.up (Tr.up0 S.sim t)⟩
end Mine
end
section
open PySem PySem.W PyProof.Rows PySem.Calls
namespace Mine
noncomputable abbrev NoE : Value → Shared → Prop := fun _ _ => False
section
variable {B : Base} {ι : Nat → Addr} {σ : St} {s : Shared}
theorem Sim.same (S : Sim B ι σ s) {s' : Shared} (h : s'.heap = s.heap) (g : s'.gens = s.gens) (o : s'.os = s.os) : Sim B ι σ s' :=
 ⟨fun a l => by rw [h]; exact S.objs a l, S.inj, fun b o' e => by rw [h]; exact S.base b o' e, S.off, g.trans S.gens, o.trans S.os, S.lst⟩
theorem Tr.same {L} {s' : Shared} (h : s'.heap = s.heap) : Tr L ι σ s ι σ s' :=
 ⟨fun _ _ => rfl, Nat.le_refl _, fun b o e _ _ => by rw [h]; exact e, fun a h1 h2 => absurd h2 (Nat.not_lt.mpr h1), fun _ => Nat.le_refl _, fun _ _ _ _ e => by rw [h]; exact e⟩
theorem Tr.push {L} (o : Obj) (tk : Tok) : Tr L ι σ s ι σ { s with heap := s.heap.push o, toks := tk } :=
 ⟨fun _ _ => rfl, Nat.le_refl _, fun b o' e _ _ => Heap.get?_push_of_some _ e, fun a h1 h2 => absurd h2 (Nat.not_lt.mpr h1), fun _ => Nat.le_refl _, fun _ _ _ _ e => Heap.get?_push_of_some _ e⟩
theorem Sim.push (S : Sim B ι σ s) (o : Obj) (tk : Tok) : Sim B ι σ { s with heap := s.heap.push o, toks := tk } := by
 have u := Tr.up0 S (Tr.push (L := none) (ι := ι) (σ := σ) (s := s) o tk)
 refine ⟨fun a l => ?_, S.inj, fun b o' e => Heap.get?_push_of_some _ (S.base b o' e), S.off, S.gens, S.os, S.lst⟩
 obtain ⟨c, e, _⟩ := (S.objs a l).at
 exact (S.objs a l).up u rfl ((Heap.get?_push_of_some o e).trans e.symm)
noncomputable def ext1 (ι : Nat → Addr) (n : Nat) (b : Addr) : Nat → Addr := fun a => if a = n then b else ι a
theorem ext1_lt {ι n b a} (h : a < n) : ext1 ι n b a = ι a := by simp [ext1, Nat.ne_of_lt h]
@[simp] theorem ext1_self {ι n b} : ext1 ι n b n = b := by simp [ext1]
theorem Tr.alloc {L} (o : Obj) (ao : AObj) (tk : Tok) : Tr L ι σ s (ext1 ι σ.nx s.heap.objs.size) (σ.new ao) { s with heap := s.heap.push o, toks := tk } :=
 ⟨fun a l => ext1_lt l, by simp, fun b o' e _ _ => Heap.get?_push_of_some _ e, fun a h1 h2 => by
  obtain rfl : a = σ.nx := by simp at h2; lia
  rw [ext1_self]
  cases q : s.heap.get? s.heap.objs.size with
  | none => rfl
  | some o => exact absurd (Heap.lt_size q) (Nat.lt_irrefl _), fun _ => Nat.le_refl _, fun _ _ _ _ e => Heap.get?_push_of_some _ e⟩
theorem Sim.alloc (S : Sim B ι σ s) {o : Obj} {ao : AObj} (tk : Tok) (ho : o.isFreed = false)
  (k : ObjOk B (ext1 ι σ.nx s.heap.objs.size) (σ.nx + 1) (s.heap.push o) s.heap.objs.size ao) : Sim B (ext1 ι σ.nx s.heap.objs.size) (σ.new ao) { s with heap := s.heap.push o, toks := tk } := by
 have u := Tr.up0 S (Tr.alloc (L := none) (ι := ι) (σ := σ) (s := s) o ao tk)
 have lt : ∀ a, a < σ.nx → ι a < s.heap.objs.size := fun a l => let ⟨c, e, _⟩ := (S.objs a l).at; Heap.lt_size e
 refine ⟨fun a l => ?_, fun a b ha hb e => ?_, fun b o' e => Heap.get?_push_of_some _ (S.base b o' e), fun a l => ?_, S.gens, S.os, S.lst⟩
 ·by_cases h : a = σ.nx
  ·subst h
   simp only [ext1_self, St.new, upd_self]
   exact k
  ·have h' : a < σ.nx := by simp at l; lia
   rw [ext1_lt h']
   show ObjOk B _ _ _ _ (upd σ.ob σ.nx ao a)
   rw [upd_ne h]
   obtain ⟨c, e, _⟩ := (S.objs a h').at
   exact (S.objs a h').up u rfl ((Heap.get?_push_of_some o e).trans e.symm)
 ·simp at ha hb
  by_cases h1 : a = σ.nx <;> by_cases h2 : b = σ.nx
  ·lia
  ·subst h1
   have h2' : b < σ.nx := by lia
   rw [ext1_self, ext1_lt h2'] at e
   exact absurd (lt b h2') (by rw [← e]; exact Nat.lt_irrefl _)
  ·subst h2
   have h1' : a < σ.nx := by lia
   rw [ext1_self, ext1_lt h1'] at e
   exact absurd (lt a h1') (by rw [e]; exact Nat.lt_irrefl _)
  ·have h1' : a < σ.nx := by lia
   have h2' : b < σ.nx := by lia
   rw [ext1_lt h1', ext1_lt h2'] at e
   exact S.inj a b h1' h2' e
 ·simp at l
  by_cases h : a = σ.nx
  ·subst h
   rw [ext1_self]
   cases q : B.h₀.get? s.heap.objs.size with
   | none => rfl
   | some o' => exact absurd (Heap.lt_size (S.base _ _ q)) (Nat.lt_irrefl _)
  ·have h' : a < σ.nx := by lia
   rw [ext1_lt h']; exact S.off a h'
theorem Tr.update {L} (inj : ∀ a b, a < σ.nx → b < σ.nx → ι a = ι b → a = b) {a : Nat} (ha : a < σ.nx) {h' : Heap} (sb : Heap.SameBut (ι a) s.heap h') (ao : AObj) (tk : Tok) : Tr L ι σ s ι (σ.set a ao) { s with heap := h', toks := tk } :=
 ⟨fun _ _ => rfl, Nat.le_refl _, fun b o e n _ => (sb.2 b (fun q => n a ha q.symm)).trans e, fun a h1 h2 => absurd h2 (Nat.not_lt.mpr h1), fun b => by show _ ≤ (if b = a then _ else _); split <;> lia, fun b o l v e => (sb.2 _ fun q => by
  have := inj b a l ha q
  subst this
  simp [St.set] at v).trans e⟩
theorem Sim.update (S : Sim B ι σ s) {a : Nat} (ha : a < σ.nx) {h' : Heap} (sb : Heap.SameBut (ι a) s.heap h') {ao : AObj} (tk : Tok)
  (k : Up ι σ.nx s.heap ι σ.nx h' → ObjOk B ι σ.nx h' (ι a) ao) : Sim B ι (σ.set a ao) { s with heap := h', toks := tk } := by
 have u : Up ι σ.nx s.heap ι σ.nx h' := Tr.up0 S (Tr.update (L := none) S.inj ha sb ao tk)
 refine ⟨fun b l => ?_, S.inj, fun b o' e => ?_, S.off, S.gens, S.os, S.lst⟩
 ·by_cases h : b = a
  ·subst h
   simp only [St.set, upd_self]
   exact k u
  ·show ObjOk B _ _ _ _ (upd σ.ob a ao b)
   rw [upd_ne h]
   exact (S.objs b l).up u rfl (sb.2 _ fun q => h (S.inj b a l ha q))
 ·refine (sb.2 b fun q => ?_).trans (S.base b o' e)
  rw [q, S.off a ha] at e; cases e
end
structure RC where
 ns : List Str
 sc : List (Str × NameKind)
 gl : List (Str × AV)
noncomputable def sameAV (a b : AV) : Bool := match a with
 | .none => isNA b
 | .bool x => decide (asBool b = some x)
 | .int x => decide (asInt b = some x)
 | .str x => decide (asStr b = some x)
 | .tup l => (ints? l).isSome && (match asTup b with | some m => decide (ints? m = ints? l) | Option.none => false)
 | .k v => (asKR (.k v)).isSome && decide (asKR b = asKR (.k v))
 | .ref _ => false
theorem ints?_inv : ∀ {l : List AV} {x : List Int}, ints? l = some x → l = x.map AV.int
 | [], x, h => by cases h; rfl
 | .int i :: l, x, h => by
  obtain ⟨y, h1, rfl⟩ := map_inv h
  rw [ints?_inv h1]; rfl
 | .none :: _, _, h | .bool _ :: _, _, h | .str _ :: _, _, h | .ref _ :: _, _, h | .k _ :: _, _, h | .tup _ :: _, _, h => by cases h
theorem some_of {α : Type} {x : Option α} (h : x.isSome = true) : ∃ a, x = some a := by
 cases x with
 | none => cases h
 | some a => exact ⟨a, rfl⟩
theorem sameAV_eq {a b : AV} (h : sameAV a b = true) : a = b := by
 cases a with
 | none => exact (isNA_inv h).symm
 | bool x => exact (asBool_inv (of_decide_eq_true h)).symm
 | int x => exact (asInt_inv (of_decide_eq_true h)).symm
 | str x => exact (asStr_inv (of_decide_eq_true h)).symm
 | ref x => cases h
 | k v =>
  obtain ⟨h1, h2⟩ := (Bool.and_eq_true _ _).mp h
  obtain ⟨x, hx⟩ := some_of h1
  rw [asKR_inv hx, asKR_inv ((of_decide_eq_true h2).trans hx)]
 | tup l =>
  obtain ⟨h1, h2⟩ := (Bool.and_eq_true _ _).mp h
  obtain ⟨x, hx⟩ := some_of h1
  cases hm : asTup b with
  | none => rw [hm] at h2; cases h2
  | some m =>
   rw [hm] at h2
   rw [asTup_inv hm, ints?_inv hx, ints?_inv ((of_decide_eq_true h2).trans hx)]
noncomputable def repC (v : AV) (c : Const) : Bool := match v with
 | .none => (match c with | .none => true | _ => false)
 | .bool a => (match c with | .bool b => a == b | _ => false)
 | .int a => (match c with | .int b => decide (a = b) | _ => false)
 | .str n => (match c with | .str x => NT[n]? == some x | _ => false)
 | _ => false
noncomputable def opA : Bop → Operator
 | .add => .Add
 | .sub => .Sub
 | .mul => .Mult
 | .fdiv => .FloorDiv
 | .mod => .Mod
 | .pow => .Pow
noncomputable def copA : Cop → CmpOp
 | .eq => .Eq
 | .ne => .NotEq
 | .lt => .Lt
 | .le => .LtE
 | .gt => .Gt
 | .ge => .GtE
noncomputable def repOp (a : Bop) (b : Operator) : Bool := decide (b = opA a)
noncomputable def repCop (a : Cop) (b : CmpOp) : Bool := decide (b = copA a)
theorem repOp_inv {a b} (h : repOp a b = true) : b = opA a := of_decide_eq_true h
theorem repCop_inv {a b} (h : repCop a b = true) : b = copA a := of_decide_eq_true h
noncomputable def isBare (e : Expr) : Bool := !Nat.beq e.ctorIdx 16
noncomputable def notSl (e : Expr) : Bool := !Nat.beq e.ctorIdx 26
theorem idx_of {n m : Nat} {f : m = n → Bool} (h : (if z : m = n then f z else false) = true) : m = n := by
 by_cases z : m = n
 ·exact z
 ·exact absurd ((dif_neg z).symm.trans h) Bool.false_ne_true
noncomputable def onName (e : Expr) (k : Str → Bool) : Bool := if z : e.ctorIdx = 23 then Expr.Name.elim (motive_1 := fun _ => Bool) e z (fun x _ => k x) else false
theorem onName_k {P : Prop} {e : Expr} {k : Str → Bool} (hh : onName e k = true) (K : ∀ x p, e = .Name x p → k x = true → P) : P := by
 by_cases z : e.ctorIdx = 23
 ·exact Expr.Name.elim (motive_1 := fun e' => onName e' k = true → e = e' → P) e z (fun x p h q => K x p q h) hh rfl
 ·exact absurd ((dif_neg z).symm.trans hh) Bool.false_ne_true
noncomputable def onConst (e : Expr) (k : Const → Bool) : Bool := if z : e.ctorIdx = 19 then Expr.Constant.elim (motive_1 := fun _ => Bool) e z (fun c _ _ => k c) else false
theorem onConst_k {P : Prop} {e : Expr} {k : Const → Bool} (hh : onConst e k = true) (K : ∀ c n p, e = .Constant c n p → k c = true → P) : P := by
 by_cases z : e.ctorIdx = 19
 ·exact Expr.Constant.elim (motive_1 := fun e' => onConst e' k = true → e = e' → P) e z (fun c n p h q => K c n p q h) hh rfl
 ·exact absurd ((dif_neg z).symm.trans hh) Bool.false_ne_true
noncomputable def onTuple (e : Expr) (k : List Expr → Bool) : Bool := if z : e.ctorIdx = 25 then Expr.Tuple.elim (motive_1 := fun _ => Bool) e z (fun xs _ _ => k xs) else false
theorem onTuple_k {P : Prop} {e : Expr} {k : List Expr → Bool} (hh : onTuple e k = true) (K : ∀ xs n p, e = .Tuple xs n p → k xs = true → P) : P := by
 by_cases z : e.ctorIdx = 25
 ·exact Expr.Tuple.elim (motive_1 := fun e' => onTuple e' k = true → e = e' → P) e z (fun xs n p h q => K xs n p q h) hh rfl
 ·exact absurd ((dif_neg z).symm.trans hh) Bool.false_ne_true
noncomputable def onList (e : Expr) (k : List Expr → Bool) : Bool := if z : e.ctorIdx = 24 then Expr.List.elim (motive_1 := fun _ => Bool) e z (fun xs _ => k xs) else false
theorem onList_k {P : Prop} {e : Expr} {k : List Expr → Bool} (hh : onList e k = true) (K : ∀ xs p, e = .List xs p → k xs = true → P) : P := by
 by_cases z : e.ctorIdx = 24
 ·exact Expr.List.elim (motive_1 := fun e' => onList e' k = true → e = e' → P) e z (fun xs p h q => K xs p q h) hh rfl
 ·exact absurd ((dif_neg z).symm.trans hh) Bool.false_ne_true
noncomputable def onAttr (e : Expr) (k : Expr → Str → Pos → Bool) : Bool := if z : e.ctorIdx = 20 then Expr.Attribute.elim (motive_1 := fun _ => Bool) e z (fun x n p => k x n p) else false
theorem onAttr_k {P : Prop} {e : Expr} {k : Expr → Str → Pos → Bool} (hh : onAttr e k = true) (K : ∀ x n p, e = .Attribute x n p → k x n p = true → P) : P := by
 by_cases z : e.ctorIdx = 20
 ·exact Expr.Attribute.elim (motive_1 := fun e' => onAttr e' k = true → e = e' → P) e z (fun x n p h q => K x n p q h) hh rfl
 ·exact absurd ((dif_neg z).symm.trans hh) Bool.false_ne_true
noncomputable def onSub (e : Expr) (k : Expr → Expr → Bool) : Bool := if z : e.ctorIdx = 21 then Expr.Subscript.elim (motive_1 := fun _ => Bool) e z (fun x y _ => k x y) else false
theorem onSub_k {P : Prop} {e : Expr} {k : Expr → Expr → Bool} (hh : onSub e k = true) (K : ∀ x y p, e = .Subscript x y p → k x y = true → P) : P := by
 by_cases z : e.ctorIdx = 21
 ·exact Expr.Subscript.elim (motive_1 := fun e' => onSub e' k = true → e = e' → P) e z (fun x y p h q => K x y p q h) hh rfl
 ·exact absurd ((dif_neg z).symm.trans hh) Bool.false_ne_true
noncomputable def onSlice (e : Expr) (k : Option Expr → Option Expr → Option Expr → Bool) : Bool := if z : e.ctorIdx = 26 then Expr.Slice.elim (motive_1 := fun _ => Bool) e z (fun l h st _ => k l h st) else false
theorem onSlice_k {P : Prop} {e : Expr} {k : Option Expr → Option Expr → Option Expr → Bool} (hh : onSlice e k = true) (K : ∀ l h st p, e = .Slice l h st p → k l h st = true → P) : P := by
 by_cases z : e.ctorIdx = 26
 ·exact Expr.Slice.elim (motive_1 := fun e' => onSlice e' k = true → e = e' → P) e z (fun l h st p hz q => K l h st p q hz) hh rfl
 ·exact absurd ((dif_neg z).symm.trans hh) Bool.false_ne_true
noncomputable def onBin (e : Expr) (k : Expr → Operator → Expr → Bool) : Bool := if z : e.ctorIdx = 2 then Expr.BinOp.elim (motive_1 := fun _ => Bool) e z (fun x o y _ => k x o y) else false
theorem onBin_k {P : Prop} {e : Expr} {k : Expr → Operator → Expr → Bool} (hh : onBin e k = true) (K : ∀ x o y p, e = .BinOp x o y p → k x o y = true → P) : P := by
 by_cases z : e.ctorIdx = 2
 ·exact Expr.BinOp.elim (motive_1 := fun e' => onBin e' k = true → e = e' → P) e z (fun x o y p h q => K x o y p q h) hh rfl
 ·exact absurd ((dif_neg z).symm.trans hh) Bool.false_ne_true
noncomputable def onCmp (e : Expr) (k : Expr → List CmpOp → List Expr → Bool) : Bool := if z : e.ctorIdx = 15 then Expr.Compare.elim (motive_1 := fun _ => Bool) e z (fun x os ys _ => k x os ys) else false
theorem onCmp_k {P : Prop} {e : Expr} {k : Expr → List CmpOp → List Expr → Bool} (hh : onCmp e k = true) (K : ∀ x os ys p, e = .Compare x os ys p → k x os ys = true → P) : P := by
 by_cases z : e.ctorIdx = 15
 ·exact Expr.Compare.elim (motive_1 := fun e' => onCmp e' k = true → e = e' → P) e z (fun x os ys p h q => K x os ys p q h) hh rfl
 ·exact absurd ((dif_neg z).symm.trans hh) Bool.false_ne_true
noncomputable def onBool (e : Expr) (k : BoolOp → List Expr → Bool) : Bool := if z : e.ctorIdx = 0 then Expr.BoolOp.elim (motive_1 := fun _ => Bool) e z (fun o xs _ => k o xs) else false
theorem onBool_k {P : Prop} {e : Expr} {k : BoolOp → List Expr → Bool} (hh : onBool e k = true) (K : ∀ o xs p, e = .BoolOp o xs p → k o xs = true → P) : P := by
 by_cases z : e.ctorIdx = 0
 ·exact Expr.BoolOp.elim (motive_1 := fun e' => onBool e' k = true → e = e' → P) e z (fun o xs p h q => K o xs p q h) hh rfl
 ·exact absurd ((dif_neg z).symm.trans hh) Bool.false_ne_true
noncomputable def onUn (e : Expr) (k : UnaryOp → Expr → Bool) : Bool := if z : e.ctorIdx = 3 then Expr.UnaryOp.elim (motive_1 := fun _ => Bool) e z (fun o x _ => k o x) else false
theorem onUn_k {P : Prop} {e : Expr} {k : UnaryOp → Expr → Bool} (hh : onUn e k = true) (K : ∀ o x p, e = .UnaryOp o x p → k o x = true → P) : P := by
 by_cases z : e.ctorIdx = 3
 ·exact Expr.UnaryOp.elim (motive_1 := fun e' => onUn e' k = true → e = e' → P) e z (fun o x p h q => K o x p q h) hh rfl
 ·exact absurd ((dif_neg z).symm.trans hh) Bool.false_ne_true
noncomputable def onCall (e : Expr) (k : Expr → List Expr → List Keyword → Pos → Bool) : Bool := if z : e.ctorIdx = 16 then Expr.Call.elim (motive_1 := fun _ => Bool) e z (fun f xs ks p => k f xs ks p) else false
theorem onCall_k {P : Prop} {e : Expr} {k : Expr → List Expr → List Keyword → Pos → Bool} (hh : onCall e k = true) (K : ∀ f xs ks p, e = .Call f xs ks p → k f xs ks p = true → P) : P := by
 by_cases z : e.ctorIdx = 16
 ·exact Expr.Call.elim (motive_1 := fun e' => onCall e' k = true → e = e' → P) e z (fun f xs ks p h q => K f xs ks p q h) hh rfl
 ·exact absurd ((dif_neg z).symm.trans hh) Bool.false_ne_true
noncomputable def onDict (e : Expr) (k : List (Option Expr) → List Expr → Bool) : Bool := if z : e.ctorIdx = 6 then Expr.Dict.elim (motive_1 := fun _ => Bool) e z (fun ks xs _ => k ks xs) else false
theorem onDict_k {P : Prop} {e : Expr} {k : List (Option Expr) → List Expr → Bool} (hh : onDict e k = true) (K : ∀ ks xs p, e = .Dict ks xs p → k ks xs = true → P) : P := by
 by_cases z : e.ctorIdx = 6
 ·exact Expr.Dict.elim (motive_1 := fun e' => onDict e' k = true → e = e' → P) e z (fun ks xs p h q => K ks xs p q h) hh rfl
 ·exact absurd ((dif_neg z).symm.trans hh) Bool.false_ne_true
noncomputable def onAssign (e : Stmt) (k : List Expr → Expr → Bool) : Bool := if z : e.ctorIdx = 5 then Stmt.Assign.elim (motive_2 := fun _ => Bool) e z (fun ts x _ => k ts x) else false
theorem onAssign_k {P : Prop} {e : Stmt} {k : List Expr → Expr → Bool} (hh : onAssign e k = true) (K : ∀ ts x p, e = .Assign ts x p → k ts x = true → P) : P := by
 by_cases z : e.ctorIdx = 5
 ·exact Stmt.Assign.elim (motive_2 := fun e' => onAssign e' k = true → e = e' → P) e z (fun ts x p h q => K ts x p q h) hh rfl
 ·exact absurd ((dif_neg z).symm.trans hh) Bool.false_ne_true
noncomputable def onAug (e : Stmt) (k : Expr → Operator → Expr → Bool) : Bool := if z : e.ctorIdx = 7 then Stmt.AugAssign.elim (motive_2 := fun _ => Bool) e z (fun t o x _ => k t o x) else false
theorem onAug_k {P : Prop} {e : Stmt} {k : Expr → Operator → Expr → Bool} (hh : onAug e k = true) (K : ∀ t o x p, e = .AugAssign t o x p → k t o x = true → P) : P := by
 by_cases z : e.ctorIdx = 7
 ·exact Stmt.AugAssign.elim (motive_2 := fun e' => onAug e' k = true → e = e' → P) e z (fun t o x p h q => K t o x p q h) hh rfl
 ·exact absurd ((dif_neg z).symm.trans hh) Bool.false_ne_true
noncomputable def onExpr (e : Stmt) (k : Expr → Bool) : Bool := if z : e.ctorIdx = 24 then Stmt.Expr.elim (motive_2 := fun _ => Bool) e z (fun x _ => k x) else false
theorem onExpr_k {P : Prop} {e : Stmt} {k : Expr → Bool} (hh : onExpr e k = true) (K : ∀ x p, e = .Expr x p → k x = true → P) : P := by
 by_cases z : e.ctorIdx = 24
 ·exact Stmt.Expr.elim (motive_2 := fun e' => onExpr e' k = true → e = e' → P) e z (fun x p h q => K x p q h) hh rfl
 ·exact absurd ((dif_neg z).symm.trans hh) Bool.false_ne_true
noncomputable def onRet (e : Stmt) (k : Option Expr → Bool) : Bool := if z : e.ctorIdx = 3 then Stmt.Return.elim (motive_2 := fun _ => Bool) e z (fun x _ => k x) else false
theorem onRet_k {P : Prop} {e : Stmt} {k : Option Expr → Bool} (hh : onRet e k = true) (K : ∀ x p, e = .Return x p → k x = true → P) : P := by
 by_cases z : e.ctorIdx = 3
 ·exact Stmt.Return.elim (motive_2 := fun e' => onRet e' k = true → e = e' → P) e z (fun x p h q => K x p q h) hh rfl
 ·exact absurd ((dif_neg z).symm.trans hh) Bool.false_ne_true
noncomputable def onIf (e : Stmt) (k : Expr → List Stmt → List Stmt → Bool) : Bool := if z : e.ctorIdx = 12 then Stmt.If.elim (motive_2 := fun _ => Bool) e z (fun c l r _ => k c l r) else false
theorem onIf_k {P : Prop} {e : Stmt} {k : Expr → List Stmt → List Stmt → Bool} (hh : onIf e k = true) (K : ∀ c l r p, e = .If c l r p → k c l r = true → P) : P := by
 by_cases z : e.ctorIdx = 12
 ·exact Stmt.If.elim (motive_2 := fun e' => onIf e' k = true → e = e' → P) e z (fun c l r p h q => K c l r p q h) hh rfl
 ·exact absurd ((dif_neg z).symm.trans hh) Bool.false_ne_true
noncomputable def onWhile (e : Stmt) (k : Expr → List Stmt → List Stmt → Bool) : Bool := if z : e.ctorIdx = 11 then Stmt.While.elim (motive_2 := fun _ => Bool) e z (fun c l r _ => k c l r) else false
theorem onWhile_k {P : Prop} {e : Stmt} {k : Expr → List Stmt → List Stmt → Bool} (hh : onWhile e k = true) (K : ∀ c l r p, e = .While c l r p → k c l r = true → P) : P := by
 by_cases z : e.ctorIdx = 11
 ·exact Stmt.While.elim (motive_2 := fun e' => onWhile e' k = true → e = e' → P) e z (fun c l r p h q => K c l r p q h) hh rfl
 ·exact absurd ((dif_neg z).symm.trans hh) Bool.false_ne_true
noncomputable def onFor (e : Stmt) (k : Expr → Expr → List Stmt → List Stmt → Bool) : Bool := if z : e.ctorIdx = 9 then Stmt.For.elim (motive_2 := fun _ => Bool) e z (fun t x l r _ => k t x l r) else false
theorem onFor_k {P : Prop} {e : Stmt} {k : Expr → Expr → List Stmt → List Stmt → Bool} (hh : onFor e k = true) (K : ∀ t x l r p, e = .For t x l r p → k t x l r = true → P) : P := by
 by_cases z : e.ctorIdx = 9
 ·exact Stmt.For.elim (motive_2 := fun e' => onFor e' k = true → e = e' → P) e z (fun t x l r p h q => K t x l r p q h) hh rfl
 ·exact absurd ((dif_neg z).symm.trans hh) Bool.false_ne_true
noncomputable def onDel (e : Stmt) (k : List Expr → Bool) : Bool := if z : e.ctorIdx = 4 then Stmt.Delete.elim (motive_2 := fun _ => Bool) e z (fun ts _ => k ts) else false
theorem onDel_k {P : Prop} {e : Stmt} {k : List Expr → Bool} (hh : onDel e k = true) (K : ∀ ts p, e = .Delete ts p → k ts = true → P) : P := by
 by_cases z : e.ctorIdx = 4
 ·exact Stmt.Delete.elim (motive_2 := fun e' => onDel e' k = true → e = e' → P) e z (fun ts p h q => K ts p q h) hh rfl
 ·exact absurd ((dif_neg z).symm.trans hh) Bool.false_ne_true
noncomputable def on0 {α : Type} (l : List α) (k : Bool) : Bool := match l with
 | [] => k
 | _ => false
noncomputable def on1 {α : Type} (l : List α) (k : α → Bool) : Bool := match l with
 | [] => false
 | a :: r => on0 r (k a)
noncomputable def on2 {α : Type} (l : List α) (k : α → α → Bool) : Bool := match l with
 | [] => false
 | a :: r => on1 r (k a)
noncomputable def onS {α : Type} (l : Option α) (k : α → Bool) : Bool := match l with
 | some a => k a
 | none => false
noncomputable def onN {α : Type} (l : Option α) (k : Bool) : Bool := match l with
 | some a => false
 | none => k
theorem on0_inv {α : Type} {l : List α} {k : Bool} (h : on0 l k = true) : l = [] ∧ k = true := by
 cases l with
 | nil => exact ⟨rfl, h⟩
 | cons => exact absurd h Bool.false_ne_true
theorem on1_inv {α : Type} {l : List α} {k : α → Bool} (h : on1 l k = true) : ∃ a, l = [a] ∧ k a = true := by
 cases l with
 | nil => exact absurd h Bool.false_ne_true
 | cons a r => obtain ⟨rfl, h⟩ := on0_inv h; exact ⟨a, rfl, h⟩
theorem on2_inv {α : Type} {l : List α} {k : α → α → Bool} (h : on2 l k = true) : ∃ a b, l = [a, b] ∧ k a b = true := by
 cases l with
 | nil => exact absurd h Bool.false_ne_true
 | cons a r => obtain ⟨b, rfl, h⟩ := on1_inv h; exact ⟨a, b, rfl, h⟩
theorem onS_inv {α : Type} {l : Option α} {k : α → Bool} (h : onS l k = true) : ∃ a, l = some a ∧ k a = true := by
 cases l with
 | none => exact absurd h Bool.false_ne_true
 | some a => exact ⟨a, rfl, h⟩
theorem onN_inv {α : Type} {l : Option α} {k : Bool} (h : onN l k = true) : l = none ∧ k = true := by
 cases l with
 | none => exact ⟨rfl, h⟩
 | some a => exact absurd h Bool.false_ne_true
theorem and_inv {a b : Bool} (h : (a && b) = true) : a = true ∧ b = true := by
 cases a with
 | false => exact absurd h Bool.false_ne_true
 | true => exact ⟨rfl, h⟩
theorem or_inv {a b : Bool} (h : (a || b) = true) : a = true ∨ b = true := by
 cases a with
 | false => exact .inr h
 | true => exact .inl rfl
section
variable {P : Prop}
theorem on0_k {α : Type} {l : List α} {k : Bool} (h : on0 l k = true) (K : l = [] → k = true → P) : P := by
 obtain ⟨a, b⟩ := on0_inv h
 exact K a b
theorem on1_k {α : Type} {l : List α} {k : α → Bool} (h : on1 l k = true) (K : ∀ a, l = [a] → k a = true → P) : P := by
 obtain ⟨a, b, c⟩ := on1_inv h
 exact K a b c
theorem on2_k {α : Type} {l : List α} {k : α → α → Bool} (h : on2 l k = true) (K : ∀ a b, l = [a, b] → k a b = true → P) : P := by
 obtain ⟨a, b, c, d⟩ := on2_inv h
 exact K a b c d
theorem onS_k {α : Type} {l : Option α} {k : α → Bool} (h : onS l k = true) (K : ∀ a, l = some a → k a = true → P) : P := by
 obtain ⟨a, b, c⟩ := onS_inv h
 exact K a b c
theorem onN_k {α : Type} {l : Option α} {k : Bool} (h : onN l k = true) (K : l = none → k = true → P) : P := by
 obtain ⟨a, b⟩ := onN_inv h
 exact K a b
theorem and_k {a b : Bool} (h : (a && b) = true) (K : a = true → b = true → P) : P := by
 obtain ⟨a, b⟩ := and_inv h
 exact K a b
end
noncomputable def isIs (o : CmpOp) : Bool := decide (o = .Is)
noncomputable def isCN : Const → Bool
 | .none => true
 | _ => false
noncomputable def isAndO (a : Bool) (o : BoolOp) : Bool := match o with
 | .And => a
 | .Or => !a
noncomputable def isNotO (o : UnaryOp) : Bool := decide (o = .Not)
noncomputable def isNegO (o : UnaryOp) : Bool := decide (o = .USub)
theorem isIs_inv {o} (h : isIs o = true) : o = .Is := of_decide_eq_true h
theorem isCN_inv {o} (h : isCN o = true) : o = .none := by cases o <;> first | rfl | exact absurd h Bool.false_ne_true
theorem isNotO_inv {o} (h : isNotO o = true) : o = .Not := of_decide_eq_true h
theorem isNegO_inv {o} (h : isNegO o = true) : o = .USub := of_decide_eq_true h
noncomputable def onMeth (e : Expr) (k : Expr → Str → List Expr → Bool) : Bool := onCall e fun f xs ks q => on0 ks (onAttr f fun x n p => p.endLine == q.line && isBare x && k x n xs)
theorem onMeth_k {P : Prop} {e : Expr} {k : Expr → Str → List Expr → Bool} (h : onMeth e k = true) (K : ∀ x n p xs q, e = .Call (.Attribute x n p) xs [] q → (p.endLine == q.line) = true → isBare x = true → k x n xs = true → P) : P :=
 onCall_k h fun _ xs _ q e1 h => on0_k h fun e2 h => onAttr_k h fun x n p e3 h => and_k h fun h h2 => and_k h fun h0 h1 => K x n p xs q (by rw [e1, e2, e3]) h0 h1 h2
noncomputable def isBlt (C : RC) (b : Str) (e : Expr) : Bool := onName e fun x => x == b && C.sc.lookup x == some .globalImplicit
noncomputable def onBlt (C : RC) (b : Str) (e : Expr) (k : List Expr → Bool) : Bool := onCall e fun f xs ks _ => on0 ks (isBlt C b f && k xs)
theorem onBlt_k {P : Prop} {C : RC} {b : Str} {e : Expr} {k : List Expr → Bool} (h : onBlt C b e k = true) (K : ∀ f xs q, e = .Call f xs [] q → isBlt C b f = true → k xs = true → P) : P :=
 onCall_k h fun f xs _ q e1 h => on0_k h fun e2 h => and_k h fun h0 h1 => K f xs q (by rw [e1, e2]) h0 h1
noncomputable def isFn (e : Expr) : Bool := Nat.beq e.ctorIdx 23 || Nat.beq e.ctorIdx 21
mutual
noncomputable def rep (C : RC) : Ex → Expr → Bool
 | .loc i, ee => onName ee fun x => C.ns[i]? == some x && (x != ("__debug__" : Str) && C.sc.lookup x == some .local)
 | .lit v, ee => onName ee (fun x => x != ("__debug__" : Str) && (C.sc.lookup x == some .globalImplicit && onS (C.gl.lookup x) fun u => sameAV u v)) || onConst ee (fun c => repC v c)
 | .tup es, ee => onTuple ee fun xs => reps C es xs && decide (es.length ≤ 100)
 | .lst es, ee => onList ee fun xs => reps C es xs && decide (es.length ≤ 100)
 | .attr e f, ee => onAttr ee fun x n _ => NT[f]? == some n && (isBare x && rep C e x)
 | .sub e i, ee => onSub ee fun x y => notSl y && (rep C e x && rep C i y)
 | .slcL e hi, ee => onSub ee fun x y => onSlice y fun l h s => onN l (onN s (onS h fun h => rep C e x && rep C hi h))
 | .slc e lo hi, ee => onSub ee fun x y => onSlice y fun l h s => onN s (onS l fun l => onS h fun h => rep C e x && (rep C lo l && rep C hi h))
 | .bin op a b, ee => onBin ee fun x o y => repOp op o && (rep C a x && rep C b y)
 | .cmp op a b, ee => onCmp ee fun x os ys => on1 os fun o => on1 ys fun y => repCop op o && (rep C a x && rep C b y)
 | .isN e, ee => onCmp ee fun x os ys => on1 os fun o => on1 ys fun y => isIs o && (onConst y isCN && rep C e x)
 | .bop a es, ee => onBool ee fun o xs => isAndO a o && reps C es xs
 | .not e, ee => onUn ee fun o x => isNotO o && rep C e x
 | .neg e, ee => onUn ee fun o x => isNegO o && rep C e x
 | .call f es, ee => onCall ee fun x xs ks _ => on0 ks (isFn x && (rep C f x && reps C es xs))
 | .meth e m es, ee => onMeth ee fun x n xs => NT[m]? == some n && (decide (xs.length < 20) && (rep C e x && reps C es xs))
 | .app e y, ee => onMeth ee fun x n xs => n == ("append" : Str) && on1 xs fun z => rep C e x && rep C y z
 | .pop e, ee => onMeth ee fun x n xs => n == ("pop" : Str) && on0 xs (rep C e x)
 | .dget e k, ee => onMeth ee fun x n xs => n == ("get" : Str) && on1 xs fun z => rep C e x && rep C k z
 | .dgetd e k d, ee => onMeth ee fun x n xs => n == ("get" : Str) && on2 xs fun z u => rep C e x && (rep C k z && rep C d u)
 | .len e, ee => onBlt C "len" ee fun xs => on1 xs fun x => rep C e x
 | .abs e, ee => onBlt C "abs" ee fun xs => on1 xs fun x => rep C e x
 | .edict, ee => onDict ee fun ks xs => on0 ks (on0 xs true)
 | .idict1 k v, ee => onDict ee fun ks xs => on1 ks fun o => onS o fun x => on1 xs fun y => rep C k x && rep C v y
noncomputable def reps (C : RC) : List Ex → List Expr → Bool
 | [], l => on0 l true
 | e :: r, l => match l with
  | [] => false
  | x :: l => rep C e x && reps C r l
end
theorem reps_nil {C : RC} {l : List Expr} (h : reps C [] l = true) : l = [] := (on0_inv h).1
theorem reps_cons {C : RC} {e : Ex} {r : List Ex} {l : List Expr} (h : reps C (e :: r) l = true) : ∃ x q, l = x :: q ∧ rep C e x = true ∧ reps C r q = true := by
 cases l with
 | nil => exact absurd h Bool.false_ne_true
 | cons x q => exact ⟨x, q, rfl, and_inv h⟩
theorem reps_cons_k {P : Prop} {C : RC} {e : Ex} {r : List Ex} {l : List Expr} (h : reps C (e :: r) l = true) (K : ∀ x q, l = x :: q → rep C e x = true → reps C r q = true → P) : P := by
 obtain ⟨x, q, a, b, c⟩ := reps_cons h
 exact K x q a b c
theorem onName_i {e : Expr} {k : Str → Bool} (h : onName e k = true) : e.ctorIdx = 23 := idx_of h
theorem onConst_i {e : Expr} {k : Const → Bool} (h : onConst e k = true) : e.ctorIdx = 19 := idx_of h
theorem onTuple_i {e : Expr} {k : List Expr → Bool} (h : onTuple e k = true) : e.ctorIdx = 25 := idx_of h
theorem onList_i {e : Expr} {k : List Expr → Bool} (h : onList e k = true) : e.ctorIdx = 24 := idx_of h
theorem onAttr_i {e : Expr} {k : Expr → Str → Pos → Bool} (h : onAttr e k = true) : e.ctorIdx = 20 := idx_of h
theorem onSub_i {e : Expr} {k : Expr → Expr → Bool} (h : onSub e k = true) : e.ctorIdx = 21 := idx_of h
theorem onBin_i {e : Expr} {k : Expr → Operator → Expr → Bool} (h : onBin e k = true) : e.ctorIdx = 2 := idx_of h
theorem onCmp_i {e : Expr} {k : Expr → List CmpOp → List Expr → Bool} (h : onCmp e k = true) : e.ctorIdx = 15 := idx_of h
theorem onBool_i {e : Expr} {k : BoolOp → List Expr → Bool} (h : onBool e k = true) : e.ctorIdx = 0 := idx_of h
theorem onUn_i {e : Expr} {k : UnaryOp → Expr → Bool} (h : onUn e k = true) : e.ctorIdx = 3 := idx_of h
theorem onDict_i {e : Expr} {k : List (Option Expr) → List Expr → Bool} (h : onDict e k = true) : e.ctorIdx = 6 := idx_of h
theorem onCall_i {e : Expr} {k : Expr → List Expr → List Keyword → Pos → Bool} (h : onCall e k = true) : e.ctorIdx = 16 := idx_of h
theorem onMeth_i {e : Expr} {k : Expr → Str → List Expr → Bool} (h : onMeth e k = true) : e.ctorIdx = 16 := onCall_i h
theorem onBlt_i {C : RC} {b : Str} {e : Expr} {k : List Expr → Bool} (h : onBlt C b e k = true) : e.ctorIdx = 16 := onCall_i h
theorem ix {n m : Nat} {l : List Nat} (h : m = n) (k : l.contains n = true) : l.contains m = true := h ▸ k
noncomputable def formX : List (Nat × List Nat) :=
 (0, [23]) ::
 (0, [23, 19]) ::
 (0, [25]) ::
 (0, [24]) ::
 (0, [20]) ::
 (0, [21]) ::
 (0, [21]) ::
 (0, [21]) ::
 (0, [2]) ::
 (1, [15]) ::
 (1, [15]) ::
 (1, [0]) ::
 (1, [3]) ::
 (1, [3]) ::
 (0, [16]) ::
 (0, [16]) ::
 (0, [16]) ::
 (0, [16]) ::
 (0, [16]) ::
 (0, [16]) ::
 (0, [16]) ::
 (0, [16]) ::
 (0, [6]) ::
 (0, [6]) ::
 []
noncomputable def formOf (x : Ex) : Nat × List Nat := formX.getD x.ctorIdx (0, [])
theorem rep_idx {C : RC} {x : Ex} {e : Expr} (r : rep C x e = true) : (formOf x).2.contains e.ctorIdx = true :=
 Ex.casesOn (motive_1 := fun x => rep C x e = true → (formOf x).2.contains e.ctorIdx = true) x
  (fun _ r => ix (onName_i r) rfl)
  (fun _ r => (or_inv r).elim (fun r => ix (onName_i r) rfl) fun r => ix (onConst_i r) rfl)
  (fun _ r => ix (onTuple_i r) rfl)
  (fun _ r => ix (onList_i r) rfl)
  (fun _ _ r => ix (onAttr_i r) rfl)
  (fun _ _ r => ix (onSub_i r) rfl)
  (fun _ _ r => ix (onSub_i r) rfl)
  (fun _ _ _ r => ix (onSub_i r) rfl)
  (fun _ _ _ r => ix (onBin_i r) rfl)
  (fun _ _ _ r => ix (onCmp_i r) rfl)
  (fun _ r => ix (onCmp_i r) rfl)
  (fun _ _ r => ix (onBool_i r) rfl)
  (fun _ r => ix (onUn_i r) rfl)
  (fun _ r => ix (onUn_i r) rfl)
  (fun _ _ r => ix (onCall_i r) rfl)
  (fun _ _ _ r => ix (onMeth_i r) rfl)
  (fun _ _ r => ix (onMeth_i r) rfl)
  (fun _ r => ix (onMeth_i r) rfl)
  (fun _ _ r => ix (onMeth_i r) rfl)
  (fun _ _ _ r => ix (onMeth_i r) rfl)
  (fun _ r => ix (onBlt_i r) rfl)
  (fun _ r => ix (onBlt_i r) rfl)
  (fun r => ix (onDict_i r) rfl)
  (fun _ _ r => ix (onDict_i r) rfl)
  r
theorem form_all {p : Nat × List Nat → Bool} (a : formX.all p = true) (b : p (0, []) = true) (x : Ex) : p (formOf x) = true := by
 unfold formOf
 rw [List.getD_eq_getElem?_getD]
 cases q : formX[x.ctorIdx]? with
 | none => exact b
 | some z => exact List.all_eq_true.mp a _ (List.mem_of_getElem? q)
noncomputable def formI : List Nat := [23, 19, 25, 24, 20, 21, 2, 15, 0, 3, 16, 6]
theorem rep_form {C : RC} {x : Ex} {e : Expr} (r : rep C x e = true) : formI.contains e.ctorIdx = true :=
 List.all_eq_true.mp (form_all (p := fun p => p.2.all formI.contains) rfl rfl x) _ (List.contains_iff_mem.mp (rep_idx r))
noncomputable def repT (C : RC) (i : Nat) (e : Expr) : Bool := onName e fun x => C.ns[i]? == some x && C.sc.lookup x == some .local
noncomputable def notTup (e : Expr) : Bool := !Nat.beq e.ctorIdx 25
noncomputable def isPass (e : Stmt) : Bool := if z : e.ctorIdx = 25 then true else false
theorem isPass_k {P : Prop} {e} (h : isPass e = true) (K : ∀ p, e = .Pass p → P) : P := Stmt.Pass.elim (motive_2 := fun e' => e = e' → P) e (idx_of h) (fun p q => K p q) rfl
mutual
noncomputable def repS (C : RC) : Sx → Stmt → Bool
 | .asg i e, ee => onAssign ee fun ts x => on1 ts fun t => repT C i t && rep C e x
 | .asg2 i j e, ee => onAssign ee fun ts x => on1 ts fun tt => onTuple tt fun ts => on2 ts fun t u => repT C i t && (repT C j u && (rep C e x && notTup x))
 | .setA o f e, ee => onAssign ee fun ts x => on1 ts fun t => onAttr t fun y n _ => NT[f]? == some n && (rep C o y && rep C e x)
 | .setS o k e, ee => onAssign ee fun ts x => on1 ts fun t => onSub t fun y z => notSl z && (rep C o y && (rep C k z && rep C e x))
 | .augL i op e, ee => onAug ee fun t o x => repT C i t && (repOp op o && rep C e x)
 | .augA o f op e, ee => onAug ee fun t p x => onAttr t fun y n _ => NT[f]? == some n && (rep C o y && (repOp op p && rep C e x))
 | .expr e, ee => onExpr ee fun x => rep C e x
 | .ret e, ee => onRet ee fun x => onS x fun x => rep C e x
 | .retN, ee => onRet ee fun x => onN x true
 | .ite c a b, ee => onIf ee fun x l r => rep C c x && (repSs C a l && repSs C b r)
 | .whl c b, ee => onWhile ee fun x l r => on0 r (rep C c x && repSs C b l)
 | .forR i hi b, ee => onFor ee fun t y l r => on0 r (onBlt C "range" y fun xs => on1 xs fun h => repT C i t && (rep C hi h && repSs C b l))
 | .forR2 i lo hi b, ee => onFor ee fun t y l r => on0 r (onBlt C "range" y fun xs => on2 xs fun g h => repT C i t && (rep C lo g && (rep C hi h && repSs C b l)))
 | .forL i e b, ee => onFor ee fun t x l r => on0 r (repT C i t && (rep C e x && repSs C b l))
 | .forK i e b, ee => onFor ee fun t x l r => on0 r (repT C i t && (rep C e x && repSs C b l))
 | .delF e lo, ee => onDel ee fun ts => on1 ts fun t => onSub t fun x y => onSlice y fun l h s => onN h (onN s (onS l fun l => rep C e x && rep C lo l))
 | .pass, ee => isPass ee
 | .bad, ee => true
noncomputable def repSs (C : RC) : List Sx → List Stmt → Bool
 | [], l => on0 l true
 | e :: r, l => match l with
  | [] => false
  | x :: l => repS C e x && repSs C r l
end
theorem repSs_nil {C : RC} {l : List Stmt} (h : repSs C [] l = true) : l = [] := (on0_inv h).1
theorem repSs_cons {C : RC} {e : Sx} {r : List Sx} {l : List Stmt} (h : repSs C (e :: r) l = true) : ∃ x q, l = x :: q ∧ repS C e x = true ∧ repSs C r q = true := by
 cases l with
 | nil => exact absurd h Bool.false_ne_true
 | cons x q => exact ⟨x, q, rfl, and_inv h⟩
theorem repSs_cons_k {P : Prop} {C : RC} {e : Sx} {r : List Sx} {l : List Stmt} (h : repSs C (e :: r) l = true) (K : ∀ x q, l = x :: q → repS C e x = true → repSs C r q = true → P) : P := by
 obtain ⟨x, q, a, b, c⟩ := repSs_cons h
 exact K x q a b c
theorem nm_of {n : Nat} {x : Str} (h : (NT[n]? == some x) = true) : n < NT.length ∧ nm n = x := by
 have h := beq_iff_eq.mp h
 exact ⟨(List.getElem?_eq_some_iff.mp h).1, by unfold nm; rw [List.getD_eq_getElem?_getD, h]; rfl⟩
theorem nm_of_k {P : Prop} {n : Nat} {x : Str} (h : (NT[n]? == some x) = true) (K : n < NT.length → nm n = x → P) : P := by
 obtain ⟨a, b⟩ := nm_of h
 exact K a b
noncomputable def StaticOk (B : Base) (x : Str) (u : AV) : Prop := ∃ c, B.mg x = some c ∧ ∀ ι n h, (∀ b o, B.h₀.get? b = some o → h.get? b = some o) → RelV ι n h u c
structure FrOk (B : Base) (C : RC) (fd : FuncData) (L fa : Addr) (A : Around) : Prop where
 good : B.Good
 kind : fd.scope.kind = .function
 glob : fd.globals = mainGlobals
 blt : fd.builtins = builtinsNs
 sc : fd.scope.names = C.sc
 gl : ∀ x u, C.gl.lookup x = some u → StaticOk B x u
 nd : C.ns.Nodup
 bl : ∀ x ∈ (["len", "abs", "min", "range", "list"] : List Str), B.mg x = none
 hand : A.handled = none
 units : A.units + 100 < cLine
 depth : A.depth + 150 < recursionLimit
 frames : ∃ l, A.frames = some (callEnv fd L fa :: l)
 gen : fd.scope.isGenerator = false
 cor : fd.scope.isCoroutine = false
noncomputable abbrev Ans (B : Base) (C : RC) (L : Addr) (ι : Nat → Addr) (σ : St) (s : Shared) (σ' : St) (ρ' : Lc) (P : (Nat → Addr) → Shared → Prop) (s' : Shared) : Prop :=
 ∃ ι', Tr (some L) ι σ s ι' σ' s' ∧ SL B C.ns L ι' σ' ρ' s' ∧ P ι' s'
noncomputable def SoE (B : Base) (C : RC) (fd : FuncData) (L fa : Addr) (A : Around) (T : Tab) (cf : CF) (x : Ex) (e : Expr) : Prop :=
 ∀ ρ σ v σ' ι s, ev T cf x ρ σ = some (v, σ') → SL B C.ns L ι σ ρ s →
  wpAny (model B.prog B.w) A (eval e (callEnv fd L fa)) (fun c => Ans B C L ι σ s σ' ρ fun ι' s' => RelV ι' σ'.nx s'.heap v c) NoE s
end Mine
end
section
open PySem PySem.W PyProof.Rows PySem.Calls
namespace Mine
section
variable {B : Base} {C : RC} {fd : FuncData} {L fa : Addr} {A : Around} {T : Tab} {cf : CF}
variable {ι : Nat → Addr} {σ : St} {ρ : Lc} {s : Shared}
theorem Ans.same {P : (Nat → Addr) → Shared → Prop} {s' : Shared} (S : SL B C.ns L ι σ ρ s) (h : s'.heap = s.heap) (g : s'.gens = s.gens) (o : s'.os = s.os) (p : P ι s') : Ans B C L ι σ s σ ρ P s' := by
 obtain ⟨t, S'⟩ := Tr.fr0 S (Tr.same (L := none) h) (S.sim.same h g o)
 exact ⟨ι, t, S', p⟩
theorem Ans.push {P : (Nat → Addr) → Shared → Prop} (S : SL B C.ns L ι σ ρ s) (o : Obj) (tk : Tok) (p : Up ι σ.nx s.heap ι σ.nx (s.heap.push o) → P ι { s with heap := s.heap.push o, toks := tk }) :
  Ans B C L ι σ s σ ρ P { s with heap := s.heap.push o, toks := tk } := by
 obtain ⟨t, S'⟩ := Tr.fr0 S (Tr.push (L := none) o tk) (S.sim.push o tk)
 exact ⟨ι, t, S', p (t.up S)⟩
theorem Ans.alloc {P : (Nat → Addr) → Shared → Prop} (S : SL B C.ns L ι σ ρ s) {o : Obj} {ao : AObj} (tk : Tok) (ho : o.isFreed = false)
  (k : Up ι σ.nx s.heap (ext1 ι σ.nx s.heap.objs.size) (σ.nx + 1) (s.heap.push o) → ObjOk B (ext1 ι σ.nx s.heap.objs.size) (σ.nx + 1) (s.heap.push o) s.heap.objs.size ao)
  (p : P (ext1 ι σ.nx s.heap.objs.size) { s with heap := s.heap.push o, toks := tk }) : Ans B C L ι σ s (σ.new ao) ρ P { s with heap := s.heap.push o, toks := tk } := by
 have u := Tr.up0 S.sim (Tr.alloc (L := none) o ao tk)
 obtain ⟨t, S'⟩ := Tr.fr0 S (Tr.alloc (L := none) o ao tk) (S.sim.alloc tk ho (k u))
 exact ⟨_, t, S', p⟩
theorem Ans.update {P : (Nat → Addr) → Shared → Prop} (S : SL B C.ns L ι σ ρ s) {a : Nat} (ha : a < σ.nx) {h' : Heap} (sb : Heap.SameBut (ι a) s.heap h') {ao : AObj} (tk : Tok)
  (k : Up ι σ.nx s.heap ι σ.nx h' → ObjOk B ι σ.nx h' (ι a) ao) (p : Up ι σ.nx s.heap ι σ.nx h' → P ι { s with heap := h', toks := tk }) : Ans B C L ι σ s (σ.set a ao) ρ P { s with heap := h', toks := tk } := by
 have S1 := S.sim.update ha sb tk k
 obtain ⟨t, S'⟩ := Tr.fr0 S (Tr.update (L := none) S.sim.inj ha sb ao tk) S1
 exact ⟨ι, t, S', p (t.up S)⟩
theorem Ans.trans {P P' : (Nat → Addr) → Shared → Prop} {σ₁ σ₂ : St} {ρ₂ : Lc} {ι₁ : Nat → Addr} {s₁ s₂ : Shared} (t : Tr (some L) ι σ s ι₁ σ₁ s₁)
  (x : Ans B C L ι₁ σ₁ s₁ σ₂ ρ₂ P s₂) (h : ∀ ι' s', P ι' s' → P' ι' s') : Ans B C L ι σ s σ₂ ρ₂ P' s₂ := by
 obtain ⟨ι₂, t₂, S₂, p⟩ := x
 exact ⟨ι₂, t.trans t₂ S₂.sep, S₂, h _ _ p⟩
theorem Ans_k {X : Prop} {P : (Nat → Addr) → Shared → Prop} {σ' : St} {ρ' : Lc} {s' : Shared} (x : Ans B C L ι σ s σ' ρ' P s') (K : ∀ ι', Tr (some L) ι σ s ι' σ' s' → SL B C.ns L ι' σ' ρ' s' → P ι' s' → X) : X := by
 obtain ⟨ι', a, b, c⟩ := x
 exact K ι' a b c
theorem so_loc (F : FrOk B C fd L fa A) {i : Nat} {e : Expr} (r : rep C (.loc i) e = true) : SoE B C fd L fa A T cf (.loc i) e := by
 intro ρ σ v σ' ι s h S
 refine onName_k r ?_
 clear r
 intro x pos hq1 r
 subst hq1
 refine and_k r ?_
 clear r
 intro r1 r
 refine and_k r ?_
 clear r
 intro r2 r3
 refine bind_k h ?_
 clear h
 intro o q h
 refine bind_k h ?_
 clear h
 intro v hq2 h
 subst hq2
 cases h
 obtain ⟨m, hm, hl⟩ := S.fr.loc
 obtain ⟨c, e1, e2⟩ := hl i x v (beq_iff_eq.mp r1) q
 refine wpAny_Name (wpAny_loadName_local (env := callEnv fd L fa) F.kind ?_ hm e1 (Ans.same S rfl rfl rfl e2)) (beq_false_of_ne (bne_iff_ne.mp r2))
 show fd.scope.names.lookup x = _
 rw [F.sc]; exact beq_iff_eq.mp r3
theorem so_lit (F : FrOk B C fd L fa A) {v : AV} {e : Expr} (r : rep C (.lit v) e = true) : SoE B C fd L fa A T cf (.lit v) e := by
 intro ρ σ v' σ' ι s h S
 cases h
 have r' := or_inv r
 clear r
 rcases r' with r | r
 ·refine onName_k r ?_
  clear r
  intro x pos hq3 r
  subst hq3
  refine and_k r ?_
  clear r
  intro r1 r
  refine and_k r ?_
  clear r
  intro r2 r
  refine onS_k r ?_
  clear r
  intro u hu r
  obtain rfl := sameAV_eq r
  obtain ⟨c, hc, hr⟩ := F.gl x u hu
  refine Name_function_global (env := callEnv fd L fa) F.kind ?_ (loadGlobal_global (mg := B.mg) ?_ hc (Ans.same S rfl rfl rfl (hr _ _ _ S.sim.base))) (beq_false_of_ne (bne_iff_ne.mp r1))
  ·show fd.scope.names.lookup x = _
   rw [F.sc]; exact beq_iff_eq.mp r2
  ·show s.heap.Ns fd.globals B.mg
   rw [F.glob]; exact F.good.g.keeps S.sim.base
 ·refine onConst_k r ?_
  clear r
  intro c k pos hq4 r
  subst hq4
  cases v <;> cases c <;> first | exact absurd r Bool.false_ne_true | skip
  ·exact wpAny_pure (Ans.same S rfl rfl rfl rfl)
  ·obtain rfl := beq_iff_eq.mp r; exact wpAny_pure (Ans.same S rfl rfl rfl rfl)
  ·obtain rfl := of_decide_eq_true r; exact wpAny_mkInt (Ans.same S rfl rfl rfl ⟨_, rfl⟩)
  ·rename_i n x
   refine nm_of_k r ?_
   clear r
   intro hn hq5
   subst hq5
   exact wpAny_mkText (Ans.same S rfl rfl rfl ⟨hn, _, rfl⟩)
noncomputable def SoEs (B : Base) (C : RC) (fd : FuncData) (L fa : Addr) (A : Around) (T : Tab) (cf : CF) (x : List Ex) (e : List Expr) : Prop :=
 ∀ ρ σ vs σ' ι s pos, evs T cf x ρ σ = some (vs, σ') → SL B C.ns L ι σ ρ s →
  wpAny (model B.prog B.w) A (spliced (backTo pos (starEach e (callEnv fd L fa)))) (fun cs => Ans B C L ι σ s σ' ρ fun ι' s' => RelVs ι' σ'.nx s'.heap vs cs) NoE s
theorem rep_plain {x : Ex} {e : Expr} (r : rep C x e = true) : ∀ rest env, starEach (e :: rest) env = (false, eval e env) :: starEach rest env := by
 intro rest env
 exact (by apply Expr.casesOn (motive_1 := fun e => formI.contains e.ctorIdx = true → starEach (e :: rest) env = (false, eval e env) :: starEach rest env) e <;> intros <;> first | rfl | exact absurd ‹_› Bool.false_ne_true : formI.contains e.ctorIdx = true → starEach (e :: rest) env = (false, eval e env) :: starEach rest env) (rep_form r)
theorem so_nil : SoEs B C fd L fa A T cf [] [] := by
 intro ρ σ vs σ' ι s pos h S
 cases h
 exact wpAny_pure (Ans.same S rfl rfl rfl .nil)
theorem so_cons {x : Ex} {xs : List Ex} {e : Expr} {es : List Expr} (r : rep C x e = true) (h1 : SoE B C fd L fa A T cf x e) (h2 : SoEs B C fd L fa A T cf xs es) : SoEs B C fd L fa A T cf (x :: xs) (e :: es) := by
 intro ρ σ vs σ' ι s pos h S
 refine bind2_k h ?_
 clear h
 intro v σ₁ e1 h
 refine bind2_k h ?_
 clear h
 intro vs' σ₂ e2 h
 cases h
 rw [rep_plain r]
 show wpAny _ A (spliced ((false, if false = true then _ else _) :: backTo pos (starEach es (callEnv fd L fa)))) _ _ s
 rw [if_neg Bool.false_ne_true]
 refine spliced_cons (wpAny_mono (h1 ρ σ v σ₁ ι s e1 S) (fun c s₁ z => ?_) fun _ _ x => x)
 refine Ans_k z ?_
 clear z
 intro ι₁ t₁ S₁ r₁
 refine wpAny_mono (h2 ρ σ₁ vs' σ₂ ι₁ s₁ pos e2 S₁) (fun cs s₂ z => ?_) fun _ _ x => x
 refine Ans_k z ?_
 clear z
 intro ι₂ t₂ S₂ r₂
 exact ⟨ι₂, t₁.trans t₂ S₂.sep, S₂, .cons (r₁.up (t₂.up S₁)) r₂⟩
theorem sizeOk_small {vs : List Value} (h : vs.length ≤ sizeLine) : vs.toArray.size ≤ sizeLine := by simpa using h
theorem lim_size : LIM ≤ sizeLine := by decide
theorem lt_lim {n : Nat} (h : n ≤ 100) : n < LIM := Nat.lt_of_le_of_lt h (by decide)
theorem evs_length : ∀ {x : List Ex} {ρ σ vs σ'}, evs T cf x ρ σ = some (vs, σ') → vs.length = x.length
 | [], _, _, _, _, h => by cases h; rfl
 | _ :: _, _, _, _, _, h => by
  refine bind2_k h ?_
  clear h
  intro v σ₁ e1 h
  refine bind2_k h ?_
  clear h
  intro vs' σ₂ e2 h
  cases h
  exact congrArg (· + 1) (evs_length e2)
theorem few {n m : Nat} (a : n ≤ 100) (b : m = n) : m ≤ sizeLine := by subst b; exact Nat.le_trans a (by decide)
theorem so_tup {xs : List Ex} {e : Expr} (r : rep C (.tup xs) e = true) (h2 : ∀ es, reps C xs es = true → SoEs B C fd L fa A T cf xs es) : SoE B C fd L fa A T cf (.tup xs) e := by
 intro ρ σ v σ' ι s h S
 refine onTuple_k r ?_
 clear r
 intro es k pos hq6 r
 subst hq6
 refine and_k r ?_
 clear r
 intro r hz
 have hz := of_decide_eq_true hz
 refine bind2_k h ?_
 clear h
 intro vs σ₁ e1 h
 cases h
 refine Tuple_ (wpAny_mono (h2 es r ρ σ vs σ₁ ι s pos e1 S) (fun cs s₁ z => ?_) fun _ _ x => x)
 refine Ans_k z ?_
 clear z
 intro ι₁ t₁ S₁ r₁
 have hl := evs_length e1
 have hc := r₁.length
 refine wpAny_newObj_type ?_ (sizeOk_small (few hz (hc.trans hl)))
 refine Ans.trans t₁ (Ans.push (P := fun ι' s' => RelV ι' σ₁.nx s'.heap (.tup vs) (.ref s₁.heap.objs.size)) S₁ _ s₁.toks fun u => ?_) fun _ _ p => p
 exact ⟨_, cs, rfl, ⟨_, Heap.get?_push_size _ rfl, rfl, _, rfl⟩, r₁.up u, lt_lim (hl ▸ hz)⟩
theorem so_lst {xs : List Ex} {e : Expr} (r : rep C (.lst xs) e = true) (h2 : ∀ es, reps C xs es = true → SoEs B C fd L fa A T cf xs es) : SoE B C fd L fa A T cf (.lst xs) e := by
 intro ρ σ v σ' ι s h S
 refine onList_k r ?_
 clear r
 intro es pos hq7 r
 subst hq7
 refine and_k r ?_
 clear r
 intro r hz
 have hz := of_decide_eq_true hz
 refine bind2_k h ?_
 clear h
 intro vs σ₁ e1 h
 cases h
 refine List_ (wpAny_mono (h2 es r ρ σ vs σ₁ ι s pos e1 S) (fun cs s₁ z => ?_) fun _ _ x => x)
 refine Ans_k z ?_
 clear z
 intro ι₁ t₁ S₁ r₁
 have hl := evs_length e1
 have hc := r₁.length
 refine wpAny_newObj_type ?_ (sizeOk_small (few hz (hc.trans hl)))
 refine Ans.trans t₁ (Ans.alloc (P := fun ι' s' => RelV ι' (σ₁.nx + 1) s'.heap (.ref σ₁.nx) (.ref s₁.heap.objs.size)) S₁ s₁.toks rfl (fun u => ?_) ?_) fun _ _ p => p
 ·exact ⟨_, _, Heap.get?_push_size _ rfl, r₁.up u, Nat.le_of_lt (lt_lim (hl ▸ hz))⟩
 ·exact ⟨Nat.lt_succ_self _, congrArg Value.ref ext1_self.symm⟩
theorem none_rel {n h} {v : AV} {c : Value} (r : RelV ι n h v c) : (c == Value.none) = isNA v := by
 cases v with
 | none => cases r; rfl
 | bool => cases r; rfl
 | int => obtain ⟨t, rfl⟩ := r; rfl
 | str => obtain ⟨_, t, rfl⟩ := r; rfl
 | ref => obtain ⟨_, rfl⟩ := r; rfl
 | k => obtain ⟨rfl, _, rfl⟩ := r; rfl
 | tup => obtain ⟨_, _, rfl, _⟩ := r; rfl
theorem so_isN {x : Ex} {e : Expr} (r : rep C (.isN x) e = true) (h1 : ∀ y, rep C x y = true → SoE B C fd L fa A T cf x y) : SoE B C fd L fa A T cf (.isN x) e := by
 intro ρ σ v σ' ι s h S
 refine onCmp_k r ?_
 clear r
 intro y os ys pos hq8 r
 subst hq8
 refine on1_k r ?_
 clear r
 intro o hq9 r
 subst hq9
 refine on1_k r ?_
 clear r
 intro c hq10 r
 subst hq10
 refine and_k r ?_
 clear r
 intro ro r
 refine and_k r ?_
 clear r
 intro rc r
 obtain rfl := isIs_inv ro
 refine onConst_k rc ?_
 clear rc
 intro c k p hq11 rc
 subst hq11
 obtain rfl := isCN_inv rc
 refine bind2_k h ?_
 clear h
 intro v₁ σ₁ e1 h
 cases h
 refine wpAny_Compare1 (wpAny_mono (h1 y r ρ σ v₁ σ₁ ι s e1 S) (fun c s₁ z => ?_) fun _ _ x => x) rfl
 refine Ans_k z ?_
 clear z
 intro ι₁ t₁ S₁ r₁
 exact wpAny_pure (a := Value.none) (is_none_gen ⟨ι₁, t₁, S₁, congrArg Value.bool (none_rel r₁)⟩)
theorem so_not {x : Ex} {e : Expr} (r : rep C (.not x) e = true) (h1 : ∀ y, rep C x y = true → SoE B C fd L fa A T cf x y) : SoE B C fd L fa A T cf (.not x) e := by
 intro ρ σ v σ' ι s h S
 refine onUn_k r ?_
 clear r
 intro o y pos hq16 r
 subst hq16
 refine and_k r ?_
 clear r
 intro ro r
 obtain rfl := isNotO_inv ro
 refine bind2_k h ?_
 clear h
 intro v₁ σ₁ e1 h
 refine bind_k h ?_
 clear h
 intro b hb h
 obtain rfl := asBool_inv hb
 cases h
 refine wpAny_UnaryOp (wpAny_mono (h1 y r ρ σ _ σ₁ ι s e1 S) (fun c s₁ z => ?_) fun _ _ x => x)
 refine Ans_k z ?_
 clear z
 intro ι₁ t₁ S₁ r₁
 cases r₁
 exact not_value (wpAny_truthy_bool ⟨ι₁, t₁, S₁, rfl⟩)
theorem so_neg {x : Ex} {e : Expr} (r : rep C (.neg x) e = true) (h1 : ∀ y, rep C x y = true → SoE B C fd L fa A T cf x y) : SoE B C fd L fa A T cf (.neg x) e := by
 intro ρ σ v σ' ι s h S
 refine onUn_k r ?_
 clear r
 intro o y pos hq17 r
 subst hq17
 refine and_k r ?_
 clear r
 intro ro r
 obtain rfl := isNegO_inv ro
 refine bind2_k h ?_
 clear h
 intro v₁ σ₁ e1 h
 refine bind_k h ?_
 clear h
 intro b hb h
 obtain rfl := asInt_inv hb
 cases h
 refine wpAny_UnaryOp (wpAny_mono (h1 y r ρ σ _ σ₁ ι s e1 S) (fun c s₁ z => ?_) fun _ _ x => x)
 refine Ans_k z ?_
 clear z
 intro ι₁ t₁ S₁ w18
 obtain ⟨t, rfl⟩ := w18
 exact P.neg_int (Ans.trans t₁ (Ans.same (P := fun ι' s' => RelV ι' σ₁.nx s'.heap (.int (-_)) (.int (-_) s₁.toks)) S₁ rfl rfl rfl ⟨_, rfl⟩) fun _ _ p => p)
end
end Mine
end
section
open PySem PySem.W PyProof.Rows PySem.Calls
namespace Mine
section
variable {B : Base} {C : RC} {fd : FuncData} {L fa : Addr} {A : Around} {T : Tab} {cf : CF}
variable {ι : Nat → Addr} {σ : St} {ρ : Lc} {s : Shared}
theorem room_of (F : FrOk B C fd L fa A) (S : Sim B ι σ s) : PylongRoom (model B.prog B.w) A s := by
 obtain ⟨l, hl⟩ := F.frames
 exact PylongRoom.of (F.good.nolimit.keeps S.base) (by have := F.depth; show A.depth + 100 < recursionLimit; lia)
  (SeerAt.of (F.good.seer.keeps S.base) F.good.tree hl F.gen F.cor F.blt F.glob)
theorem bin_int (F : FrOk B C fd L fa A) (S : Sim B ι σ s) {op : Bop} {a b c : Int} {t u : Tok} {Q : Value → Shared → Prop} (h : binI op a b = some c)
  (q : Q (.int c s.toks) { s with toks := s.toks + 1 }) : wpAny (model B.prog B.w) A (binaryOp (opA op) (.int a t) (.int b u)) Q NoE s ∧ wpAny (model B.prog B.w) A (inplaceOp (opA op) (.int a t) (.int b u)) Q NoE s := by
 cases op with
 | add => cases h; exact ⟨P.add_int q, P.iadd_int q⟩
 | sub => cases h; exact ⟨P.sub_int q, P.isub_int q⟩
 | mul => obtain ⟨⟨h1, h2⟩, h⟩ := ite_inv h; cases h; exact ⟨P.mul_int q (IntMulOk.of_left (intBits_le_64 (by lia) (by lia))), P.imul_int q (IntMulOk.of_left (intBits_le_64 (by lia) (by lia)))⟩
 | fdiv => obtain ⟨hb, h⟩ := ite_inv h; cases h; exact ⟨floordiv_int hb q (.inr (room_of F S)), ifloordiv_int hb q (.inr (room_of F S))⟩
 | mod => obtain ⟨hb, h⟩ := ite_inv h; cases h; exact ⟨mod_int' hb q, imod_int hb q⟩
 | pow => obtain ⟨⟨rfl, h1, h2⟩, h⟩ := ite_inv h; cases h; exact ⟨pow_int_small h1 (by lia) (by decide) q, ipow_int_small h1 (by lia) (by decide) q⟩
theorem le_size {n : Nat} (h : n < LIM) : n ≤ sizeLine := Nat.le_of_lt (Nat.lt_of_lt_of_le h lim_size)
theorem add_lists' {prog : Program} {w : World} {E : Value → Shared → Prop} {l b : Addr} {vs ws : Array Value} {k1 k2 : Nat} {Q : Value → Shared → Prop} (ho : s.heap.get? l = some (listOf vs k1)) (ho2 : s.heap.get? b = some (listOf ws k2))
  (h : Q (.ref s.heap.objs.size) { s with heap := s.heap.push { cls := .type "list", data := .seq (vs ++ ws) } }) (hsz : vs.size + ws.size ≤ sizeLine) : wpAny (model prog w) A (binaryOp .Add (.ref l) (.ref b)) Q E s :=
 concat_meets ⟨_, ho, rfl⟩ ⟨_, ho2, rfl⟩ noFill_list_add seq_list_add PySem.F.slot_list_add PySem.F.entry_list_add (PySem.F.args_list_add_2 _ _) (list_addW l b vs ws k1 k2 none none #[] #[] hsz) ⟨ho, ho2, h⟩
theorem isAdd_inv {op : Bop} (h : isAdd op = true) : op = .add := by cases op <;> first | rfl | exact absurd h Bool.false_ne_true
theorem list_at (S : Sim B ι σ s) {a : Nat} {xs : List AV} (l : a < σ.nx) (e : asList (σ.ob a) = some xs) : ∃ vs k, s.heap.get? (ι a) = some (listOf vs k) ∧ RelVs ι σ.nx s.heap xs vs.toList ∧ xs.length ≤ LIM := by
 have o := S.objs a l
 rw [asList_inv e] at o
 exact o
theorem new_ref {n : Nat} {b : Addr} {h : Heap} : RelV (ext1 ι n b) (n + 1) h (.ref n) (.ref b) := ⟨Nat.lt_succ_self _, congrArg Value.ref ext1_self.symm⟩
theorem so_bin {op : Bop} {x y : Ex} {e : Expr} (F : FrOk B C fd L fa A) (r : rep C (.bin op x y) e = true) (h1 : ∀ z, rep C x z = true → SoE B C fd L fa A T cf x z) (h2 : ∀ z, rep C y z = true → SoE B C fd L fa A T cf y z) :
  SoE B C fd L fa A T cf (.bin op x y) e := by
 intro ρ σ v σ' ι s h S
 refine onBin_k r ?_
 clear r
 intro p o q pos hq1 r
 subst hq1
 refine and_k r ?_
 clear r
 intro r0 r
 refine and_k r ?_
 clear r
 intro r1 r2
 obtain rfl := repOp_inv r0
 refine bind2_k h ?_
 clear h
 intro a σ₁ e1 h
 refine bind2_k h ?_
 clear h
 intro b σ₂ e2 h
 refine wpAny_BinOp (wpAny_mono (h1 _ r1 ρ σ a σ₁ ι s e1 S) (fun c s₁ z => ?_) fun _ _ x => x)
 refine Ans_k z ?_
 clear z
 intro ι₁ t₁ S₁ v₁
 refine wpAny_mono (h2 _ r2 ρ σ₁ b σ₂ ι₁ s₁ e2 S₁) (fun d s₂ z => ?_) fun _ _ x => x
 refine Ans_k z ?_
 clear z
 intro ι₂ t₂ S₂ v₂
 replace v₁ := v₁.up (t₂.up S₁)
 cases a with
 | int i =>
  refine bind_k h ?_
  clear h
  intro j hj h
  obtain rfl := asInt_inv hj
  refine bind_k h ?_
  clear h
  intro c' hc h
  cases h
  obtain ⟨t, rfl⟩ := v₁
  obtain ⟨u, rfl⟩ := v₂
  refine (bin_int F S₂.sim hc ?_).1
  exact Ans.trans (t₁.trans t₂ S₂.sep) (Ans.same (P := fun ι' s' => RelV ι' σ₂.nx s'.heap (.int c') (.int c' s₂.toks)) S₂ rfl rfl rfl ⟨_, rfl⟩) fun _ _ p => p
 | ref a' =>
  refine bind_k h ?_
  clear h
  intro b' hb h
  obtain rfl := asRef_inv hb
  refine bind_k h ?_
  clear h
  intro xs k1 h
  refine bind_k h ?_
  clear h
  intro ys k2 h
  obtain ⟨⟨ha, hl⟩, h⟩ := ite_inv h
  cases h
  obtain rfl := isAdd_inv ha
  obtain ⟨l1, rfl⟩ := v₁
  obtain ⟨l2, rfl⟩ := v₂
  obtain ⟨vs, n1, g1, q1, _⟩ := list_at S₂.sim l1 k1
  obtain ⟨ws, n2, g2, q2, _⟩ := list_at S₂.sim l2 k2
  have hlen : vs.size + ws.size = xs.length + ys.length := by rw [← q1.length, ← q2.length, Array.length_toList, Array.length_toList]
  refine add_lists' (hsz := by rw [hlen]; exact le_size hl) (ho := g1) (ho2 := g2) ?_
  refine Ans.trans (t₁.trans t₂ S₂.sep) (Ans.alloc (P := fun ι' s' => RelV ι' (σ₂.nx + 1) s'.heap (.ref σ₂.nx) (.ref s₂.heap.objs.size)) S₂ s₂.toks rfl (fun u => ?_) new_ref) fun _ _ p => p
  exact ⟨_, _, Heap.get?_push_size _ rfl, by rw [Array.toList_append]; exact (q1.up u).append (q2.up u), by rw [List.length_append]; exact Nat.le_of_lt hl⟩
 | _ => cases h
end
end Mine
end
section
open PySem PySem.W PyProof.Rows PySem.Calls PySem.Spec
namespace Mine
section
variable {ι : Nat → Addr} {n : Nat} {h : Heap}
noncomputable def datOf : AV → PyData
 | .int i => .int i
 | _ => .none
theorem reads_flat : ∀ {l : List AV} {cs : List Value}, flat l = true → RelVs ι n h l cs → ReadsAll h cs (l.map datOf) []
 | [], cs, _, r => by simp only [RelVs] at r; subst r; exact .nil
 | .int i :: l, cs, f, r => by
  simp only [RelVs, RelV] at r
  obtain ⟨c, q, rfl, ⟨t, rfl⟩, r⟩ := r
  have := ReadsAll.cons (Reads.int (h := h) i t) (reads_flat (l := l) f r)
  simpa [datOf] using this
 | .none :: l, cs, f, r => by
  simp only [RelVs, RelV] at r
  obtain ⟨c, q, rfl, rfl, r⟩ := r
  have := ReadsAll.cons (Reads.none (h := h)) (reads_flat (l := l) f r)
  simpa [datOf] using this
 | .bool _ :: _, _, f, _ | .str _ :: _, _, f, _ | .ref _ :: _, _, f, _ | .k _ :: _, _, f, _ | .tup _ :: _, _, f, _ => by simp [flat] at f
theorem ints_flat : ∀ {l : List AV} {is : List Int}, ints? l = some is → flat l = true ∧ l.map datOf = is.map PyData.int
 | [], is, e => by simp [ints?] at e; subst e; simp [flat]
 | .int i :: l, is, e => by
  simp only [ints?, Option.map_eq_some_iff] at e
  obtain ⟨is', e, rfl⟩ := e
  obtain ⟨a, b⟩ := ints_flat e
  exact ⟨by simp [flat, a], by simp [datOf, b]⟩
 | .none :: _, _, e | .bool _ :: _, _, e | .str _ :: _, _, e | .ref _ :: _, _, e | .k _ :: _, _, e | .tup _ :: _, _, e => by simp [ints?] at e
theorem canLay_flat : ∀ l : List AV, PyData.canLayAll0 (l.map datOf) = true
 | [] => rfl
 | a :: l => by
  simp only [List.map_cons, PyData.canLayAll0, canLay_flat l, Bool.and_true]
  cases a <;> simp [datOf, PyData.canLay0]
theorem depth_flat : ∀ l : List AV, PyData.depthAll (l.map datOf) = 0
 | [] => rfl
 | a :: l => by
  simp only [List.map_cons, PyData.depthAll, depth_flat l]
  cases a <;> simp [datOf, PyData.depth]
theorem shaped_tup (l : List AV) : SeqAt.shaped (.tuple (l.map datOf)) = true := by
 simp [SeqAt.shaped, PyData.canLay0, PyData.depth, canLay_flat, depth_flat]
theorem shaped_list (l : List AV) : SeqAt.shaped (.list (l.map datOf)) = true := by
 simp [SeqAt.shaped, PyData.canLay0, PyData.depth, canLay_flat, depth_flat]
theorem reads_tupF {a : Addr} {cs : List Value} {l : List AV} (t : IsTup h a cs.toArray) (f : flat l = true) (r : RelVs ι n h l cs) : Reads h (.ref a) (.tuple (l.map datOf)) [] := by
 obtain ⟨o, ho, hc, k, hd⟩ := t
 exact Reads.tuple ho hc hd (by simpa using reads_flat f r)
theorem eqv_ints : ∀ a b : List Int, PyData.eqvAll (a.map PyData.int) (b.map PyData.int) = decide (a = b)
 | [], [] => by simp [PyData.eqvAll]
 | [], _ :: _ => by simp [PyData.eqvAll]
 | _ :: _, [] => by simp [PyData.eqvAll]
 | x :: r, y :: q => by
  simp only [List.map_cons, PyData.eqvAll, PyData.eqv, eqv_ints r q]
  by_cases h : x = y <;> simp [h]
end
section
variable {B : Base} {C : RC} {fd : FuncData} {L fa : Addr} {A : Around} {T : Tab} {cf : CF}
variable {ι : Nat → Addr} {σ : St} {ρ : Lc} {s : Shared}
theorem cmpE_inv {op : Cop} {x b : Bool} (h : cmpE op x = some b) : (op = .eq ∧ b = x) ∨ (op = .ne ∧ b = !x) := by
 cases op <;> first | exact .inl ⟨rfl, (Option.some.inj h).symm⟩ | exact .inr ⟨rfl, (Option.some.inj h).symm⟩ | cases h
theorem cmp_int {S : Shared} {op : Cop} {a b : Int} {t u : Tok} {Q : Value → Shared → Prop} (q : Q (.bool (cmpI op a b)) S) : wpAny (model B.prog B.w) A (compareOp (copA op) (.int a t) (.int b u)) Q NoE S := by
 cases op with
 | eq => exact P.eq_int q
 | ne => exact P.ne_int (by rw [show (a != b) = decide (a ≠ b) from by by_cases hh : a = b <;> simp [hh]]; exact q)
 | lt => exact P.lt_int q
 | le => exact P.le_int q
 | gt => exact P.gt_int q
 | ge => exact P.ge_int q
theorem cmp_data {x y : PyData} {c d : Value} {px py : List Addr} {op : Cop} {e b : Bool} {Q : Value → Shared → Prop} (h : cmpE op e = some b) (rx : Reads s.heap c x px) (ry : Reads s.heap d y py) (sx : SeqAt.shaped x = true) (sy : SeqAt.shaped y = true) (E : PyData.eqv x y = e)
  (hu : A.units + 64 < cLine) (q : Q (.bool b) s) : wpAny (model B.prog B.w) A (compareOp (copA op) c d) Q NoE s := by
 rcases cmpE_inv h with ⟨rfl, rfl⟩ | ⟨rfl, rfl⟩
 ·exact eq_dataH rx ry sx sy hu (by rw [E]; exact q)
 ·exact ne_dataH rx ry sx sy hu (by rw [E]; exact q)
theorem cmp_any (F : FrOk B C fd L fa A) (S : Sim B ι σ s) {op : Cop} {x y : AV} {b : Bool} {c d : Value} {Q : Value → Shared → Prop} (h : cmpA op x y σ = some b)
  (rx : RelV ι σ.nx s.heap x c) (ry : RelV ι σ.nx s.heap y d) (q : Q (.bool b) s) : wpAny (model B.prog B.w) A (compareOp (copA op) c d) Q NoE s := by
 have hu : A.units + 64 < cLine := Nat.lt_of_le_of_lt (Nat.add_le_add_left (by decide) _) F.units
 cases x with
 | int a =>
  refine bind_k h ?_
  clear h
  intro b' hb h
  obtain rfl := asInt_inv hb
  cases h
  obtain ⟨t, rfl⟩ := rx
  obtain ⟨u, rfl⟩ := ry
  exact cmp_int q
 | bool a =>
  refine bind_k h ?_
  clear h
  intro b' hb h
  obtain rfl := asBool_inv hb
  cases rx
  cases ry
  rcases cmpE_inv h with ⟨rfl, rfl⟩ | ⟨rfl, rfl⟩
  ·exact eq_bool q
  ·exact ne_bool q
 | str a =>
  refine bind_k h ?_
  clear h
  intro b' hb h
  obtain rfl := asStr_inv hb
  obtain ⟨h1, t, rfl⟩ := rx
  obtain ⟨h2, u, rfl⟩ := ry
  have e : (nm a == nm b') = decide (a = b') := by
   by_cases hh : a = b'
   ·subst hh; simp
   ·simp only [hh, decide_false, beq_eq_false_iff_ne]; exact fun z => hh (nm_inj h1 h2 z)
  rcases cmpE_inv h with ⟨rfl, rfl⟩ | ⟨rfl, rfl⟩
  ·exact eq_str (by rw [e]; exact q)
  ·exact ne_str (by rw [bne, e]; exact q)
 | tup l1 =>
  refine bind_k h ?_
  clear h
  intro l2 hb h
  obtain rfl := asTup_inv hb
  refine bind_k h ?_
  clear h
  intro i e1 h
  refine bind_k h ?_
  clear h
  intro j e2 h
  obtain ⟨a, vs, rfl, ha, hra, _⟩ := rx
  obtain ⟨a', ws, rfl, hb, hrb, _⟩ := ry
  obtain ⟨f1, m1⟩ := ints_flat e1
  obtain ⟨f2, m2⟩ := ints_flat e2
  exact cmp_data h (reads_tupF ha f1 hra) (reads_tupF hb f2 hrb) (shaped_tup _) (shaped_tup _) (by simp only [PyData.eqv, m1, m2, eqv_ints]) hu q
 | ref a =>
  refine bind_k h ?_
  clear h
  intro b' hb h
  obtain rfl := asRef_inv hb
  refine bind_k h ?_
  clear h
  intro xs k1 h
  refine bind_k h ?_
  clear h
  intro ys k2 h
  obtain ⟨⟨hy, f⟩, h2⟩ := ite_inv h
  subst hy
  obtain ⟨l1, rfl⟩ := rx
  obtain ⟨l2, rfl⟩ := ry
  obtain ⟨vs, n1, g1, q1, _⟩ := list_at S l1 k1
  obtain ⟨ws, n2, g2, q2, _⟩ := list_at S l2 k2
  have R1 : Reads s.heap (.ref (ι a)) (.list (xs.map datOf)) (ι a :: []) := Reads.list g1 rfl rfl (reads_flat f q1)
  have R2 : Reads s.heap (.ref (ι b')) (.list (([] : List AV).map datOf)) (ι b' :: []) := Reads.list g2 rfl rfl (reads_flat rfl q2)
  exact cmp_data h2 R1 R2 (shaped_list _) (shaped_list _) (by cases xs <;> rfl) hu q
 | _ => cases h
theorem rep_marks {x : Ex} {e : Expr} {o : CmpOp} (r : rep C x e = true) : behindInMarks o e = false := by
 exact (by apply Expr.casesOn (motive_1 := fun e => formI.contains e.ctorIdx = true → behindInMarks o e = false) e <;> intros <;> first | rfl | exact absurd ‹_› Bool.false_ne_true : formI.contains e.ctorIdx = true → behindInMarks o e = false) (rep_form r)
theorem so_cmp {op : Cop} {x y : Ex} {e : Expr} (F : FrOk B C fd L fa A) (r : rep C (.cmp op x y) e = true) (h1 : ∀ z, rep C x z = true → SoE B C fd L fa A T cf x z) (h2 : ∀ z, rep C y z = true → SoE B C fd L fa A T cf y z) :
  SoE B C fd L fa A T cf (.cmp op x y) e := by
 intro ρ σ v σ' ι s h S
 refine onCmp_k r ?_
 clear r
 intro p os ys pos hq2 r
 subst hq2
 refine on1_k r ?_
 clear r
 intro o hq3 r
 subst hq3
 refine on1_k r ?_
 clear r
 intro q hq4 r
 subst hq4
 refine and_k r ?_
 clear r
 intro r0 r
 refine and_k r ?_
 clear r
 intro r1 r2
 obtain rfl := repCop_inv r0
 refine bind2_k h ?_
 clear h
 intro a σ₁ e1 h
 refine bind2_k h ?_
 clear h
 intro b σ₂ e2 h
 refine bind_k h ?_
 clear h
 intro c' hc h
 cases h
 refine wpAny_Compare1 (wpAny_mono (h1 _ r1 ρ σ a σ₁ ι s e1 S) (fun c s₁ z => ?_) fun _ _ x => x) (rep_marks r2)
 refine Ans_k z ?_
 clear z
 intro ι₁ t₁ S₁ v₁
 refine wpAny_mono (h2 _ r2 ρ σ₁ b σ₂ ι₁ s₁ e2 S₁) (fun d s₂ z => ?_) fun _ _ x => x
 refine Ans_k z ?_
 clear z
 intro ι₂ t₂ S₂ v₂
 exact cmp_any F S₂.sim hc (v₁.up (t₂.up S₁)) v₂ ⟨ι₂, t₁.trans t₂ S₂.sep, S₂, rfl⟩
noncomputable def SoT (B : Base) (C : RC) (fd : FuncData) (L fa : Addr) (A : Around) (T : Tab) (cf : CF) (x : Ex) (e : Expr) : Prop :=
 ∀ ρ σ b σ' ι s, ev T cf x ρ σ = some (.bool b, σ') → SL B C.ns L ι σ ρ s →
  wpAny (model B.prog B.w) A (isTrue e (callEnv fd L fa) (eval e (callEnv fd L fa))) (fun c => Ans B C L ι σ s σ' ρ fun _ _ => c = b) NoE s
theorem st_plain {x : Ex} {e : Expr} (h1 : SoE B C fd L fa A T cf x e) (he : isTrue e (callEnv fd L fa) (eval e (callEnv fd L fa)) = (do let v ← eval e (callEnv fd L fa); standAt e.pos; holding [v] (truthy v))) : SoT B C fd L fa A T cf x e := by
 intro ρ σ b σ' ι s h S
 refine isTrue_plain (wpAny_mono (h1 ρ σ _ σ' ι s h S) (fun v s₁ z => ?_) fun _ _ x => x) he
 refine Ans_k z ?_
 clear z
 intro ι₁ t₁ S₁ v₁
 cases v₁
 exact wpAny_truthy_bool ⟨ι₁, t₁, S₁, rfl⟩
theorem st_cmp {op : Cop} {x y : Ex} {e : Expr} (F : FrOk B C fd L fa A) (r : rep C (.cmp op x y) e = true) (h1 : ∀ z, rep C x z = true → SoE B C fd L fa A T cf x z) (h2 : ∀ z, rep C y z = true → SoE B C fd L fa A T cf y z) :
  SoT B C fd L fa A T cf (.cmp op x y) e := by
 intro ρ σ bb σ' ι s h S
 refine onCmp_k r ?_
 clear r
 intro p os ys pos hq5 r
 subst hq5
 refine on1_k r ?_
 clear r
 intro o hq6 r
 subst hq6
 refine on1_k r ?_
 clear r
 intro q hq7 r
 subst hq7
 refine and_k r ?_
 clear r
 intro r0 r
 refine and_k r ?_
 clear r
 intro r1 r2
 obtain rfl := repCop_inv r0
 refine bind2_k h ?_
 clear h
 intro a σ₁ e1 h
 refine bind2_k h ?_
 clear h
 intro b σ₂ e2 h
 refine bind_k h ?_
 clear h
 intro c' hc h
 cases h
 refine wpAny_isTrue_Compare1 (wpAny_mono (h1 _ r1 ρ σ a σ₁ ι s e1 S) (fun c s₁ z => ?_) fun _ _ x => x) (rep_marks r2)
 refine Ans_k z ?_
 clear z
 intro ι₁ t₁ S₁ v₁
 refine wpAny_mono (h2 _ r2 ρ σ₁ b σ₂ ι₁ s₁ e2 S₁) (fun d s₂ z => ?_) fun _ _ x => x
 refine Ans_k z ?_
 clear z
 intro ι₂ t₂ S₂ v₂
 exact cmp_any F S₂.sim hc (v₁.up (t₂.up S₁)) v₂ (wpAny_truthy_bool ⟨ι₂, t₁.trans t₂ S₂.sep, S₂, rfl⟩)
theorem st_isN {x : Ex} {e : Expr} (r : rep C (.isN x) e = true) (h0 : ∀ y, rep C x y = true → SoE B C fd L fa A T cf x y) : SoT B C fd L fa A T cf (.isN x) e := by
 intro ρ σ bb σ' ι s h S
 refine onCmp_k r ?_
 clear r
 intro y os ys pos hq8 r
 subst hq8
 refine on1_k r ?_
 clear r
 intro o hq9 r
 subst hq9
 refine on1_k r ?_
 clear r
 intro c hq10 r
 subst hq10
 refine and_k r ?_
 clear r
 intro ro r
 refine and_k r ?_
 clear r
 intro rc r
 obtain rfl := isIs_inv ro
 refine onConst_k rc ?_
 clear rc
 intro c k p hq11 rc
 subst hq11
 obtain rfl := isCN_inv rc
 refine bind2_k h ?_
 clear h
 intro v₁ σ₁ e1 h
 cases h
 refine wpAny_isTrue_Compare1 (wpAny_mono (h0 y r ρ σ v₁ σ₁ ι s e1 S) (fun c s₁ z => ?_) fun _ _ x => x) rfl
 refine Ans_k z ?_
 clear z
 intro ι₁ t₁ S₁ r₁
 exact wpAny_pure (a := Value.none) (is_none_gen (wpAny_truthy_bool ⟨ι₁, t₁, S₁, none_rel r₁⟩))
theorem st_not {x : Ex} {e : Expr} (r : rep C (.not x) e = true) (h1 : ∀ y, rep C x y = true → SoT B C fd L fa A T cf x y) : SoT B C fd L fa A T cf (.not x) e := by
 intro ρ σ bb σ' ι s h S
 refine onUn_k r ?_
 clear r
 intro o y pos hq16 r
 subst hq16
 refine and_k r ?_
 clear r
 intro ro r
 obtain rfl := isNotO_inv ro
 refine bind2_k h ?_
 clear h
 intro v₁ σ₁ e1 h
 refine bind_k h ?_
 clear h
 intro b hb h
 obtain rfl := asBool_inv hb
 cases h
 refine isTrue_not (wpAny_mono (h1 y r ρ σ _ σ₁ ι s e1 S) (fun c s₁ z => ?_) fun _ _ x => x)
 refine Ans_k z ?_
 clear z
 intro ι₁ t₁ S₁ hq17
 subst hq17
 exact ⟨ι₁, t₁, S₁, rfl⟩
end
end Mine
end
section
open PySem PySem.W PyProof.Rows PySem.Calls PySem.Spec
namespace Mine
theorem pick_upto (items : Array Value) (b : Nat) : slicePick items none (some b) none = (items.toList.take b).toArray := by
 by_cases h : b ≤ items.size
 ·exact slicePick_upto items b h
 ·have e : sliceBounds none (some (b : Int)) none items.size = sliceBounds none (some (items.size : Int)) none items.size := by
   simp only [sliceBounds, Option.getD_none]
   have h1 : ¬ ((b : Int) < 0) := by lia
   have h2 : ¬ ((items.size : Int) < 0) := by lia
   simp only [h1, h2, if_false, show (1 : Int) > 0 by decide, if_true]
   congr 2
   lia
  have e2 : slicePick items none (some b) none = slicePick items none (some items.size) none := by unfold slicePick; rw [e]
  rw [e2, slicePick_upto items items.size (Nat.le_refl _), List.take_of_length_le (by simp), List.take_of_length_le (by simp; lia)]
theorem pick_run2 (items : Array Value) (a b : Nat) : slicePick items (some a) (some b) none = ((items.toList.take b).drop a).toArray := by
 have e : sliceBounds (some (a : Int)) (some (b : Int)) none items.size = (((min a items.size : Nat) : Int), ((min b items.size : Nat) : Int), 1) := by
  simp only [sliceBounds, Option.getD_none]
  have h1 : ¬ ((a : Int) < 0) := by lia
  have h2 : ¬ ((b : Int) < 0) := by lia
  simp only [h1, h2, if_false, show (1 : Int) > 0 by decide, if_true]
  congr 1
  ·lia
  ·congr 1; lia
 unfold slicePick
 rw [e]
 simp only [sliceRange_one, pick_run]
 apply congrArg
 rw [List.drop_take]
 have hl : items.toList.length = items.size := Array.length_toList
 by_cases ha : a ≤ items.size
 ·rw [Nat.min_eq_left ha]
  by_cases hb : b ≤ items.size
  ·rw [Nat.min_eq_left hb]
  ·rw [Nat.min_eq_right (Nat.le_of_lt (Nat.lt_of_not_le hb)), List.take_of_length_le (by simp), List.take_of_length_le (by simp; lia)]
 ·rw [Nat.min_eq_right (Nat.le_of_lt (Nat.lt_of_not_le ha)), List.drop_of_length_le (by lia), List.drop_of_length_le (by lia)]; simp
section
variable {B : Base} {C : RC} {fd : FuncData} {L fa : Addr} {A : Around} {T : Tab} {cf : CF}
variable {ι : Nat → Addr} {σ : St} {ρ : Lc} {s : Shared}
theorem listA_rel {v : AV} {xs : List AV} {c : Value} (S : Sim B ι σ s) (h : listA v σ = some xs) (r : RelV ι σ.nx s.heap v c) :
  ∃ a vs k, v = .ref a ∧ a < σ.nx ∧ σ.ob a = .list xs ∧ c = .ref (ι a) ∧ s.heap.get? (ι a) = some (listOf vs k) ∧ RelVs ι σ.nx s.heap xs vs.toList ∧ xs.length ≤ LIM := by
 refine bind_k h ?_
 clear h
 intro a ha h
 obtain rfl := asRef_inv ha
 obtain ⟨l, rfl⟩ := r
 obtain ⟨vs, k, g, q, hz⟩ := list_at S l h
 exact ⟨a, vs, k, rfl, l, asList_inv h, rfl, g, q, hz⟩
theorem lstA_rel (S : Sim B ι σ s) {v : AV} {c : Value} {xs : List AV} (h : lstA v σ = some xs) (r : RelV ι σ.nx s.heap v c) :
  ∃ b vs k, c = .ref b ∧ s.heap.get? b = some (listOf vs k) ∧ RelVs ι σ.nx s.heap xs vs.toList ∧ xs.length ≤ LIM := by
 unfold lstA at h
 cases hk : asKR v with
 | some a =>
  rw [hk] at h
  obtain rfl := asKR_inv hk
  obtain ⟨vs, k, g, q, hz⟩ := S.lst a xs h
  exact ⟨a, vs, k, r.1, S.base _ _ g, q _ _ _, hz⟩
 | none =>
  rw [hk] at h
  obtain ⟨a, vs, k, _, _, _, e, g, q, hz⟩ := listA_rel S h r
  exact ⟨_, vs, k, e, g, q, hz⟩
theorem slice_end {value : Expr} {lo hi : Option Expr} {p : Pos} {l : Addr} {vs : Array Value} {k : Nat} {vl vu : Value} {a b : Option Int} {Q : Value → Shared → Prop}
  (g : s.heap.get? l = some (listOf vs k)) (pl : IsPart vl a) (pu : IsPart vu b) (hz : vs.size ≤ sizeLine)
  (h : Q (.ref (s.heap.objs.size + 1)) { s with heap := (s.heap.push { cls := .type "slice", data := .fields #[vl, vu, .none] }).push { cls := .type "list", data := .seq (slicePick vs a b none) } }) :
  wpAny (model B.prog B.w) A (subscriptTail value (.Slice lo hi none p) (.ref l) (.ref s.heap.objs.size)) Q NoE { s with heap := s.heap.push { cls := .type "slice", data := .fields #[vl, vu, .none] } } := by
 have hl : s.heap.IsList l vs := ⟨_, g, rfl, _, rfl⟩
 refine tail_any (T := "list") (Heap.IsList.typeIs (s := { s with heap := s.heap.push { cls := .type "slice", data := .fields #[vl, vu, .none] } }) (hl.push _)) slot_list_getitem.lookup
  (wpAny_getItem_list_slice (hl.push _) (Heap.IsSliceOf.new ..) pl pu .none (by simp) ?_ hz) rfl
 rw [Heap.size_push]
 exact h
theorem sl_size {xs : List AV} {vs : Array Value} {n h} (q : RelVs ι n h xs vs.toList) (hl : xs.length ≤ LIM) : vs.size ≤ sizeLine := by
 have := q.length
 rw [Array.length_toList] at this
 rw [this]; exact Nat.le_trans hl lim_size
theorem Ans.slice {P : (Nat → Addr) → Shared → Prop} (S : SL B C.ns L ι σ ρ s) {vl vu : Value} {ys : List AV} {us : Array Value} (hu : ∃ n h, RelVs ι n h ys us.toList ∧ n = σ.nx ∧ h = s.heap) (hl : ys.length ≤ LIM)
  (p : P (ext1 ι σ.nx (s.heap.objs.size + 1)) { s with heap := (s.heap.push { cls := .type "slice", data := .fields #[vl, vu, .none] }).push { cls := .type "list", data := .seq us } }) :
  Ans B C L ι σ s (σ.new (.list ys)) ρ P { s with heap := (s.heap.push { cls := .type "slice", data := .fields #[vl, vu, .none] }).push { cls := .type "list", data := .seq us } } := by
 obtain ⟨_, _, q, rfl, rfl⟩ := hu
 obtain ⟨t₃, S₃⟩ := Tr.fr0 S (Tr.push (L := none) { cls := .type "slice", data := .fields #[vl, vu, .none] } s.toks) (S.sim.push _ s.toks)
 have u := t₃.up S
 have e : (s.heap.push { cls := .type "slice", data := .fields #[vl, vu, .none] }).objs.size = s.heap.objs.size + 1 := by simp
 refine Ans.trans t₃ (Ans.alloc (P := P) S₃ s.toks (o := { cls := .type "list", data := .seq us }) rfl (fun u2 => ⟨_, _, Heap.get?_push_size _ rfl, (q.up u).up u2, hl⟩) ?_) fun _ _ p => p
 dsimp only
 rw [e]; exact p
theorem so_slcL {x y : Ex} {e : Expr} (F : FrOk B C fd L fa A) (r : rep C (.slcL x y) e = true) (h1 : ∀ z, rep C x z = true → SoE B C fd L fa A T cf x z) (h2 : ∀ z, rep C y z = true → SoE B C fd L fa A T cf y z) :
  SoE B C fd L fa A T cf (.slcL x y) e := by
 intro ρ σ v σ' ι s h S
 refine onSub_k r ?_
 clear r
 intro p q pos1 hq18 r
 subst hq18
 refine onSlice_k r ?_
 clear r
 intro lo hi st pos2 hq19 r
 subst hq19
 refine onN_k r ?_
 clear r
 intro hq20 r
 subst hq20
 refine onN_k r ?_
 clear r
 intro hq21 r
 subst hq21
 refine onS_k r ?_
 clear r
 intro hi hq22 r
 subst hq22
 have r := and_inv r
 refine bind2_k h ?_
 clear h
 intro a σ₁ e1 h
 refine bind2_k h ?_
 clear h
 intro b σ₂ e2 h
 refine bind_k h ?_
 clear h
 intro k hk h
 refine bind_k h ?_
 clear h
 intro xs hxs h
 refine ite_k h ?_
 clear h
 intro hb h
 obtain rfl := asInt_inv hk
 cases h
 refine Subscript_ (wpAny_mono (h1 _ r.1 ρ σ a σ₁ ι s e1 S) (fun c s₁ z => ?_) fun _ _ x => x)
 refine Ans_k z ?_
 clear z
 intro ι₁ t₁ S₁ v₁
 refine wpAny_Slice (wpAny_pure (a := Value.none) (wpAny_mono (h2 _ r.2 ρ σ₁ _ σ₂ ι₁ s₁ e2 S₁) (fun d s₂ z => ?_) fun _ _ x => x))
 refine Ans_k z ?_
 clear z
 intro ι₂ t₂ S₂ w23
 obtain ⟨t, rfl⟩ := w23
 refine wpAny_pure (a := Value.none) ?_
 obtain ⟨b', vs, m, rfl, g, q, hz⟩ := lstA_rel S₂.sim hxs (v₁.up (t₂.up S₁))
 obtain ⟨k, rfl⟩ := Int.eq_ofNat_of_zero_le hb
 refine slice_end g .none (.int (k : Int) t) (sl_size q hz) ?_
 refine Ans.trans (t₁.trans t₂ S₂.sep) (Ans.slice (P := fun ι' s' => RelV ι' (σ₂.nx + 1) s'.heap (.ref σ₂.nx) (.ref (s₂.heap.objs.size + 1))) S₂ ⟨_, _, ?_, rfl, rfl⟩ (Nat.le_trans (List.length_take_le' ..) hz) new_ref) fun _ _ p => p
 rw [pick_upto]
 exact q.take k
theorem so_slc {x y y' : Ex} {e : Expr} (F : FrOk B C fd L fa A) (r : rep C (.slc x y y') e = true) (h1 : ∀ z, rep C x z = true → SoE B C fd L fa A T cf x z) (h2 : ∀ z, rep C y z = true → SoE B C fd L fa A T cf y z)
  (h3 : ∀ z, rep C y' z = true → SoE B C fd L fa A T cf y' z) : SoE B C fd L fa A T cf (.slc x y y') e := by
 intro ρ σ v σ' ι s h S
 refine onSub_k r ?_
 clear r
 intro p q pos1 hq30 r
 subst hq30
 refine onSlice_k r ?_
 clear r
 intro lo hi st pos2 hq31 r
 subst hq31
 refine onN_k r ?_
 clear r
 intro hq32 r
 subst hq32
 refine onS_k r ?_
 clear r
 intro lo hq33 r
 subst hq33
 refine onS_k r ?_
 clear r
 intro hi hq34 r
 subst hq34
 refine and_k r ?_
 clear r
 intro r1 r
 refine and_k r ?_
 clear r
 intro r2 r3
 refine bind2_k h ?_
 clear h
 intro a σ₁ e1 h
 refine bind2_k h ?_
 clear h
 intro b σ₂ e2 h
 refine bind2_k h ?_
 clear h
 intro b' σ₃ e3 h
 refine bind_k h ?_
 clear h
 intro k hk h
 refine bind_k h ?_
 clear h
 intro k' hk' h
 refine bind_k h ?_
 clear h
 intro xs hxs h
 obtain ⟨⟨hb1, hb2⟩, hE⟩ := ite_inv h
 obtain rfl := asInt_inv hk
 obtain rfl := asInt_inv hk'
 cases hE
 refine Subscript_ (wpAny_mono (h1 _ r1 ρ σ a σ₁ ι s e1 S) (fun c s₁ z => ?_) fun _ _ x => x)
 refine Ans_k z ?_
 clear z
 intro ι₁ t₁ S₁ v₁
 refine wpAny_Slice (wpAny_mono (h2 _ r2 ρ σ₁ _ σ₂ ι₁ s₁ e2 S₁) (fun d s₂ z => ?_) fun _ _ x => x)
 refine Ans_k z ?_
 clear z
 intro ι₂ t₂ S₂ w35
 obtain ⟨t, rfl⟩ := w35
 refine wpAny_mono (h3 _ r3 ρ σ₂ _ σ₃ ι₂ s₂ e3 S₂) (fun d' s₃ z => ?_) fun _ _ x => x
 refine Ans_k z ?_
 clear z
 intro ι₃ t₃ S₃ w36
 obtain ⟨t', rfl⟩ := w36
 refine wpAny_pure (a := Value.none) ?_
 obtain ⟨a', vs, m, rfl, l, e3, rfl, g, q, hz⟩ := listA_rel S₃.sim hxs ((v₁.up (t₂.up S₁)).up (t₃.up S₂))
 obtain ⟨k, rfl⟩ := Int.eq_ofNat_of_zero_le hb1
 obtain ⟨k', rfl⟩ := Int.eq_ofNat_of_zero_le hb2
 refine slice_end g (.int (k : Int) t) (.int (k' : Int) t') (sl_size q hz) ?_
 refine Ans.trans ((t₁.trans t₂ S₂.sep).trans t₃ S₃.sep) (Ans.slice (P := fun ι' s' => RelV ι' (σ₃.nx + 1) s'.heap (.ref σ₃.nx) (.ref (s₃.heap.objs.size + 1))) S₃ ⟨_, _, ?_, rfl, rfl⟩
  (Nat.le_trans (by rw [List.length_drop]; exact Nat.le_trans (Nat.sub_le ..) (List.length_take_le' ..)) hz) new_ref) fun _ _ p => p
 rw [pick_run2]
 exact (q.take k').drop k
end
end Mine
end
section
open PySem PySem.W PyProof.Rows PySem.Calls PySem.Spec
namespace Mine
theorem setItem_exact {prog : Program} {w : World} {A : Around} {E : Value → Shared → Prop} {s : Shared} {l : Addr} {items : Array Value} {n : Nat} {k : Int} {t : Tok} {v : Value} {Q : Unit → Shared → Prop} (ho : s.heap.get? l = some (listOf items n))
  (h0 : 0 ≤ k) (hfit : k < 2 ^ 63) (hn : k < items.size)
  (hQ : ∀ h' n', h'.get? l = some (listOf (items.setIfInBounds k.toNat v) n') → Heap.SameBut l s.heap h' → Q () { s with heap := h' }) :
  wpAny (model prog w) A (setItem (.ref l) (.int k t) v) Q E s := by
 have hl : s.heap.IsList l items := ⟨_, ho, rfl, _, rfl⟩
 unfold setItem
 refine wpAny_holding ?_
 refine wpAny_bind (wpAny_sequenceKey hl.typeIs (by decide) ?_)
 refine wpAny_bind (wpAny_callSpecial?_slot (name := Str.ofString "__setitem__") hl.typeIs slot_list_setitem
  (wpAny_call_entry slot_list_setitem hl.typeIs entry_list_setitem ?_ (args_list_setitem _ _ _)))
 show wpAny _ _ (Builtin.List.listSubscript? (.int k t) >>= _) _ _ s
 refine wpAny_bind (wpAny_listSubscript_int (fitsIndex_of h0 hfit) ?_)
 clear hfit
 obtain ⟨j, rfl⟩ := Int.eq_ofNat_of_zero_le h0
 have hj : j < items.size := by lia
 have hx' : items[j]? = some items[j] := Array.getElem?_eq_getElem hj
 show wpAny _ _ ((seqItemAt l j >>= fun r => pure (r.map (j, ·))) >>= _) _ _ s
 refine wpAny_bind (wpAny_bind (wpAny_seqItemAt ho rfl (wpAny_pure ?_)))
 rw [hx']
 show wpAny _ _ (setSeqItemAt l j v >>= _) _ _ s
 have hfin := PySem.IsL.update (n := n) (items := items) ho (·.setIfInBounds j v)
 refine wpAny_bind (wpAny_setSeqItemAt ho rfl ?_)
 exact wpAny_bind (wpAny_pure (wpAny_pure ⟨.none, rfl, wpAny_pure (hQ _ _ hfin (Heap.SameBut.update ..))⟩))
theorem at_spec {i : Int} {n j : Nat} (h : at? i n = some j) : i = (j : Int) ∧ j < n := by
 obtain ⟨⟨h1, h2⟩, h⟩ := ite_inv h
 cases h; lia
theorem lim_63 : (LIM : Int) < 2 ^ 63 := by decide
section
variable {B : Base} {C : RC} {fd : FuncData} {L fa : Addr} {A : Around} {T : Tab} {cf : CF}
variable {ι : Nat → Addr} {σ : St} {ρ : Lc} {s : Shared}
theorem notSl_sub {y : Expr} (h : notSl y = true) (o i : Value) : subscripted y false o i = operate [o, i] (getItem o i) := by
 exact (by apply Expr.casesOn (motive_1 := fun y => notSl y = true → subscripted y false o i = operate [o, i] (getItem o i)) y <;> intros <;> first | rfl | exact absurd ‹_› Bool.false_ne_true : notSl y = true → subscripted y false o i = operate [o, i] (getItem o i)) h
theorem PairsR.length {K : Type} {n h} : ∀ {l : List (K × AV)} {cs : List (K × Value)}, PairsR ι n h l cs → cs.length = l.length
 | [], _, e => by simp only [PairsR] at e; subst e; rfl
 | (_, _) :: l, _, ⟨c, r, e, h1, h2⟩ => by subst e; simp [PairsR.length h2]
theorem PairsR.at {K : Type} [DecidableEq K] {n h} {k : K} : ∀ {l : List (K × AV)} {cs : List (K × Value)}, PairsR ι n h l cs →
  match l.find? (fun p => decide (p.1 = k)) with
  | some p => ∃ c, valueAt cs k = some c ∧ RelV ι n h p.2 c
  | none => valueAt cs k = none
 | [], _, e => by simp only [PairsR] at e; subst e; simp [valueAt]
 | (g, x) :: l, _, ⟨c, r, e, h1, h2⟩ => by
  subst e
  by_cases hg : g = k
  ·simp [hg, valueAt, h1]
  ·have ih := PairsR.at (k := k) h2
   simp only [List.find?_cons, hg, decide_false, valueAt] at ih ⊢
   simpa using ih
theorem dgetI_find (k : Int) : ∀ l : List (Int × AV), dgetI k l = (l.find? (fun p => decide (p.1 = k))).map (·.2)
 | [] => rfl
 | (g, v) :: r => by
  by_cases h : g = k
  ·simp [dgetI, h]
  ·simp [dgetI, h, dgetI_find k r]
theorem fget_find (k : Nat) (hk : k < NT.length) : ∀ l : List (Nat × AV), (∀ p ∈ l, p.1 < NT.length) → fget k l = ((l.map fun p => (nm p.1, p.2)).find? (fun p => decide (p.1 = nm k))).map (·.2)
 | [], _ => rfl
 | (g, v) :: r, hl => by
  have ih := fget_find k hk r fun p hp => hl p (List.mem_cons_of_mem _ hp)
  have hg := hl (g, v) List.mem_cons_self
  by_cases h : g = k
  ·simp [fget, h]
  ·have : ¬ nm g = nm k := fun e => h (nm_inj hg hk e)
   simp [fget, h, this, ih]
theorem dgetI_at {n h} {k : Int} {l : List (Int × AV)} {cs} (r : PairsR ι n h l cs) {x : AV} (e : dgetI k l = some x) : ∃ c, valueAt cs k = some c ∧ RelV ι n h x c := by
 have := r.at (k := k)
 rw [dgetI_find] at e
 cases q : l.find? (fun p => decide (p.1 = k)) with
 | none => rw [q] at e; cases e
 | some p => rw [q] at e this; cases e; exact this
theorem dgetI_none {n h} {k : Int} {l : List (Int × AV)} {cs} (r : PairsR ι n h l cs) (e : dgetI k l = none) : valueAt cs k = none := by
 have := r.at (k := k)
 rw [dgetI_find] at e
 cases q : l.find? (fun p => decide (p.1 = k)) with
 | none => rw [q] at this; exact this
 | some p => rw [q] at e; cases e
theorem list_item {xs : List AV} {vs : Array Value} {n : Nat} {h : Heap} (qv : RelVs ι n h xs vs.toList) (hz : xs.length ≤ LIM) {i : Int} {y : AV} (e : (at? i xs.length).bind (fun j => xs[j]?) = some y) :
  ∃ (j : Nat) (v : Value), i = (j : Int) ∧ j < vs.size ∧ (i : Int) < 2 ^ 63 ∧ vs[j]? = some v ∧ RelV ι n h y v := by
 refine bind_k e ?_
 clear e
 intro j hj hx
 obtain ⟨rfl, hlt⟩ := at_spec hj
 obtain ⟨v, hv, hr⟩ := qv.get hx
 have hl := qv.length
 rw [Array.length_toList] at hl
 have h63 := lim_63
 exact ⟨j, v, rfl, hl ▸ hlt, by lia, by rw [← Array.getElem?_toList]; exact hv, hr⟩
theorem sub_any (S : Sim B ι σ s) {value slice : Expr} (hsl : notSl slice = true) {x i y : AV} {c d : Value} {Q : Value → Shared → Prop} (h : subA x i σ = some y) (rx : RelV ι σ.nx s.heap x c) (ri : RelV ι σ.nx s.heap i d)
  (q : ∀ v tk, RelV ι σ.nx s.heap y v → Q v { s with toks := tk }) : wpAny (model B.prog B.w) A (subscriptTail value slice c d) Q NoE s := by
 cases x with
 | ref a =>
  obtain ⟨l, rfl⟩ := rx
  have o := S.objs a l
  replace h : subO (σ.ob a) i = some y := h
  revert h o
  cases σ.ob a with
  | list xs =>
   intro o h
   obtain ⟨vs, k, g, qv, hz⟩ := o
   refine bind_k h ?_
   clear h
   intro i' hi h
   obtain rfl := asInt_inv hi
   obtain ⟨t, rfl⟩ := ri
   obtain ⟨j, v, rfl, hlt, h63, hv, hr⟩ := list_item qv hz h
   have hl : s.heap.IsList (ι a) vs := ⟨_, g, rfl, _, rfl⟩
   exact tail_any hl.typeIs slot_list_getitem.lookup (wpAny_getItem_list hl (Int.natCast_nonneg j) h63 (x := v) hv (q v s.toks hr)) (notSl_sub hsl _ _)
  | idict kvs =>
   intro o h
   obtain ⟨cs, hd, hp⟩ := o
   refine bind_k h ?_
   clear h
   intro i' hi h
   obtain rfl := asInt_inv hi
   obtain ⟨t, rfl⟩ := ri
   obtain ⟨v, hv, hr⟩ := dgetI_at hp h
   exact tail_any hd.typeIs slot_dict_getitem.lookup (wpAny_getItem_of (intKind_is _ _ _ _) hd.mapOf hv (q v _ hr)) (notSl_sub hsl _ _)
  | sdict kvs =>
   intro o h
   obtain ⟨cs, kvs', hd, hp, hk, hn⟩ := o
   refine bind_k h ?_
   clear h
   intro i' hi h2
   obtain rfl := asStr_inv hi
   obtain ⟨hi, t, rfl⟩ := ri
   rw [fget_find i' hi kvs hn, ← hk] at h2
   have hat := hp.at (k := nm i')
   cases qf : kvs'.find? (fun p => decide (p.1 = nm i')) with
   | none => rw [qf] at h2; cases h2
   | some p =>
    rw [qf] at h2 hat
    cases h2
    obtain ⟨v, hv, hr⟩ := hat
    exact tail_any hd.typeIs slot_dict_getitem.lookup (wpAny_getItem_of (strKind_is _ _ _ _) hd.mapOf hv (q v _ hr)) (notSl_sub hsl _ _)
  | _ => intro o h; cases h
 | tup xs =>
  refine bind_k h ?_
  clear h
  intro i' hi h
  obtain rfl := asInt_inv hi
  obtain ⟨a, vs, rfl, ht, hr, hz⟩ := rx
  obtain ⟨t, rfl⟩ := ri
  obtain ⟨j, v, rfl, hlt, h63, hv, hrv⟩ := list_item (vs := vs.toArray) hr (Nat.le_of_lt hz) h
  have hsi : seqIndex? (j : Int) vs.length = some j := by
   unfold seqIndex?
   have a1 : ¬ ((j : Int) < 0) := by lia
   have a2 : j < vs.length := hlt
   simp [a1, a2]
  rw [List.getElem?_toArray] at hv
  exact item_tupleT ht (by lia) h63 hsi hv (q v s.toks hrv) (notSl_sub hsl _ _)
 | _ => cases h
theorem so_sub {x y : Ex} {e : Expr} (F : FrOk B C fd L fa A) (r : rep C (.sub x y) e = true) (h1 : ∀ z, rep C x z = true → SoE B C fd L fa A T cf x z) (h2 : ∀ z, rep C y z = true → SoE B C fd L fa A T cf y z) :
  SoE B C fd L fa A T cf (.sub x y) e := by
 intro ρ σ v σ' ι s h S
 refine onSub_k r ?_
 clear r
 intro p q pos hq37 r
 subst hq37
 refine and_k r ?_
 clear r
 intro r0 r
 refine and_k r ?_
 clear r
 intro r1 r2
 refine bind2_k h ?_
 clear h
 intro a σ₁ e1 h
 refine bind2_k h ?_
 clear h
 intro b σ₂ e2 h
 refine bind_k h ?_
 clear h
 intro w hy h
 cases h
 refine Subscript_ (wpAny_mono (h1 _ r1 ρ σ a σ₁ ι s e1 S) (fun c s₁ z => ?_) fun _ _ x => x)
 refine Ans_k z ?_
 clear z
 intro ι₁ t₁ S₁ v₁
 refine wpAny_mono (h2 _ r2 ρ σ₁ b σ₂ ι₁ s₁ e2 S₁) (fun d s₂ z => ?_) fun _ _ x => x
 refine Ans_k z ?_
 clear z
 intro ι₂ t₂ S₂ v₂
 refine sub_any S₂.sim r0 hy (v₁.up (t₂.up S₁)) v₂ fun u tk hr => ?_
 exact Ans.trans (t₁.trans t₂ S₂.sep) (Ans.same (P := fun ι' s' => RelV ι' σ₂.nx s'.heap v u) S₂ rfl rfl rfl hr) fun _ _ p => p
end
end Mine
end
section
open PySem PySem.W PyProof.Rows PySem.Calls PySem.Spec
namespace Mine
section
variable {B : Base} {C : RC} {fd : FuncData} {L fa : Addr} {A : Around} {T : Tab} {cf : CF}
variable {ι : Nat → Addr} {σ : St} {ρ : Lc} {s : Shared}
noncomputable def SoL (P : Ex → Expr → Prop) : List Ex → List Expr → Prop
 | [], [] => True
 | x :: l, e :: r => P x e ∧ SoL P l r
 | _, _ => False
theorem isAndO_inv {a : Bool} {o : BoolOp} (h : isAndO a o = true) : (a = true ∧ o = .And) ∨ (a = false ∧ o = .Or) := by
 cases a <;> cases o <;> first | exact .inl ⟨rfl, rfl⟩ | exact .inr ⟨rfl, rfl⟩ | cases h
theorem bop_end {a : Bool} {o : BoolOp} (ho : isAndO a o = true) (pos : Pos) : ∀ {xs : List Ex} {es : List Expr}, SoL (SoE B C fd L fa A T cf) xs es →
  ∀ ρ σ v σ' ι s, evb T cf a xs ρ σ = some (v, σ') → SL B C.ns L ι σ ρ s → wpAny (model B.prog B.w) A (boolOp pos o (evalEach es (callEnv fd L fa))) (fun c => Ans B C L ι σ s σ' ρ fun ι' s' => RelV ι' σ'.nx s'.heap v c) NoE s
 | [], _, _, ρ, σ, v, σ', ι, s, h, S => by cases h
 | _ :: _, [], hs, ρ, σ, v, σ', ι, s, h, S => hs.elim
 | [x], e :: es, hs, ρ, σ, v, σ', ι, s, h, S => by
  cases es with
  | cons => exact hs.2.elim
  | nil =>
   refine bind2_k h ?_
   clear h
   intro w σ₁ e1 h
   refine bind_k h ?_
   clear h
   intro b hb h
   obtain rfl := asBool_inv hb
   cases h
   exact hs.1 ρ σ _ σ₁ ι s e1 S
 | x :: x' :: xs, e :: es, hs, ρ, σ, v, σ', ι, s, h, S => by
  cases es with
  | nil => exact hs.2.elim
  | cons e' es =>
   have ih := bop_end ho pos hs.2
   refine bind2_k h ?_
   clear h
   intro w σ₁ e1 h
   refine bind_k h ?_
   clear h
   intro b hb h
   obtain rfl := asBool_inv hb
   show wpAny _ A (boolOp pos o (eval e (callEnv fd L fa) :: eval e' (callEnv fd L fa) :: evalEach es (callEnv fd L fa))) _ NoE s
   unfold boolOp
   refine wpAny_bind (wpAny_mono (hs.1 ρ σ _ σ₁ ι s e1 S) (fun c s₁ z => ?_) fun _ _ x => x)
   refine Ans_k z ?_
   clear z
   intro ι₁ t₁ S₁ v₁
   cases v₁
   refine wpAny_bind (wpAny_standAt (wpAny_bind (wpAny_holding (wpAny_truthy_bool ?_))))
   have go : evb T cf a (x' :: xs) ρ σ₁ = some (v, σ') → wpAny (model B.prog B.w) A (boolOp pos o (eval e' (callEnv fd L fa) :: evalEach es (callEnv fd L fa))) (fun c => Ans B C L ι σ s σ' ρ fun ι' s' => RelV ι' σ'.nx s'.heap v c) NoE s₁ := fun h =>
    wpAny_mono (ih ρ σ₁ v σ' ι₁ s₁ h S₁) (fun c s₂ z => Ans.trans t₁ z fun _ _ p => p) fun _ _ x => x
   have stop : some (AV.bool b, σ₁) = some (v, σ') → wpAny (model B.prog B.w) A (pure (Value.bool b)) (fun c => Ans B C L ι σ s σ' ρ fun ι' s' => RelV ι' σ'.nx s'.heap v c) NoE s₁ := fun h => by
    cases h; exact wpAny_pure ⟨ι₁, t₁, S₁, rfl⟩
   rcases isAndO_inv ho with ⟨rfl, rfl⟩ | ⟨rfl, rfl⟩
   ·cases b
    ·exact stop h
    ·exact go h
   ·cases b
    ·exact go h
    ·exact stop h
theorem so_bop {a : Bool} {xs : List Ex} {e : Expr} (r : rep C (.bop a xs) e = true) (h2 : ∀ es, reps C xs es = true → SoL (SoE B C fd L fa A T cf) xs es) : SoE B C fd L fa A T cf (.bop a xs) e := by
 intro ρ σ v σ' ι s h S
 refine onBool_k r ?_
 clear r
 intro o es pos hq38 r
 subst hq38
 have r := and_inv r
 rw [arm_eval_BoolOp]
 exact bop_end r.1 pos (h2 es r.2) ρ σ v σ' ι s h S
theorem allT_end {a : Bool} {o : BoolOp} (ho : isAndO a o = true) : ∀ {xs : List Ex} {es : List Expr}, SoL (SoT B C fd L fa A T cf) xs es →
  ∀ ρ σ b σ' ι s, evb T cf a xs ρ σ = some (.bool b, σ') → SL B C.ns L ι σ ρ s → wpAny (model B.prog B.w) A (allTrue o es (callEnv fd L fa)) (fun c => Ans B C L ι σ s σ' ρ fun _ _ => c = b) NoE s
 | [], _, _, ρ, σ, v, σ', ι, s, h, S => by cases h
 | _ :: _, [], hs, ρ, σ, v, σ', ι, s, h, S => hs.elim
 | [x], e :: es, hs, ρ, σ, v, σ', ι, s, h, S => by
  cases es with
  | cons => exact hs.2.elim
  | nil =>
   refine bind2_k h ?_
   clear h
   intro w σ₁ e1 h
   refine bind_k h ?_
   clear h
   intro b hb h
   obtain rfl := asBool_inv hb
   cases h
   have this := hs.1 ρ σ _ σ₁ ι s e1 S
   rcases isAndO_inv ho with ⟨rfl, rfl⟩ | ⟨rfl, rfl⟩
   ·refine wpAny_allTrue_And_cons (wpAny_mono this (fun c s₁ z => ?_) fun _ _ x => x)
    refine Ans_k z ?_
    clear z
    intro ι₁ t₁ S₁ hq39
    subst hq39
    cases c
    ·exact ⟨ι₁, t₁, S₁, rfl⟩
    ·exact wpAny_allTrue_And_nil ⟨ι₁, t₁, S₁, rfl⟩
   ·refine wpAny_allTrue_Or_cons (wpAny_mono this (fun c s₁ z => ?_) fun _ _ x => x)
    refine Ans_k z ?_
    clear z
    intro ι₁ t₁ S₁ hq40
    subst hq40
    cases c
    ·exact wpAny_allTrue_Or_nil ⟨ι₁, t₁, S₁, rfl⟩
    ·exact ⟨ι₁, t₁, S₁, rfl⟩
 | x :: x' :: xs, e :: es, hs, ρ, σ, v, σ', ι, s, h, S => by
  cases es with
  | nil => exact hs.2.elim
  | cons e' es =>
   have ih := allT_end ho hs.2
   refine bind2_k h ?_
   clear h
   intro w σ₁ e1 h
   refine bind_k h ?_
   clear h
   intro b hb h
   obtain rfl := asBool_inv hb
   have this := hs.1 ρ σ _ σ₁ ι s e1 S
   rcases isAndO_inv ho with ⟨rfl, rfl⟩ | ⟨rfl, rfl⟩
   ·refine wpAny_allTrue_And_cons (wpAny_mono this (fun c s₁ z => ?_) fun _ _ x => x)
    refine Ans_k z ?_
    clear z
    intro ι₁ t₁ S₁ hq41
    subst hq41
    cases c
    ·cases h; exact ⟨ι₁, t₁, S₁, rfl⟩
    ·exact wpAny_mono (ih ρ σ₁ v σ' ι₁ s₁ h S₁) (fun c s₂ z => Ans.trans t₁ z fun _ _ p => p) fun _ _ x => x
   ·refine wpAny_allTrue_Or_cons (wpAny_mono this (fun c s₁ z => ?_) fun _ _ x => x)
    refine Ans_k z ?_
    clear z
    intro ι₁ t₁ S₁ hq42
    subst hq42
    cases c
    ·exact wpAny_mono (ih ρ σ₁ v σ' ι₁ s₁ h S₁) (fun c s₂ z => Ans.trans t₁ z fun _ _ p => p) fun _ _ x => x
    ·cases h; exact ⟨ι₁, t₁, S₁, rfl⟩
theorem st_bop {a : Bool} {xs : List Ex} {e : Expr} (r : rep C (.bop a xs) e = true) (h2 : ∀ es, reps C xs es = true → SoL (SoT B C fd L fa A T cf) xs es) : SoT B C fd L fa A T cf (.bop a xs) e := by
 intro ρ σ b σ' ι s h S
 refine onBool_k r ?_
 clear r
 intro o es pos hq43 r
 subst hq43
 have r := and_inv r
 rw [arm_isTrue_BoolOp]
 exact allT_end r.1 (h2 es r.2) ρ σ b σ' ι s h S
theorem blt_name (F : FrOk B C fd L fa A) (S : Sim B ι σ s) {b : Str} {f : Expr} (r : isBlt C b f = true) (hb : b ∈ (["len", "abs", "min", "range", "list"] : List Str)) {v : Value} (hv : bootBuiltins b = some v) {Q : Value → Shared → Prop} (h : Q v s) :
  wpAny (model B.prog B.w) A (eval f (callEnv fd L fa)) Q NoE s := by
 refine onName_k r ?_
 clear r
 intro x pos hq44 r
 subst hq44
 refine and_k r ?_
 clear r
 intro r1 r2
 obtain rfl := beq_iff_eq.mp r1
 have hm := F.bl x hb
 have hne : x ≠ "__name__" ∧ (x == ("__debug__" : Str)) = false := by
  simp only [List.mem_cons, List.mem_nil_iff, or_false] at hb
  rcases hb with rfl | rfl | rfl | rfl | rfl <;> decide
 refine Name_function_global (env := callEnv fd L fa) F.kind ?_ (loadGlobal_builtin (mg := B.mg) (mb := B.mb) ?_ hm ?_ ((F.good.builtins x hne.1).trans hv) h) hne.2
 ·show fd.scope.names.lookup x = _
  rw [F.sc]; exact beq_iff_eq.mp r2
 ·show s.heap.Ns fd.globals B.mg
  rw [F.glob]; exact F.good.g.keeps S.base
 ·show s.heap.Ns fd.builtins B.mb
  rw [F.blt]; exact F.good.b.keeps S.base
theorem blt_arm {b : Str} {f : Expr} (r : isBlt C b f = true) (xs : List Expr) (pos : Pos) (env : Env) : eval (.Call f xs [] pos) env = (do callWith pos (← eval f env) [] (backTo pos (starEach xs env)) []) := by
 refine onName_k r ?_
 clear r
 intro x p hq45 r
 subst hq45
 rfl
theorem plain_args : ∀ {xs : List Ex} {es : List Expr} {env : Env} {pos : Pos}, reps C xs es = true → (backTo pos (starEach es env)).any (·.1) = false
 | [], _, _, _, r => by rw [reps_nil r]; rfl
 | x :: xs, _, env, pos, r => by
  refine reps_cons_k r ?_
  clear r
  intro e es hq46 r1 r2
  subst hq46
  rw [rep_plain r1]
  show (false || (backTo pos (starEach es env)).any (·.1)) = false
  rw [plain_args r2]; rfl
theorem args_so {xs : List Ex} {es : List Expr} {f : Value} {pos : Pos} {ρ σ vs σ' ι s} (r : reps C xs es = true) (h : SoEs B C fd L fa A T cf xs es) (e : evs T cf xs ρ σ = some (vs, σ')) (S : SL B C.ns L ι σ ρ s) {Q : Args → Shared → Prop}
  (q : ∀ cs s', Ans B C L ι σ s σ' ρ (fun ι' s' => RelVs ι' σ'.nx s'.heap vs cs) s' → Q ⟨cs, []⟩ s') : wpAny (model B.prog B.w) A (evalArgs f true (backTo pos (starEach es (callEnv fd L fa))) []) Q NoE s := by
 have w := h ρ σ vs σ' ι s pos e S
 cases xs with
 | nil =>
  obtain rfl := reps_nil r
  refine evalArgs_nil3 ?_
  cases e
  exact q [] s (Ans.same S rfl rfl rfl .nil)
 | cons x0 xs =>
  refine reps_cons_k r ?_
  clear r
  intro e0 es hq47 r1 r2
  subst hq47
  rw [rep_plain r1] at w ⊢
  exact evalArgs_plain (wpAny_mono w (fun cs s' z => q cs s' z) fun _ _ x => x)
theorem keeper_machine {f : Value} (hf : ∀ a, f ≠ .ref a) {M : Model} {h : Heap} : Looks M h (keeperOf f) .machine := by
 cases f <;> first | exact Looks.of_pure rfl | exact absurd rfl (hf _)
theorem call_blt (F : FrOk B C fd L fa A) {b : Str} {f : Expr} {xs : List Ex} {es : List Expr} {pos : Pos} (hb : b ∈ (["len", "abs", "min", "range", "list"] : List Str)) {v : Value} (hv : bootBuiltins b = some v) (hf : ∀ a, v ≠ .ref a) (r : isBlt C b f = true) (r2 : reps C xs es = true)
  (h : SoEs B C fd L fa A T cf xs es) {ρ σ vs σ' ι s} (e : evs T cf xs ρ σ = some (vs, σ')) (S : SL B C.ns L ι σ ρ s) {Q : Value → Shared → Prop}
  (q : ∀ cs s', Ans B C L ι σ s σ' ρ (fun ι' s' => RelVs ι' σ'.nx s'.heap vs cs) s' → wpAny (model B.prog B.w) A (call v cs) Q NoE s') : wpAny (model B.prog B.w) A (eval (.Call f es [] pos) (callEnv fd L fa)) Q NoE s := by
 rw [blt_arm r]
 refine wpAny_bind (blt_name F S.sim r hb hv ?_)
 refine callWith_of (P := fun _ => True) (by show (_ || false) = false; rw [plain_args r2]; rfl) (fun h' _ => ⟨.machine, .inr (.inl rfl), keeper_machine hf⟩) ?_
 exact args_so r2 h e S fun cs s' z => ⟨trivial, q cs s' z⟩
theorem reps1 {x : Ex} {e : Expr} (r : rep C x e = true) : reps C [x] [e] = true := by
 show (rep C x e && true) = true
 rw [r]; rfl
theorem soEs1 {x : Ex} {e : Expr} (r : rep C x e = true) (h : SoE B C fd L fa A T cf x e) : SoEs B C fd L fa A T cf [x] [e] := so_cons r h so_nil
theorem evs_step {x : Ex} {xs : List Ex} {ρ σ v σ' vs σ''} (e : ev T cf x ρ σ = some (v, σ')) (e2 : evs T cf xs ρ σ' = some (vs, σ'')) : evs T cf (x :: xs) ρ σ = some (v :: vs, σ'') := by
 show (ev T cf x ρ σ).bind _ = _
 rw [e]
 show (evs T cf xs ρ σ').bind _ = _
 rw [e2]; rfl
theorem evs1 {x : Ex} {ρ σ v σ'} (e : ev T cf x ρ σ = some (v, σ')) : evs T cf [x] ρ σ = some ([v], σ') := evs_step e rfl
theorem relVs1 {n h} {x : AV} {cs : List Value} (r : RelVs ι n h [x] cs) : ∃ a, cs = [a] ∧ RelV ι n h x a := by
 obtain ⟨a, _, rfl, h1, rfl⟩ := r
 exact ⟨a, rfl, h1⟩
theorem relVs2 {n h} {x y : AV} {cs : List Value} (r : RelVs ι n h [x, y] cs) : ∃ a b, cs = [a, b] ∧ RelV ι n h x a ∧ RelV ι n h y b := by
 obtain ⟨a, _, rfl, h1, b, _, rfl, h2, rfl⟩ := r
 exact ⟨a, b, rfl, h1, h2⟩
theorem so_len {x : Ex} {e : Expr} (F : FrOk B C fd L fa A) (r : rep C (.len x) e = true) (h1 : ∀ z, rep C x z = true → SoE B C fd L fa A T cf x z) : SoE B C fd L fa A T cf (.len x) e := by
 intro ρ σ v σ' ι s h S
 refine onBlt_k r ?_
 clear r
 intro f xs pos hq48 r0 r
 subst hq48
 refine on1_k r ?_
 clear r
 intro y hq49 r
 subst hq49
 refine bind2_k h ?_
 clear h
 intro a σ₁ e1 h
 refine bind_k h ?_
 clear h
 intro xs hl h
 cases h
 refine call_blt F (b := "len") (v := .builtin "len") (by simp) rfl (fun _ h => nomatch h) r0 (reps1 r) (soEs1 r (h1 _ r)) (evs1 e1) S fun cs s₁ z => ?_
 refine Ans_k z ?_
 clear z
 intro ι₁ t₁ S₁ v₁
 obtain ⟨c, rfl, w₁⟩ := relVs1 v₁
 obtain ⟨a', vs, k, ha, l, eo, rfl, g, q, hz⟩ := listA_rel S₁.sim hl w₁
 have hq := q.length
 rw [Array.length_toList] at hq
 have h63 := lim_63
 refine len_list ⟨_, g, rfl, _, rfl⟩ (by lia) ?_
 refine Ans.trans t₁ (Ans.same (P := fun ι' s' => RelV ι' σ₁.nx s'.heap (.int xs.length) (.int vs.size (s₁.toks + 1))) S₁ rfl rfl rfl ?_) fun _ _ p => p
 rw [hq]; exact ⟨_, rfl⟩
theorem so_abs {x : Ex} {e : Expr} (F : FrOk B C fd L fa A) (r : rep C (.abs x) e = true) (h1 : ∀ z, rep C x z = true → SoE B C fd L fa A T cf x z) : SoE B C fd L fa A T cf (.abs x) e := by
 intro ρ σ v σ' ι s h S
 refine onBlt_k r ?_
 clear r
 intro f xs pos hq50 r0 r
 subst hq50
 refine on1_k r ?_
 clear r
 intro y hq51 r
 subst hq51
 refine bind2_k h ?_
 clear h
 intro a σ₁ e1 h
 refine bind_k h ?_
 clear h
 intro i hi h
 obtain rfl := asInt_inv hi
 cases h
 refine call_blt F (b := "abs") (v := .builtin "abs") (by simp) rfl (fun _ h => nomatch h) r0 (reps1 r) (soEs1 r (h1 _ r)) (evs1 e1) S fun cs s₁ z => ?_
 refine Ans_k z ?_
 clear z
 intro ι₁ t₁ S₁ v₁
 obtain ⟨c, rfl, t, rfl⟩ := relVs1 v₁
 refine call_abs_int fun u tk => ?_
 have e : (if i < 0 then -i else i) = (i.natAbs : Int) := by split <;> lia
 rw [e]
 exact Ans.trans t₁ (Ans.same (P := fun ι' s' => RelV ι' σ₁.nx s'.heap (.int (i.natAbs : Int)) (.int (i.natAbs : Int) u)) S₁ rfl rfl rfl ⟨_, rfl⟩) fun _ _ p => p
end
end Mine
end
section
open PySem PySem.W PyProof.Rows PySem.Calls PySem.Spec
namespace Mine
section
variable {B : Base} {C : RC} {fd : FuncData} {L fa : Addr} {A : Around} {T : Tab} {cf : CF}
variable {ι : Nat → Addr} {σ : St} {ρ : Lc} {s : Shared}
theorem Tr.more {L} {h' : Heap} (hk : ∀ b o, s.heap.get? b = some o → h'.get? b = some o) (tk : Tok) : Tr L ι σ s ι σ { s with heap := h', toks := tk } :=
 ⟨fun _ _ => rfl, Nat.le_refl _, fun b o e _ _ => hk b o e, fun a h1 h2 => absurd h2 (Nat.not_lt.mpr h1), fun _ => Nat.le_refl _, fun _ _ _ _ e => hk _ _ e⟩
theorem Sim.more (S : Sim B ι σ s) {h' : Heap} (hk : ∀ b o, s.heap.get? b = some o → h'.get? b = some o) (tk : Tok) : Sim B ι σ { s with heap := h', toks := tk } := by
 have u := Tr.up0 S (Tr.more (L := none) (ι := ι) (σ := σ) (s := s) hk tk)
 refine ⟨fun a l => ?_, S.inj, fun b o' e => hk b o' (S.base b o' e), S.off, S.gens, S.os, S.lst⟩
 obtain ⟨c, e, _⟩ := (S.objs a l).at
 exact (S.objs a l).up u rfl ((hk _ _ e).trans e.symm)
theorem Ans.more {P : (Nat → Addr) → Shared → Prop} (S : SL B C.ns L ι σ ρ s) {h' : Heap} (hk : ∀ b o, s.heap.get? b = some o → h'.get? b = some o) (tk : Tok) (p : Up ι σ.nx s.heap ι σ.nx h' → P ι { s with heap := h', toks := tk }) :
  Ans B C L ι σ s σ ρ P { s with heap := h', toks := tk } := by
 obtain ⟨t, S'⟩ := Tr.fr0 S (Tr.more (L := none) hk tk) (S.sim.more hk tk)
 exact ⟨ι, t, S', p (t.up S)⟩
theorem size_none (h : Heap) : h.get? h.objs.size = none := by
 cases q : h.get? h.objs.size with
 | none => rfl
 | some o => exact absurd (Heap.lt_size q) (Nat.lt_irrefl _)
theorem so_edict {e : Expr} (r : rep C .edict e = true) : SoE B C fd L fa A T cf .edict e := by
 intro ρ σ v σ' ι s h S
 refine onDict_k r ?_
 clear r
 intro ks xs pos hq56 r
 subst hq56
 refine on0_k r ?_
 clear r
 intro hq57 r
 subst hq57
 refine on0_k r ?_
 clear r
 intro hq58 r
 subst hq58
 cases h
 rw [arm_eval_Dict]
 refine wpAny_bind (wpAny_standAt ?_)
 show wpAny _ A (dictDisplay []) _ _ s
 have e0 : dictDisplay [] = newDict := rfl
 rw [e0]
 unfold newDict
 refine wpAny_newObj_type ?_
 exact Ans.alloc (P := fun ι' s' => RelV ι' (σ.nx + 1) s'.heap (.ref σ.nx) (.ref s.heap.objs.size)) S s.toks rfl (fun u => Heap.get?_push_size _ rfl) new_ref
theorem base_eq {x : Expr} (h : isBare x = true) (n : Str) (env : Env) (t : Sem Value) : attributeBase x n env t = t := by
 exact (by apply Expr.casesOn (motive_1 := fun x => isBare x = true → attributeBase x n env t = t) x <;> intros <;> first | rfl | exact absurd ‹_› Bool.false_ne_true : isBare x = true → attributeBase x n env t = t) h
theorem so_app {x y : Ex} {e : Expr} (F : FrOk B C fd L fa A) (r : rep C (.app x y) e = true) (h1 : ∀ z, rep C x z = true → SoE B C fd L fa A T cf x z) (h2 : ∀ z, rep C y z = true → SoE B C fd L fa A T cf y z) : SoE B C fd L fa A T cf (.app x y) e := by
 intro ρ σ v σ' ι s h S
 refine onMeth_k r ?_
 clear r
 intro o n p es q hq59 r4 r1 r
 subst hq59
 refine and_k r ?_
 clear r
 intro r0 r
 refine on1_k r ?_
 clear r
 intro z hq60 rz
 subst hq60
 refine and_k rz ?_
 clear rz
 intro r2 r3
 obtain rfl := beq_iff_eq.mp r0
 refine bind2_k h ?_
 clear h
 intro a σ₁ e1 h
 refine bind_k h ?_
 clear h
 intro a ha h
 refine bind_k h ?_
 clear h
 intro xs0 eo h
 refine bind2_k h ?_
 clear h
 intro b σ₂ e2 h
 refine bind_k h ?_
 clear h
 intro xs eo2 h
 refine ite_k h ?_
 clear h
 intro hlen hE
 obtain rfl := asRef_inv ha
 cases hE
 refine wpAny_Call_method1_late (base_eq r1 _ _ _) r4 (by rw [rep_plain r3]; rfl) (wpAny_mono (h1 _ r2 ρ σ _ σ₁ ι s e1 S) (fun c s₁ zz => ?_) fun _ _ x => x)
 refine Ans_k zz ?_
 clear zz
 intro ι₁ t₁ S₁ w61
 obtain ⟨l, rfl⟩ := w61
 obtain ⟨vs, k, g, qv, hz⟩ := list_at S₁.sim l eo
 refine ⟨"list", "list.append", PySem.F.plainAttrs_list, PySem.F.slot_list_append, PySem.F.type_list_append, ⟨_, g, rfl⟩, fun b hb => by cases hb; exact ⟨_, g, rfl⟩, ?_⟩
 refine P.append_list (wpAny_mono (h2 _ r3 ρ σ₁ b σ₂ ι₁ s₁ e2 S₁) (fun d s₂ zz => ?_) fun _ _ x => x)
 refine Ans_k zz ?_
 clear zz
 intro ι₂ t₂ S₂ v₂
 have hι : ι₂ a = ι₁ a := t₂.ext a l
 have l2 : a < σ₂.nx := Nat.lt_of_lt_of_le l t₂.le
 obtain ⟨ws, k2, g2, q2, hz2⟩ := list_at S₂.sim l2 eo2
 rw [hι] at g2
 refine ⟨ws, k2, sl_size q2 hz2, g2, ?_⟩
 have sb : Heap.SameBut (ι₂ a) s₂.heap (s₂.heap.update (ι₁ a) (Obj.mapSeq fun xs => xs.push d)) := by rw [hι]; exact Heap.SameBut.update ..
 refine Ans.trans (t₁.trans t₂ S₂.sep) (Ans.update (P := fun ι' s' => RelV ι' σ₂.nx s'.heap .none .none) S₂ l2 sb s₂.toks (fun u => ?_) fun u => rfl) fun _ _ p => p
 have g3 := PySem.IsL.update (n := k2) (items := ws) g2 (fun xs => xs.push d)
 rw [hι]
 exact ⟨_, _, g3, by rw [Array.toList_push]; exact (q2.up u).append (.cons (v₂.up u) .nil), by rw [List.length_append]; exact hlen⟩
theorem pop_list_eq {vs : Array Value} (hs : vs.size - 1 < vs.size) : (vs.eraseIdxIfInBounds (vs.size - 1)).toList = vs.toList.dropLast := by
 unfold Array.eraseIdxIfInBounds
 rw [dif_pos hs, Array.toList_eraseIdx, ← Array.length_toList]
 rw [List.eraseIdx_eq_take_drop_succ, List.dropLast_eq_take]
 rw [List.drop_of_length_le (by rw [Array.length_toList]; lia), List.append_nil]
theorem so_pop {x : Ex} {e : Expr} (F : FrOk B C fd L fa A) (r : rep C (.pop x) e = true) (h1 : ∀ z, rep C x z = true → SoE B C fd L fa A T cf x z) : SoE B C fd L fa A T cf (.pop x) e := by
 intro ρ σ v σ' ι s h S
 refine onMeth_k r ?_
 clear r
 intro o n p es q hq62 r4 r1 r
 subst hq62
 refine and_k r ?_
 clear r
 intro r0 r
 refine on0_k r ?_
 clear r
 intro hq63 r2
 subst hq63
 obtain rfl := beq_iff_eq.mp r0
 refine bind2_k h ?_
 clear h
 intro a σ₁ e1 h
 refine bind_k h ?_
 clear h
 intro a ha h
 refine bind_k h ?_
 clear h
 intro xs eo h
 refine bind_k h ?_
 clear h
 intro y ey hE
 obtain rfl := asRef_inv ha
 cases hE
 refine wpAny_Call_method0_late (base_eq r1 _ _ _) r4 (wpAny_mono (h1 _ r2 ρ σ _ σ₁ ι s e1 S) (fun c s₁ zz => ?_) fun _ _ x => x)
 refine Ans_k zz ?_
 clear zz
 intro ι₁ t₁ S₁ w64
 obtain ⟨l, rfl⟩ := w64
 obtain ⟨vs, k, g, qv, hz⟩ := list_at S₁.sim l eo
 refine ⟨"list", "list.pop", PySem.F.plainAttrs_list, PySem.F.slot_list_pop, PySem.F.type_list_pop, ⟨_, g, rfl⟩, fun b hb => by cases hb; exact ⟨_, g, rfl⟩, ?_⟩
 obtain ⟨d, hd, hr⟩ := qv.getLast ey
 rw [List.getLast?_eq_getElem?, Array.length_toList, Array.getElem?_toList] at hd
 refine P.pop_list (n := k) g (y := d) hd ?_ (sl_size qv hz)
 have g3 := PySem.IsL.update (n := k) (items := vs) g (fun xs => xs.eraseIdxIfInBounds (vs.size - 1))
 refine Ans.trans t₁ (Ans.update (P := fun ι' s' => RelV ι' σ₁.nx s'.heap v d) S₁ l (Heap.SameBut.update ..) s₁.toks (fun u => ?_) fun u => hr.up u) fun _ _ p => p
 refine ⟨_, _, g3, ?_, by rw [List.length_dropLast]; exact Nat.le_trans (Nat.sub_le ..) hz⟩
 rw [pop_list_eq (Array.getElem?_eq_some_iff.mp hd).1]
 exact (qv.up u).dropLast
end
end Mine
end
section
open PySem PySem.W PyProof.Rows PySem.Calls PySem.Spec
namespace Mine
section
variable {B : Base} {C : RC} {fd : FuncData} {L fa : Addr} {A : Around} {T : Tab} {cf : CF}
variable {ι : Nat → Addr} {σ : St} {ρ : Lc} {s : Shared}
theorem off_mods (S : Sim B ι σ s) (g : B.Good) {a : Nat} (l : a < σ.nx) : (ι a == sysModules) = false := by
 obtain ⟨o, ho⟩ := g.mods
 refine beq_eq_false_iff_ne.mpr fun e => ?_
 have := S.off a l
 rw [e, ho] at this; cases this
theorem isKey_of {n h} : ∀ {l : List AV} {cs : List Value} {k : List Int}, ints? l = some k → RelVs ι n h l cs → PySem.ItemsAre (intKind B.prog B.w) k cs
 | [], cs, k, e, r => by cases e; cases r; exact .nil
 | .int i :: l, cs, k, e, r => by
  refine map_k e ?_
  clear e
  intro k' e2 hq65
  subst hq65
  obtain ⟨c, q, rfl, ⟨t, rfl⟩, r⟩ := r
  exact .cons (intKind_is _ _ _ _) (isKey_of e2 r)
 | .none :: _, _, _, e, _ | .bool _ :: _, _, _, e, _ | .str _ :: _, _, _, e, _ | .ref _ :: _, _, _, e, _ | .k _ :: _, _, _, e, _ | .tup _ :: _, _, _, e, _ => by cases e
theorem tupKey_of {n h} {l : List AV} {k : List Int} {c : Value} (e : ints? l = some k) (r : RelV ι n h (.tup l) c) : ∃ a, c = .ref a ∧ (tupleKind (intKind B.prog B.w)).is h k a := by
 obtain ⟨a, vs, rfl, ⟨o, ho, hc, m, hd⟩, hr, _⟩ := r
 exact ⟨a, rfl, o, vs.toArray, m, ho, hc, hd, isKey_of e hr⟩
theorem TrisR.at {n h} {k : List Int} : ∀ {l : List (List Int × AV)} {cs}, TrisR ι n h l cs → match dgetT k l with
  | some x => ∃ a c, atKey cs k = some (a, c) ∧ RelV ι n h x c
  | none => atKey cs k = none
 | [], _, e => by simp only [TrisR] at e; subst e; simp [atKey, dgetT]
 | (g, x) :: l, _, ⟨a, c, r, e, h1, h2⟩ => by
  subst e
  by_cases hg : g = k
  ·simp [hg, atKey, dgetT]; exact ⟨_, _, ⟨rfl, rfl⟩, h1⟩
  ·have ih := TrisR.at (k := k) h2
   simp only [List.find?_cons, hg, decide_false, atKey, dgetT, if_false] at ih ⊢
   exact ih
theorem edict_of {prog : Program} {w : World} {h : Heap} {b : Addr} (e : h.get? b = some { cls := .type "dict", data := .dict #[] }) {K : Type} [DecidableEq K] (knd : KeyKind prog w K) : h.DictOf knd b [] :=
 ⟨_, #[], 0, e, ⟨rfl, rfl, rfl⟩, rfl, fun _ he => by simp at he, Pairs.nil, List.nodup_nil⟩
theorem edict_ofH {prog : Program} {w : World} {h : Heap} {b : Addr} (e : h.get? b = some { cls := .type "dict", data := .dict #[] }) {K : Type} [DecidableEq K] (knd : HeapKind prog w K) : h.DictOfH knd b [] :=
 ⟨_, #[], 0, e, ⟨rfl, rfl, rfl⟩, rfl, rfl, fun _ he => by simp at he, List.nodup_nil⟩
theorem getO_key {o : AObj} {k d x : AV} (h : getO o k d = some x) : (∃ i, k = .int i) ∨ (∃ l, k = .tup l) := by
 cases o with
 | idict => obtain ⟨i, hi, _⟩ := bind_inv h; exact .inl ⟨i, asInt_inv hi⟩
 | tdict => obtain ⟨i, hi, _⟩ := bind_inv h; exact .inr ⟨i, asTup_inv hi⟩
 | edict => cases k with
  | int i => exact .inl ⟨i, rfl⟩
  | tup l => exact .inr ⟨l, rfl⟩
  | _ => cases h
 | _ => cases h
theorem dget_int (S : Sim B ι σ s) {a : Nat} (l : a < σ.nx) {i : Int} {d x : AV} {cd : Value} (h : getO (σ.ob a) (.int i) d = some x) (rd : RelV ι σ.nx s.heap d cd) :
  ∃ f : Int → Option Value, s.heap.MapOf (intKind B.prog B.w) (ι a) f ∧ RelV ι σ.nx s.heap x ((f i).getD cd) := by
 have o := S.objs a l
 revert o h
 cases σ.ob a with
 | idict kvs =>
  intro h o
  obtain ⟨cs, hd, hp⟩ := o
  refine ⟨_, hd.mapOf, ?_⟩
  cases h
  cases q : dgetI i kvs with
  | none => rw [dgetI_none hp q]; exact rd
  | some y =>
   obtain ⟨c, hc, hr⟩ := dgetI_at hp q
   rw [hc]; exact hr
 | edict =>
  intro h o
  cases h
  exact ⟨_, (edict_of o _).mapOf, rd⟩
 | _ => intro h o; cases h
theorem dget_tup (S : Sim B ι σ s) {a : Nat} (l : a < σ.nx) {li : List AV} {d x : AV} {ck cd : Value} (h : getO (σ.ob a) (.tup li) d = some x) (rk : RelV ι σ.nx s.heap (.tup li) ck) (rd : RelV ι σ.nx s.heap d cd) :
  ∃ ak ik xs, ck = .ref ak ∧ (tupleKind (intKind B.prog B.w)).is s.heap ik ak ∧ s.heap.DictOfH (tupleKind (intKind B.prog B.w)) (ι a) xs ∧ RelV ι σ.nx s.heap x (((atKey xs ik).map (·.2)).getD cd) := by
 have o := S.objs a l
 revert o h
 cases σ.ob a with
 | tdict kvs =>
  intro h o
  obtain ⟨cs, hd, hp⟩ := o
  refine bind_k h ?_
  clear h
  intro ik e h
  cases h
  obtain ⟨ak, rfl, hk⟩ := tupKey_of (B := B) e rk
  refine ⟨ak, ik, _, rfl, hk, hd, ?_⟩
  have := hp.at (k := ik)
  cases q : dgetT ik kvs with
  | none => rw [q] at this; rw [this]; exact rd
  | some y =>
   rw [q] at this
   obtain ⟨_, c, hc, hr⟩ := this
   rw [hc]; exact hr
 | edict =>
  intro h o
  refine bind_k h ?_
  clear h
  intro ik e h
  cases h
  obtain ⟨ak, rfl, hk⟩ := tupKey_of (B := B) e rk
  exact ⟨ak, ik, _, rfl, hk, edict_ofH o _, rd⟩
 | _ => intro h o; cases h
theorem dict_plain (S : Sim B ι σ s) {a : Nat} (l : a < σ.nx) (h : isDO (σ.ob a) = true) : s.TypeIs (.ref (ι a)) "dict" ∧ ∀ b, Value.ref (ι a) = .ref b → ∃ ob, s.heap.get? b = some ob ∧ ob.dict = none := by
 have o := S.objs a l
 revert o h
 cases σ.ob a with
 | idict => intro h o; obtain ⟨cs, hd, hp⟩ := o; exact ⟨hd.typeIs, hd.mapOf.noDict⟩
 | sdict => intro h o; obtain ⟨cs, _, hd, hp⟩ := o; exact ⟨hd.typeIs, hd.mapOf.noDict⟩
 | tdict => intro h o; obtain ⟨cs, hd, hp⟩ := o; exact ⟨hd.typeIs, fun b e => by cases e; exact let ⟨o, _, _, ho, hc, _⟩ := hd; ⟨o, ho, hc.2.1⟩⟩
 | edict => intro h o; exact ⟨⟨_, o, rfl⟩, fun b e => by cases e; exact ⟨_, o, rfl⟩⟩
 | _ => intro h o; cases h
theorem so_dget {x y : Ex} {e : Expr} (F : FrOk B C fd L fa A) (r : rep C (.dget x y) e = true) (h1 : ∀ z, rep C x z = true → SoE B C fd L fa A T cf x z) (h2 : ∀ z, rep C y z = true → SoE B C fd L fa A T cf y z) : SoE B C fd L fa A T cf (.dget x y) e := by
 intro ρ σ v σ' ι s h S
 refine onMeth_k r ?_
 clear r
 intro o n p es q hq66 r4 r1 r
 subst hq66
 refine and_k r ?_
 clear r
 intro r0 r
 refine on1_k r ?_
 clear r
 intro z hq67 rz
 subst hq67
 refine and_k rz ?_
 clear rz
 intro r2 r3
 obtain rfl := beq_iff_eq.mp r0
 refine bind2_k h ?_
 clear h
 intro a σ₁ e1 h
 refine bind_k h ?_
 clear h
 intro a hD h
 refine bind2_k h ?_
 clear h
 intro b σ₂ e2 h
 refine bind_k h ?_
 clear h
 intro w hw hE
 refine bind_k hD ?_
 clear hD
 intro a' ha hD
 refine ite_k hD ?_
 clear hD
 intro hD hq
 obtain rfl := asRef_inv ha
 cases hq
 cases hE
 refine wpAny_Call_method1_late (base_eq r1 _ _ _) r4 (by rw [rep_plain r3]; rfl) (wpAny_mono (h1 _ r2 ρ σ _ σ₁ ι s e1 S) (fun c s₁ zz => ?_) fun _ _ x => x)
 refine Ans_k zz ?_
 clear zz
 intro ι₁ t₁ S₁ w68
 obtain ⟨l, rfl⟩ := w68
 obtain ⟨d1, d2⟩ := dict_plain S₁.sim l hD
 refine ⟨"dict", "dict.get", PySem.F.plainAttrs_dict, PySem.F.slot_dict_get, PySem.F.type_dict_get, d1, d2, ?_⟩
 have l2 (σ₂ : St) (h : σ₁.nx ≤ σ₂.nx) : a < σ₂.nx := Nat.lt_of_lt_of_le l h
 have hu : A.in1.units < cLine := by have := F.units; show A.units + 1 < cLine; lia
 rcases getO_key hw with ⟨i, rfl⟩ | ⟨li, rfl⟩
 ·refine wpAny_dict_get1 (knd := intKind B.prog B.w) (off_mods S₁.sim F.good l) (wpAny_mono (h2 _ r3 ρ σ₁ _ σ₂ ι₁ s₁ e2 S₁) (fun ck s₂ zz => ?_) fun _ _ x => x)
  refine Ans_k zz ?_
  clear zz
  intro ι₂ t₂ S₂ w69
  obtain ⟨t, rfl⟩ := w69
  obtain ⟨f, g2, g3⟩ := dget_int S₂.sim (l2 _ t₂.le) hw (cd := .none) rfl
  rw [t₂.ext a l] at g2
  exact ⟨i, f, intKind_is _ _ _ _, g2, Ans.trans (t₁.trans t₂ S₂.sep) (Ans.same (P := fun ι' s' => RelV ι' σ₂.nx s'.heap v ((f i).getD .none)) S₂ rfl rfl rfl g3) fun _ _ p => p⟩
 ·refine wpAny_dict_get1_heap (knd := tupleKind (intKind B.prog B.w)) hu (off_mods S₁.sim F.good l) (wpAny_mono (h2 _ r3 ρ σ₁ _ σ₂ ι₁ s₁ e2 S₁) (fun ck s₂ zz => ?_) fun _ _ x => x)
  refine Ans_k zz ?_
  clear zz
  intro ι₂ t₂ S₂ v₂
  obtain ⟨ak, ik, xs, rfl, g1, g2, g3⟩ := dget_tup S₂.sim (l2 _ t₂.le) hw v₂ (cd := .none) rfl
  rw [t₂.ext a l] at g2
  exact ⟨ak, ik, xs, rfl, g1, g2, Ans.trans (t₁.trans t₂ S₂.sep) (Ans.same (P := fun ι' s' => RelV ι' σ₂.nx s'.heap v (((atKey xs ik).map (·.2)).getD .none)) S₂ rfl rfl rfl g3) fun _ _ p => p⟩
theorem so_dgetd {x y y' : Ex} {e : Expr} (F : FrOk B C fd L fa A) (r : rep C (.dgetd x y y') e = true) (h1 : ∀ z, rep C x z = true → SoE B C fd L fa A T cf x z) (h2 : ∀ z, rep C y z = true → SoE B C fd L fa A T cf y z)
  (h3 : ∀ z, rep C y' z = true → SoE B C fd L fa A T cf y' z) : SoE B C fd L fa A T cf (.dgetd x y y') e := by
 intro ρ σ v σ' ι s h S
 refine onMeth_k r ?_
 clear r
 intro o n p es q hq70 r4 r1 r
 subst hq70
 refine and_k r ?_
 clear r
 intro r0 r
 refine on2_k r ?_
 clear r
 intro z z' hq71 rz
 subst hq71
 refine and_k rz ?_
 clear rz
 intro r2 rz
 refine and_k rz ?_
 clear rz
 intro r3 r5
 obtain rfl := beq_iff_eq.mp r0
 refine bind2_k h ?_
 clear h
 intro a σ₁ e1 h
 refine bind_k h ?_
 clear h
 intro a hD h
 refine bind2_k h ?_
 clear h
 intro b σ₂ e2 h
 refine bind2_k h ?_
 clear h
 intro d σ₃ e3 h
 refine bind_k h ?_
 clear h
 intro w hw hE
 refine bind_k hD ?_
 clear hD
 intro a' ha hD
 refine ite_k hD ?_
 clear hD
 intro hD hq
 obtain rfl := asRef_inv ha
 cases hq
 cases hE
 refine wpAny_Call_method2_late (base_eq r1 _ _ _) r4 (by rw [rep_plain r3, rep_plain r5]; rfl) (wpAny_mono (h1 _ r2 ρ σ _ σ₁ ι s e1 S) (fun c s₁ zz => ?_) fun _ _ x => x)
 refine Ans_k zz ?_
 clear zz
 intro ι₁ t₁ S₁ w72
 obtain ⟨l, rfl⟩ := w72
 obtain ⟨d1, d2⟩ := dict_plain S₁.sim l hD
 refine ⟨"dict", "dict.get", PySem.F.plainAttrs_dict, PySem.F.slot_dict_get, PySem.F.type_dict_get, d1, d2, ?_⟩
 have l2 (σ₂ : St) (h : σ₁.nx ≤ σ₂.nx) : a < σ₂.nx := Nat.lt_of_lt_of_le l h
 have hu : A.in1.units < cLine := by have := F.units; show A.units + 1 < cLine; lia
 rcases getO_key hw with ⟨i, rfl⟩ | ⟨li, rfl⟩
 ·refine wpAny_dict_get2 (knd := intKind B.prog B.w) (off_mods S₁.sim F.good l) (wpAny_mono (h2 _ r3 ρ σ₁ _ σ₂ ι₁ s₁ e2 S₁) (fun ck s₂ zz => ?_) fun _ _ x => x)
  refine Ans_k zz ?_
  clear zz
  intro ι₂ t₂ S₂ w73
  obtain ⟨t, rfl⟩ := w73
  refine wpAny_mono (h3 _ r5 ρ σ₂ d σ₃ ι₂ s₂ e3 S₂) (fun cd s₃ zz => ?_) fun _ _ x => x
  refine Ans_k zz ?_
  clear zz
  intro ι₃ t₃ S₃ v₃
  obtain ⟨f, g2, g3⟩ := dget_int S₃.sim (l2 _ (Nat.le_trans t₂.le t₃.le)) hw v₃
  rw [(t₃.ext a (l2 _ t₂.le)).trans (t₂.ext a l)] at g2
  exact ⟨i, f, intKind_is _ _ _ _, g2, Ans.trans ((t₁.trans t₂ S₂.sep).trans t₃ S₃.sep) (Ans.same (P := fun ι' s' => RelV ι' σ₃.nx s'.heap v ((f i).getD cd)) S₃ rfl rfl rfl g3) fun _ _ p => p⟩
 ·refine wpAny_dict_get2_heap (knd := tupleKind (intKind B.prog B.w)) hu (off_mods S₁.sim F.good l) (wpAny_mono (h2 _ r3 ρ σ₁ _ σ₂ ι₁ s₁ e2 S₁) (fun ck s₂ zz => ?_) fun _ _ x => x)
  refine Ans_k zz ?_
  clear zz
  intro ι₂ t₂ S₂ v₂
  refine wpAny_mono (h3 _ r5 ρ σ₂ d σ₃ ι₂ s₂ e3 S₂) (fun cd s₃ zz => ?_) fun _ _ x => x
  refine Ans_k zz ?_
  clear zz
  intro ι₃ t₃ S₃ v₃
  obtain ⟨ak, ik, xs, rfl, g1, g2, g3⟩ := dget_tup S₃.sim (l2 _ (Nat.le_trans t₂.le t₃.le)) hw (v₂.up (t₃.up S₂)) v₃
  rw [(t₃.ext a (l2 _ t₂.le)).trans (t₂.ext a l)] at g2
  exact ⟨ak, ik, xs, rfl, g1, g2, Ans.trans ((t₁.trans t₂ S₂.sep).trans t₃ S₃.sep) (Ans.same (P := fun ι' s' => RelV ι' σ₃.nx s'.heap v (((atKey xs ik).map (·.2)).getD cd)) S₃ rfl rfl rfl g3) fun _ _ p => p⟩
end
end Mine
end
section
open PySem PySem.W PyProof.Rows PySem.Calls PySem.Spec
namespace Mine
structure FldOk (B : Base) (C f : Nat) : Prop where
 lt : f < NT.length
 find : findIn B.K (.ref C) (nm f) = some none
 get : plainGet B.K C (nm f) = true
 dict : hasDictIn B.K C = true
 set : findIn B.K (.ref C) "__setattr__" = some (some (.builtin "object.__setattr__"))
 over : plainOver B.K C = true
structure MethOk (B : Base) (C m f : Nat) : Prop where
 lt : m < NT.length
 get : plainGet B.K C (nm m) = true
 find : findIn B.K (.ref C) (nm m) = some (some (.ref f))
 typ : typeIn B.K (.ref f) = some (.type "function")
 keep : keepIn B.K (.ref f) = true
structure CMethOk (B : Base) (C m f : Nat) : Prop where
 lt : m < NT.length
 get : specialIn B.K (.ref C) "__getattribute__" = some (some (.builtin "type.__getattribute__"))
 read : ∃ mc, readsIn B.K C mc = true ∧ findCls B.K (.ref C) mc (nm m) = some (.val (.ref f))
 keep : keepIn B.K (.ref f) = true
structure InitOk (B : Base) (C g : Nat) : Prop where
 keep : keepIn B.K (.ref C) = true
 makes : makesIn B.K C = true
 find : findIn B.K (.ref C) "__init__" = some (some (.ref g))
 typ : typeIn B.K (.ref g) = some (.type "function")
structure TabOk (B : Base) (T : Tab) : Prop where
 fld : ∀ C f, T.fld C f = true → FldOk B C f
 meth : ∀ C m f, T.meth C m = some f → MethOk B C m f
 cmeth : ∀ C m f, T.cmeth C m = some f → CMethOk B C m f
 init : ∀ C g, T.init C = some g → InitOk B C g
 fnk : ∀ a F, T.fn a = some F → keepIn B.K (.ref a) = true
structure Room (A : Around) (d : Nat) : Prop where
 hand : A.handled = none
 frames : ∃ l, A.frames = some l
 depth : A.depth + 160 + 4 * d < recursionLimit
 units : A.units + 120 + 16 * d < cLine
noncomputable def CallR (B : Base) (ι : Nat → Addr) (σ : St) (s : Shared) (σ' : St) (r : AV) : Result → Shared → Prop := fun x s' => match x with
 | .ok (.ret v) => ∃ ι', Tr none ι σ s ι' σ' s' ∧ Sim B ι' σ' s' ∧ RelV ι' σ'.nx s'.heap r v
 | .ok _ => False
 | .error _ => False
structure CfOk (B : Base) (cf : CF) (d : Nat) : Prop where
 code : ∀ f vs σ r σ' ι s c cs A, cf f vs σ = some (r, σ') → Sim B ι σ s → RelV ι σ.nx s.heap f c → RelVs ι σ.nx s.heap vs cs → Room A d →
  codeAny (model B.prog B.w) A (.call c ⟨cs, []⟩) (CallR B ι σ s σ' r) s
 keep : ∀ f vs σ r, cf f vs σ = some r → ∃ a, f = .k (.ref a) ∧ keepIn B.K (.ref a) = true
theorem CfOk.run {B : Base} {cf : CF} {d : Nat} (O : CfOk B cf d) : ∀ f vs σ r σ' ι s c cs A, cf f vs σ = some (r, σ') → Sim B ι σ s → RelV ι σ.nx s.heap f c → RelVs ι σ.nx s.heap vs cs → Room A d →
  wpAny (model B.prog B.w) A (call c cs) (fun c' s' => ∃ ι', Tr none ι σ s ι' σ' s' ∧ Sim B ι' σ' s' ∧ RelV ι' σ'.nx s'.heap r c') NoE s :=
 fun f vs σ r σ' ι s c cs A h S rf rv RM => wpAny_call (codeAny_mono (O.code f vs σ r σ' ι s c cs A h S rf rv RM) fun r s' z => by
  rcases r with e | (v | _ | _ | _) <;> first | exact z | exact z.elim)
section
variable {B : Base} {C : RC} {fd : FuncData} {L fa : Addr} {A : Around} {T : Tab} {cf : CF}
variable {ι : Nat → Addr} {σ : St} {ρ : Lc} {s : Shared}
theorem NsR.get {n h} {f : Nat} (hf : f < NT.length) : ∀ {fs : List (Nat × AV)} {es : List DictEntry}, NsR ι n h fs es → match fget f fs with
  | some x => ∃ c, getL (nm f) es = some (some c) ∧ RelV ι n h x c
  | none => getL (nm f) es = some none
 | [], es, r => by simp only [NsR] at r; subst r; simp [getL, fget]
 | (k, x) :: l, es, ⟨e, r, he, hk, ⟨t, ht⟩, h1, h2⟩ => by
  subst he
  have ih := NsR.get hf h2
  by_cases hh : k = f
  ·subst hh
   have : e.key.isStr (nm k) = true := by rw [ht]; simp [Value.isStr]
   simp [getL, fget, this, h1]
  ·have hn : ¬ nm k = nm f := fun q => hh (nm_inj hk hf q)
   have e1 : e.key.isStr (nm f) = false := by rw [ht]; simp [Value.isStr, hn]
   have e2 : e.refKey = false := by unfold DictEntry.refKey; rw [ht]
   simp only [fget, hh, if_false, getL, List.find?_cons, e1, List.any_cons, e2, Bool.false_or] at ih ⊢
   exact ih
theorem InstAt.of_inst {h : Heap} {x C d : Addr} {es : List DictEntry} {n : Nat} (hx : h.get? x = some (instObj C d)) (hd : h.get? d = some (dictOf es n)) : InstAt h x (instObj C d) C (some (dictOf es n)) :=
 ⟨hx, rfl, rfl, hd⟩
theorem inst_at (S : Sim B ι σ s) {a C d : Nat} (l : a < σ.nx) (e : σ.ob a = .inst C d) {fs : List (Nat × AV)} (e2 : σ.ob d = .ns fs) :
  d < σ.nx ∧ s.heap.get? (ι a) = some (instObj C (ι d)) ∧ ∃ es n, s.heap.get? (ι d) = some (dictOf es n) ∧ NsR ι σ.nx s.heap fs es := by
 have o := S.objs a l
 rw [e] at o
 have o2 := S.objs d o.1
 rw [e2] at o2
 exact ⟨o.1, o.2, o2⟩
theorem handed_of {n : Nat} {h : Heap} {x : AV} {y : Value} (r : RelV ι n h x y) : handedIn y = true := by
 cases x with
 | none => cases r; rfl
 | bool => cases r; rfl
 | int => obtain ⟨t, rfl⟩ := r; rfl
 | str => obtain ⟨_, t, rfl⟩ := r; rfl
 | ref => obtain ⟨_, rfl⟩ := r; rfl
 | k => obtain ⟨rfl, _, rfl⟩ := r; rfl
 | tup => obtain ⟨_, _, rfl, _⟩ := r; rfl
theorem inst_ns (S : Sim B ι σ s) {a C d : Nat} {fs : List (Nat × AV)} (l : a < σ.nx) (e : asInst (σ.ob a) = some (C, d)) (e2 : asNs (σ.ob d) = some fs) :
  d < σ.nx ∧ s.heap.get? (ι a) = some (instObj C (ι d)) ∧ ∃ es n, s.heap.get? (ι d) = some (dictOf es n) ∧ NsR ι σ.nx s.heap fs es := inst_at S l (asInst_inv e) (asNs_inv e2)
theorem getF_ok (G : B.Good) (TO : TabOk B T) (S : Sim B ι σ s) {v x : AV} {f : Nat} {c : Value} (h : getF T σ v f = some x) (r : RelV ι σ.nx s.heap v c) {expr : Bool} {Q : Value → Shared → Prop}
  (q : ∀ y, RelV ι σ.nx s.heap x y → Q y { s with toks := s.toks + 1 }) : wpAny (model B.prog B.w) A (getAttr c (nm f) expr) Q NoE s := by
 refine bind_k h ?_
 clear h
 intro a ha h
 refine bind2_k h ?_
 clear h
 intro C d e h
 refine bind_k h ?_
 clear h
 intro fs e2 h
 refine ite_k h ?_
 clear h
 intro hf hE
 obtain rfl := asRef_inv ha
 obtain ⟨l, rfl⟩ := r
 have K := TO.fld C f hf
 obtain ⟨ld, hx, es, n, hd, hr⟩ := inst_ns S l e e2
 have g := hr.get K.lt
 rw [hE] at g
 obtain ⟨y, hy, ry⟩ := g
 have X : B.K.In s.heap := Frag.In.keeps G.kin S.base
 exact get_value X (InstAt.of_inst hx hd) (plainGet_of K.get).1 (findObj_own K.dict K.find rfl (by rw [lookIn_dict]; exact hy)) (handed_of ry) (q y ry)
theorem so_attr {x : Ex} {f : Nat} {e : Expr} (F : FrOk B C fd L fa A) (TO : TabOk B T) (r : rep C (.attr x f) e = true) (h1 : ∀ z, rep C x z = true → SoE B C fd L fa A T cf x z) : SoE B C fd L fa A T cf (.attr x f) e := by
 intro ρ σ v σ' ι s h S
 refine onAttr_k r ?_
 clear r
 intro y n pos hq1 r
 subst hq1
 refine and_k r ?_
 clear r
 intro r0 r
 refine and_k r ?_
 clear r
 intro r1 r2
 refine nm_of_k r0 ?_
 clear r0
 intro hlt hq2
 subst hq2
 refine bind2_k h ?_
 clear h
 intro a σ₁ e1 h
 refine bind_k h ?_
 clear h
 intro w hw h
 cases h
 rw [arm_eval_Attribute, base_eq r1]
 refine wpAny_bind (wpAny_mono (h1 _ r2 ρ σ a σ₁ ι s e1 S) (fun c s₁ z => ?_) fun _ _ x => x)
 refine Ans_k z ?_
 clear z
 intro ι₁ t₁ S₁ v₁
 refine wpAny_bind (wpAny_standAt (wpAny_bind (wpAny_holding (getF_ok F.good TO S₁.sim hw v₁ fun y ry => ?_))))
 refine wpAny_bind (wpAny_letTemporaryGo (wpAny_pure ?_))
 exact Ans.trans t₁ (Ans.same (P := fun ι' s' => RelV ι' σ₁.nx s'.heap v y) S₁ rfl rfl rfl ry) fun _ _ p => p
theorem call_end {d : Nat} (F : FrOk B C fd L fa A) (O : CfOk B cf d) (RM : Room A d) {xs : List Ex} {es : List Expr} {pos : Pos} (rs : reps C xs es = true) (hs : SoEs B C fd L fa A T cf xs es) {g : AV} {f : Addr} {fst : List AV} {cfst : List Value} {vs : List AV} {σ₁ : St} {r : AV} {σ' : St}
  (S : SL B C.ns L ι σ ρ s) (e : evs T cf xs ρ σ = some (vs, σ₁)) (hc : cf (.k (.ref f)) (fst ++ vs) σ₁ = some (r, σ')) (rf : RelVs ι σ.nx s.heap fst cfst) :
  wpAny (model B.prog B.w) A (callWith pos (.ref f) cfst (backTo pos (starEach es (callEnv fd L fa))) []) (fun c => Ans B C L ι σ s σ' ρ fun ι' s' => RelV ι' σ'.nx s'.heap r c) NoE s := by
 obtain ⟨a, ha, hk⟩ := O.keep _ _ _ _ hc
 cases ha
 refine callWith_of (P := fun h => B.K.In h) (by show (_ || false) = false; rw [plain_args rs]; rfl) (keeps_K hk) ?_
 refine args_so rs hs e S fun cs s₁ z => ?_
 refine Ans_k z ?_
 clear z
 intro ι₁ t₁ S₁ v₁
 refine ⟨Frag.In.keeps F.good.kin S₁.sim.base, ?_⟩
 refine wpAny_mono (O.run _ _ _ _ _ ι₁ s₁ (.ref f) (cfst ++ cs) A hc S₁.sim ⟨rfl, _, rfl⟩ ((rf.up (t₁.up S)).append v₁) RM) (fun c s₂ zq => ?_) fun _ _ x => x
 obtain ⟨ι₂, t₂, S₂, v₂⟩ := zq
 obtain ⟨t₂', S₂'⟩ := Tr.fr0 S₁ t₂ S₂
 exact ⟨ι₂, t₁.trans t₂' S₂'.sep, S₂', v₂⟩
theorem so_call {d : Nat} {x : Ex} {xs : List Ex} {e : Expr} (F : FrOk B C fd L fa A) (O : CfOk B cf d) (RM : Room A d) (r : rep C (.call x xs) e = true) (h1 : ∀ z, rep C x z = true → SoE B C fd L fa A T cf x z) (h2 : ∀ es, reps C xs es = true → SoEs B C fd L fa A T cf xs es) :
  SoE B C fd L fa A T cf (.call x xs) e := by
 intro ρ σ v σ' ι s h S
 refine onCall_k r ?_
 clear r
 intro y es ks pos hq3 r
 subst hq3
 refine on0_k r ?_
 clear r
 intro hq4 r
 subst hq4
 refine and_k r ?_
 clear r
 intro r0 r
 refine and_k r ?_
 clear r
 intro r1 r2
 refine bind2_k h ?_
 clear h
 intro g σ₁ e1 h
 refine bind2_k h ?_
 clear h
 intro vs σ₂ e2 hc
 have arm : eval (.Call y es [] pos) (callEnv fd L fa) = (do callWith pos (← eval y (callEnv fd L fa)) [] (backTo pos (starEach es (callEnv fd L fa))) []) := by
  cases y <;> first | rfl | cases r0
 rw [arm]
 refine wpAny_bind (wpAny_mono (h1 _ r1 ρ σ g σ₁ ι s e1 S) (fun c s₁ z => ?_) fun _ _ x => x)
 refine Ans_k z ?_
 clear z
 intro ι₁ t₁ S₁ v₁
 obtain ⟨a, rfl, hk⟩ := O.keep _ _ _ _ hc
 obtain ⟨rfl, _⟩ := v₁
 refine wpAny_mono (call_end (g := .none) F O RM r2 (h2 _ r2) S₁ e2 (fst := []) hc .nil) (fun c s₂ z => ?_) fun _ _ x => x
 exact Ans.trans t₁ z fun _ _ p => p
theorem plain_all : ∀ {xs : List Ex} {es : List Expr} {env : Env} {pos : Pos}, reps C xs es = true → (backTo pos (starEach es env)).all (!·.1) = true
 | [], _, _, _, r => by rw [reps_nil r]; rfl
 | x :: xs, _, env, pos, r => by
  refine reps_cons_k r ?_
  clear r
  intro e es hq5 r1 r2
  subst hq5
  rw [rep_plain r1]
  show (true && (backTo pos (starEach es env)).all (!·.1)) = true
  rw [plain_all r2]; rfl
theorem so_meth {d : Nat} {x : Ex} {m : Nat} {xs : List Ex} {e : Expr} (F : FrOk B C fd L fa A) (TO : TabOk B T) (O : CfOk B cf d) (RM : Room A d) (r : rep C (.meth x m xs) e = true) (h1 : ∀ z, rep C x z = true → SoE B C fd L fa A T cf x z)
  (h2 : ∀ es, reps C xs es = true → SoEs B C fd L fa A T cf xs es) : SoE B C fd L fa A T cf (.meth x m xs) e := by
 intro ρ σ v σ' ι s h S
 refine onMeth_k r ?_
 clear r
 intro y n p es q hq6 r5 r1 r
 subst hq6
 refine and_k r ?_
 clear r
 intro r0 r
 refine and_k r ?_
 clear r
 intro r4 r
 refine and_k r ?_
 clear r
 intro r2 r3
 refine nm_of_k r0 ?_
 clear r0
 intro hlt hq7
 subst hq7
 refine bind2_k h ?_
 clear h
 intro g σ₁ e1 h
 rw [arm_eval_Call, base_eq r1]
 refine wpAny_bind (wpAny_mono (h1 _ r2 ρ σ g σ₁ ι s e1 S) (fun c s₁ z => ?_) fun _ _ x => x)
 refine Ans_k z ?_
 clear z
 intro ι₁ t₁ S₁ v₁
 refine wpAny_bind (wpAny_standAt ?_)
 have hform : methodCallForm (es.length + ([] : List Keyword).length) (backTo q (starEach es (callEnv fd L fa))) (backToKw q (keywordEach [] (callEnv fd L fa))) = true := by
  unfold methodCallForm
  rw [plain_all r3]
  have := of_decide_eq_true r4
  show (true && true && decide (es.length + 0 + 0 < 30)) = true
  show (true && true && decide (es.length < 30)) = true
  rw [decide_eq_true (Nat.lt_trans this (by decide : 20 < 30))]; rfl
 have hpos : methodCallPos true y (callEnv fd L fa) p q = pure q := by unfold methodCallPos; simp [r5]
 have X : B.K.In s₁.heap := Frag.In.keeps F.good.kin S₁.sim.base
 unfold methodCall
 rw [hform]
 cases hk : asKR g with
 | none =>
  simp only [hk] at h
  refine bind_k h ?_
  clear h
  intro a ha h
  refine bind2_k h ?_
  clear h
  intro C' d' eo h
  refine bind_k h ?_
  clear h
  intro fs ed h
  refine bind_k h ?_
  clear h
  intro f hm h
  refine ite_k h ?_
  clear h
  intro hno h
  refine bind2_k h ?_
  clear h
  intro vs σ₂ e2 hc
  obtain rfl := asRef_inv ha
  obtain ⟨l, rfl⟩ := v₁
  have K := TO.meth _ _ _ hm
  obtain ⟨ld, hx, esd, nn, hd, hr⟩ := inst_ns S₁.sim l eo ed
  have gg := hr.get K.lt
  rw [Option.isNone_iff_eq_none.mp hno] at gg
  refine wpAny_bind (wpAny_holding (method_fn X (InstAt.of_inst hx hd) (plainGet_of K.get).1 (plainGet_of K.get).2 K.find K.typ (by show (lookIn (nm m) (dictOf esd nn)).map _ = _; rw [lookIn_dict, gg]; rfl) ?_))
  refine wpAny_bind (wpAny_of_eq hpos ?_)
  refine wpAny_mono (call_end (g := .none) F O RM r3 (h2 _ r3) S₁ e2 (fst := [.ref a]) hc (.cons ⟨l, rfl⟩ .nil)) (fun c s₂ z => ?_) fun _ _ x => x
  exact Ans.trans t₁ z fun _ _ p => p
 | some C' =>
  simp only [hk] at h
  refine bind_k h ?_
  clear h
  intro f hm h
  refine bind2_k h ?_
  clear h
  intro vs σ₂ e2 hc
  obtain rfl := asKR_inv hk
  obtain ⟨rfl, _⟩ := v₁
  have K := TO.cmeth _ _ _ hm
  obtain ⟨mc, hrd, hf⟩ := K.read
  refine wpAny_bind (wpAny_holding (method_cls X K.get (cls_value X hrd hf rfl ?_)))
  obtain ⟨t₁', S₁'⟩ := Tr.fr0 S₁ (Tr.same (L := none) (s' := { s₁ with toks := s₁.toks + 1 }) rfl) (S₁.sim.same rfl rfl rfl)
  refine wpAny_bind (wpAny_of_eq hpos ?_)
  refine wpAny_mono (call_end (g := .none) F O RM r3 (h2 _ r3) S₁' e2 (fst := []) hc .nil) (fun c s₂ z => ?_) fun _ _ x => x
  exact Ans.trans (t₁.trans t₁' S₁'.sep) z fun _ _ p => p
theorem so_idict1 {x y : Ex} {e : Expr} (F : FrOk B C fd L fa A) (r : rep C (.idict1 x y) e = true) (h1 : ∀ z, rep C x z = true → SoE B C fd L fa A T cf x z) (h2 : ∀ z, rep C y z = true → SoE B C fd L fa A T cf y z) : SoE B C fd L fa A T cf (.idict1 x y) e := by
 intro ρ σ v σ' ι s h S
 refine onDict_k r ?_
 clear r
 intro ks xs pos hq8 r
 subst hq8
 refine on1_k r ?_
 clear r
 intro o hq9 rz
 subst hq9
 refine onS_k rz ?_
 clear rz
 intro p hq10 rz
 subst hq10
 refine on1_k rz ?_
 clear rz
 intro q hq11 rz
 subst hq11
 have r := and_inv rz
 refine bind2_k h ?_
 clear h
 intro a σ₁ e1 h
 refine bind2_k h ?_
 clear h
 intro b σ₂ e2 h
 refine bind_k h ?_
 clear h
 intro i hi hE
 obtain rfl := asInt_inv hi
 cases hE
 obtain ⟨t₀, S₀⟩ := Tr.fr0 S (Tr.push (L := none) { cls := .type "dict", data := .dict #[] } s.toks) (S.sim.push _ s.toks)
 have hnew : (s.heap.push { cls := .type "dict", data := .dict #[] }).get? s.heap.objs.size = some { cls := .type "dict", data := .dict #[] } := Heap.get?_push_size _ rfl
 have hoff : ∀ a, a < σ.nx → ι a ≠ s.heap.objs.size := fun a l q => by
  obtain ⟨c, e, _⟩ := (S.sim.objs a l).at
  exact absurd (Heap.lt_size e) (by rw [q]; exact Nat.lt_irrefl _)
 have hL : L ≠ s.heap.objs.size := fun q => by
  obtain ⟨m, ⟨o, _, _, e, _⟩, _⟩ := S.fr.loc
  exact absurd (Heap.lt_size e) (by rw [q]; exact Nat.lt_irrefl _)
 refine wpAny_Dict_pairs (knd := intKind B.prog B.w) (pairs := [(eval p (callEnv fd L fa), do let x ← eval q (callEnv fd L fa); standAt pos; pure x)]) rfl (by simp) (by simp) ?_
 refine evalPairs_cons (wpAny_mono (h1 _ r.1 ρ σ _ σ₁ ι _ e1 S₀) (fun c s₁ z => ?_) fun _ _ x => x)
 refine Ans_k z ?_
 clear z
 intro ι₁ t₁ S₁ v₁
 refine wpAny_bind (wpAny_mono (h2 _ r.2 ρ σ₁ b σ₂ ι₁ s₁ e2 S₁) (fun d s₂ z => ?_) fun _ _ x => x)
 refine Ans_k z ?_
 clear z
 intro ι₂ t₂ S₂ v₂
 refine wpAny_bind (wpAny_standAt (wpAny_pure (evalPairs_nil ?_)))
 replace v₁ := v₁.up (t₂.up S₁)
 simp only [RelV] at v₁
 obtain ⟨t, rfl⟩ := v₁
 have k1 : s₁.heap.get? s.heap.objs.size = some { cls := .type "dict", data := .dict #[] } := t₁.keep _ _ hnew hoff (fun e => hL (Option.some.inj e))
 have off1 := t₁.other hnew hoff
 have k2 : s₂.heap.get? s.heap.objs.size = some { cls := .type "dict", data := .dict #[] } := t₂.keep _ _ k1 off1 (fun e => hL (Option.some.inj e))
 have off2 := t₂.other k1 off1
 have hb0 : B.h₀.get? s.heap.objs.size = none := by
  cases q : B.h₀.get? s.heap.objs.size with
  | none => rfl
  | some o => exact absurd (Heap.lt_size (S.sim.base _ _ q)) (Nat.lt_irrefl _)
 refine ⟨[(i, d)], ⟨intKind_is _ _ _ _, rfl, trivial⟩, edict_of k2 _, fun h' hm hs => ?_⟩
 have T2 := (t₀.trans t₁ S₁.sep).trans t₂ S₂.sep
 have up : Up ι₂ σ₂.nx s₂.heap (ext1 ι₂ σ₂.nx s.heap.objs.size) (σ₂.nx + 1) h' := ⟨fun a l => ext1_lt l, Nat.le_succ _, fun a vs e => by
  obtain ⟨o, e1, hc, n, hd⟩ := e
  refine ⟨o, (hs.2 a fun q => ?_).trans e1, hc, n, hd⟩
  rw [q, k2] at e1; cases e1; simp at hc⟩
 have Sm : Sim B (ext1 ι₂ σ₂.nx s.heap.objs.size) (σ₂.new (.idict [(i, b)])) { s₂ with heap := h', toks := s₂.toks + 1 } := by
  refine ⟨fun a l => ?_, fun a c ha hc e => ?_, fun b o e => (hs.2 b fun q => ?_).trans (S₂.sim.base b o e), fun a l => ?_, S₂.sim.gens, S₂.sim.os, S₂.sim.lst⟩
  ·by_cases hh : a = σ₂.nx
   ·subst hh
    simp only [ext1_self, St.new, upd_self]
    exact ⟨_, by simpa [merged, stored] using hm, d, [], rfl, v₂.up up, rfl⟩
   ·have hl : a < σ₂.nx := by simp at l; lia
    rw [ext1_lt hl]
    show ObjOk B _ _ _ _ (upd σ₂.ob σ₂.nx _ a)
    rw [upd_ne hh]
    exact (S₂.sim.objs a hl).up up rfl (hs.2 _ (off2 a hl))
  ·simp at ha hc
   by_cases h1 : a = σ₂.nx <;> by_cases h2 : c = σ₂.nx
   ·lia
   ·subst h1
    rw [ext1_self, ext1_lt (by lia)] at e
    exact absurd e.symm (off2 c (by lia))
   ·subst h2
    rw [ext1_self, ext1_lt (by lia)] at e
    exact absurd e (off2 a (by lia))
   ·rw [ext1_lt (by lia), ext1_lt (by lia)] at e
    exact S₂.sim.inj a c (by lia) (by lia) e
  ·rw [q, hb0] at e; cases e
  ·simp at l
   by_cases hh : a = σ₂.nx
   ·subst hh; rw [ext1_self]; exact hb0
   ·rw [ext1_lt (by lia)]; exact S₂.sim.off a (by lia)
 refine ⟨_, ⟨fun a l => (ext1_lt (Nat.lt_of_lt_of_le l T2.le)).trans (T2.ext a l), Nat.le_trans T2.le (Nat.le_succ _), fun b o e n l => ?_, fun a l1 l2 => ?_, T2.mono, fun a o l v e => (hs.2 _ fun q => by rw [q, size_none] at e; cases e).trans (T2.unch a o l v e)⟩, ⟨Sm, ?_⟩, by simp [RelV]⟩
 ·exact (hs.2 b fun q => by rw [q, size_none] at e; cases e).trans (T2.keep b o e n l)
 ·by_cases hh : a = σ₂.nx
  ·subst hh; rw [ext1_self]; exact size_none _
  ·simp at l2
   rw [ext1_lt (by lia)]; exact T2.fresh a l1 (by lia)
 ·obtain ⟨len, ⟨m, ⟨o', es, ep, e, r⟩, hl⟩, off, nw⟩ := S₂.fr
  refine ⟨len, ⟨m, ⟨o', es, ep, (hs.2 L hL).trans e, r⟩, fun i x v h1 h2 => ?_⟩, fun a l q => ?_, nw⟩
  ·obtain ⟨c, e, r⟩ := hl i x v h1 h2
   exact ⟨c, e, r.up up⟩
  ·by_cases hh : a = σ₂.nx
   ·subst hh; rw [ext1_self] at q; exact hL q.symm
   ·simp at l
    rw [ext1_lt (by lia)] at q; exact off a (by lia) q
end
end Mine
end
section
open PySem PySem.W PyProof.Rows PySem.Calls PySem.Spec
namespace Mine
section
variable {B : Base} {C : RC} {fd : FuncData} {L fa : Addr} {A : Around} {T : Tab} {cf : CF}
noncomputable def formT : List Nat := [23, 19, 25, 24, 20, 21, 2, 6, 16]
theorem isTrue_form {e : Expr} (h : formT.contains e.ctorIdx = true) : isTrue e (callEnv fd L fa) (eval e (callEnv fd L fa)) = (do let v ← eval e (callEnv fd L fa); standAt e.pos; holding [v] (truthy v)) := by
 exact (by apply Expr.casesOn (motive_1 := fun e => formT.contains e.ctorIdx = true → isTrue e (callEnv fd L fa) (eval e (callEnv fd L fa)) = (do let v ← eval e (callEnv fd L fa); standAt e.pos; holding [v] (truthy v))) e <;> intros <;> first | rfl | exact absurd ‹_› Bool.false_ne_true : formT.contains e.ctorIdx = true → isTrue e (callEnv fd L fa) (eval e (callEnv fd L fa)) = (do let v ← eval e (callEnv fd L fa); standAt e.pos; holding [v] (truthy v))) h
theorem plain_test {x : Ex} {e : Expr} (r : rep C x e = true) (h : (formOf x).1 = 0) : isTrue e (callEnv fd L fa) (eval e (callEnv fd L fa)) = (do let v ← eval e (callEnv fd L fa); standAt e.pos; holding [v] (truthy v)) := by
 have a := form_all (p := fun p => !Nat.beq p.1 0 || p.2.all formT.contains) rfl rfl x
 rw [h] at a
 exact isTrue_form (List.all_eq_true.mp a _ (List.contains_iff_mem.mp (rep_idx r)))
theorem neg_test {x : Ex} {e : Expr} (r : rep C (.neg x) e = true) : isTrue e (callEnv fd L fa) (eval e (callEnv fd L fa)) = (do let v ← eval e (callEnv fd L fa); standAt e.pos; holding [v] (truthy v)) :=
 onUn_k r fun o y p q r => by
  rw [q, isNegO_inv (and_inv r).1]
  rfl
mutual
theorem so_all {d : Nat} (F : FrOk B C fd L fa A) (TO : TabOk B T) (O : CfOk B cf d) (RM : Room A d) : ∀ (x : Ex) (e : Expr), rep C x e = true → SoE B C fd L fa A T cf x e ∧ SoT B C fd L fa A T cf x e
 | .loc i, e, r => have a := so_loc F r; ⟨a, st_plain a (plain_test r rfl)⟩
 | .lit v, e, r => have a := so_lit F r; ⟨a, st_plain a (plain_test r rfl)⟩
 | .tup xs, e, r => have a := so_tup r (fun es h => (so_alls F TO O RM xs es h).1); ⟨a, st_plain a (plain_test r rfl)⟩
 | .lst xs, e, r => have a := so_lst r (fun es h => (so_alls F TO O RM xs es h).1); ⟨a, st_plain a (plain_test r rfl)⟩
 | .attr x f, e, r => have a := so_attr F TO r (fun z h => (so_all F TO O RM x z h).1); ⟨a, st_plain a (plain_test r rfl)⟩
 | .sub x y, e, r => have a := so_sub F r (fun z h => (so_all F TO O RM x z h).1) (fun z h => (so_all F TO O RM y z h).1); ⟨a, st_plain a (plain_test r rfl)⟩
 | .slcL x y, e, r => have a := so_slcL F r (fun z h => (so_all F TO O RM x z h).1) (fun z h => (so_all F TO O RM y z h).1); ⟨a, st_plain a (plain_test r rfl)⟩
 | .slc x y y', e, r => have a := so_slc F r (fun z h => (so_all F TO O RM x z h).1) (fun z h => (so_all F TO O RM y z h).1) (fun z h => (so_all F TO O RM y' z h).1); ⟨a, st_plain a (plain_test r rfl)⟩
 | .bin op x y, e, r => have a := so_bin F r (fun z h => (so_all F TO O RM x z h).1) (fun z h => (so_all F TO O RM y z h).1); ⟨a, st_plain a (plain_test r rfl)⟩
 | .cmp op x y, e, r => ⟨so_cmp F r (fun z h => (so_all F TO O RM x z h).1) (fun z h => (so_all F TO O RM y z h).1), st_cmp F r (fun z h => (so_all F TO O RM x z h).1) (fun z h => (so_all F TO O RM y z h).1)⟩
 | .isN x, e, r => have h0 := fun z h => (so_all F TO O RM x z h).1; have a := so_isN r h0; ⟨a, st_isN r h0⟩
 | .bop o xs, e, r => ⟨so_bop r (fun es h => (so_alls F TO O RM xs es h).2.1), st_bop r (fun es h => (so_alls F TO O RM xs es h).2.2)⟩
 | .not x, e, r => ⟨so_not r (fun z h => (so_all F TO O RM x z h).1), st_not r (fun z h => (so_all F TO O RM x z h).2)⟩
 | .neg x, e, r => have a := so_neg r (fun z h => (so_all F TO O RM x z h).1); ⟨a, st_plain a (neg_test r)⟩
 | .call x xs, e, r => have a := so_call F O RM r (fun z h => (so_all F TO O RM x z h).1) (fun es h => (so_alls F TO O RM xs es h).1); ⟨a, st_plain a (plain_test r rfl)⟩
 | .meth x m xs, e, r => have a := so_meth F TO O RM r (fun z h => (so_all F TO O RM x z h).1) (fun es h => (so_alls F TO O RM xs es h).1); ⟨a, st_plain a (plain_test r rfl)⟩
 | .app x y, e, r => have a := so_app F r (fun z h => (so_all F TO O RM x z h).1) (fun z h => (so_all F TO O RM y z h).1); ⟨a, st_plain a (plain_test r rfl)⟩
 | .pop x, e, r => have a := so_pop F r (fun z h => (so_all F TO O RM x z h).1); ⟨a, st_plain a (plain_test r rfl)⟩
 | .dget x y, e, r => have a := so_dget F r (fun z h => (so_all F TO O RM x z h).1) (fun z h => (so_all F TO O RM y z h).1); ⟨a, st_plain a (plain_test r rfl)⟩
 | .dgetd x y y', e, r => have a := so_dgetd F r (fun z h => (so_all F TO O RM x z h).1) (fun z h => (so_all F TO O RM y z h).1) (fun z h => (so_all F TO O RM y' z h).1); ⟨a, st_plain a (plain_test r rfl)⟩
 | .len x, e, r => have a := so_len F r (fun z h => (so_all F TO O RM x z h).1); ⟨a, st_plain a (plain_test r rfl)⟩
 | .abs x, e, r => have a := so_abs F r (fun z h => (so_all F TO O RM x z h).1); ⟨a, st_plain a (plain_test r rfl)⟩
 | .edict, e, r => have a := so_edict r; ⟨a, st_plain a (plain_test r rfl)⟩
 | .idict1 x y, e, r => have a := so_idict1 F r (fun z h => (so_all F TO O RM x z h).1) (fun z h => (so_all F TO O RM y z h).1); ⟨a, st_plain a (plain_test r rfl)⟩
theorem so_alls {d : Nat} (F : FrOk B C fd L fa A) (TO : TabOk B T) (O : CfOk B cf d) (RM : Room A d) : ∀ (xs : List Ex) (es : List Expr), reps C xs es = true → SoEs B C fd L fa A T cf xs es ∧ SoL (SoE B C fd L fa A T cf) xs es ∧ SoL (SoT B C fd L fa A T cf) xs es
 | [], _, r => by rw [reps_nil r]; exact ⟨so_nil, trivial, trivial⟩
 | x :: xs, _, r => by
  refine reps_cons_k r ?_
  clear r
  intro e es hq85 r1 r2
  subst hq85
  have a := so_all F TO O RM x e r1
  have b := so_alls F TO O RM xs es r2
  exact ⟨so_cons r1 a.1 b.1, ⟨a.1, b.2.1⟩, ⟨a.2, b.2.2⟩⟩
end
end
end Mine
end
section
open PySem PySem.W PyProof.Rows PySem.Calls PySem.Spec
namespace Mine
noncomputable def RelF (ι : Nat → Addr) (n : Nat) (h : Heap) : Fl → Flow → Prop
 | .next, fl => fl = .next
 | .ret v, fl => ∃ c, fl = .ret c ∧ RelV ι n h v c
noncomputable def SoS (B : Base) (C : RC) (fd : FuncData) (L fa : Addr) (A : Around) (T : Tab) (cf : CF) (x : Sx) (st : Stmt) : Prop :=
 ∀ ρ σ f ρ' σ' ι s, ex T cf x ρ σ = some (f, ρ', σ') → SL B C.ns L ι σ ρ s →
  wpAny (model B.prog B.w) A (exec st (callEnv fd L fa)) (fun fl => Ans B C L ι σ s σ' ρ' fun ι' s' => RelF ι' σ'.nx s'.heap f fl) NoE s
noncomputable def SoSs (B : Base) (C : RC) (fd : FuncData) (L fa : Addr) (A : Around) (T : Tab) (cf : CF) (x : List Sx) (st : List Stmt) : Prop :=
 ∀ ρ σ f ρ' σ' ι s, exs T cf x ρ σ = some (f, ρ', σ') → SL B C.ns L ι σ ρ s →
  wpAny (model B.prog B.w) A (execs st (callEnv fd L fa)) (fun fl => Ans B C L ι σ s σ' ρ' fun ι' s' => RelF ι' σ'.nx s'.heap f fl) NoE s
section
variable {B : Base} {C : RC} {fd : FuncData} {L fa : Addr} {A : Around} {T : Tab} {cf : CF}
variable {ι : Nat → Addr} {σ : St} {ρ : Lc} {s : Shared}
theorem getElem_nodup {l : List Str} (hn : l.Nodup) {i j : Nat} {x : Str} (hi : l[i]? = some x) (hj : l[j]? = some x) : i = j := by
 obtain ⟨h1, e1⟩ := List.getElem?_eq_some_iff.mp hi
 obtain ⟨h2, e2⟩ := List.getElem?_eq_some_iff.mp hj
 have P := List.pairwise_iff_getElem.mp hn
 rcases Nat.lt_trichotomy i j with q | q | q
 ·exact absurd (e1.trans e2.symm) (P i j h1 h2 q)
 ·exact q
 ·exact absurd (e2.trans e1.symm) (P j i h2 h1 q)
theorem Ans.store {P : (Nat → Addr) → Shared → Prop} (S : SL B C.ns L ι σ ρ s) (nd : C.ns.Nodup) {i : Nat} {x : Str} (hx : C.ns[i]? = some x) {v : AV} {c : Value} (r : RelV ι σ.nx s.heap v c) {h' : Heap} {m : Str → Option Value}
  (hm : s.heap.Ns L m) (hl : ∀ (j : Nat) (y : Str) (u : AV), C.ns[j]? = some y → ρ[j]? = some (some u) → ∃ d, m y = some d ∧ RelV ι σ.nx s.heap u d) (hn : h'.Ns L (fun y => if y = x then some c else m y)) (hs : Heap.SameBut L s.heap h') (tk : Tok)
  (p : P ι { s with heap := h', toks := tk }) : Ans B C L ι σ s σ (setL ρ i v) P { s with heap := h', toks := tk } := by
 have up : Up ι σ.nx s.heap ι σ.nx h' := ⟨fun _ _ => rfl, Nat.le_refl _, fun a vs e => by
  obtain ⟨o, e1, hc, n, hd⟩ := e
  refine ⟨o, (hs.2 a fun q => ?_).trans e1, hc, n, hd⟩
  obtain ⟨o', es, ep, e2, hd', _⟩ := hm
  rw [q, e2] at e1; cases e1
  rw [hd] at hd'; cases hd'⟩
 refine ⟨ι, ⟨fun _ _ => rfl, Nat.le_refl _, fun b o e _ l => (hs.2 b fun q => l (by rw [q])).trans e, fun a h1 h2 => absurd h2 (Nat.not_lt.mpr h1), fun _ => Nat.le_refl _, fun a o l _ e => (hs.2 _ (S.fr.offL a l)).trans e⟩, ⟨⟨fun a l => ?_, S.sim.inj, fun b o e => (hs.2 b fun q => ?_).trans (S.sim.base b o e), S.sim.off, S.sim.gens, S.sim.os, S.sim.lst⟩, ?_⟩, p⟩
 ·exact (S.sim.objs a l).up up rfl (hs.2 _ (S.fr.offL a l))
 ·rw [q, S.fr.newL] at e; cases e
 ·refine ⟨by simpa [setL] using S.fr.len, ⟨_, hn, fun j y u hj hu => ?_⟩, S.fr.offL, S.fr.newL⟩
  by_cases hji : j = i
  ·subst hji
   rw [hx] at hj; cases hj
   have hlt : j < ρ.length := by rw [S.fr.len]; exact (List.getElem?_eq_some_iff.mp hx).1
   simp only [setL, List.getElem?_set_self hlt, Option.some.injEq] at hu
   subst hu
   exact ⟨c, by simp, r.up up⟩
  ·have hu' : ρ[j]? = some (some u) := by simpa [setL, List.getElem?_set, Ne.symm hji] using hu
   obtain ⟨d, hd, hr⟩ := hl j y u hj hu'
   have hne : y ≠ x := fun e => hji (getElem_nodup nd (e ▸ hj) hx)
   exact ⟨d, by simp [hne, hd], hr.up up⟩
theorem store_ok (F : FrOk B C fd L fa A) (S : SL B C.ns L ι σ ρ s) {i : Nat} {x : Str} (hx : C.ns[i]? = some x) (hk : C.sc.lookup x = some .local) {v : AV} {c : Value} (r : RelV ι σ.nx s.heap v c) {Q : Unit → Shared → Prop}
  (q : ∀ s', Ans B C L ι σ s σ (setL ρ i v) (fun _ _ => True) s' → Q () s') : wpAny (model B.prog B.w) A (storeName (callEnv fd L fa) x c) Q NoE s := by
 obtain ⟨m, hm, hl⟩ := S.fr.loc
 refine wpAny_storeName_local (env := callEnv fd L fa) ?_ hm (fun h' hn hs => q _ (Ans.store S F.nd hx r hm hl hn hs _ trivial)) ?_
 ·show fd.scope.names.lookup x = _
  rw [F.sc]; exact hk
 ·show (fd.scope.kind == .class || (fd.scope.kind == .module && _)) = false
  rw [F.kind]; rfl
theorem repT_of {i : Nat} {t : Expr} (r : repT C i t = true) : ∃ x p, t = .Name x p ∧ C.ns[i]? = some x ∧ C.sc.lookup x = some .local := by
 refine onName_k r ?_
 clear r
 intro x p hq86 r
 subst hq86
 refine and_k r ?_
 clear r
 intro r1 r2
 exact ⟨x, p, rfl, beq_iff_eq.mp r1, beq_iff_eq.mp r2⟩
theorem assign_ok (F : FrOk B C fd L fa A) (S : SL B C.ns L ι σ ρ s) {i : Nat} {t : Expr} (r : repT C i t = true) {v : AV} {c : Value} (rv : RelV ι σ.nx s.heap v c) {Q : Unit → Shared → Prop}
  (q : ∀ s', Ans B C L ι σ s σ (setL ρ i v) (fun _ _ => True) s' → Q () s') : wpAny (model B.prog B.w) A (assign t (callEnv fd L fa) c) Q NoE s := by
 obtain ⟨x, p, rfl, hx, hk⟩ := repT_of r
 exact assign_Name (store_ok F S hx hk rv q)
theorem swaps_none {x : Ex} {e : Expr} (r : rep C x e = true) (t : Option Expr) (l : Nat) (env : Env) : swapsWith e t l env = pure false := by
 exact (by apply Expr.casesOn (motive_1 := fun e => formI.contains e.ctorIdx = true → swapsWith e t l env = pure false) e <;> intros <;> first | rfl | exact absurd ‹_› Bool.false_ne_true : formI.contains e.ctorIdx = true → swapsWith e t l env = pure false) (rep_form r)
theorem ss_asg {i : Nat} {x : Ex} {st : Stmt} (F : FrOk B C fd L fa A) (r : repS C (.asg i x) st = true) (h1 : ∀ z, rep C x z = true → SoE B C fd L fa A T cf x z) : SoS B C fd L fa A T cf (.asg i x) st := by
 intro ρ σ f ρ' σ' ι s h S
 refine onAssign_k r ?_
 clear r
 intro ts y pos hq87 r
 subst hq87
 refine on1_k r ?_
 clear r
 intro t hq88 rz
 subst hq88
 have r := and_inv rz
 obtain ⟨n, p, rfl, hn, hk⟩ := repT_of r.1
 refine bind2_k h ?_
 clear h
 intro v σ₁ e1 hE
 cases hE
 refine wpAny_Assign_Name (wpAny_mono (h1 _ r.2 ρ σ v σ₁ ι s e1 S) (fun c s₁ z => ?_) fun _ _ x => x) (swaps_none r.2 _ _ _)
 refine Ans_k z ?_
 clear z
 intro ι₁ t₁ S₁ v₁
 exact store_ok F S₁ hn hk v₁ fun s' z => Ans.trans t₁ z fun _ _ _ => rfl
theorem draw_list {prog : Program} {w : World} {A : Around} {E : Value → Shared → Prop} {it t : Addr} {items : Array Value} (hne : t ≠ it) : ∀ (n i : Nat) (s : Shared) (Q : List Value → Shared → Prop), s.heap.IsListIter it t i → s.heap.IsList t items → i + n ≤ items.size →
  (∀ h', h'.IsListIter it t (i + n) → Heap.SameBut it s.heap h' → Q ((items.toList.drop i).take n) { s with heap := h' }) → wpAny (model prog w) A (draw (.ref it) n) Q E s
 | 0, i, s, Q, hit, _, _, hQ => by
  show wpAny _ _ (pure []) Q E s
  exact wpAny_pure (by simpa using hQ s.heap hit (Heap.SameBut.refl ..))
 | n + 1, i, s, Q, hit, ht, hle, hQ => by
  have hlt : i < items.size := by lia
  show wpAny _ _ (pyNext (.ref it) >>= _) Q E s
  refine wpAny_bind (wpAny_pyNext_list_item hit ht (x := items[i]) (by simp [hlt]) fun h₁ hit₁ hs₁ => ?_)
  refine wpAny_bind (wpAny_holding (draw_list hne n (i + 1) _ _ hit₁ (ht.extBut hs₁.extBut hne) (by lia) fun h₂ hit₂ hs₂ => wpAny_pure ?_))
  have hd : items.toList.drop i = items[i] :: items.toList.drop (i + 1) := by simp [List.drop_eq_getElem_cons, hlt]
  have := hQ h₂ (by rw [show i + (n + 1) = i + 1 + n by lia]; exact hit₂) (hs₁.trans hs₂)
  rw [hd, List.take_succ_cons] at this
  exact this
theorem unpackItems_list {prog : Program} {w : World} {A : Around} {E : Value → Shared → Prop} {s : Shared} {t : Addr} {items : Array Value} {Q : List Value → Shared → Prop} (hh : A.handled = none) (ht : s.heap.IsList t items)
  (hQ : ∀ h', Heap.ExtBut s.heap.objs.size s.heap h' → Q items.toList { s with heap := h' }) : wpAny (model prog w) A (unpackItems (.ref t) items.size none) Q E s := by
 have hlt : t ≠ s.heap.objs.size := by obtain ⟨o, ho, _⟩ := ht; exact Nat.ne_of_lt (Heap.lt_size ho)
 unfold unpackItems
 refine wpAny_bind ?_
 ·unfold notIterableAtAll
  refine wpAny_bind (wpAny_specialOf ht.typeIs slot_list_iter.lookup ?_)
  refine wpAny_pure ?_
  simp only [Bool.false_eq_true, if_false]
  refine wpAny_bind (wpAny_holding (wpAny_pyIter_list ht ?_))
  refine wpAny_bind (wpAny_holding (draw_list hlt items.size 0 _ _ ⟨_, Heap.get?_push_size _ rfl, rfl, rfl⟩ (ht.push _) (by lia) fun h₁ hit₁ hs₁ => ?_))
  have hall : List.take items.size (List.drop 0 items.toList) = items.toList := by
   rw [List.drop_zero]; exact List.take_of_length_le (by simp)
  rw [hall]
  rw [if_neg (by simp)]
  have ht₁ : h₁.IsList t items := (ht.push _).extBut hs₁.extBut hlt
  refine wpAny_bind (wpAny_holding (wpAny_pyNext_list_end hh hit₁ ht₁ (by simp) fun h₂ he₂ => ?_))
  simp only [Option.isSome_none, Bool.false_eq_true, if_false]
  refine wpAny_pure (hQ h₂ fun b o hb e => he₂ b o hb (hs₁.extBut b o hb (Heap.get?_push_of_some _ e)))
theorem un2 {M : Model} {A : Around} {E : Value → Shared → Prop} {s : Shared} {v : Value} {items : Array Value} {Q : List Value → Shared → Prop} (e : items.size = 2) (h : wpAny M A (unpackItems v items.size none) Q E s) : wpAny M A (unpackItems v 2 none) Q E s := e ▸ h
theorem assign2_ok (F : FrOk B C fd L fa A) (S : SL B C.ns L ι σ ρ s) {i j : Nat} {t u : Expr} {k : Nat} {pos : Pos} (r1 : repT C i t = true) (r2 : repT C j u = true) {v x y : AV} {c : Value} (hu : unp2 v σ = some (x, y)) (rv : RelV ι σ.nx s.heap v c) {Q : Unit → Shared → Prop}
  (q : ∀ s', Ans B C L ι σ s σ (setL (setL ρ i x) j y) (fun _ _ => True) s' → Q () s') : wpAny (model B.prog B.w) A (assign (.Tuple [t, u] k pos) (callEnv fd L fa) c) Q NoE s := by
 have key : ∃ (a b : Value) (tt : Addr), c = .ref tt ∧ RelV ι σ.nx s.heap x a ∧ RelV ι σ.nx s.heap y b ∧ ∀ (Q : List Value → Shared → Prop), (∀ h', Heap.ExtBut s.heap.objs.size s.heap h' → Q [a, b] { s with heap := h' }) → wpAny (model B.prog B.w) A (unpackItems c 2 none) Q NoE s := by
  cases v with
  | tup l =>
   obtain rfl := pair?_inv hu
   obtain ⟨tt, vs, rfl, ht, hr, _⟩ := rv
   obtain ⟨a, b, rfl, ra, rb⟩ := relVs2 hr
   exact ⟨a, b, tt, rfl, ra, rb, fun Q hQ => un2 (items := [a, b].toArray) rfl (unpackItems_tuple (items := [a, b].toArray) F.hand ht hQ)⟩
  | ref a' =>
   refine bind_k hu ?_
   clear hu
   intro l eo hu
   obtain rfl := pair?_inv hu
   obtain ⟨l, rfl⟩ := rv
   obtain ⟨vs, n, g, hr, _⟩ := list_at S.sim l eo
   obtain ⟨a, b, e, ra, rb⟩ := relVs2 hr
   obtain rfl : vs = #[a, b] := by rw [← Array.toList_inj]; exact e
   exact ⟨a, b, _, rfl, ra, rb, fun Q hQ => un2 (items := #[a, b]) rfl (unpackItems_list (items := #[a, b]) F.hand ⟨_, g, rfl, _, rfl⟩ hQ)⟩
  | _ => cases hu
 obtain ⟨a, b, tt, rfl, ra, rb, un⟩ := key
 have e1 : assignEach [t, u] (callEnv fd L fa) = [(false, assign t (callEnv fd L fa)), (false, assign u (callEnv fd L fa))] := by
  obtain ⟨_, _, rfl, _⟩ := repT_of r1
  obtain ⟨_, _, rfl, _⟩ := repT_of r2
  rfl
 rw [arm_assign_Tuple, e1]
 refine wpAny_bind (wpAny_standAt ?_)
 unfold unpack
 refine wpAny_bind (wpAny_holding (un _ fun h' he => ?_))
 show wpAny _ A (do holding [b] (assign t (callEnv fd L fa) a); assignInOrder [assign u (callEnv fd L fa)] [b]) Q NoE _
 have hk : ∀ b o, s.heap.get? b = some o → h'.get? b = some o := fun b o e => he b o (fun q => absurd (Heap.lt_size e) (by rw [q]; exact Nat.lt_irrefl _)) e
 obtain ⟨ι₁, t₁, S₁, u1⟩ := Ans.more (P := fun ι' s' => Up ι σ.nx s.heap ι' σ.nx s'.heap ∧ ι' = ι) S hk s.toks fun u => ⟨u, rfl⟩
 obtain ⟨u1, rfl⟩ := u1
 refine wpAny_bind (wpAny_holding (assign_ok F S₁ r1 (ra.up u1) fun s₂ z => ?_))
 refine Ans_k z ?_
 clear z
 intro ι₂ t₂ S₂ _
 show wpAny _ A (do holding [] (assign u (callEnv fd L fa) b); assignInOrder [] []) Q NoE _
 refine wpAny_bind (wpAny_holding (assign_ok F S₂ r2 ((rb.up u1).up (t₂.up S₁)) fun s₃ z => ?_))
 show wpAny _ A (pure ()) Q NoE _
 exact wpAny_pure (q _ (Ans.trans (t₁.trans t₂ S₂.sep) z fun _ _ p => p))
theorem ss_asg2 {i j : Nat} {x : Ex} {st : Stmt} (F : FrOk B C fd L fa A) (r : repS C (.asg2 i j x) st = true) (h1 : ∀ z, rep C x z = true → SoE B C fd L fa A T cf x z) : SoS B C fd L fa A T cf (.asg2 i j x) st := by
 intro ρ σ f ρ' σ' ι s h S
 refine onAssign_k r ?_
 clear r
 intro ts y pos hq89 r
 subst hq89
 refine on1_k r ?_
 clear r
 intro tt hq90 rz
 subst hq90
 refine onTuple_k rz ?_
 clear rz
 intro ts k p hq91 rz
 subst hq91
 refine on2_k rz ?_
 clear rz
 intro t u hq92 rz
 subst hq92
 refine and_k rz ?_
 clear rz
 intro r1 rz
 refine and_k rz ?_
 clear rz
 intro r2 rz
 refine and_k rz ?_
 clear rz
 intro r3 r4
 refine bind2_k h ?_
 clear h
 intro v σ₁ e1 h
 refine bind2_k h ?_
 clear h
 intro a b hu hE
 cases hE
 rw [arm_exec_Assign]
 refine wpAny_bind (wpAny_standAt (wpAny_bind ?_))
 rw [show swapsWithSole [Expr.Tuple [t, u] k p] y pos.line (callEnv fd L fa) = pure false from swaps_none r3 (some (.Tuple [t, u] k p)) pos.line (callEnv fd L fa)]
 refine wpAny_pure ?_
 rw [if_neg Bool.false_ne_true]
 refine wpAny_bind (wpAny_mono (h1 _ r3 ρ σ v σ₁ ι s e1 S) (fun c s₁ z => ?_) fun _ _ x => x)
 refine Ans_k z ?_
 clear z
 intro ι₁ t₁ S₁ v₁
 have e2 : swappedStores [.Tuple [t, u] k p] y (callEnv fd L fa) = pure none := by
  cases y <;> first | rfl | cases r4
 rw [e2]
 refine wpAny_bind (wpAny_pure ?_)
 show wpAny _ A (do assign (.Tuple [t, u] k p) (callEnv fd L fa) c; pure Flow.next) _ NoE _
 refine wpAny_bind (assign2_ok F S₁ r1 r2 hu v₁ fun s' z => wpAny_pure (Ans.trans t₁ z fun _ _ _ => rfl))
end
end Mine
end
section
open PySem PySem.W PyProof.Rows PySem.Calls PySem.Spec Builtin Builtin.ObjectAttr Builtin.Getset_descriptor
namespace Mine
section
variable {B : Base} {C : RC} {fd : FuncData} {L fa : Addr} {A : Around} {T : Tab} {cf : CF}
variable {ι : Nat → Addr} {σ : St} {ρ : Lc} {s : Shared}
theorem NsR.length {n h} : ∀ {fs : List (Nat × AV)} {es : List DictEntry}, NsR ι n h fs es → es.length = fs.length
 | [], es, r => by cases r; rfl
 | (k, x) :: l, es, ⟨e, r, he, hk, ht, h1, h2⟩ => by subst he; exact congrArg (· + 1) (NsR.length h2)
theorem NsR.put {n h} {f : Nat} (hf : f < NT.length) {x : AV} {c : Value} (rx : RelV ι n h x c) (hsh : Int) (tk : Tok) : ∀ {fs : List (Nat × AV)} {es : List DictEntry}, NsR ι n h fs es → NsR ι n h (fput f x fs) (putL (nm f) hsh (.str (nm f) tk) c es)
 | [], es, r => by cases r; exact ⟨_, [], rfl, hf, ⟨_, rfl⟩, rx, rfl⟩
 | (k, y) :: l, es, ⟨e, r, he, hk, ⟨t, ht⟩, h1, h2⟩ => by
  subst he
  by_cases hh : k = f
  ·subst hh
   have e1 : e.key.isStr (nm k) = true := by rw [ht]; simp [Value.isStr]
   simp only [fput, if_true, putL, e1]
   exact ⟨_, r, rfl, hk, ⟨t, ht⟩, rx, h2⟩
  ·have hn : ¬ nm k = nm f := fun q => hh (nm_inj hk hf q)
   have e1 : e.key.isStr (nm f) = false := by rw [ht]; simp [Value.isStr, hn]
   simp only [fput, hh, if_false, putL, e1, Bool.false_eq_true]
   exact ⟨e, _, rfl, hk, ⟨t, ht⟩, h1, NsR.put hf rx hsh tk h2⟩
theorem fput_length (f : Nat) (x : AV) : ∀ fs : List (Nat × AV), (fput f x fs).length ≤ fs.length + 1
 | [] => Nat.le_refl _
 | (k, y) :: l => by
  have := fput_length f x l
  unfold fput
  split
  ·exact Nat.le_succ _
  ·exact Nat.succ_le_succ this
theorem osa_run {C' x dx : Addr} {f : Nat} {es : List DictEntry} {n : Nat} {v : Value} {tk : Tok} {R : Result → Shared → Prop} (X : B.K.In s.heap) (K : FldOk B C' f) (hx : s.heap.get? x = some (instObj C' dx)) (hd : s.heap.get? dx = some (dictOf es n))
  (hl : (getL (nm f) es).isSome = true) (hz : (putL (nm f) (PyData.keyHash B.w.params (nm f)) (.str (nm f) s.toks) v es).length ≤ 1000)
  (q : ∀ h', h'.get? dx = some (dictOf (putL (nm f) (PyData.keyHash B.w.params (nm f)) (.str (nm f) s.toks) v es) (putN (nm f) es n)) → Heap.SameBut dx s.heap h' → R (.ok (.ret .none)) { s with heap := h', toks := s.toks + 1 }) :
  codeAny (model B.prog B.w) A (.call (.builtin "object.__setattr__") ⟨[.ref x, .str (nm f) tk, v], []⟩) R s := by
 have I := InstAt.of_inst hx hd
 have ht : takerIn B.K C' (nm f) = some none := by unfold takerIn; rw [K.find]; rfl
 refine osa_open X I K.over ht fun b => ?_
 obtain ⟨cd, hc, hd'⟩ := any_some K.dict
 have D' : (s.heap.update dx (Obj.putName (nm f) (PyData.keyHash B.w.params (nm f)) (.str (nm f) s.toks) v)).get? dx = some (dictOf (putL (nm f) (PyData.keyHash B.w.params (nm f)) (.str (nm f) s.toks) v es) (putN (nm f) es n)) := by
  rw [Heap.get?_update_self _ hd (by rw [putName_dict]; rfl), putName_dict]
 refine wpAny_bind (wpAny_pure (wpAny_bind (wpAny_bind (wpAny_loadPart hx (wpAny_bind ((looks_clsIn X hc).here ?_))))))
 rw [hd']
 refine wpAny_pure (a := some dx) (wpAny_bind (wpAny_pure (wpAny_bind ?_)))
 unfold nsSet
 refine wpAny_bind (wpAny_bind (wpAny_askSetting (wpAny_pure (wpAny_bind (wpAny_mkText (wpAny_bind (wpAny_loadPart hd ?_)))))))
 have c : (!es.toArray.any (·.key.isStr (nm f)) && es.toArray.any (·.refKey)) = false := by
  rw [← Array.any_toList, ← Array.any_toList]
  unfold getL at hl
  split at hl
  ·rename_i en he
   rw [List.any_eq_true.mpr ⟨en, List.mem_of_find?_eq_some he, List.find?_some he⟩]; rfl
  ·split at hl
   ·cases hl
   ·rename_i z; rw [Bool.not_eq_true] at z; rw [z, Bool.and_false]
 dsimp only
 rw [aRefKeyMayBeTheName_at, c]
 refine wpAny_updatePart hd ?_
 refine wpAny_bind (wpAny_lookBehind D' (pastItsLine_dict (by rw [List.size_toArray, sizeLine_eq]; lia)) ?_)
 exact wpAny_pure (q _ D' (Heap.SameBut.update ..))
theorem setAttr_run {C' x dx : Addr} {f : Nat} {es : List DictEntry} {n : Nat} {v : Value} {Q : Unit → Shared → Prop} (X : B.K.In s.heap) (K : FldOk B C' f) (hx : s.heap.get? x = some (instObj C' dx)) (hd : s.heap.get? dx = some (dictOf es n))
  (hl : (getL (nm f) es).isSome = true) (hz : (putL (nm f) (PyData.keyHash B.w.params (nm f)) (.str (nm f) (s.toks + 1)) v es).length ≤ 1000)
  (q : ∀ h', h'.get? dx = some (dictOf (putL (nm f) (PyData.keyHash B.w.params (nm f)) (.str (nm f) (s.toks + 1)) v es) (putN (nm f) es n)) → Heap.SameBut dx s.heap h' → Q () { s with heap := h', toks := s.toks + 2 }) :
  wpAny (model B.prog B.w) A (setAttr (.ref x) (nm f) v) Q NoE s :=
 set_plain X (InstAt.of_inst hx hd) K.set (osa_run (s := { s with toks := s.toks + 1 }) X K hx hd hl hz fun h' a b => q h' a b)
theorem setF_ok (G : B.Good) (TO : TabOk B T) (S : SL B C.ns L ι σ ρ s) {o x : AV} {f : Nat} {co cx : Value} {σ' : St} (h : setF T σ o f x = some σ') (ro : RelV ι σ.nx s.heap o co) (rx : RelV ι σ.nx s.heap x cx) {Q : Unit → Shared → Prop}
  (q : ∀ s', Ans B C L ι σ s σ' ρ (fun _ _ => True) s' → Q () s') : wpAny (model B.prog B.w) A (setAttr co (nm f) cx) Q NoE s := by
 refine bind_k h ?_
 clear h
 intro a ha h
 refine bind2_k h ?_
 clear h
 intro C' d e h
 refine bind_k h ?_
 clear h
 intro fs e2 h
 refine ite_k h ?_
 clear h
 intro hc hE
 obtain rfl := asRef_inv ha
 cases hE
 obtain ⟨l, rfl⟩ := ro
 have K := TO.fld C' f hc.1
 obtain ⟨ld, hx, es, n, hd, hr⟩ := inst_ns S.sim l e e2
 have X : B.K.In s.heap := Frag.In.keeps G.kin S.sim.base
 have hl : (getL (nm f) es).isSome = true := by
  have g := hr.get K.lt
  cases qq : fget f fs with
  | none => rw [qq] at g; rw [g]; rfl
  | some y => rw [qq] at g; obtain ⟨c, hc, _⟩ := g; rw [hc]; rfl
 have hp := NsR.put K.lt rx (PyData.keyHash B.w.params (nm f)) (s.toks + 1) hr
 refine setAttr_run X K hx hd hl (by rw [hp.length]; exact Nat.le_trans (fput_length f x fs) (Nat.le_trans hc.2 (by decide))) fun h' h1 h2 => q _ ?_
 exact Ans.update (P := fun _ _ => True) S ld h2 _ (fun u => ⟨_, _, h1, hp.up u⟩) fun _ => trivial
theorem ss_setA {o : Ex} {f : Nat} {x : Ex} {st : Stmt} (F : FrOk B C fd L fa A) (TO : TabOk B T) (r : repS C (.setA o f x) st = true) (h0 : ∀ z, rep C o z = true → SoE B C fd L fa A T cf o z) (h1 : ∀ z, rep C x z = true → SoE B C fd L fa A T cf x z) : SoS B C fd L fa A T cf (.setA o f x) st := by
 intro ρ σ fl ρ' σ' ι s h S
 refine onAssign_k r ?_
 clear r
 intro ts z pos hq93 r
 subst hq93
 refine on1_k r ?_
 clear r
 intro tt hq94 rz
 subst hq94
 refine onAttr_k rz ?_
 clear rz
 intro y n p hq95 rz
 subst hq95
 refine and_k rz ?_
 clear rz
 intro r0 rz
 refine and_k rz ?_
 clear rz
 intro r1 r2
 refine nm_of_k r0 ?_
 clear r0
 intro hlt hq96
 subst hq96
 refine bind2_k h ?_
 clear h
 intro v σ₁ e1 h
 refine bind2_k h ?_
 clear h
 intro w σ₂ e2 h
 refine bind_k h ?_
 clear h
 intro σ₃ e3 hE
 cases hE
 rw [arm_exec_Assign]
 refine wpAny_bind (wpAny_standAt (wpAny_bind ?_))
 rw [show swapsWithSole [Expr.Attribute y (nm f) p] z pos.line (callEnv fd L fa) = pure false from swaps_none r2 (some (.Attribute y (nm f) p)) pos.line (callEnv fd L fa)]
 refine wpAny_pure ?_
 rw [if_neg Bool.false_ne_true]
 refine wpAny_bind (wpAny_mono (h1 _ r2 ρ σ v σ₁ ι s e1 S) (fun c s₁ zz => ?_) fun _ _ x => x)
 refine Ans_k zz ?_
 clear zz
 intro ι₁ t₁ S₁ v₁
 rw [show swappedStores [Expr.Attribute y (nm f) p] z (callEnv fd L fa) = pure none from rfl]
 refine wpAny_bind (wpAny_pure ?_)
 show wpAny _ A (do assign (.Attribute y (nm f) p) (callEnv fd L fa) c; pure Flow.next) _ NoE _
 rw [arm_assign_Attribute]
 refine wpAny_bind (wpAny_bind (wpAny_holding (wpAny_mono (h0 _ r1 ρ σ₁ w σ₂ ι₁ s₁ e2 S₁) (fun d s₂ zz => ?_) fun _ _ x => x)))
 refine Ans_k zz ?_
 clear zz
 intro ι₂ t₂ S₂ v₂
 refine wpAny_bind (wpAny_standAt (wpAny_bind (wpAny_holding (setF_ok F.good TO S₂ e3 v₂ (v₁.up (t₂.up S₁)) fun s₃ zz => ?_))))
 have rel : ∀ {M : Model} {A : Around} {s : Shared} {Q : Unit → Shared → Prop} {vs ks : List Value}, Q () s → wpAny M A (release vs ks) Q NoE s := fun h Γ p _ => by rw [Sem.wp_release]; exact h
 exact rel (wpAny_pure (Ans.trans (t₁.trans t₂ S₂.sep) zz fun _ _ _ => rfl))
end
end Mine
end
section
open PySem PySem.W PyProof.Rows PySem.Calls PySem.Spec
namespace Mine
section
variable {B : Base} {C : RC} {fd : FuncData} {L fa : Addr} {A : Around} {T : Tab} {cf : CF}
variable {ι : Nat → Addr} {σ : St} {ρ : Lc} {s : Shared}
noncomputable def dputG {K : Type} [DecidableEq K] (k : K) (v : AV) : List (K × AV) → List (K × AV)
 | [] => [(k, v)]
 | (g, u) :: r => if g = k then (g, v) :: r else (g, u) :: dputG k v r
theorem dputI_eq (k : Int) (v : AV) : ∀ l, dputI k v l = dputG k v l
 | [] => rfl
 | (g, u) :: r => by simp [dputI, dputG, dputI_eq k v r]
theorem fput_eq {k : Nat} (hk : k < NT.length) (v : AV) : ∀ l : List (Nat × AV), (∀ p ∈ l, p.1 < NT.length) → (fput k v l).map (fun p => (nm p.1, p.2)) = dputG (nm k) v (l.map fun p => (nm p.1, p.2))
 | [], _ => rfl
 | (g, u) :: r, hl => by
  have hg := hl (g, u) List.mem_cons_self
  by_cases h : g = k
  ·simp [fput, dputG, h]
  ·have hn : ¬ nm g = nm k := fun q => h (nm_inj hg hk q)
   simp [fput, dputG, h, hn, fput_eq hk v r fun p hp => hl p (List.mem_cons_of_mem _ hp)]
theorem fput_mem {k : Nat} (hk : k < NT.length) (v : AV) : ∀ l : List (Nat × AV), (∀ p ∈ l, p.1 < NT.length) → ∀ p ∈ fput k v l, p.1 < NT.length
 | [], _, p, hp => by simp [fput] at hp; subst hp; exact hk
 | (g, u) :: r, hl, p, hp => by
  by_cases h : g = k
  ·simp only [fput, h, if_true, List.mem_cons] at hp
   rcases hp with rfl | hp
   ·exact hk
   ·exact hl p (List.mem_cons_of_mem _ hp)
  ·simp only [fput, h, if_false, List.mem_cons] at hp
   rcases hp with rfl | hp
   ·exact hl _ List.mem_cons_self
   ·exact fput_mem hk v r (fun p hp => hl p (List.mem_cons_of_mem _ hp)) p hp
theorem PairsR.put {K : Type} [DecidableEq K] {n h} {k : K} {v : AV} {c : Value} (rv : RelV ι n h v c) : ∀ {l : List (K × AV)} {cs : List (K × Value)}, (cs.map (·.1)).Nodup → PairsR ι n h l cs → PairsR ι n h (dputG k v l) (stored cs k c)
 | [], cs, _, e => by simp only [PairsR] at e; subst e; exact ⟨c, [], rfl, rv, rfl⟩
 | (g, x) :: l, _, nd, ⟨d, r, e, h1, h2⟩ => by
  subst e
  simp only [List.map_cons, List.nodup_cons] at nd
  by_cases hg : g = k
  ·subst hg
   have e2 : stored ((g, d) :: r) g c = (g, c) :: r := by
    unfold stored
    rw [if_pos (by simp)]
    simp only [List.map_cons, if_true]
    rw [map_store_of_not_mem r g c nd.1]
   rw [e2]
   simp only [dputG, if_true]
   exact ⟨c, r, rfl, rv, h2⟩
  ·have ih := PairsR.put (k := k) rv nd.2 h2
   have e2 : stored ((g, d) :: r) k c = (g, d) :: stored r k c := by
    unfold stored
    simp only [List.any_cons, hg, decide_false, Bool.false_or]
    split
    ·simp [hg]
    ·simp
   rw [e2]
   simp only [dputG, hg, if_false]
   exact ⟨d, _, rfl, h1, ih⟩
theorem TrisR.put {n h} {k : List Int} {v : AV} {c : Value} {ak : Addr} (rv : RelV ι n h v c) : ∀ {l : List (List Int × AV)} {cs : List (List Int × Addr × Value)}, (cs.map (·.1)).Nodup → TrisR ι n h l cs → TrisR ι n h (dputT k v l) (storedH cs k ak c)
 | [], cs, _, e => by simp only [TrisR] at e; subst e; exact ⟨ak, c, [], rfl, rv, rfl⟩
 | (g, x) :: l, _, nd, ⟨a, d, r, e, h1, h2⟩ => by
  subst e
  simp only [List.map_cons, List.nodup_cons] at nd
  by_cases hg : g = k
  ·subst hg
   have e2 : storedH ((g, a, d) :: r) g ak c = (g, a, c) :: r := by
    unfold storedH
    rw [if_pos (by simp [atKey])]
    simp only [List.map_cons]
    rw [map_putAt_of_not_mem r g c nd.1]
    simp [putAt]
   rw [e2]
   simp only [dputT, if_true]
   exact ⟨a, c, r, rfl, rv, h2⟩
  ·have ih := TrisR.put (k := k) (ak := ak) rv nd.2 h2
   have e2 : storedH ((g, a, d) :: r) k ak c = (g, a, d) :: storedH r k ak c := by
    unfold storedH
    have e3 : atKey ((g, a, d) :: r) k = atKey r k := by simp [atKey, hg]
    rw [e3]
    split
    ·simp [putAt, hg]
    ·simp
   rw [e2]
   simp only [dputT, hg, if_false]
   exact ⟨a, d, _, rfl, h1, ih⟩
theorem DictOf.nodup {prog : Program} {w : World} {K : Type} [DecidableEq K] {knd : KeyKind prog w K} {h : Heap} {a : Addr} {cs} (x : h.DictOf knd a cs) : (cs.map (·.1)).Nodup := by
 obtain ⟨_, _, _, _, _, _, _, _, hn⟩ := x
 exact hn
theorem DictOfH.nodup {prog : Program} {w : World} {K : Type} [DecidableEq K] {knd : HeapKind prog w K} {h : Heap} {a : Addr} {cs} (x : h.DictOfH knd a cs) : (cs.map (·.1)).Nodup := by
 obtain ⟨_, _, _, _, _, _, _, _, hn⟩ := x
 exact hn
theorem small_size {n : Nat} (h : n < 900) : n ≤ sizeLine := Nat.le_of_lt (Nat.lt_of_lt_of_le h (by decide))
theorem TrisR.length {n h} : ∀ {l : List (List Int × AV)} {cs}, TrisR ι n h l cs → cs.length = l.length
 | [], _, e => by simp only [TrisR] at e; subst e; rfl
 | (_, _) :: l, _, ⟨a, c, r, e, h1, h2⟩ => by subst e; simp [TrisR.length h2]
theorem setS_ok (F : FrOk B C fd L fa A) (S : SL B C.ns L ι σ ρ s) {o k x : AV} {co ck cx : Value} {σ' : St} (h : setS o k x σ = some σ') (ro : RelV ι σ.nx s.heap o co) (rk : RelV ι σ.nx s.heap k ck) (rx : RelV ι σ.nx s.heap x cx) {Q : Unit → Shared → Prop}
  (q : ∀ s', Ans B C L ι σ s σ' ρ (fun _ _ => True) s' → Q () s') : wpAny (model B.prog B.w) A (setItem co ck cx) Q NoE s := by
 refine bind_k h ?_
 clear h
 intro a ha h
 refine bind_k h ?_
 clear h
 intro o' hp hE
 obtain rfl := asRef_inv ha
 obtain ⟨l, rfl⟩ := ro
 have hu : A.in1.units < cLine := by have := F.units; show A.units + 1 < cLine; lia
 cases hE
 have go : ∀ {h' : Heap} {tk : Tok}, Heap.SameBut (ι a) s.heap h' → (Up ι σ.nx s.heap ι σ.nx h' → ObjOk B ι σ.nx h' (ι a) o') → Q () { s with heap := h', toks := tk } := fun sb k =>
  q _ (Ans.update (P := fun _ _ => True) S l sb _ k fun _ => trivial)
 have ob := S.sim.objs a l
 have h := hp
 clear hp
 revert ob h
 cases σ.ob a with
 | list xs =>
  intro ob h
  obtain ⟨vs, n, g, hr, hz⟩ := ob
  refine bind_k h ?_
  clear h
  intro i hi h
  refine bind_k h ?_
  clear h
  intro j hj hE
  obtain ⟨rfl, hlt⟩ := at_spec hj
  obtain rfl := asInt_inv hi
  obtain ⟨t, rfl⟩ := rk
  cases hE
  have h63 := lim_63
  have hlen := hr.length
  rw [Array.length_toList] at hlen
  refine setItem_exact g (Int.natCast_nonneg j) (by lia) (by lia) fun h' n' g' sb => go sb fun u => ⟨_, _, g', ?_, by rw [List.length_set]; exact hz⟩
  have e2 : (vs.setIfInBounds (j : Int).toNat cx).toList = vs.toList.set j cx := by simp
  rw [e2]
  exact (hr.up u).set j (rx.up u)
 | idict kvs =>
  intro ob h
  obtain ⟨cs, hd, hp⟩ := ob
  refine bind_k h ?_
  clear h
  intro i hi h
  refine ite_k h ?_
  clear h
  intro hz hE
  obtain rfl := asInt_inv hi
  obtain ⟨t, rfl⟩ := rk
  cases hE
  refine wpAny_setItem_pairs (intKind_is _ _ _ _) hd (fun h' hm sb => go sb fun u => ⟨_, hm, ?_⟩) (by rw [hp.length]; exact small_size hz)
  rw [dputI_eq]
  exact PairsR.put (rx.up u) (DictOf.nodup hd) (hp.up u)
 | sdict kvs =>
  intro ob h
  obtain ⟨cs, kvs', hd, hp, hk, hn⟩ := ob
  refine bind_k h ?_
  clear h
  intro i hi h
  refine ite_k h ?_
  clear h
  intro hz hE
  obtain rfl := asStr_inv hi
  obtain ⟨hi, t, rfl⟩ := rk
  cases hE
  subst hk
  exact wpAny_setItem_pairs (strKind_is _ _ _ _) hd (fun h' hm sb => go sb fun u => ⟨_, _, hm, PairsR.put (rx.up u) (DictOf.nodup hd) (hp.up u), (fput_eq hi _ _ hn).symm, fput_mem hi _ _ hn⟩)
   (by rw [hp.length, List.length_map]; exact small_size hz)
 | tdict kvs =>
  intro ob h
  obtain ⟨cs, hd, hp⟩ := ob
  refine bind_k h ?_
  clear h
  intro li hi h
  refine bind_k h ?_
  clear h
  intro k hk h
  refine ite_k h ?_
  clear h
  intro hz hE
  obtain rfl := asTup_inv hi
  cases hE
  obtain ⟨ak, rfl, hk'⟩ := tupKey_of (B := B) hk rk
  exact wpAny_setItem_heap (knd := tupleKind (intKind B.prog B.w)) hu hk' hd (fun h' hm sb => go sb fun u => ⟨_, hm, TrisR.put (rx.up u) (DictOfH.nodup hd) (hp.up u)⟩) (by rw [hp.length]; exact small_size hz)
 | edict =>
  intro ob h
  cases k with
  | int i =>
   obtain ⟨t, rfl⟩ := rk
   cases h
   exact wpAny_setItem_pairs (intKind_is _ _ _ _) (edict_of ob _) (fun h' hm sb => go sb fun u => ⟨_, hm, cx, [], rfl, rx.up u, rfl⟩) (Nat.zero_le _)
  | str i =>
   obtain ⟨hi, t, rfl⟩ := rk
   cases h
   exact wpAny_setItem_pairs (strKind_is _ _ _ _) (edict_of ob _) (fun h' hm sb => go sb fun u => ⟨_, [(nm i, x)], hm, ⟨cx, [], rfl, rx.up u, rfl⟩, rfl, fun p hp => by cases List.mem_singleton.mp hp; exact hi⟩) (Nat.zero_le _)
  | tup li =>
   refine bind_k h ?_
   clear h
   intro k hk hE
   cases hE
   obtain ⟨ak, rfl, hk'⟩ := tupKey_of (B := B) hk rk
   exact wpAny_setItem_heap (knd := tupleKind (intKind B.prog B.w)) hu hk' (edict_ofH ob _) (fun h' hm sb => go sb fun u => ⟨_, hm, ak, cx, [], rfl, rx.up u, rfl⟩) (Nat.zero_le _)
  | _ => cases h
 | _ => intro ob h; cases h
theorem rel_ok {M : Model} {A : Around} {s : Shared} {Q : Unit → Shared → Prop} {vs ks : List Value} (h : Q () s) : wpAny M A (release vs ks) Q NoE s := fun Γ p _ => by rw [Sem.wp_release]; exact h
theorem ss_setS {o k x : Ex} {st : Stmt} (F : FrOk B C fd L fa A) (r : repS C (.setS o k x) st = true) (h0 : ∀ z, rep C o z = true → SoE B C fd L fa A T cf o z) (hk : ∀ z, rep C k z = true → SoE B C fd L fa A T cf k z)
  (h1 : ∀ z, rep C x z = true → SoE B C fd L fa A T cf x z) : SoS B C fd L fa A T cf (.setS o k x) st := by
 intro ρ σ fl ρ' σ' ι s h S
 refine onAssign_k r ?_
 clear r
 intro ts z pos hq97 r
 subst hq97
 refine on1_k r ?_
 clear r
 intro tt hq98 rz
 subst hq98
 refine onSub_k rz ?_
 clear rz
 intro y w p hq99 rz
 subst hq99
 refine and_k rz ?_
 clear rz
 intro r0 rz
 refine and_k rz ?_
 clear rz
 intro r1 rz
 refine and_k rz ?_
 clear rz
 intro r2 r3
 refine bind2_k h ?_
 clear h
 intro v σ₁ e1 h
 refine bind2_k h ?_
 clear h
 intro ov σ₂ e2 h
 refine bind2_k h ?_
 clear h
 intro kv σ₃ e3 h
 refine bind_k h ?_
 clear h
 intro σ₄ e4 hE
 cases hE
 rw [arm_exec_Assign]
 refine wpAny_bind (wpAny_standAt (wpAny_bind ?_))
 rw [show swapsWithSole [Expr.Subscript y w p] z pos.line (callEnv fd L fa) = pure false from swaps_none r3 (some (.Subscript y w p)) pos.line (callEnv fd L fa)]
 refine wpAny_pure ?_
 rw [if_neg Bool.false_ne_true]
 refine wpAny_bind (wpAny_mono (h1 _ r3 ρ σ v σ₁ ι s e1 S) (fun c s₁ zz => ?_) fun _ _ x => x)
 refine Ans_k zz ?_
 clear zz
 intro ι₁ t₁ S₁ v₁
 rw [show swappedStores [Expr.Subscript y w p] z (callEnv fd L fa) = pure none from rfl]
 refine wpAny_bind (wpAny_pure ?_)
 show wpAny _ A (do assign (.Subscript y w p) (callEnv fd L fa) c; pure Flow.next) _ NoE _
 rw [arm_assign_Subscript]
 refine wpAny_bind (wpAny_bind (wpAny_holding (wpAny_mono (h0 _ r1 ρ σ₁ ov σ₂ ι₁ s₁ e2 S₁) (fun d s₂ zz => ?_) fun _ _ x => x)))
 refine Ans_k zz ?_
 clear zz
 intro ι₂ t₂ S₂ v₂
 refine wpAny_bind (wpAny_holding (wpAny_mono (hk _ r2 ρ σ₂ kv σ₃ ι₂ s₂ e3 S₂) (fun ck s₃ zz => ?_) fun _ _ x => x))
 refine Ans_k zz ?_
 clear zz
 intro ι₃ t₃ S₃ v₃
 refine wpAny_bind (wpAny_standAt (wpAny_bind (wpAny_holding (setS_ok F S₃ e4 (v₂.up (t₃.up S₂)) v₃ ((v₁.up (t₂.up S₁)).up (t₃.up S₂)) fun s₄ zz => ?_))))
 exact rel_ok (wpAny_pure (Ans.trans ((t₁.trans t₂ S₂.sep).trans t₃ S₃.sep) zz fun _ _ _ => rfl))
theorem ss_augL {i : Nat} {op : Bop} {x : Ex} {st : Stmt} (F : FrOk B C fd L fa A) (r : repS C (.augL i op x) st = true) (h1 : ∀ z, rep C x z = true → SoE B C fd L fa A T cf x z) : SoS B C fd L fa A T cf (.augL i op x) st := by
 intro ρ σ fl ρ' σ' ι s h S
 refine onAug_k r ?_
 clear r
 intro t o y pos hq100 r
 subst hq100
 refine and_k r ?_
 clear r
 intro r0 r
 refine and_k r ?_
 clear r
 intro r1 r2
 obtain ⟨n, p, rfl, hn, hk⟩ := repT_of r0
 obtain rfl := repOp_inv r1
 refine bind_k h ?_
 clear h
 intro o' ha h
 refine bind_k h ?_
 clear h
 intro w ho h
 refine bind_k h ?_
 clear h
 intro a hw h
 refine bind2_k h ?_
 clear h
 intro v σ₁ e1 h
 refine bind_k h ?_
 clear h
 intro b hb h
 refine bind_k h ?_
 clear h
 intro c' hc hE
 obtain rfl := asInt_inv hw
 obtain rfl := asInt_inv hb
 subst ho
 cases hE
 obtain ⟨m, hm, hl⟩ := S.fr.loc
 obtain ⟨c, ec, t, rfl⟩ := hl i n (.int a) hn ha
 refine wpAny_AugAssign_Name (wpAny_loadName_local (env := callEnv fd L fa) F.kind (by show fd.scope.names.lookup n = _; rw [F.sc]; exact hk) hm ec ?_)
 refine wpAny_mono (h1 _ r2 ρ σ _ σ₁ ι s e1 S) (fun d s₁ zz => ?_) fun _ _ x => x
 refine Ans_k zz ?_
 clear zz
 intro ι₁ t₁ S₁ w101
 obtain ⟨u, rfl⟩ := w101
 refine (bin_int F S₁.sim hc ?_).2
 obtain ⟨ι₂, t₂, S₂, rfl⟩ := Ans.same (P := fun ι' _ => ι' = ι₁) (s' := { s₁ with toks := s₁.toks + 1 }) S₁ rfl rfl rfl rfl
 exact store_ok F S₂ hn hk (v := .int c') ⟨_, rfl⟩ fun s' z => Ans.trans (t₁.trans t₂ S₂.sep) z fun _ _ _ => rfl
theorem ss_augA {o : Ex} {f : Nat} {op : Bop} {x : Ex} {st : Stmt} (F : FrOk B C fd L fa A) (TO : TabOk B T) (r : repS C (.augA o f op x) st = true) (h0 : ∀ z, rep C o z = true → SoE B C fd L fa A T cf o z) (h1 : ∀ z, rep C x z = true → SoE B C fd L fa A T cf x z) : SoS B C fd L fa A T cf (.augA o f op x) st := by
 intro ρ σ fl ρ' σ' ι s h S
 refine onAug_k r ?_
 clear r
 intro tt p z pos hq102 r
 subst hq102
 refine onAttr_k r ?_
 clear r
 intro y n tp hq103 rz
 subst hq103
 refine and_k rz ?_
 clear rz
 intro r0 rz
 refine and_k rz ?_
 clear rz
 intro r1 rz
 refine and_k rz ?_
 clear rz
 intro r2 r3
 refine nm_of_k r0 ?_
 clear r0
 intro hlt hq104
 subst hq104
 obtain rfl := repOp_inv r2
 refine bind2_k h ?_
 clear h
 intro w σ₁ e1 h
 refine bind_k h ?_
 clear h
 intro old e2 h
 refine bind2_k h ?_
 clear h
 intro v σ₂ e3 h
 refine bind_k h ?_
 clear h
 intro a ha h
 refine bind_k h ?_
 clear h
 intro b hb h
 refine bind_k h ?_
 clear h
 intro c' hc h
 refine bind_k h ?_
 clear h
 intro σ₃ e4 hE
 obtain rfl := asInt_inv ha
 obtain rfl := asInt_inv hb
 cases hE
 rw [arm_exec_AugAssign_2]
 refine wpAny_bind (wpAny_standAt (wpAny_bind (wpAny_mono (h0 _ r1 ρ σ w σ₁ ι s e1 S) (fun d s₁ zz => ?_) fun _ _ x => x)))
 refine Ans_k zz ?_
 clear zz
 intro ι₁ t₁ S₁ v₁
 refine wpAny_bind (wpAny_holding ?_)
 refine wpAny_bind (wpAny_standAt (wpAny_bind (getF_ok F.good TO S₁.sim e2 v₁ fun y' ry => ?_)))
 obtain ⟨t, rfl⟩ := ry
 obtain ⟨ι₁', t₁', S₁', rfl⟩ := Ans.same (P := fun ι' _ => ι' = ι₁) (s' := { s₁ with toks := s₁.toks + 1 }) S₁ rfl rfl rfl rfl
 refine wpAny_bind (wpAny_holding (wpAny_mono (h1 _ r3 ρ σ₁ _ σ₂ ι₁' _ e3 S₁') (fun d' s₂ zz => ?_) fun _ _ x => x))
 refine Ans_k zz ?_
 clear zz
 intro ι₂ t₂ S₂ w105
 obtain ⟨u, rfl⟩ := w105
 refine wpAny_bind (wpAny_standAt (wpAny_operating (bin_int F S₂.sim hc ?_).2))
 obtain ⟨ι₃, t₃, S₃, rfl⟩ := Ans.same (P := fun ι' _ => ι' = ι₂) (s' := { s₂ with toks := s₂.toks + 1 }) S₂ rfl rfl rfl rfl
 refine wpAny_bind (wpAny_standAt (wpAny_bind (wpAny_holding (setF_ok F.good TO S₃ e4 ((v₁.up (t₁'.up S₁)).up (t₂.up S₁')) (x := .int c') ⟨_, rfl⟩ fun s₄ zz => ?_))))
 exact wpAny_bind (rel_ok (wpAny_pure (Ans.trans (((t₁.trans t₁' S₁'.sep).trans t₂ S₂.sep).trans t₃ S₃.sep) zz fun _ _ _ => rfl)))
end
end Mine
end
section
open PySem PySem.W PyProof.Rows PySem.Calls PySem.Spec
namespace Mine
theorem from_bounds (a n : Nat) : sliceBounds (some (a : Int)) none none n = (((min a n : Nat) : Int), (n : Int), 1) := by
 simp only [sliceBounds, Option.getD_none]
 have h1 : ¬ ((a : Int) < 0) := by lia
 simp only [h1, if_false, show (1 : Int) > 0 by decide, if_true]
 congr 1
 lia
noncomputable def selF (st sp : Int) (i : Nat) : Bool := if (1 : Int) > 0 then st ≤ i && i < sp && (i - st) % 1 == 0 else sp < i && i ≤ st && (st - i) % (-1) == 0
theorem selF_eq (a n i : Nat) (h : i < n) : selF ((min a n : Nat) : Int) (n : Int) i = decide (min a n ≤ i) := by
 unfold selF
 rw [if_pos (by decide)]
 by_cases hh : min a n ≤ i
 ·have h1 : ((min a n : Nat) : Int) ≤ i := by lia
  have h2 : (i : Int) < n := by lia
  simp [hh, h2]
 ·have h1 : ¬ ((min a n : Nat) : Int) ≤ i := by lia
  simp [hh]
theorem keep_take (xs : List Value) (a : Nat) : ∀ (k n : Nat), k + xs.length = n → (xs.zipIdx k).filterMap (fun (p : Value × Nat) => if selF ((min a n : Nat) : Int) (n : Int) p.2 then none else some p.1) = xs.take (min a n - k) := by
 induction xs with
 | nil => intro k n _; simp
 | cons x xs ih =>
  intro k n h
  simp only [List.length_cons] at h
  rw [List.zipIdx_cons, List.filterMap_cons]
  rw [selF_eq a n k (by lia)]
  by_cases hh : min a n ≤ k
  ·have e : min a n - k = 0 := by lia
   have e2 : min a n - (k + 1) = 0 := by lia
   simp only [hh, decide_true, if_true]
   rw [ih (k + 1) n (by lia), e, e2]; simp
  ·simp only [hh, decide_false, Bool.false_eq_true, if_false]
   rw [ih (k + 1) n (by lia)]
   have e : min a n - k = (min a n - (k + 1)) + 1 := by lia
   rw [e, List.take_succ_cons]
theorem delItem_slice {prog : Program} {w : World} {A : Around} {E : Value → Shared → Prop} {s : Shared} {l sl : Addr} {items : Array Value} {n a : Nat} {t : Tok} {Q : Unit → Shared → Prop} (ho : s.heap.get? l = some (listOf items n))
  (hs : s.heap.IsSliceOf sl (.int (a : Int) t) .none .none) (hz : items.size ≤ sizeLine)
  (h : ∀ h' n', h'.get? l = some (listOf (items.toList.take a).toArray n') → Heap.SameBut l s.heap h' → Q () { s with heap := h' }) : wpAny (model prog w) A (delItem (.ref l) (.ref sl)) Q E s := by
 obtain ⟨os, hos, hcs, hds⟩ := id hs
 have hTs : s.TypeIs (.ref sl) "slice" := ⟨os, hos, hcs⟩
 have hl : s.heap.IsList l items := ⟨_, ho, rfl, _, rfl⟩
 refine wpAny_delItem_slot hl.typeIs (by decide) PySem.F.slot_list_delitem (wpAny_call_entry PySem.F.slot_list_delitem hl.typeIs PySem.F.entry_list_delitem ?_ (PySem.F.args_list_delitem_2 _ _))
 show wpAny _ _ (Builtin.List.listSubscript? (.ref sl) >>= _) _ _ s
 refine wpAny_bind ?_
 unfold Builtin.List.listSubscript?
 refine wpAny_bind (wpAny_specialOf hTs slice_no_index ?_)
 simp only [Option.isNone_none, if_true]
 refine wpAny_pure ?_
 show wpAny _ _ (typeOf (.ref sl) >>= _) _ _ s
 refine wpAny_bind (wpAny_typeOf hTs ?_)
 rw [if_neg (by decide)]
 rw [listSliceParts_eq]
 refine wpAny_bind (wpAny_bind (wpAny_field hos hds (x := .none) rfl (wpAny_bind (wpAny_listPart .none ?_))))
 rw [if_neg (by exact Bool.false_ne_true)]
 refine wpAny_bind (wpAny_field hos hds (x := .int (a : Int) t) rfl (wpAny_bind (wpAny_listPart (.int (a : Int) t) ?_)))
 refine wpAny_bind (wpAny_field hos hds (x := .none) rfl (wpAny_bind (wpAny_listPart .none (wpAny_pure ?_))))
 refine wpAny_bind (m := Builtin.List.listItems (.ref l)) ?_
 unfold Builtin.List.listItems
 refine wpAny_bind (wpAny_seqItems ho rfl (wpAny_pure ?_))
 refine wpAny_bind (wpAny_of_eq (sliceIndices_raw (some (a : Int)) none none items.size (by simp)) ?_)
 rw [from_bounds]
 refine wpAny_bind (wpAny_rule ?_)
 show wpAny _ _ (Builtin.List.listUpdate (.ref l) (fun xs => (xs.toList.zipIdx.filterMap fun (p : Value × Nat) => if selF ((min a items.size : Nat) : Int) (items.size : Int) p.2 then none else some p.1).toArray) >>= _) _ _ s
 have e1 : ((items.toList.zipIdx.filterMap fun (p : Value × Nat) => if selF ((min a items.size : Nat) : Int) (items.size : Int) p.2 then none else some p.1).toArray) = (items.toList.take a).toArray := by
  rw [keep_take items.toList a 0 items.size (by simp)]
  congr 1
  by_cases hh : a ≤ items.size
  ·rw [Nat.min_eq_left hh, Nat.sub_zero]
  ·rw [Nat.min_eq_right (by lia), Nat.sub_zero, List.take_of_length_le (by simp), List.take_of_length_le (by simp; lia)]
 have g := PySem.IsL.update (n := n) (items := items) ho (fun xs => (xs.toList.zipIdx.filterMap fun (p : Value × Nat) => if selF ((min a items.size : Nat) : Int) (items.size : Int) p.2 then none else some p.1).toArray)
 refine wpAny_bind (wpAny_updateSeq ho rfl ?_ hz (by rw [e1]; simp; lia))
 refine wpAny_bind (wpAny_letGo (wpAny_pure ⟨_, rfl, ?_⟩))
 rw [e1] at g
 exact h _ _ g (Heap.SameBut.update ..)
end Mine
end
section
open PySem PySem.W PyProof.Rows PySem.Calls PySem.Spec
namespace Mine
section
variable {B : Base} {C : RC} {fd : FuncData} {L fa : Addr} {A : Around} {T : Tab} {cf : CF}
variable {ι : Nat → Addr} {σ : St} {ρ : Lc} {s : Shared}
theorem ss_pass {st : Stmt} (r : repS C .pass st = true) : SoS B C fd L fa A T cf .pass st := by
 intro ρ σ fl ρ' σ' ι s h S
 refine isPass_k r ?_
 clear r
 intro p hq106
 subst hq106
 cases h
 exact wpAny_Pass (Ans.same S rfl rfl rfl rfl)
theorem ss_bad {st : Stmt} : SoS B C fd L fa A T cf .bad st := by
 intro ρ σ fl ρ' σ' ι s h S
 cases h
theorem ss_retN {st : Stmt} (r : repS C .retN st = true) : SoS B C fd L fa A T cf .retN st := by
 intro ρ σ fl ρ' σ' ι s h S
 refine onRet_k r ?_
 clear r
 intro x p hq107 r
 subst hq107
 refine onN_k r ?_
 clear r
 intro hq108 r
 subst hq108
 cases h
 exact wpAny_Return_none (Ans.same S rfl rfl rfl ⟨_, rfl, rfl⟩)
theorem ss_ret {x : Ex} {st : Stmt} (r : repS C (.ret x) st = true) (h1 : ∀ z, rep C x z = true → SoE B C fd L fa A T cf x z) : SoS B C fd L fa A T cf (.ret x) st := by
 intro ρ σ fl ρ' σ' ι s h S
 refine onRet_k r ?_
 clear r
 intro y p hq109 r
 subst hq109
 refine onS_k r ?_
 clear r
 intro y hq110 r2
 subst hq110
 refine bind2_k h ?_
 clear h
 intro v σ₁ e1 h
 cases h
 refine wpAny_Return_some (wpAny_mono (h1 _ r2 ρ σ v σ₁ ι s e1 S) (fun c s₁ z => ?_) fun _ _ x => x)
 refine Ans_k z ?_
 clear z
 intro ι₁ t₁ S₁ v₁
 exact ⟨ι₁, t₁, S₁, c, rfl, v₁⟩
theorem unit_rel {n h} {v : AV} {c : Value} (u : isUnit v = true) (r : RelV ι n h v c) : ∀ a, c ≠ .ref a := by
 cases v with
 | none => cases r; exact fun _ h => nomatch h
 | bool => cases r; exact fun _ h => nomatch h
 | int => obtain ⟨t, rfl⟩ := r; exact fun _ h => nomatch h
 | _ => cases u
theorem drop_eq {c : Value} (hc : ∀ a, c ≠ .ref a) (y : Expr) (pos : Pos) : dropValue y pos c = pure .next := by
 cases c <;> first | exact absurd rfl (hc _) | (cases y <;> rfl)
theorem ss_expr {x : Ex} {st : Stmt} (F : FrOk B C fd L fa A) (r : repS C (.expr x) st = true) (h1 : ∀ z, rep C x z = true → SoE B C fd L fa A T cf x z) : SoS B C fd L fa A T cf (.expr x) st := by
 intro ρ σ fl ρ' σ' ι s h S
 refine onExpr_k r ?_
 clear r
 intro y pos hq111 r
 subst hq111
 refine bind2_k h ?_
 clear h
 intro v σ₁ e1 h
 refine ite_k h ?_
 clear h
 intro hu h
 cases h
 rw [arm_exec_Expr]
 have hi : interactive (callEnv fd L fa) = false := by
  show (fd.scope.kind == .module && _) = false
  rw [F.kind]; rfl
 rw [hi]
 refine wpAny_bind (wpAny_standAt ?_)
 rw [if_neg Bool.false_ne_true, swaps_none r none pos.line (callEnv fd L fa)]
 refine wpAny_bind (wpAny_pure ?_)
 rw [if_neg Bool.false_ne_true]
 refine wpAny_bind (wpAny_mono (h1 _ r ρ σ v σ₁ ι s e1 S) (fun c s₁ z => ?_) fun _ _ x => x)
 refine Ans_k z ?_
 clear z
 intro ι₁ t₁ S₁ v₁
 rw [drop_eq (unit_rel hu v₁)]
 exact wpAny_pure ⟨ι₁, t₁, S₁, rfl⟩
theorem ss_ite {c : Ex} {a b : List Sx} {st : Stmt} (r : repS C (.ite c a b) st = true) (h0 : ∀ z, rep C c z = true → SoT B C fd L fa A T cf c z) (h1 : ∀ l, repSs C a l = true → SoSs B C fd L fa A T cf a l) (h2 : ∀ l, repSs C b l = true → SoSs B C fd L fa A T cf b l) :
  SoS B C fd L fa A T cf (.ite c a b) st := by
 intro ρ σ fl ρ' σ' ι s h S
 refine onIf_k r ?_
 clear r
 intro y l1 l2 pos hq112 r
 subst hq112
 refine and_k r ?_
 clear r
 intro r0 r
 refine and_k r ?_
 clear r
 intro r1 r2
 refine bind2_k h ?_
 clear h
 intro v σ₁ e1 h
 refine bind_k h ?_
 clear h
 intro bb hb h
 obtain rfl := asBool_inv hb
 refine wpAny_If (wpAny_mono (h0 _ r0 ρ σ bb σ₁ ι s e1 S) (fun c s₁ z => ?_) fun _ _ x => x)
 refine Ans_k z ?_
 clear z
 intro ι₁ t₁ S₁ hq113
 subst hq113
 cases c with
 | false => exact wpAny_mono (h2 _ r2 ρ σ₁ fl ρ' σ' ι₁ s₁ h S₁) (fun c s₂ z => Ans.trans t₁ z fun _ _ p => p) fun _ _ x => x
 | true => exact wpAny_mono (h1 _ r1 ρ σ₁ fl ρ' σ' ι₁ s₁ h S₁) (fun c s₂ z => Ans.trans t₁ z fun _ _ p => p) fun _ _ x => x
theorem ss_delF {x y : Ex} {st : Stmt} (F : FrOk B C fd L fa A) (r : repS C (.delF x y) st = true) (h0 : ∀ z, rep C x z = true → SoE B C fd L fa A T cf x z) (h1 : ∀ z, rep C y z = true → SoE B C fd L fa A T cf y z) : SoS B C fd L fa A T cf (.delF x y) st := by
 intro ρ σ fl ρ' σ' ι s h S
 refine onDel_k r ?_
 clear r
 intro ts pos hq114 r
 subst hq114
 refine on1_k r ?_
 clear r
 intro tt hq115 rz
 subst hq115
 refine onSub_k rz ?_
 clear rz
 intro o sl p2 hq116 rz
 subst hq116
 refine onSlice_k rz ?_
 clear rz
 intro l hi sp p1 hq117 rz
 subst hq117
 refine onN_k rz ?_
 clear rz
 intro hq118 rz
 subst hq118
 refine onN_k rz ?_
 clear rz
 intro hq119 rz
 subst hq119
 refine onS_k rz ?_
 clear rz
 intro l hq120 rz
 subst hq120
 refine and_k rz ?_
 clear rz
 intro r1 r2
 refine bind2_k h ?_
 clear h
 intro v σ₁ e1 h
 refine bind2_k h ?_
 clear h
 intro k σ₂ e2 h
 refine bind_k h ?_
 clear h
 intro a ha h
 refine bind_k h ?_
 clear h
 intro i hi h
 refine bind_k h ?_
 clear h
 intro xs eo h
 refine ite_k h ?_
 clear h
 intro hp hE
 obtain rfl := asRef_inv ha
 obtain rfl := asInt_inv hi
 cases hE
 rw [arm_exec_Delete]
 refine wpAny_bind (wpAny_standAt (wpAny_bind ?_))
 show wpAny _ A (do delete (.Subscript o (.Slice (some l) none none p1) p2) (callEnv fd L fa); deleteEach [] (callEnv fd L fa)) _ NoE s
 rw [arm_delete_Subscript]
 refine wpAny_bind (wpAny_bind (wpAny_mono (h0 _ r1 ρ σ _ σ₁ ι s e1 S) (fun c s₁ z => ?_) fun _ _ x => x))
 refine Ans_k z ?_
 clear z
 intro ι₁ t₁ S₁ v₁
 refine wpAny_bind (wpAny_holding (wpAny_Slice (wpAny_mono (h1 _ r2 ρ σ₁ _ σ₂ ι₁ s₁ e2 S₁) (fun d s₂ z => ?_) fun _ _ x => x)))
 refine Ans_k z ?_
 clear z
 intro ι₂ t₂ S₂ w121
 obtain ⟨t, rfl⟩ := w121
 refine wpAny_pure (a := Value.none) (wpAny_pure (a := Value.none) ?_)
 obtain ⟨hl, rfl⟩ := v₁.up (t₂.up S₁)
 obtain ⟨i, rfl⟩ := Int.eq_ofNat_of_zero_le hp
 obtain ⟨vs, n, g, hr, hz⟩ := list_at S₂.sim hl eo
 obtain ⟨ι₃, t₃, S₃, hu, rfl⟩ := Ans.push (P := fun ι' s' => Up ι₂ σ₂.nx s₂.heap ι' σ₂.nx s'.heap ∧ ι' = ι₂) S₂ { cls := .type "slice", data := .fields #[.int (i : Int) t, .none, .none] } s₂.toks fun u => ⟨u, rfl⟩
 refine wpAny_bind (wpAny_standAt (wpAny_bind (wpAny_holding (delItem_slice (Heap.get?_push_of_some _ g) (Heap.IsSliceOf.new ..) (sl_size hr hz) fun h' n' g' sb => ?_))))
 refine rel_ok ?_
 show wpAny _ A (deleteEach [] (callEnv fd L fa)) _ NoE _
 refine wpAny_pure (wpAny_pure ?_)
 refine Ans.trans ((t₁.trans t₂ S₂.sep).trans t₃ S₃.sep) (Ans.update (P := fun _ _ => True) S₃ hl sb s₂.toks (fun u => ⟨_, _, g', ?_, Nat.le_trans (List.length_take_le' ..) hz⟩) fun _ => trivial) fun _ _ _ => rfl
 exact ((hr.up hu).up u).take i
theorem sss_nil : SoSs B C fd L fa A T cf [] [] := by
 intro ρ σ fl ρ' σ' ι s h S
 cases h
 exact wpAny_execs_nil (Ans.same S rfl rfl rfl rfl)
theorem sss_cons {x : Sx} {xs : List Sx} {st : Stmt} {sts : List Stmt} (h1 : SoS B C fd L fa A T cf x st) (h2 : SoSs B C fd L fa A T cf xs sts) : SoSs B C fd L fa A T cf (x :: xs) (st :: sts) := by
 intro ρ σ fl ρ' σ' ι s h S
 refine bind3_k h ?_
 clear h
 intro f ρ₁ σ₁ e1 h
 refine wpAny_execs_cons (wpAny_mono (h1 ρ σ f ρ₁ σ₁ ι s e1 S) (fun g s₁ z => ?_) fun _ _ x => x)
 refine Ans_k z ?_
 clear z
 intro ι₁ t₁ S₁ v₁
 cases f with
 | next =>
  cases v₁
  exact wpAny_mono (h2 ρ₁ σ₁ fl ρ' σ' ι₁ s₁ h S₁) (fun c s₂ z => Ans.trans t₁ z fun _ _ p => p) fun _ _ x => x
 | ret v =>
  cases h
  obtain ⟨c, rfl, rc⟩ := v₁
  exact ⟨ι₁, t₁, S₁, c, rfl, rc⟩
theorem turn_next {S : Type} {nxt : Lc → St → S} {r : Option Rs} {x : S ⊕ Rs} (h : r.map (turnTo nxt) = some x) : ∃ f ρ σ, r = some (f, ρ, σ) ∧ turnTo nxt (f, ρ, σ) = x := by
 refine map3_k h ?_
 clear h
 intro f ρ σ e h
 exact ⟨f, ρ, σ, e, h⟩
theorem loopN_inv {S R : Type} {f : S → Option (S ⊕ R)} {n : Nat} {x : S} {r : R} (h : loopN f n x = some r) : ∃ m z, n = m + 1 ∧ f x = some z ∧ (match z with | .inl y => loopN f m y = some r | .inr q => q = r) := by
 cases n with
 | zero => cases h
 | succ m =>
  unfold loopN at h
  cases e : f x with
  | none => rw [e] at h; cases h
  | some z =>
   rw [e] at h
   refine ⟨m, z, rfl, rfl, ?_⟩
   cases z with
   | inl y => exact h
   | inr q => exact Option.some.inj h
theorem loopF_gen {S R : Type} {f : S → Option (S ⊕ R)} {x : S} {r : R} (h : loopF f x = some r) : ∃ g n, (∀ y, g y = f y) ∧ loopN g n x = some r :=
 let ⟨n, hn⟩ := loopF_iff.mp h
 ⟨f, n, fun _ => rfl, hn⟩
noncomputable def WhI (B : Base) (ns : List Str) (L : Addr) (ι : Nat → Addr) (σ : St) (s : Shared) (step : Lc × St → Option ((Lc × St) ⊕ Rs)) (r : Rs) (n : Nat) (s' : Shared) : Prop :=
 ∃ ρk σk ιk, loopN step n (ρk, σk) = some r ∧ Tr (some L) ι σ s ιk σk s' ∧ SL B ns L ιk σk ρk s'
theorem ss_whl {c : Ex} {b : List Sx} {st : Stmt} (r : repS C (.whl c b) st = true) (h0 : ∀ z, rep C c z = true → SoT B C fd L fa A T cf c z) (h1 : ∀ l, repSs C b l = true → SoSs B C fd L fa A T cf b l) : SoS B C fd L fa A T cf (.whl c b) st := by
 intro ρ σ fl ρ' σ' ι s h S
 refine onWhile_k r ?_
 clear r
 intro y l l2 pos hq122 r
 subst hq122
 refine on0_k r ?_
 clear r
 intro hq123 r
 subst hq123
 have r := and_inv r
 have h0 := h0 _ r.1
 have h1 := h1 _ r.2
 clear r
 obtain ⟨step, n, hs, hn⟩ := loopF_gen h
 clear h
 refine wpAny_While (codeAny_whileLoop (WhI B C.ns L ι σ s step (fl, ρ', σ')) ?_ n ⟨ρ, σ, ι, hn, Tr.refl .., S⟩)
 clear hn S
 intro m s' hI
 refine hide fun G0 hG => ?_
 obtain ⟨ρk, σk, ιk, hk, tk, Sk⟩ := hI
 obtain ⟨m', z, hm, hx, hz⟩ := loopN_inv hk
 clear hk
 rw [hs] at hx
 clear hs
 refine bind2_k hx ?_
 clear hx
 intro v σ₁ e1 hx
 refine bind_k hx ?_
 clear hx
 intro bb hb hx
 have hb := asBool_inv hb
 subst hb hm
 refine hG ?_
 clear hG G0
 refine wpAny_mono (h0 ρk σk bb σ₁ ιk s' e1 Sk) (fun c' s₁ z => ?_) fun _ _ x => x.elim
 clear e1 Sk h0
 refine Ans_k z ?_
 clear z
 intro ι₁ t₁ S₁ hq124
 subst hq124
 have tk := tk.trans t₁ S₁.sep
 clear t₁
 cases c' with
 | false =>
  clear h1
  have hx := Option.some.inj hx
  subst hx
  cases hz
  exact wpAny_execs_nil ⟨ι₁, tk, S₁, rfl⟩
 | true =>
  obtain ⟨f, ρ₂, σ₂, e2, hx⟩ := turn_next hx
  refine wpAny_mono (h1 ρk σ₁ f ρ₂ σ₂ ι₁ s₁ e2 S₁) (fun g s₂ z => ?_) fun _ _ x => x.elim
  clear e2 S₁ h1
  refine Ans_k z ?_
  clear z
  intro ι₂ t₂ S₂ v₂
  have tk := tk.trans t₂ S₂.sep
  clear t₂
  subst hx
  cases f with
  | next =>
   cases v₂
   exact ⟨m', Nat.lt_succ_self _, ρ₂, σ₂, ι₂, hz, tk, S₂⟩
  | ret v =>
   cases hz
   obtain ⟨cc, rfl, rc⟩ := v₂
   exact ⟨ι₂, tk, S₂, cc, rfl, rc⟩
end
end Mine
end
section
open PySem PySem.W PyProof.Rows PySem.Calls PySem.Spec
namespace Mine
section
variable {B : Base} {C : RC} {fd : FuncData} {L fa : Addr} {A : Around} {T : Tab} {cf : CF}
variable {ι : Nat → Addr} {σ : St} {ρ : Lc} {s : Shared}
noncomputable def Only (I : Addr) (s s1 : Shared) : Prop := ∃ h' tk, s1 = { s with heap := h', toks := tk } ∧ ∀ b o, b ≠ I → s.heap.get? b = some o → h'.get? b = some o
theorem Only.sl {I : Addr} {s1 : Shared} (O : Only I s s1) (S : SL B C.ns L ι σ ρ s) (hI : ∀ a, a < σ.nx → ι a ≠ I) (hL : I ≠ L) (h0 : B.h₀.get? I = none) (ht : ∀ vs, ¬ IsTup s.heap I vs) : SL B C.ns L ι σ ρ s1 ∧ Up ι σ.nx s.heap ι σ.nx s1.heap := by
 obtain ⟨h', tk, rfl, hk⟩ := O
 have up : Up ι σ.nx s.heap ι σ.nx h' := ⟨fun _ _ => rfl, Nat.le_refl _, fun a vs e => by
  obtain ⟨o, e1, hc, n, hd⟩ := id e
  exact ⟨o, hk a o (fun q => ht vs (q ▸ e)) e1, hc, n, hd⟩⟩
 refine ⟨⟨⟨fun a l => ?_, S.sim.inj, fun b o e => hk b o (fun q => by rw [q, h0] at e; cases e) (S.sim.base b o e), S.sim.off, S.sim.gens, S.sim.os, S.sim.lst⟩, ?_⟩, up⟩
 ·obtain ⟨c, e, _⟩ := (S.sim.objs a l).at
  exact (S.sim.objs a l).up up rfl ((hk _ _ (hI a l) e).trans e.symm)
 ·obtain ⟨len, ⟨m, ⟨o', es, ep, e, r⟩, hl⟩, off, nw⟩ := S.fr
  refine ⟨len, ⟨m, ⟨o', es, ep, hk _ _ (Ne.symm hL) e, r⟩, fun i x v h1 h2 => ?_⟩, off, nw⟩
  obtain ⟨c, e, r⟩ := hl i x v h1 h2
  exact ⟨c, e, r.up up⟩
theorem Only.tr {I : Addr} {s' s1 : Shared} {ι' : Nat → Addr} {σ' : St} (O : Only I s' s1) (t : Tr (some L) ι σ s ι' σ' s') (hs : s.heap.get? I = none) : Tr (some L) ι σ s ι' σ' s1 := by
 obtain ⟨h', tk, rfl, hk⟩ := O
 exact ⟨t.ext, t.le, fun b o e n l => hk b o (fun q => by rw [q, hs] at e; cases e) (t.keep b o e n l), t.fresh, t.mono, fun a o l v e => hk _ o (fun q => by rw [q, hs] at e; cases e) (t.unch a o l v e)⟩
noncomputable def FoI (B : Base) (ns : List Str) (L : Addr) (ι : Nat → Addr) (σ : St) (s : Shared) {X : Type} (It : X → Heap → Prop) (I : Addr) (step : X × Lc × St → Option ((X × Lc × St) ⊕ Rs)) (r : Rs) (n : Nat) (s' : Shared) : Prop :=
 ∃ k ρk σk ιk, loopN step n (k, ρk, σk) = some r ∧ Tr (some L) ι σ s ιk σk s' ∧ SL B ns L ιk σk ρk s' ∧ It k s'.heap ∧ ∀ a, a < σk.nx → ιk a ≠ I
theorem for_gen {X : Type} (It : X → Heap → Prop) {I : Addr} (hIt : ∀ k h h', (∀ o, h.get? I = some o → h'.get? I = some o) → It k h → It k h') (hTup : ∀ k h vs, It k h → ¬ IsTup h I vs) (hAt : ∀ k h, It k h → ∃ o, h.get? I = some o)
  {step : X × Lc × St → Option ((X × Lc × St) ⊕ Rs)} {st : Lc → AV → St → Option Lc} {b : List Sx} {bs : List Stmt} {tgt : Expr}
  (hgo : ∀ k c (s1 : Shared) (Q : Unit → Shared → Prop), It k s1.heap → Q () s1 → wpAny (model B.prog B.w) A (letOwnedTupleGo tgt (.ref I) c) Q NoE s1)
  (hasg : ∀ ρ σ ρ2 v c ι s (Q : Unit → Shared → Prop), st ρ v σ = some ρ2 → SL B C.ns L ι σ ρ s → RelV ι σ.nx s.heap v c → (∀ s', Ans B C L ι σ s σ ρ2 (fun _ _ => True) s' → Q () s') → wpAny (model B.prog B.w) A (assign tgt (callEnv fd L fa) c) Q NoE s)
  (hb : SoSs B C fd L fa A T cf b bs) (hs : s.heap.get? I = none) (hL : I ≠ L) (h0 : B.h₀.get? I = none)
  (turn : ∀ k ρk σk ιk s' x, Tr (some L) ι σ s ιk σk s' → SL B C.ns L ιk σk ρk s' → It k s'.heap → step (k, ρk, σk) = some x →
   (x = .inr (.next, ρk, σk) ∧ wpAny (model B.prog B.w) A (pyNext (.ref I)) (fun r s1 => r = none ∧ Only I s' s1) NoE s') ∨
   (∃ v k' ρ2, st ρk v σk = some ρ2 ∧ (exs T cf b ρ2 σk).map (turnTo fun ρ σ => (k', ρ, σ)) = some x ∧
    wpAny (model B.prog B.w) A (pyNext (.ref I)) (fun r s1 => ∃ c, r = some c ∧ Only I s' s1 ∧ It k' s1.heap ∧ RelV ιk σk.nx s'.heap v c) NoE s'))
  {s0 : Shared} (T0 : Tr (some L) ι σ s ι σ s0) (S0 : SL B C.ns L ι σ ρ s0) {k0 : X} (I0 : It k0 s0.heap) (hI0 : ∀ a, a < σ.nx → ι a ≠ I) {r : Rs} (h : loopF step (k0, ρ, σ) = some r) :
  codeAny (model B.prog B.w) A (.forLoop tgt (.ref I) bs [] (callEnv fd L fa)) (fun z s' => match z with
   | .ok f => Ans B C L ι σ s r.2.2 r.2.1 (fun ι' s' => RelF ι' r.2.2.nx s'.heap r.1 f) s'
   | .error e => cameBackBy (model B.prog B.w) A (callEnv fd L fa) NoE e s') s0 := by
 obtain ⟨n, hn⟩ := loopF_iff.mp h
 refine codeAny_forLoop_any (FoI B C.ns L ι σ s It I step r) ?_ n ⟨k0, ρ, σ, ι, hn, T0, S0, I0, hI0⟩
 clear hn h T0 S0 I0 hI0
 intro m s' hh
 refine hide fun G0 hG => ?_
 obtain ⟨k, ρk, σk, ιk, hk, tk, Sk, Ik, hI⟩ := hh
 obtain ⟨m', x, hm, hx, hst⟩ := loopN_inv hk
 clear hk
 have tu := turn k ρk σk ιk s' x tk Sk Ik hx
 clear turn hx
 have sl := fun s1 (O : Only I s' s1) => O.sl Sk hI hL h0 (fun vs => hTup _ _ vs Ik)
 have tr := fun s1 (O : Only I s' s1) => O.tr tk hs
 clear tk Sk Ik hTup h0 hs
 subst hm
 rcases tu with ⟨hx, hw⟩ | ⟨v, k', ρ2, hst2, hmap, hw⟩
 ·clear hb hgo hasg hIt hAt hI hL
  refine hG (wpAny_mono hw (fun q s1 z => ?_) fun _ _ x => x.elim)
  clear hG G0 hw
  obtain ⟨z, O⟩ := z
  subst hx z
  subst hst
  exact wpAny_execs_nil ⟨ιk, tr _ O, (sl _ O).1, rfl⟩
 ·refine hG (wpAny_mono hw (fun q s1 z => ?_) fun _ _ x => x.elim)
  clear hG G0 hw
  refine hide fun G0 hG => ?_
  obtain ⟨c, hr, O, I1, rv⟩ := z
  obtain ⟨S1, u1⟩ := sl _ O
  have t1 := tr _ O
  have rv := rv.up u1
  clear sl tr O u1
  subst hr
  refine hG (wpAny_mono (hgo k' c s1 (fun _ s2 => s2 = s1) I1 rfl) (fun _ s2 z => ?_) fun _ _ x => x.elim)
  clear hG G0 hgo
  subst z
  refine wpAny_mono (hasg ρk σk ρ2 v c ιk _ (fun _ s3 => Ans B C L ιk σk _ σk ρ2 (fun _ _ => True) s3) hst2 S1 rv fun _ z => z) (fun _ s3 z => ?_) fun _ _ x => x.elim
  clear hasg S1 rv hst2
  refine hide fun G0 hG => ?_
  refine Ans_k z ?_
  clear z
  intro ι₂ t₂ S₂ _
  obtain ⟨f, ρ₃, σ₃, e3, hx⟩ := turn_next hmap
  clear hmap
  refine hG (wpAny_mono (hb ρ2 σk f ρ₃ σ₃ ι₂ s3 e3 S₂) (fun g s4 z => ?_) fun _ _ x => x.elim)
  clear hG G0 hb e3 S₂
  refine Ans_k z ?_
  clear z
  intro ι₃ t₃ S₃ v₃
  have t13 := t₂.trans t₃ S₃.sep
  have t1 := t1.trans t13 S₃.sep
  clear t₂ t₃
  subst hx
  cases f with
  | next =>
   have hI2 : ∃ oI, _ := hAt _ _ I1
   have hI := t13.other hI2.choose_spec hI
   have I1 := hIt _ _ _ (fun o e => t13.keep I o e ‹_› (fun q => hL (Option.some.inj q).symm)) I1
   cases v₃
   exact ⟨m', Nat.lt_succ_self _, k', ρ₃, σ₃, ι₃, hst, t1, S₃, I1, hI⟩
  | ret w =>
   clear t13 I1 hI hIt hAt
   subst hst
   obtain ⟨cc, hc, rc⟩ := v₃
   subst hc
   exact ⟨ι₃, t1, S₃, cc, rfl, rc⟩
theorem rep_folded {x : Ex} {e : Expr} (r : rep C x e = true) (env : Env) : ∀ v, foldedSetIterable e env v = pure v := by
 intro v
 exact (by apply Expr.casesOn (motive_1 := fun e => formI.contains e.ctorIdx = true → foldedSetIterable e env v = pure v) e <;> intros <;> first | rfl | exact absurd ‹_› Bool.false_ne_true : formI.contains e.ctorIdx = true → foldedSetIterable e env v = pure v) (rep_form r)
theorem SL.next (S : SL B C.ns L ι σ ρ s) : (∀ b, b < σ.nx → ι b ≠ s.heap.objs.size) ∧ s.heap.objs.size ≠ L ∧ B.h₀.get? s.heap.objs.size = none := by
 refine ⟨fun b lb q => ?_, fun q => ?_, ?_⟩
 ·obtain ⟨c, e, _⟩ := (S.sim.objs b lb).at
  exact absurd (Heap.lt_size e) (by rw [q]; exact Nat.lt_irrefl _)
 ·obtain ⟨m, ⟨o, _, _, e, _⟩, _⟩ := S.fr.loc
  exact absurd (Heap.lt_size e) (by rw [q]; exact Nat.lt_irrefl _)
 ·cases q : B.h₀.get? s.heap.objs.size with
  | none => rfl
  | some o => exact absurd (Heap.lt_size (S.sim.base _ _ q)) (Nat.lt_irrefl _)
theorem for_list (F : FrOk B C fd L fa A) {x : Ex} {e : Expr} {b : List Sx} {bs : List Stmt} {tgt : Expr} {pos : Pos} {st : Lc → AV → St → Option Lc} (r : rep C x e = true) (h1 : SoE B C fd L fa A T cf x e) (hb : SoSs B C fd L fa A T cf b bs)
  (htg : ∀ I c (s1 : Shared) (Q : Unit → Shared → Prop) l k, s1.heap.IsListIter I l k → Q () s1 → wpAny (model B.prog B.w) A (letOwnedTupleGo tgt (.ref I) c) Q NoE s1)
  (hasg : ∀ ρ σ ρ2 v c ι s (Q : Unit → Shared → Prop), st ρ v σ = some ρ2 → SL B C.ns L ι σ ρ s → RelV ι σ.nx s.heap v c → (∀ s', Ans B C L ι σ s σ ρ2 (fun _ _ => True) s' → Q () s') → wpAny (model B.prog B.w) A (assign tgt (callEnv fd L fa) c) Q NoE s)
  {v : AV} {σ₁ : St} {fl : Fl} {ρ' : Lc} {σ' : St} (S : SL B C.ns L ι σ ρ s) (e1 : ev T cf x ρ σ = some (v, σ₁))
  (h : loopF (fun (p : Nat × Lc × St) => (listA v p.2.2).bind fun xs => match xs[p.1]? with
   | some x => (st p.2.1 x p.2.2).bind fun ρ2 => (exs T cf b ρ2 p.2.2).map (turnTo fun ρ σ => (p.1 + 1, ρ, σ))
   | Option.none => some (.inr (.next, p.2.1, p.2.2))) (0, ρ, σ₁) = some (fl, ρ', σ')) :
  wpAny (model B.prog B.w) A (exec (.For tgt e bs [] pos) (callEnv fd L fa)) (fun f => Ans B C L ι σ s σ' ρ' fun ι' s' => RelF ι' σ'.nx s'.heap fl f) NoE s := by
 refine wpAny_For (wpAny_mono (h1 ρ σ v σ₁ ι s e1 S) (fun c s₁ z => ?_) fun _ _ x => x) (rep_folded r _)
 refine Ans_k z ?_
 clear z
 intro ι₁ t₁ S₁ v₁
 have hfirst : ∃ xs, listA v σ₁ = some xs := by
  obtain ⟨n, hn⟩ := loopF_iff.mp h
  obtain ⟨m, z, _, hs, _⟩ := loopN_inv hn
  refine bind_k hs ?_
  clear hs
  intro xs q _
  exact ⟨xs, q⟩
 obtain ⟨xs, hxs⟩ := hfirst
 obtain ⟨a, vs, k, rfl, l, eo, rfl, g, q, hz⟩ := listA_rel S₁.sim hxs v₁
 refine wpAny_pyIter_list ⟨_, g, rfl, _, rfl⟩ ?_
 obtain ⟨hI, hL, h0⟩ := S₁.next
 obtain ⟨T0, S0⟩ := Tr.fr0 S₁ (Tr.push (L := none) { cls := .type "list_iterator", data := .fields #[.ref (ι₁ a), .int 0 0] } s₁.toks) (S₁.sim.push _ s₁.toks)
 refine codeAny_mono (for_gen (It := fun (k : Nat) h => h.IsListIter s₁.heap.objs.size (ι₁ a) k) (st := st) (fun k h h' hk ⟨o, ho, hr⟩ => ⟨o, hk o ho, hr⟩) (fun k h vs ⟨o, ho, hc, _⟩ ⟨o', ho', hc', _⟩ => by rw [ho] at ho'; cases ho'; rw [hc] at hc'; simp at hc') (fun k h ⟨o, ho, _⟩ => ⟨o, ho⟩)
  (fun k c s1 Q hit q => htg _ c s1 Q _ _ hit q) hasg hb (size_none _) hL h0 ?_ T0 S0 (k0 := 0) ⟨_, Heap.get?_push_size _ rfl, rfl, rfl⟩ hI h) fun rr s' z => ?_
 ·intro k ρk σk ιk s' x tk Sk hit hx
  refine bind_k hx ?_
  clear hx
  intro ys hys hx
  obtain ⟨ws, kk, g2, q2, hz2⟩ := list_at Sk.sim (Nat.lt_of_lt_of_le l tk.le) hys
  rw [tk.ext a l] at g2
  have il : s'.heap.IsList (ι₁ a) ws := ⟨_, g2, rfl, _, rfl⟩
  cases hk : ys[k]? with
  | none =>
   simp only [hk] at hx
   refine .inl ⟨(Option.some.inj hx).symm, wpAny_pyNext_list_end F.hand hit il ?_ fun h' he => ⟨rfl, h', s'.toks, rfl, fun b o hb e => he b o hb e⟩⟩
   have := q2.length
   rw [List.getElem?_eq_none_iff] at hk
   rw [Array.length_toList] at this
   rw [Array.getElem?_eq_none_iff]; lia
  | some y =>
   simp only [hk] at hx
   refine bind_k hx ?_
   clear hx
   intro ρ2 hst hx
   obtain ⟨c, hc, rc⟩ := q2.get hk
   refine .inr ⟨y, k + 1, ρ2, hst, hx, wpAny_pyNext_list_item hit il (x := c) (by rw [← Array.getElem?_toList]; exact hc) fun h' hit' sb => ⟨c, rfl, ⟨h', s'.toks, rfl, fun b o hb e => (sb.2 b hb).trans e⟩, hit', rc⟩⟩
 ·cases rr with
  | ok f => exact Ans.trans t₁ z fun _ _ p => p
  | error e => exact z
end
end Mine
end
section
open PySem PySem.W PyProof.Rows PySem.Calls PySem.Spec
namespace Mine
section
variable {B : Base} {C : RC} {fd : FuncData} {L fa : Addr} {A : Around} {T : Tab} {cf : CF}
variable {ι : Nat → Addr} {σ : St} {ρ : Lc} {s : Shared}
theorem go_name {t : Expr} {i : Nat} (r : repT C i t = true) {I : Addr} {c : Value} {s1 : Shared} {Q : Unit → Shared → Prop} (q : Q () s1) : wpAny (model B.prog B.w) A (letOwnedTupleGo t (.ref I) c) Q NoE s1 := by
 obtain ⟨x, p, rfl, _⟩ := repT_of r
 exact wpAny_pure q
theorem ss_forL {i : Nat} {x : Ex} {b : List Sx} {stm : Stmt} (F : FrOk B C fd L fa A) (r : repS C (.forL i x b) stm = true) (h0 : ∀ z, rep C x z = true → SoE B C fd L fa A T cf x z) (h1 : ∀ l, repSs C b l = true → SoSs B C fd L fa A T cf b l) : SoS B C fd L fa A T cf (.forL i x b) stm := by
 intro ρ σ fl ρ' σ' ι s h S
 refine onFor_k r ?_
 clear r
 intro t y l l2 pos hq125 r
 subst hq125
 refine on0_k r ?_
 clear r
 intro hq126 r
 subst hq126
 refine and_k r ?_
 clear r
 intro r0 r
 refine and_k r ?_
 clear r
 intro r1 r2
 refine bind2_k h ?_
 clear h
 intro v σ₁ e1 h
 refine for_list F (st := fun ρ v _ => some (setL ρ i v)) r1 (h0 _ r1) (h1 _ r2) (fun I c s1 Q l k _ q => go_name r0 q) (fun ρ σ ρ2 v c ι s Q e S rv q => ?_) S e1 h
 cases e
 exact assign_ok F S r0 rv q
theorem small_range {l h : Int} (h1 : -1000000 ≤ l) (h2 : l ≤ 1000000) (h3 : -1000000 ≤ h) (h4 : h ≤ 1000000) : Builtin.Range.small l h 1 = true ∧ Builtin.Range.rangeSize l h 1 = if l < h then h - l else 0 := by
 have e : Builtin.Range.rangeSize l h 1 = if l < h then h - l else 0 := by
  unfold Builtin.Range.rangeSize
  rw [if_pos (by decide)]
  split
  ·rw [Int.ediv_one]; lia
  ·rfl
 refine ⟨?_, e⟩
 unfold Builtin.Range.small
 rw [e]
 have p1 : (2 : Int) ^ 63 = 9223372036854775808 := by decide
 unfold Builtin.Range.rangeFitsLong
 rw [p1]
 split <;> simp <;> lia
theorem for_range (F : FrOk B C fd L fa A) {i : Nat} {e : Expr} {b : List Sx} {bs : List Stmt} {tgt : Expr} {pos : Pos} (r0 : repT C i tgt = true) (hb : SoSs B C fd L fa A T cf b bs) {l hh : Int} {σ₁ : St} {fl : Fl} {ρ' : Lc} {σ' : St} (S : SL B C.ns L ι σ ρ s)
  (bd : -1000000 ≤ l ∧ l ≤ 1000000 ∧ -1000000 ≤ hh ∧ hh ≤ 1000000) (hs : ∀ x, foldedSetIterable e (callEnv fd L fa) x = pure x)
  (hev : wpAny (model B.prog B.w) A (eval e (callEnv fd L fa)) (fun c => Ans B C L ι σ s σ₁ ρ fun ι' s' => ∃ a t u v, c = .ref a ∧ IsRange s'.heap a l hh 1 t u v) NoE s)
  (h : loopF (fun (p : Int × Lc × St) => if p.1 < hh then (exs T cf b (setL p.2.1 i (.int p.1)) p.2.2).map (turnTo fun ρ σ => (p.1 + 1, ρ, σ)) else some (.inr (.next, p.2.1, p.2.2))) (l, ρ, σ₁) = some (fl, ρ', σ')) :
  wpAny (model B.prog B.w) A (exec (.For tgt e bs [] pos) (callEnv fd L fa)) (fun f => Ans B C L ι σ s σ' ρ' fun ι' s' => RelF ι' σ'.nx s'.heap fl f) NoE s := by
 refine wpAny_For (wpAny_mono hev (fun c s₁ z => ?_) fun _ _ x => x) hs
 refine Ans_k z ?_
 clear z
 intro ι₁ t₁ S₁ w132
 obtain ⟨a, tt, u, v, rfl, hr⟩ := w132
 obtain ⟨sm, sz⟩ := small_range bd.1 bd.2.1 bd.2.2.1 bd.2.2.2
 refine wpAny_pyIter_range hr sm ?_
 obtain ⟨hI, hL, h0⟩ := S₁.next
 obtain ⟨T0, S0⟩ := Tr.fr0 S₁ (Tr.push (L := none) { cls := .type "range_iterator", data := .fields #[rawInt l, rawInt (Builtin.Range.rangeSize l hh 1), rawInt 1] } s₁.toks) (S₁.sim.push _ s₁.toks)
 refine codeAny_mono (for_gen (It := fun (k : Int) h => IsRangeIter h s₁.heap.objs.size k (if k < hh then hh - k else 0) 1) (st := fun ρ v _ => some (setL ρ i v)) (fun k h h' hk ho => hk _ ho) (fun k h vs ho ⟨o', ho', hc', _⟩ => by rw [ho] at ho'; cases ho'; simp at hc') (fun k h ho => ⟨_, ho⟩)
  (fun k c s1 Q hit q => go_name r0 q) (fun ρ σ ρ2 v c ι s Q e S rv q => by cases e; exact assign_ok F S r0 rv q) hb (size_none _) hL h0 ?_ T0 S0 (k0 := l) (by rw [← sz]; exact Heap.get?_push_size _ rfl) hI h) fun rr s' z => ?_
 ·intro k ρk σk ιk s' x tk Sk hit hx
  by_cases hlt : k < hh
  ·rw [if_pos hlt] at hx
   have hit' : IsRangeIter s'.heap s₁.heap.objs.size k (hh - k) 1 := by rw [if_pos hlt] at hit; exact hit
   refine .inr ⟨.int k, k + 1, _, rfl, hx, wpAny_pyNext_range_item hit' (by lia) fun h' hi' sb => ⟨_, rfl, ⟨h', _, rfl, fun b o hb e => (sb.2 b hb).trans e⟩, ?_, _, rfl⟩⟩
   have e2 : (if k + 1 < hh then hh - (k + 1) else 0) = hh - k - 1 := by split <;> lia
   show IsRangeIter h' _ _ _ _
   rw [e2]; exact hi'
  ·rw [if_neg hlt] at hx
   have hit' : IsRangeIter s'.heap s₁.heap.objs.size k 0 1 := by rw [if_neg hlt] at hit; exact hit
   exact .inl ⟨(Option.some.inj hx).symm, wpAny_pyNext_range_end F.hand hit' (by lia) fun h' he => ⟨rfl, h', s'.toks, rfl, fun b o hb e => he b o hb e⟩⟩
 ·cases rr with
  | ok f => exact Ans.trans t₁ z fun _ _ p => p
  | error e => exact z
theorem rng_inv {h : Int} (x : rng h = true) : -1000000 ≤ h ∧ h ≤ 1000000 := by
 refine and_k x ?_
 clear x
 intro a b
 exact ⟨of_decide_eq_true a, of_decide_eq_true b⟩
theorem ss_forR {i : Nat} {x : Ex} {b : List Sx} {stm : Stmt} (F : FrOk B C fd L fa A) (r : repS C (.forR i x b) stm = true) (h0 : ∀ z, rep C x z = true → SoE B C fd L fa A T cf x z) (h1 : ∀ l, repSs C b l = true → SoSs B C fd L fa A T cf b l) : SoS B C fd L fa A T cf (.forR i x b) stm := by
 intro ρ σ fl ρ' σ' ι s h S
 refine onFor_k r ?_
 clear r
 intro t it l l2 pos hq133 r
 subst hq133
 refine on0_k r ?_
 clear r
 intro hq134 r
 subst hq134
 refine onBlt_k r ?_
 clear r
 intro f xs p hq135 rb rz
 subst hq135
 refine on1_k rz ?_
 clear rz
 intro y hq136 rz
 subst hq136
 refine and_k rz ?_
 clear rz
 intro r0 rz
 refine and_k rz ?_
 clear rz
 intro r1 r2
 refine bind2_k h ?_
 clear h
 intro v σ₁ e1 h
 refine bind_k h ?_
 clear h
 intro hh hv h
 refine ite_k h ?_
 clear h
 intro bd hE
 obtain rfl := asInt_inv hv
 obtain ⟨b1, b2⟩ := rng_inv bd
 refine for_range F r0 (h1 _ r2) S ⟨by decide, by decide, b1, b2⟩ (fun _ => rfl) ?_ hE
 refine call_blt F (b := "range") (v := .type "range") (by simp) rfl (fun _ h => nomatch h) rb (reps1 r1) (soEs1 r1 (h0 _ r1)) (evs1 e1) S fun cs s₁ z => ?_
 refine Ans_k z ?_
 clear z
 intro ι₁ t₁ S₁ v₁
 obtain ⟨c, rfl, tt, rfl⟩ := relVs1 v₁
 exact call_range_1 (Ans.trans t₁ (Ans.push (P := fun ι' s' => ∃ a t u v, Value.ref s₁.heap.objs.size = .ref a ∧ IsRange s'.heap a 0 hh 1 t u v) S₁ _ _ fun u => ⟨_, _, _, _, rfl, Heap.get?_push_size _ rfl⟩) fun _ _ p => p)
theorem ss_forR2 {i : Nat} {x x2 : Ex} {b : List Sx} {stm : Stmt} (F : FrOk B C fd L fa A) (r : repS C (.forR2 i x x2 b) stm = true) (h0 : ∀ z, rep C x z = true → SoE B C fd L fa A T cf x z) (h0' : ∀ z, rep C x2 z = true → SoE B C fd L fa A T cf x2 z)
  (h1 : ∀ l, repSs C b l = true → SoSs B C fd L fa A T cf b l) : SoS B C fd L fa A T cf (.forR2 i x x2 b) stm := by
 intro ρ σ fl ρ' σ' ι s h S
 refine onFor_k r ?_
 clear r
 intro t it l l2 pos hq137 r
 subst hq137
 refine on0_k r ?_
 clear r
 intro hq138 r
 subst hq138
 refine onBlt_k r ?_
 clear r
 intro f xs p hq139 rb rz
 subst hq139
 refine on2_k rz ?_
 clear rz
 intro y y2 hq140 rz
 subst hq140
 refine and_k rz ?_
 clear rz
 intro r0 rz
 refine and_k rz ?_
 clear rz
 intro r1 rz
 refine and_k rz ?_
 clear rz
 intro r1' r2
 refine bind2_k h ?_
 clear h
 intro v σ₁ e1 h
 refine bind2_k h ?_
 clear h
 intro v2 σ₂ e2 h
 refine bind_k h ?_
 clear h
 intro ll hv h
 refine bind_k h ?_
 clear h
 intro hh hv2 h
 obtain ⟨⟨bd, bd2⟩, hE⟩ := ite_inv h
 obtain rfl := asInt_inv hv
 obtain rfl := asInt_inv hv2
 obtain ⟨b1, b2⟩ := rng_inv bd
 obtain ⟨b3, b4⟩ := rng_inv bd2
 refine for_range F r0 (h1 _ r2) S ⟨b1, b2, b3, b4⟩ (fun _ => rfl) ?_ hE
 have r' : reps C [x, x2] [y, y2] = true := by
  show (rep C x y && (rep C x2 y2 && true)) = true
  rw [r1, r1']; rfl
 refine call_blt F (b := "range") (v := .type "range") (by simp) rfl (fun _ h => nomatch h) rb r' (so_cons r1 (h0 _ r1) (so_cons r1' (h0' _ r1') so_nil)) (vs := [.int ll, .int hh]) (σ' := σ₂) (evs_step e1 (evs1 e2)) S fun cs s₁ z => ?_
 refine Ans_k z ?_
 clear z
 intro ι₁ t₁ S₁ v₁
 obtain ⟨c, c', rfl, ⟨tt, rfl⟩, uu, rfl⟩ := relVs2 v₁
 exact call_range_2 (Ans.trans t₁ (Ans.push (P := fun ι' s' => ∃ a t u v, Value.ref s₁.heap.objs.size = .ref a ∧ IsRange s'.heap a ll hh 1 t u v) S₁ _ _ fun u => ⟨_, _, _, _, rfl, Heap.get?_push_size _ rfl⟩) fun _ _ p => p)
theorem PairsR.keyAt {K : Type} {n h} : ∀ {l : List (K × AV)} {cs : List (K × Value)}, PairsR ι n h l cs → ∀ {k : Nat} {x : K} {u : AV}, l[k]? = some (x, u) → ∃ c, cs[k]? = some (x, c)
 | [], _, _, k, x, u, e => by simp at e
 | (g, y) :: l, _, ⟨c, r, e, h1, h2⟩, k, x, u, hk => by
  subst e
  cases k with
  | zero =>
   simp only [List.getElem?_cons_zero, Option.some.injEq, Prod.mk.injEq] at hk
   obtain ⟨rfl, rfl⟩ := hk
   exact ⟨c, rfl⟩
  | succ k => simpa using PairsR.keyAt h2 (by simpa using hk)
theorem ss_forK {i : Nat} {x : Ex} {b : List Sx} {stm : Stmt} (F : FrOk B C fd L fa A) (r : repS C (.forK i x b) stm = true) (h0 : ∀ z, rep C x z = true → SoE B C fd L fa A T cf x z) (h1 : ∀ l, repSs C b l = true → SoSs B C fd L fa A T cf b l) : SoS B C fd L fa A T cf (.forK i x b) stm := by
 intro ρ σ fl ρ' σ' ι s h S
 refine onFor_k r ?_
 clear r
 intro t y l l2 pos hq141 r
 subst hq141
 refine on0_k r ?_
 clear r
 intro hq142 r
 subst hq142
 refine and_k r ?_
 clear r
 intro r0 r
 refine and_k r ?_
 clear r
 intro r1 r2
 refine bind2_k h ?_
 clear h
 intro v σ₁ e1 h
 refine bind_k h ?_
 clear h
 intro a ha h
 refine bind_k h ?_
 clear h
 intro kvs eo hl
 obtain rfl := asRef_inv ha
 refine wpAny_For (wpAny_mono (h0 _ r1 ρ σ _ σ₁ ι s e1 S) (fun c s₁ z => ?_) fun _ _ x => x) (rep_folded r1 _)
 refine Ans_k z ?_
 clear z
 intro ι₁ t₁ S₁ w143
 obtain ⟨la, rfl⟩ := w143
 have ob := S₁.sim.objs a la
 rw [asSd_inv eo] at ob
 obtain ⟨cs, kvs', hd, hp, hk, hn⟩ := ob
 obtain ⟨ep, hat⟩ := hd.dictAt
 refine wpAny_pyIter_dict (off_mods S₁.sim F.good la) hat ?_
 obtain ⟨hI, hL, h0'⟩ := S₁.next
 obtain ⟨T0, S0⟩ := Tr.fr0 S₁ (Tr.push (L := none) { cls := .type "dict_keyiterator", data := .fields #[.ref (ι₁ a), .int 0 0, .int cs.length 0, .int ep 0] } s₁.toks) (S₁.sim.push _ s₁.toks)
 refine codeAny_mono (for_gen (It := fun (k : Nat) h => h.IsKeyIter s₁.heap.objs.size (ι₁ a) k cs.length ep) (st := fun ρ v _ => some (setL ρ i v)) (fun k h h' hk ⟨o, ho, hr⟩ => ⟨o, hk o ho, hr⟩) (fun k h vs ⟨o, ho, hc, _⟩ ⟨o', ho', hc', _⟩ => by rw [ho] at ho'; cases ho'; rw [hc] at hc'; simp at hc') (fun k h ⟨o, ho, _⟩ => ⟨o, ho⟩)
  (fun k c s1 Q hit q => go_name r0 q) (fun ρ σ ρ2 v c ι s Q e S rv q => by cases e; exact assign_ok F S r0 rv q) (h1 _ r2) (size_none _) hL h0' ?_ T0 S0 (k0 := 0) ⟨_, Heap.get?_push_size _ rfl, rfl, rfl⟩ hI hl) fun rr s' z => ?_
 ·intro k ρk σk ιk s' x tk Sk hit hx
  refine ite_k hx ?_
  clear hx
  intro hver hx
  obtain ⟨o, es, ho, hrest⟩ := id hat
  have hat' : s'.heap.DictAt (strKind B.prog B.w) (ι₁ a) cs ep := ⟨o, es, tk.unch a o la hver ho, hrest⟩
  cases hkk : kvs[k]? with
  | none =>
   simp only [hkk] at hx
   have hle : cs.length ≤ k := by
    rw [List.getElem?_eq_none_iff] at hkk
    rw [hp.length, hk, List.length_map]; exact hkk
   exact .inl ⟨(Option.some.inj hx).symm, wpAny_pyNext_dict_end F.hand hit hat' (List.getElem?_eq_none hle) fun h' he => ⟨rfl, h', s'.toks, rfl, fun b o hb e => he b o hb e⟩⟩
  | some y =>
   simp only [hkk] at hx
   have hm : kvs'[k]? = some (nm y.1, y.2) := by rw [hk, List.getElem?_map, hkk]; rfl
   obtain ⟨c, hc⟩ := PairsR.keyAt hp hm
   refine .inr ⟨.str y.1, k + 1, _, rfl, hx, wpAny_pyNext_dict_item hit hat' hc fun key h' hkey hit' sb => ⟨key, rfl, ⟨h', s'.toks, rfl, fun b o hb e => (sb.2 b hb).trans e⟩, hit', ?_⟩⟩
   obtain ⟨t, rfl⟩ := Value.isStrOf_shape hkey
   exact ⟨hn y (List.mem_of_getElem? hkk), t, rfl⟩
 ·cases rr with
  | ok f => exact Ans.trans t₁ z fun _ _ p => p
  | error e => exact z
end
end Mine
end
section
open PySem PySem.W PyProof.Rows PySem.Calls PySem.Spec
namespace Mine
section
variable {B : Base} {C : RC} {fd : FuncData} {L fa : Addr} {A : Around} {T : Tab} {cf : CF}
mutual
theorem ss_all {d : Nat} (F : FrOk B C fd L fa A) (TO : TabOk B T) (O : CfOk B cf d) (RM : Room A d) : ∀ (x : Sx) (st : Stmt), repS C x st = true → SoS B C fd L fa A T cf x st
 | .asg i e, st, r => ss_asg F r fun z h => (so_all F TO O RM e z h).1
 | .asg2 i j e, st, r => ss_asg2 F r fun z h => (so_all F TO O RM e z h).1
 | .setA o f e, st, r => ss_setA F TO r (fun z h => (so_all F TO O RM o z h).1) fun z h => (so_all F TO O RM e z h).1
 | .setS o k e, st, r => ss_setS F r (fun z h => (so_all F TO O RM o z h).1) (fun z h => (so_all F TO O RM k z h).1) fun z h => (so_all F TO O RM e z h).1
 | .augL i op e, st, r => ss_augL F r fun z h => (so_all F TO O RM e z h).1
 | .augA o f op e, st, r => ss_augA F TO r (fun z h => (so_all F TO O RM o z h).1) fun z h => (so_all F TO O RM e z h).1
 | .expr e, st, r => ss_expr F r fun z h => (so_all F TO O RM e z h).1
 | .ret e, st, r => ss_ret r fun z h => (so_all F TO O RM e z h).1
 | .retN, st, r => ss_retN r
 | .ite c a b, st, r => ss_ite r (fun z h => (so_all F TO O RM c z h).2) (fun l h => ss_alls F TO O RM a l h) (fun l h => ss_alls F TO O RM b l h)
 | .whl c b, st, r => ss_whl r (fun z h => (so_all F TO O RM c z h).2) (fun l h => ss_alls F TO O RM b l h)
 | .forR i hi b, st, r => ss_forR F r (fun z h => (so_all F TO O RM hi z h).1) (fun l h => ss_alls F TO O RM b l h)
 | .forR2 i lo hi b, st, r => ss_forR2 F r (fun z h => (so_all F TO O RM lo z h).1) (fun z h => (so_all F TO O RM hi z h).1) (fun l h => ss_alls F TO O RM b l h)
 | .forL i e b, st, r => ss_forL F r (fun z h => (so_all F TO O RM e z h).1) (fun l h => ss_alls F TO O RM b l h)
 | .forK i e b, st, r => ss_forK F r (fun z h => (so_all F TO O RM e z h).1) (fun l h => ss_alls F TO O RM b l h)
 | .delF e lo, st, r => ss_delF F r (fun z h => (so_all F TO O RM e z h).1) fun z h => (so_all F TO O RM lo z h).1
 | .pass, st, r => ss_pass r
 | .bad, st, r => ss_bad
theorem ss_alls {d : Nat} (F : FrOk B C fd L fa A) (TO : TabOk B T) (O : CfOk B cf d) (RM : Room A d) : ∀ (xs : List Sx) (sts : List Stmt), repSs C xs sts = true → SoSs B C fd L fa A T cf xs sts
 | [], _, r => by rw [repSs_nil r]; exact sss_nil
 | x :: xs, _, r => by
  refine repSs_cons_k r ?_
  clear r
  intro st sts hq144 r1 r2
  subst hq144
  exact sss_cons (ss_all F TO O RM x st r1) (ss_alls F TO O RM xs sts r2)
end
end
end Mine
end
section
open PySem PySem.W PyProof.Rows PySem.Calls PySem.Spec
namespace Mine
theorem lookup_mem {l : List (Str × Value)} (nd : (l.map (·.1)).Nodup) : ∀ p ∈ l, l.lookup p.1 = some p.2 := by
 induction l with
 | nil => intro p h; cases h
 | cons q r ih =>
  intro p h
  simp only [List.map_cons, List.nodup_cons] at nd
  obtain ⟨k, v⟩ := q
  rcases List.mem_cons.mp h with rfl | h
  ·simp [List.lookup_cons]
  ·have : p.1 ≠ k := fun e => nd.1 (List.mem_map.mpr ⟨p, h, e⟩)
   rw [List.lookup_cons, beq_false_of_ne this]
   exact ih nd.2 p h
theorem lookup_not {l : List (Str × Value)} {x : Str} (h : x ∉ l.map (·.1)) : l.lookup x = none := by
 induction l with
 | nil => rfl
 | cons q r ih =>
  obtain ⟨k, v⟩ := q
  simp only [List.map_cons, List.mem_cons, not_or] at h
  rw [List.lookup_cons, beq_false_of_ne h.1]
  exact ih h.2
theorem filter_all {l : List (Str × Value)} (nd : (l.map (·.1)).Nodup) : (l.map (·.1)).filterMap (fun n => (l.lookup n).map (n, ·)) = l := by
 rw [List.filterMap_map]
 have : l.filterMap ((fun n => (l.lookup n).map (n, ·)) ∘ (·.1)) = l.filterMap some := by
  have key : ∀ r : List (Str × Value), (∀ p ∈ r, p ∈ l) → r.filterMap ((fun n => (l.lookup n).map (n, ·)) ∘ (·.1)) = r.filterMap some := by
   intro r
   induction r with
   | nil => intro _; rfl
   | cons p r ih =>
    intro hr
    have := lookup_mem nd p (hr p List.mem_cons_self)
    rw [List.filterMap_cons, List.filterMap_cons]
    simp only [Function.comp, this, Option.map_some]
    rw [← ih fun q hq => hr q (List.mem_cons_of_mem _ hq)]
  exact key l fun _ h => h
 rw [this, List.filterMap_some]
noncomputable def slotF (slots : List (Str × Value)) (x : Str × Value) : List (Str × Value) := if (slots.lookup x.1).isNone = true then slots ++ [(x.1, x.2)] else slots
theorem slot_step {l : List (Str × Value)} (nd : (l.map (·.1)).Nodup) {k j : Nat} (hj : j < l.length) {x : Str × Value} (h1 : x.1 = l[j].1) (h2 : k ≤ j → x = l[j]) : slotF (l.take (max j k)) x = l.take (max (j + 1) k) := by
 unfold slotF
 by_cases h : j < k
 ·have e1 : max j k = k := by lia
  have e2 : max (j + 1) k = k := by lia
  rw [e1, e2]
  have hm : l[j] ∈ l.take k := List.mem_take_iff_getElem.mpr ⟨j, by lia, rfl⟩
  have nd' : ((l.take k).map (·.1)).Nodup := by
   rw [List.map_take]; exact nd.sublist (List.take_sublist _ _)
  rw [h1, lookup_mem nd' _ hm]
  simp
 ·have e1 : max j k = j := by lia
  have e2 : max (j + 1) k = j + 1 := by lia
  rw [e1, e2, h2 (by lia), lookup_not, List.take_succ_eq_append_getElem hj]
  ·rw [if_pos (by rfl)]
  ·intro hm
   rw [List.map_take] at hm
   obtain ⟨i, hi, e⟩ := List.mem_take_iff_getElem.mp hm
   have P := List.pairwise_iff_getElem.mp nd
   have := P i j (by lia) (by simpa using hj) (by lia)
   exact this (by simpa using e)
theorem slot_fold {l l2 : List (Str × Value)} (nd : (l.map (·.1)).Nodup) {k : Nat} (hk : k ≤ l.length) (hl : l2.length = l.length) (h : ∀ i (h1 : i < l2.length) (h2 : i < l.length), l2[i].1 = l[i].1 ∧ (k ≤ i → l2[i] = l[i])) :
  ∀ (m j : Nat), j + m = l.length → (l2.drop j).foldl slotF (l.take (max j k)) = l
 | 0, j, e => by
  have h1 : max j k = l.length := by lia
  rw [h1, List.drop_eq_nil_of_le (by lia)]
  simp
 | m + 1, j, e => by
  have hj : j < l.length := by lia
  have hj2 : j < l2.length := by lia
  rw [List.drop_eq_getElem_cons hj2, List.foldl_cons, slot_step nd hj (h j hj2 hj).1 (h j hj2 hj).2]
  exact slot_fold nd hk hl h m (j + 1) (by lia)
theorem forIn_fold {α β : Type} {f : β → α → β} {g : α → β → Sem (ForInStep β)} (h : ∀ a b, g a b = pure (.yield (f b a))) : ∀ (l : List α) (b : β), (forIn l b g : Sem β) = pure (l.foldl f b)
 | [], b => by simp
 | a :: l, b => by
  rw [List.forIn_cons, h, pure_bind]
  exact forIn_fold h l (f b a)
section
variable {M : Model} {A : Around} {E : Value → Shared → Prop} {s : Shared}
theorem if_no {α : Type} {Q : α → Shared → Prop} {c : Prop} [Decidable c] {a b : Sem α} (h : ¬ c) (k : wpAny M A b Q E s) : wpAny M A (if c then a else b) Q E s := by rw [if_neg h]; exact k
theorem for_fold {α β : Type} {K : β → Shared → Prop} {f : β → α → β} {g : α → β → Sem (ForInStep β)} {l : List α} {b : β} (h : ∀ a b, g a b = pure (.yield (f b a))) (k : K (l.foldl f b) s) : wpAny M A (forIn l b g) K E s := by rw [forIn_fold h]; exact wpAny_pure k
theorem for_nil {α β : Type} {K : β → Shared → Prop} {g : α → β → Sem (ForInStep β)} {l : List α} {b : β} (h : l = []) (k : K b s) : wpAny M A (forIn l b g) K E s := by subst h; exact wpAny_pure k
theorem tk_zip {α β : Type} {l : List α} {l' : List β} {n : Nat} : (l.zip l').take n = (l.take n).zip (l'.take n) := List.take_zipWith
theorem dr_zip {α β : Type} {l : List α} {l' : List β} {n : Nat} : (l.zip l').drop n = (l.drop n).zip (l'.drop n) := List.drop_zipWith
theorem ar1 {n d c : Nat} (hc : c ≤ n) (hD : d ≤ n) (hl : n - d ≤ c) : c + (d - (c - (n - d))) = n := by
 have g : c - (n - d) ≤ d := Nat.sub_le_iff_le_add.mpr (by rw [Nat.add_sub_cancel' hD]; exact hc)
 have e : n - d + (c - (n - d)) = c := Nat.add_sub_cancel' hl
 calc c + (d - (c - (n - d))) = n - d + (c - (n - d)) + (d - (c - (n - d))) := by rw [e]
  _ = n := by rw [Nat.add_assoc, Nat.add_sub_cancel' g, Nat.sub_add_cancel hD]
theorem ar2 {k c i : Nat} (hl : k ≤ c) (hk : c ≤ i) : i - k = c - k + (i - c) := by rw [Nat.add_comm]; exact (Nat.sub_add_sub_cancel hk hl).symm
theorem slot_pure (a : Str × Value) (b : List (Str × Value)) : (if (b.lookup a.1).isNone = true then pure (.yield (b ++ [(a.1, a.2)])) else pure (.yield b) : Sem (ForInStep (List (Str × Value)))) = pure (.yield (slotF b a)) := by
 unfold slotF
 by_cases h : (b.lookup a.1).isNone = true
 ·rw [if_pos h, if_pos h]
 ·rw [if_neg h, if_neg h]
section
variable {names : List Str} {cs D : List Value} (nd : names.Nodup) (hc : cs.length ≤ names.length) (hD : D.length ≤ names.length) (hl : names.length - D.length ≤ cs.length)
include hc hD hl in
theorem full_len : (cs ++ D.drop (cs.length - (names.length - D.length))).length = names.length := by
 rw [List.length_append, List.length_drop]
 exact ar1 hc hD hl
include hc in
theorem full_zip {X : List Value} : names.zip cs = (names.zip (cs ++ X)).take cs.length := by
 rw [tk_zip, List.take_left, List.zip_eq_zip_take_min, Nat.min_eq_right hc, List.take_length]
include nd hc hD hl in
theorem full_nd : ((names.zip (cs ++ D.drop (cs.length - (names.length - D.length)))).map (·.1)).Nodup := by
 rw [List.map_fst_zip (Nat.le_of_eq (full_len hc hD hl).symm)]
 exact nd
include nd hc hl in
theorem no_miss : (names.take (names.length - D.length)).filter (fun n => ((names.zip cs).lookup n).isNone) = [] := by
 refine List.filter_eq_nil_iff.mpr fun n hnm => ?_
 obtain ⟨i, hi, e⟩ := List.mem_take_iff_getElem.mp hnm
 have hi := Nat.lt_min.mp hi
 have hi1 : i < cs.length := Nat.lt_of_lt_of_le hi.1 hl
 have hm : (n, cs[i]) ∈ names.zip cs := List.mem_iff_getElem.mpr ⟨i, by rw [List.length_zip]; exact Nat.lt_min.mpr ⟨hi.2, hi1⟩, by rw [List.getElem_zip, e]⟩
 have nd' : ((names.zip cs).map (·.1)).Nodup := by
  rw [List.zip_eq_zip_take_min, Nat.min_eq_right hc, List.take_length, List.map_fst_zip (by rw [List.length_take_of_le hc]; exact Nat.le_refl _)]
  exact nd.sublist (List.take_sublist _ _)
 rw [lookup_mem nd' _ hm]
 exact Bool.false_ne_true
include nd hc hD hl in
theorem slots_full : List.foldl slotF (names.zip cs) ((names.drop (names.length - D.length)).zip D) = names.zip (cs ++ D.drop (cs.length - (names.length - D.length))) := by
 have tl : (cs.take (names.length - D.length)).length = names.length - D.length := List.length_take_of_le hl
 have l2 : (cs.take (names.length - D.length) ++ D).length = names.length := by rw [List.length_append, tl, Nat.sub_add_cancel hD]
 have e1 : (names.drop (names.length - D.length)).zip D = (names.zip (cs.take (names.length - D.length) ++ D)).drop (names.length - D.length) := by
  rw [dr_zip, List.drop_left' tl]
 have zl : ∀ {l : List Value}, l.length = names.length → (names.zip l).length = names.length := fun e => by rw [List.length_zip, e, Nat.min_self]
 have fl := full_len hc hD hl
 rw [full_zip hc, e1]
 have := slot_fold (l := names.zip (cs ++ D.drop (cs.length - (names.length - D.length)))) (l2 := names.zip (cs.take (names.length - D.length) ++ D)) (full_nd nd hc hD hl) (k := cs.length) (by rw [zl fl]; exact hc) (by rw [zl fl, zl l2]) (fun i p1 p2 => ⟨by rw [List.getElem_zip, List.getElem_zip], fun hk => by
  rw [List.getElem_zip, List.getElem_zip, List.getElem_append_right (by rw [tl]; exact Nat.le_trans hl hk), List.getElem_append_right hk, List.getElem_drop]
  congr 2
  rw [tl]
  exact ar2 hl hk⟩) (names.length - (names.length - D.length)) (names.length - D.length) (by rw [zl fl]; exact Nat.add_sub_cancel' (Nat.sub_le ..))
 rwa [Nat.max_eq_right hl] at this
end
theorem bind_ok {fd : FuncData} {cs D : List Value} {names : List Str} {Q : List (Str × Value) → Shared → Prop}
  (h1: fd.params.posonlyargs = []) (h2 : fd.params.args.map (·.arg) = names) (h3 : fd.params.kwonlyargs = []) (h4 : fd.params.vararg = none) (h5: fd.params.kwarg = none)
  (nd : names.Nodup) (hc : cs.length ≤ names.length) (hD : D.length ≤ names.length) (hl : names.length - D.length ≤ cs.length)
  (hd : wpAny M A (seqItems? fd.defaults) (fun r s' => s' = s ∧ (r.getD #[]).toList = D) E s)
  (q : Q (names.zip (cs ++ D.drop (cs.length - (names.length - D.length)))) s) : wpAny M A (bindArgs fd ⟨cs, []⟩) Q E s := by
 have k0 : fd.params.kwonlyargs.map (·.arg) = [] := by rw [h3]; rfl
 have h12 : fd.params.posonlyargs.map (·.arg) ++ fd.params.args.map (·.arg) = names := by rw [h1]; exact h2
 clear h1 h2 h3
 subst h12
 refine wpAny_bind (wpAny_pure (a := (_, [])) ?_)
 refine wpAny_bind (wpAny_mono hd (fun r s' z => ?_) fun _ _ x => x)
 obtain ⟨rfl, rfl⟩ := z
 clear hd
 refine if_no (fun h => absurd (of_decide_eq_true (Bool.and_eq_true .. ▸ h).1) (Nat.not_lt.mpr hc)) ?_
 have d0 : (r.getD #[]).toList.drop ((r.getD #[]).toList.length - (fd.params.posonlyargs.map (·.arg) ++ fd.params.args.map (·.arg)).length) = (r.getD #[]).toList := by rw [Nat.sub_eq_zero_of_le hD]; rfl
 refine if_no (fun h => ?_) ?_
 ·rw [d0, no_miss nd hc hl] at h
  exact Bool.false_ne_true h
 refine wpAny_bind (for_fold (f := slotF) (slot_pure) ?_)
 refine wpAny_bind (for_nil k0 ?_)
 refine if_no Bool.false_ne_true ?_
 rw [h4, h5, k0, d0, slots_full nd hc hD hl, List.append_nil]
 have e3 := filter_all (full_nd nd hc hD hl)
 rw [List.map_fst_zip (by rw [full_len hc hD hl]; exact Nat.le_refl _)] at e3
 rw [e3]
 exact wpAny_pure q
end
end Mine
end
section
open PySem PySem.W PyProof.Rows PySem.Calls PySem.Spec
namespace Mine
structure FnBody (B : Base) (a : Addr) (F : FnIR) (fd : FuncData) (C : RC) (body : List Stmt) : Prop where
 obj : ∃ o, B.h₀.get? a = some o ∧ o.data = .func fd
 bdy : fd.body = .stmts body
 kind : fd.scope.kind = .function
 glob : fd.globals = mainGlobals
 blt : fd.builtins = builtinsNs
 gen : fd.scope.isGenerator = false
 cor : fd.scope.isCoroutine = false
 code : B.h₀.CodeRec fd.code fd.qualname
 sc : fd.scope.names = C.sc
 cell : ∀ x ∈ fd.scope.names, x.2 ≠ .cell
 len : C.ns.length = F.nloc
 nd : C.ns.Nodup
 loc : ∀ x ∈ C.ns, C.sc.lookup x = some .local
 gl : ∀ x u, C.gl.lookup x = some u → StaticOk B x u
 bind : ∀ s : Shared, (∀ b o, B.h₀.get? b = some o → s.heap.get? b = some o) → ∀ cs, cs.length + F.dflt.length = F.npar → ∃ ds, BindsTo s fd ⟨cs, []⟩ ((C.ns.take F.npar).zip (cs ++ ds)) ∧ ∀ ι n h, RelVs ι n h F.dflt ds
noncomputable def FnOk (B : Base) (a : Addr) (F : FnIR) : Prop := ∃ fd C body, FnBody B a F fd C body ∧ repSs C F.body body = true
noncomputable def Blt (B : Base) : Prop := ∀ x ∈ (["len", "abs", "min", "range", "list"] : List Str), B.mg x = none
section
variable {B : Base} {C : RC} {fd : FuncData} {L fa : Addr} {A : Around} {T : Tab} {cf : CF}
variable {ι : Nat → Addr} {σ : St} {ρ : Lc} {s : Shared}
theorem Sim.keeps (S : Sim B ι σ s) {h' : Heap} {tk : Tok} (k : ∀ b o, s.heap.get? b = some o → h'.get? b = some o) : Sim B ι σ { s with heap := h', toks := tk } := by
 have up : Up ι σ.nx s.heap ι σ.nx h' := ⟨fun _ _ => rfl, Nat.le_refl _, fun a vs ⟨o, e, r⟩ => ⟨o, k _ _ e, r⟩⟩
 refine ⟨fun a l => ?_, S.inj, fun b o e => k _ _ (S.base b o e), S.off, S.gens, S.os, S.lst⟩
 obtain ⟨c, e, _⟩ := (S.objs a l).at
 exact (S.objs a l).up up rfl ((k _ _ e).trans e.symm)
theorem Sim.lt (S : Sim B ι σ s) {a : Nat} (l : a < σ.nx) : ι a < s.heap.objs.size := let ⟨c, e, _⟩ := (S.objs a l).at; Heap.lt_size e
theorem zip_lookup {names : List Str} {vs : List Value} (nd : names.Nodup) (hl : vs.length = names.length) {i : Nat} {x : Str} {v : Value} (hx : names[i]? = some x) (hv : vs[i]? = some v) : (names.zip vs).reverse.lookup x = some v := by
 have hmap : (names.zip vs).map (·.1) = names := List.map_fst_zip (by lia)
 obtain ⟨h1, e1⟩ := List.getElem?_eq_some_iff.mp hx
 obtain ⟨h2, e2⟩ := List.getElem?_eq_some_iff.mp hv
 have nd' : ((names.zip vs).reverse.map (·.1)).Nodup := by
  rw [List.map_reverse, hmap]; exact List.pairwise_reverse.mpr (nd.imp fun h => Ne.symm h)
 exact lookup_mem nd' (x, v) (List.mem_reverse.mpr (List.mem_iff_getElem.mpr ⟨i, by simp; lia, by simp [e1, e2]⟩))
theorem fn_core {d : Nat} {F : FnIR} {body : List Stmt} {a : Addr} {vs : List AV} {cs : List Value} {fl : Fl} {ρ' : Lc} {σ' : St} (G : B.Good) (BL : Blt B) (K : FnBody B a F fd C body) (RM : Room A (d + 1))
  (S : Sim B ι σ s) (rv : RelVs ι σ.nx s.heap vs cs) (hb : bindA F vs = some ρ)
  (he : ∀ L A' s', FrOk B C fd L a A' → Room A' d → SL B C.ns L ι σ ρ s' → wpAny (model B.prog B.w) A' (execs body (callEnv fd L a)) (fun g => Ans B C L ι σ s' σ' ρ' fun ι' s'' => RelF ι' σ'.nx s''.heap fl g) NoE s') :
  codeAny (model B.prog B.w) A (.call (.ref a) ⟨cs, []⟩) (CallR B ι σ s σ' (flV fl)) s := by
 obtain ⟨⟨hn, hloc⟩, hE⟩ := ite_inv hb
 cases hE
 ·clear hb
  have hcl := rv.length
  obtain ⟨ds, hB, rd⟩ := K.bind s S.base cs (by lia)
  obtain ⟨o, ho, hdata⟩ := K.obj
  have hdl := (rd ι σ.nx s.heap).length
  have tk : (C.ns.take F.npar).length = F.npar := by rw [List.length_take, K.len]; lia
  have all := rv.append (rd ι σ.nx s.heap)
  refine codeAny_call_def (by have := RM.depth; lia) (S.base _ _ ho) hdata (G.nolimit.keeps S.base) (K.code.keeps S.base) K.bdy hB K.cell ?_ (fun hh hns hk => ?_) K.cor K.gen K.kind
  ·intro x hx
   have := (List.of_mem_zip hx).1
   rw [K.sc]
   exact K.loc _ (List.mem_of_mem_take this)
  ·have S₀ := S.keeps (tk := s.toks + ((C.ns.take F.npar).zip (cs ++ ds)).length) hk
   have up : Up ι σ.nx s.heap ι σ.nx hh := ⟨fun _ _ => rfl, Nat.le_refl _, fun a vs ⟨o, e, r⟩ => ⟨o, hk _ _ e, r⟩⟩
   have lt : ∀ a, a < σ.nx → ι a ≠ s.heap.objs.size := fun a l q => absurd (S.lt l) (by rw [q]; exact Nat.lt_irrefl _)
   have SLL : SL B C.ns s.heap.objs.size ι σ ((vs ++ F.dflt).map some ++ List.replicate (F.nloc - F.npar) none) { s with heap := hh, toks := s.toks + ((C.ns.take F.npar).zip (cs ++ ds)).length } := by
    refine ⟨S₀, ?_, ⟨_, hns, fun i x v hx hv => ?_⟩, lt, ?_⟩
    ·simp [K.len]; lia
    ·have hlt : i < (vs ++ F.dflt).length := by
      rcases Nat.lt_or_ge i (vs ++ F.dflt).length with q | q
      ·exact q
      ·rw [List.getElem?_append_right (by simpa using q), List.getElem?_replicate] at hv
       split at hv <;> cases hv
     rw [List.getElem?_append_left (by simpa using hlt), List.getElem?_map] at hv
     have hv : (vs ++ F.dflt)[i]? = some v := by
      cases q : (vs ++ F.dflt)[i]? with
      | none => rw [q] at hv; cases hv
      | some u => rw [q] at hv; simpa using hv
     obtain ⟨c, hc, rc⟩ := all.get hv
     refine ⟨c, zip_lookup (K.nd.sublist (List.take_sublist _ _)) ?_ (i := i) ?_ hc, rc.up up⟩
     ·rw [tk]; simp; lia
     ·rw [List.getElem?_take_of_lt (by simp at hlt; lia)]; exact hx
    ·cases q : B.h₀.get? s.heap.objs.size with
     | none => rfl
     | some o' => exact absurd (Heap.lt_size (S.base _ _ q)) (Nat.lt_irrefl _)
   obtain ⟨l, hl⟩ := RM.frames
   have FO : FrOk B C fd s.heap.objs.size a (A.deeper (callEnv fd s.heap.objs.size a)) := ⟨G, K.kind, K.glob, K.blt, K.sc, K.gl, K.nd, BL, RM.hand, by have := RM.units; simp only [Around.deeper_units]; lia,
    by have := RM.depth; show A.depth + 1 + 150 < _; lia, ⟨l, Around.frames_deeper hl⟩, K.gen, K.cor⟩
   have RM' : Room (A.deeper (callEnv fd s.heap.objs.size a)) d := ⟨RM.hand, ⟨_, Around.frames_deeper hl⟩, by have := RM.depth; show A.depth + 1 + 160 + _ < _; lia, by have := RM.units; simp only [Around.deeper_units]; lia⟩
   refine wpAny_mono (he _ _ _ FO RM' SLL) (fun f s' z => ?_) fun _ _ x => x.elim
   refine Ans_k z ?_
   clear z
   intro ι' t S' rf
   refine ⟨ι', ⟨t.ext, t.le, fun b o e n _ => t.keep b o (hk _ _ e) n (fun q => ?_), fun a h1 h2 => ?_, t.mono, fun a o l v e => t.unch a o l v (hk _ _ e)⟩, S'.sim, ?_⟩
   ·cases q
    exact absurd (Heap.lt_size e) (Nat.lt_irrefl _)
   ·have := t.fresh a h1 h2
    cases q : s.heap.get? (ι' a) with
    | none => rfl
    | some o => rw [hk _ _ q] at this; cases this
   ·cases fl with
    | next => cases rf; rfl
    | ret v => obtain ⟨c, rfl, r⟩ := rf; exact r
theorem fn_run {d : Nat} {F : FnIR} {a : Addr} {vs : List AV} {cs : List Value} {fl : Fl} {ρ' : Lc} {σ' : St} (G : B.Good) (BL : Blt B) (TO : TabOk B T) (O : CfOk B cf d) (K : FnOk B a F) (RM : Room A (d + 1))
  (S : Sim B ι σ s) (rv : RelVs ι σ.nx s.heap vs cs) (hb : bindA F vs = some ρ) (he : exs T cf F.body ρ σ = some (fl, ρ', σ')) :
  codeAny (model B.prog B.w) A (.call (.ref a) ⟨cs, []⟩) (CallR B ι σ s σ' (flV fl)) s := by
 obtain ⟨fd, C, body, K, hr⟩ := K
 exact fn_core G BL K RM S rv hb fun L A' s' FO RM' SLL => ss_alls FO TO O RM' F.body body hr _ _ _ _ _ _ _ he SLL
end
end Mine
end
section
open PySem PySem.W PyProof.Rows PySem.Calls PySem.Spec
namespace Mine
section
variable {B : Base} {C : RC} {fd : FuncData} {L fa : Addr} {A : Around} {T : Tab} {cf : CF}
variable {ι : Nat → Addr} {σ : St} {ρ : Lc} {s : Shared}
noncomputable def PrimOk (B : Base) (a : Addr) (kvs : List (Nat × AV)) : Prop := ∀ (ι : Nat → Addr) (σ : St) (s : Shared) (A : Around), Sim B ι σ s → Room A 1 →
 codeAny (model B.prog B.w) A (.call (.ref a) ⟨[], []⟩) (CallR B ι σ s (σ.new (.sdict kvs)) (.ref σ.nx)) s
noncomputable def ext2 (ι : Nat → Addr) (n : Nat) (b : Addr) : Nat → Addr := fun a => if a = n then b + 1 else if a = n + 1 then b else ι a
theorem new_inst (S : Sim B ι σ s) (C : Nat) : Sim B (ext2 ι σ.nx s.heap.objs.size) ((σ.new (.inst C (σ.nx + 1))).new (.ns [])) { s with heap := (s.heap.push emptyDict).push (instObj C s.heap.objs.size) } ∧
  Tr none ι σ s (ext2 ι σ.nx s.heap.objs.size) ((σ.new (.inst C (σ.nx + 1))).new (.ns [])) { s with heap := (s.heap.push emptyDict).push (instObj C s.heap.objs.size) } := by
 have k : ∀ b o, s.heap.get? b = some o → ((s.heap.push emptyDict).push (instObj C s.heap.objs.size)).get? b = some o := fun b o e => Heap.get?_push_of_some _ (Heap.get?_push_of_some _ e)
 have g1 : ((s.heap.push emptyDict).push (instObj C s.heap.objs.size)).get? s.heap.objs.size = some emptyDict := by heap_get
 have g2 : ((s.heap.push emptyDict).push (instObj C s.heap.objs.size)).get? (s.heap.objs.size + 1) = some (instObj C s.heap.objs.size) := by heap_get
 have e0 : ∀ a, a < σ.nx → ext2 ι σ.nx s.heap.objs.size a = ι a := fun a l => by unfold ext2; rw [if_neg (by lia), if_neg (by lia)]
 have e1 : ext2 ι σ.nx s.heap.objs.size σ.nx = s.heap.objs.size + 1 := by simp [ext2]
 have e2 : ext2 ι σ.nx s.heap.objs.size (σ.nx + 1) = s.heap.objs.size := by simp [ext2]
 have n1 : s.heap.get? s.heap.objs.size = none := by
  cases q : s.heap.get? s.heap.objs.size with
  | none => rfl
  | some o => exact absurd (Heap.lt_size q) (Nat.lt_irrefl _)
 have n2 : s.heap.get? (s.heap.objs.size + 1) = none := by
  cases q : s.heap.get? (s.heap.objs.size + 1) with
  | none => rfl
  | some o => exact absurd (Heap.lt_size q) (Nat.not_lt.mpr (Nat.le_succ _))
 have b1 : B.h₀.get? s.heap.objs.size = none := by
  cases q : B.h₀.get? s.heap.objs.size with
  | none => rfl
  | some o => rw [S.base _ _ q] at n1; cases n1
 have b2 : B.h₀.get? (s.heap.objs.size + 1) = none := by
  cases q : B.h₀.get? (s.heap.objs.size + 1) with
  | none => rfl
  | some o => rw [S.base _ _ q] at n2; cases n2
 have lt : ∀ a, a < σ.nx → ι a < s.heap.objs.size := fun a l => S.lt l
 have tr : Tr none ι σ s (ext2 ι σ.nx s.heap.objs.size) ((σ.new (.inst C (σ.nx + 1))).new (.ns [])) { s with heap := (s.heap.push emptyDict).push (instObj C s.heap.objs.size) } := by
  refine ⟨e0, by show σ.nx ≤ σ.nx + 1 + 1; lia, fun b o e _ _ => k b o e, fun a h1 h2 => ?_, fun _ => Nat.le_refl _, fun _ _ _ _ e => k _ _ e⟩
  simp at h2
  rcases (by lia : a = σ.nx ∨ a = σ.nx + 1) with rfl | rfl
  ·rw [e1]; exact n2
  ·rw [e2]; exact n1
 refine ⟨?_, tr⟩
 have up := Tr.up0 S tr
 have cs : ∀ a, a < σ.nx + 1 + 1 → a < σ.nx ∨ a = σ.nx ∨ a = σ.nx + 1 := fun a l => by lia
 refine ⟨fun a l => ?_, fun a b ha hb e => ?_, fun b o e => k _ _ (S.base b o e), fun a l => ?_, S.gens, S.os, S.lst⟩
 ·rcases cs a l with h | rfl | rfl
  ·rw [e0 a h]
   have ob : ((σ.new (.inst C (σ.nx + 1))).new (.ns [])).ob a = σ.ob a := by
    simp only [St.new]; rw [upd_ne (by show a ≠ σ.nx + 1; lia), upd_ne (by lia)]
   rw [ob]
   obtain ⟨c, e, _⟩ := (S.objs a h).at
   exact (S.objs a h).up up rfl ((k _ _ e).trans e.symm)
  ·rw [e1]
   have ob : ((σ.new (.inst C (σ.nx + 1))).new (.ns [])).ob σ.nx = .inst C (σ.nx + 1) := by
    simp only [St.new]; rw [upd_ne (by show σ.nx ≠ σ.nx + 1; lia), upd_self]
   rw [ob]
   exact ⟨by simp, by rw [e2]; exact g2⟩
  ·rw [e2]
   have ob : ((σ.new (.inst C (σ.nx + 1))).new (.ns [])).ob (σ.nx + 1) = .ns [] := by
    simp only [St.new]; rw [upd_self]
   rw [ob]
   exact ⟨[], 0, g1, rfl⟩
 ·have w : ∀ {x y : Addr}, x < y → x = y → False := fun h e => absurd h (by rw [e]; exact Nat.lt_irrefl _)
  rcases cs a ha with h | h | h <;> rcases cs b hb with h' | h' | h'
  ·rw [e0 a h, e0 b h'] at e; exact S.inj a b h h' e
  ·rw [h', e0 a h, e1] at e; exact (w (Nat.lt_succ_of_lt (lt a h)) e).elim
  ·rw [h', e0 a h, e2] at e; exact (w (lt a h) e).elim
  ·rw [h, e0 b h', e1] at e; exact (w (Nat.lt_succ_of_lt (lt b h')) e.symm).elim
  ·lia
  ·rw [h, h', e1, e2] at e; exact (w (Nat.lt_succ_self _) e.symm).elim
  ·rw [h, e0 b h', e2] at e; exact (w (lt b h') e.symm).elim
  ·rw [h, h', e1, e2] at e; exact (w (Nat.lt_succ_self _) e).elim
  ·lia
 ·rcases cs a l with h | rfl | rfl
  ·rw [e0 a h]; exact S.off a h
  ·rw [e1]; exact b2
  ·rw [e2]; exact b1
theorem cf_all (G : B.Good) (BL : Blt B) (TO : TabOk B T) (FN : ∀ a F, T.fn a = some F → FnOk B a F) (PN : ∀ a kvs, T.prim a = some kvs → PrimOk B a kvs) (PK : ∀ a kvs, T.prim a = some kvs → keepIn B.K (.ref a) = true) : ∀ d, CfOk B (cfN T d) d
 | 0 => ⟨fun f vs σ r σ' ι s c cs A h => (nomatch h), fun f vs σ r h => (nomatch h)⟩
 | d + 1 => by
  have O := cf_all G BL TO FN PN PK d
  refine ⟨fun f vs σ r σ' ι s c cs A h S rf rv RM => ?_, fun f vs σ r h => ?_⟩
  ·refine bind_k h ?_
   clear h
   intro a ha h2
   obtain rfl := asKR_inv ha
   obtain ⟨rfl, _⟩ := rf
   have h := h2
   clear h2
   cases hF : T.fn a with
   | some F =>
    simp only [hF] at h
    refine bind_k h ?_
    clear h
    intro ρ hb h
    refine bind3_k h ?_
    clear h
    intro fl ρ' σ₁ he hE
    cases hE
    exact fn_run G BL TO O (FN a F hF) RM S rv hb he
   | none =>
    simp only [hF] at h
    cases hg : T.init a with
    | some g =>
     simp only [hg] at h
     refine bind2_k h ?_
     clear h
     intro r₁ σ₁ he h
     refine ite_k h ?_
     clear h
     intro hn hE
     obtain rfl := isNA_inv hn
     cases hE
     have I := TO.init a g hg
     have X : B.K.In s.heap := Frag.In.keeps G.kin S.base
     obtain ⟨S₁, t₁⟩ := new_inst S a
     have up := Tr.up0 S t₁
     obtain ⟨hh, gg, dd, tt, oo⟩ := s
     refine make_core (makes_of X I.makes) (looks_findIn X I.find) (fun self => bind_fn X self I.typ) (.inl rfl) ?_
     have RM' : Room (A.under (.builtin "type.__call__" ⟨.ref a :: cs, []⟩)) d := by
      obtain ⟨l, hl⟩ := RM.frames
      refine ⟨RM.hand, ⟨l, hl⟩, ?_, ?_⟩
      ·have := RM.depth; show A.depth + 1 + 160 + 4 * d < _; lia
      ·have := RM.units; show A.units + 1 + 120 + 16 * d < _; lia
     have lt : σ.nx < σ.nx + 1 + 1 := Nat.lt_succ_of_lt (Nat.lt_succ_self _)
     have self : ext2 ι σ.nx hh.objs.size σ.nx = hh.objs.size + 1 := if_pos rfl
     have q := O.code _ _ _ _ _ _ _ (.ref g) (.ref (hh.objs.size + 1) :: cs) (A.under (.builtin "type.__call__" ⟨.ref a :: cs, []⟩)) he S₁ ⟨rfl, _, rfl⟩ (RelVs.cons ⟨lt, congrArg Value.ref self.symm⟩ (rv.up up)) RM'
     refine codeAny_mono q fun r s' z => ?_
     rcases r with e | f
     ·exact z.elim
     ·cases f with
      | ret v =>
       obtain ⟨ι₂, t₂, S₂, r₂⟩ := z
       cases r₂
       have le : σ.nx + 1 + 1 ≤ σ₁.nx := t₂.le
       exact ⟨rfl, ι₂, t₁.trans t₂ S₂.sep, S₂, Nat.lt_of_lt_of_le lt le, congrArg Value.ref ((t₂.ext σ.nx lt).trans self).symm⟩
      | _ => exact z.elim
    | none =>
     simp only [hg] at h
     refine bind_k h ?_
     clear h
     intro kvs hk h
     refine ite_k h ?_
     clear h
     intro hv hE
     cases vs with
     | cons => cases hv
     | nil =>
      cases hE
      cases rv
      exact PN a _ hk ι σ s A S ⟨RM.hand, RM.frames, by have := RM.depth; lia, by have := RM.units; lia⟩
  ·refine bind_k h ?_
   clear h
   intro a ha h
   refine ⟨a, asKR_inv ha, ?_⟩
   cases hF : T.fn a with
   | some F => exact TO.fnk a F hF
   | none =>
    simp only [hF] at h
    cases hg : T.init a with
    | some g => exact (TO.init a g hg).keep
    | none =>
     simp only [hg] at h
     refine bind_k h ?_
     clear h
     intro kvs hk h
     exact PK a _ hk
end
end Mine
end
section
open PySem PySem.W PyProof.Rows PySem.Calls PySem.Spec
namespace Mine
theorem forIn_gather2 (f : (Option (Sem Value) × Sem Value) → (Option Addr × List (Sem Value × Sem Value)) → Sem (ForInStep (Option Addr × List (Sem Value × Sem Value)))) (m : Option Addr)
  (hf : ∀ (p : Sem Value × Sem Value) (run : List (Sem Value × Sem Value)), run.length + 1 < 17 → f (some p.1, p.2) (m, run) = pure (.yield (m, run ++ [p]))) (tail : List (Option (Sem Value) × Sem Value)) :
  ∀ (items run : List (Sem Value × Sem Value)), run.length + items.length < 17 → forIn ((items.map fun p => (some p.1, p.2)) ++ tail) (m, run) f = forIn tail (m, run ++ items) f
 | [], run, _ => by simp
 | p :: rest, run, h => by
  rw [List.map_cons, List.cons_append, List.forIn_cons, hf p run (by simp at h; lia), pure_bind]
  have := forIn_gather2 f m hf tail rest (run ++ [p]) (by simp at h ⊢; lia)
  simpa using this
theorem dictDisplay_long (p1 p2 : List (Sem Value × Sem Value)) (q : Sem Value × Sem Value) (h1 : p1.length = 16) (h2 : p2.length < 17) :
  dictDisplay ((p1 ++ q :: p2).map fun p => (some p.1, p.2)) = (do
   let d ← subDict (p1 ++ [q])
   if p2.isEmpty then pure (.ref d) else do
    let sub ← holding [.ref d] (subDict p2)
    (holding [.ref d, .ref sub] (mergeMapping d (.ref sub) false)).onRaise fun x => do let _ ← holding [.ref d, x] (runValue (.builtin "proto.let_go" {}))
    pure (.ref d)) := by
 unfold dictDisplay
 dsimp only
 rw [List.map_append, forIn_gather2 _ none (fun p run h => by
  have hne : ((run ++ [(p.1, p.2)]).length == 17) = false := by simp; lia
  simp only [hne, Bool.false_eq_true, if_false]) _ p1 [] (by simp [h1])]
 rw [List.map_cons, List.forIn_cons]
 have e17 : ((p1 ++ [(q.1, q.2)]).length == 17) = true := by simp [h1]
 have ene : ((p1 ++ [(q.1, q.2)]).isEmpty) = false := by cases p1 <;> rfl
 simp only [List.nil_append, e17, if_true, ene, Bool.false_eq_true, if_false, bind_assoc, pure_bind]
 congr 1
 funext d
 have := fun f h => forIn_gather2 f (some d) h [] p2 [] (by simpa using h2)
 simp only [List.append_nil] at this
 rw [this _ (fun p run h => by
  have hne : ((run ++ [(p.1, p.2)]).length == 17) = false := by simp; lia
  simp only [hne, Bool.false_eq_true, if_false])]
 simp only [List.forIn_nil, pure_bind, List.nil_append]
 cases p2 with
 | nil => simp
 | cons a b => simp
section
variable {prog : Program} {w : World} {K : Type} [DecidableEq K] {knd : KeyKind prog w K} {A : Around} {E : Value → Shared → Prop} {s : Shared}
theorem wpAny_dictPut_new {d : Addr} {kvs : List (K × Value)} {k : K} {key v : Value} {Q : Unit → Shared → Prop} (hkey : knd.is k key = true) (hm : s.heap.DictOf knd d kvs) (hnot : k ∉ kvs.map (·.1))
  (hQ : ∀ h', h'.DictOf knd d (kvs ++ [(k, v)]) → Heap.SameBut d s.heap h' → Q () { s with heap := h' }) (hsz : kvs.length ≤ sizeLine) :
  wpAny (model prog w) A (dictPut d (knd.hash k) key v) Q E s := by
 obtain ⟨o, es, ep, ho, hc, hd, hk, hp, hn⟩ := hm
 have hes : es.size ≤ sizeLine := by
  rw [← Array.length_toList, hp.length]
  exact hsz
 unfold dictPut
 refine wpAny_bind (wpAny_dictFind_of hkey ho hd hk ?_)
 have hidx : (es.findIdx? fun e => knd.is k e.key) = kvs.findIdx? fun kv => decide (kv.1 = k) := by
  rw [← hp.findIdx k]; obtain ⟨l⟩ := es; simp
 have hnone : (es.findIdx? fun e => knd.is k e.key) = none := by
  rw [hidx, List.findIdx?_eq_none_iff]
  intro x hx
  simp only [decide_eq_false_iff_not]
  exact fun e => hnot (List.mem_map.mpr ⟨x, hx, e⟩)
 rw [hnone]
 refine wpAny_updateDictKeys (hz := hes) ho hd (hQ _ ⟨_, _, ep + 1, Heap.get?_update_self _ ho (Obj.isFreed_of_dict (Obj.data_mapDictKeys hd _)),
   hc.mapDictKeys _, Obj.data_mapDictKeys hd _, hk.push hkey _, ?_, ?_⟩ (Heap.SameBut.update ..))
 ·have := hp.append hkey (knd.hash k) v
  obtain ⟨l⟩ := es
  simpa using this
 ·rw [List.map_append, List.nodup_append]
  refine ⟨hn, by simp, ?_⟩
  intro a ha b hb
  simp only [List.map_cons, List.map_nil, List.mem_singleton] at hb
  subst hb
  exact fun e => hnot (e ▸ ha)
theorem if_yes {α : Type} {M : Model} {Q : α → Shared → Prop} {c : Prop} [Decidable c] {a b : Sem α} (h : c) (k : wpAny M A a Q E s) : wpAny M A (if c then a else b) Q E s := by rw [if_pos h]; exact k
theorem fresh_take {V : Type} {kvs more : List (K × V)} (hfr : ((kvs ++ more).map (·.1)).Nodup) {x : Nat} {k : K} {v : V} (hkv : more[x]? = some (k, v)) : k ∉ (kvs ++ more.take x).map (·.1) := by
 obtain ⟨hx, ex⟩ := List.getElem?_eq_some_iff.mp hkv
 have e : kvs ++ more = (kvs ++ more.take x) ++ (k, v) :: more.drop (x + 1) := by
  rw [← ex, List.append_assoc, ← List.drop_eq_getElem_cons hx, List.take_append_drop]
 rw [e, List.map_append, List.nodup_append] at hfr
 exact fun hm => hfr.2.2 _ hm _ List.mem_cons_self rfl
noncomputable def MgI (knd : KeyKind prog w K) (d o : Addr) (kvs more : List (K × Value)) (s : Shared) (oo : Obj) (n : Nat) (rest : List Nat) (s' : Shared) : Prop :=
 ∃ h' i, s' = { s with heap := h' } ∧ rest = (List.range n).drop i ∧ i ≤ n ∧ h'.DictOf knd d (kvs ++ more.take i) ∧ h'.get? o = some oo ∧ Heap.SameBut d s.heap h'
theorem range_drop {n i x : Nat} {rest : List Nat} (h : x :: rest = (List.range n).drop i) : x = i ∧ rest = (List.range n).drop (i + 1) ∧ i < n := by
 have hi : i < n := by
  refine Nat.lt_of_not_le fun q => ?_
  rw [List.drop_eq_nil_of_le (by rw [List.length_range]; exact q)] at h
  cases h
 rw [List.drop_eq_getElem_cons (by rw [List.length_range]; exact hi), List.getElem_range] at h
 exact ⟨(List.cons.inj h).1, (List.cons.inj h).2, hi⟩
theorem wpAny_mergeMapping {d o : Addr} {kvs more : List (K × Value)} {Q : Unit → Shared → Prop} (hdo : d ≠ o) (hoS : (o == sysModules) = false)
  (hd : s.heap.DictOf knd d kvs) (ho : s.heap.DictOf knd o more) (hne : kvs ≠ []) (hfr : ((kvs ++ more).map (·.1)).Nodup)
  (hQ : ∀ h', h'.DictOf knd d (kvs ++ more) → h'.DictOf knd o more → Heap.SameBut d s.heap h' → Q () { s with heap := h' })
  (hsz : kvs.length + more.length ≤ sizeLine) :
  wpAny (model prog w) A (mergeMapping d (.ref o) false) Q E s := by
 have hty := ho.typeIs
 refine hide fun G0 hG => ?_
 obtain ⟨od, esd, epd, hod, hcd, hdd, hkd, hpd, hnd⟩ := id hd
 obtain ⟨oo, eso, epo, hoo, hco, hdo', hko, hpo, hno⟩ := ho
 have hlen : more.length = eso.size := by rw [← hpo.length, Array.length_toList]
 have hemp : ¬ esd.isEmpty = true := by
  intro he
  have h0 : esd = #[] := Array.isEmpty_iff.mp he
  have := hpd.length; rw [h0] at this
  exact hne (List.length_eq_zero_iff.mp this.symm)
 clear hcd hkd hpd hnd hne
 refine hG ?_
 clear hG G0
 refine wpAny_bind (wpAny_isInstance hty isSubtype_dict_dict ?_)
 refine if_yes rfl ?_
 refine wpAny_bind (wpAny_specialOf hty F.slot_dict_iter.lookup (wpAny_bind (wpAny_pure ?_)))
 rw [beq_self_eq_true]
 refine if_no (by rw [hoS]; exact Bool.false_ne_true) ?_
 refine wpAny_bind (wpAny_dictEntries hod hdd ?_)
 refine if_no hemp ?_
 refine wpAny_bind (wpAny_dictEntries hoo hdo' ?_)
 refine wpAny_bind (wpAny_dictEpoch hoo hdo' ?_)
 clear hod hdd hemp hty hoS
 refine wpAny_bind (wpAny_forIn_list _ (fun rest _ s' => MgI knd d o kvs more s oo eso.size rest s') _ ?_ ?_ (List.range eso.size) _ ⟨s.heap, 0, rfl, rfl, Nat.zero_le _, by rw [List.take_zero, List.append_nil]; exact hd, hoo, Heap.SameBut.refl _ _⟩)
 ·clear hQ hoo hd hco hno
  intro x rest b s' hh
  refine hide fun G0 hG => ?_
  obtain ⟨h', i, e1, hr, hi, hd', hoo', hs'⟩ := hh
  obtain ⟨e2, hrest, hlt⟩ := range_drop hr
  clear hr hi
  have hx := List.getElem?_eq_getElem (l := more) (i := i) (by rw [hlen]; exact hlt)
  generalize more[i]'(by rw [hlen]; exact hlt) = kv at hx
  obtain ⟨k, v⟩ := kv
  obtain ⟨hkey, hval⟩ := hpo.get? (e := eso[i]) (by rw [Array.getElem?_toList, Array.getElem?_eq_getElem hlt]) hx
  obtain ⟨k', hkey', hhash⟩ := hko eso[i] (Array.getElem_mem hlt)
  have e3 : k' = k := knd.inj _ _ _ hkey' hkey
  have hmx : (kvs ++ more.take i).length ≤ sizeLine := by
   rw [List.length_append, List.length_take]; exact Nat.le_trans (Nat.add_le_add_left (Nat.min_le_right ..) _) hsz
  have hnot := fresh_take hfr hx
  subst e1 e2 e3
  clear hpo hko hfr hsz hkey'
  refine hG ?_
  clear hG G0
  refine wpAny_bind (wpAny_dictEntries hoo' hdo' ?_)
  rw [Array.getElem?_eq_getElem hlt]
  refine wpAny_bind (wpAny_holding ?_)
  refine if_no Bool.false_ne_true ?_
  rw [hhash, hval]
  refine wpAny_dictPut_new (hsz := hmx) hkey hd' hnot fun h'' hd'' hs'' => ?_
  have hoo'' : h''.get? o = some oo := (hs''.2 o (Ne.symm hdo)).trans hoo'
  refine wpAny_bind (wpAny_dictEpoch hoo'' hdo' ?_)
  refine if_no (by rw [bne_self_eq_false]; exact Bool.false_ne_true) ?_
  refine wpAny_pure ⟨h'', x + 1, rfl, hrest, hlt, ?_, hoo'', hs'.trans hs''⟩
  rw [List.take_add_one, hx, ← List.append_assoc]
  exact hd''
 ·clear hfr hsz hd hoo
  intro b s' hh
  obtain ⟨h', i, e1, hr, hi, hd', hoo', hs'⟩ := hh
  subst e1
  have hin : i = eso.size := by
   refine Nat.le_antisymm hi (Nat.le_of_not_lt fun h => ?_)
   rw [List.drop_eq_getElem_cons (by rw [List.length_range]; exact h)] at hr
   cases hr
  refine wpAny_pure (hQ h' ?_ ⟨oo, eso, epo, hoo', hco, hdo', hko, hpo, hno⟩ hs')
  rw [hin, ← hlen, List.take_length] at hd'; exact hd'
end
end Mine
end
section
open PySem PySem.W PyProof.Rows PySem.Calls PySem.Spec
namespace Mine
structure Din (B : Base) (C : RC) (L : Addr) (ι₀ : Nat → Addr) (σ : St) (ρ : Lc) (s₀ : Shared) (ι : Nat → Addr) (s : Shared) (ds : List (Addr × List (Str × Value))) : Prop where
 tr : Tr (some L) ι₀ σ s₀ ι σ s
 sl : SL B C.ns L ι σ ρ s
 off : ∀ p ∈ ds, s₀.heap.get? p.1 = none ∧ B.h₀.get? p.1 = none ∧ p.1 ≠ L ∧ ∀ a, a < σ.nx → ι a ≠ p.1
 dict : ∀ p ∈ ds, s.heap.DictOf (strKind B.prog B.w) p.1 p.2
 nd : (ds.map (·.1)).Nodup
section
variable {B : Base} {C : RC} {fd : FuncData} {L fa : Addr} {A : Around} {T : Tab} {cf : CF}
variable {ι ι₀ : Nat → Addr} {σ : St} {ρ : Lc} {s s₀ : Shared} {ds : List (Addr × List (Str × Value))}
theorem Din.start (S : SL B C.ns L ι σ ρ s) : Din B C L ι σ ρ s ι s [] := ⟨Tr.refl .., S, by simp, by simp, by simp⟩
theorem Din.step {P : (Nat → Addr) → Shared → Prop} {s' : Shared} (D : Din B C L ι₀ σ ρ s₀ ι s ds) (z : Ans B C L ι σ s σ ρ P s') : ∃ ι', Din B C L ι₀ σ ρ s₀ ι' s' ds ∧ P ι' s' := by
 refine Ans_k z ?_
 clear z
 intro ι' t S' p
 refine ⟨ι', ⟨D.tr.trans t S'.sep, S', fun p hp => ?_, fun p hp => ?_, D.nd⟩, p⟩
 ·obtain ⟨h1, h2, h3, h4⟩ := D.off p hp
  exact ⟨h1, h2, h3, fun a l => by rw [t.ext a l]; exact h4 a l⟩
 ·obtain ⟨h1, h2, h3, h4⟩ := D.off p hp
  obtain ⟨o, es, ep, e, r⟩ := D.dict p hp
  exact ⟨o, es, ep, t.keep _ _ e h4 (by intro q; cases q; exact h3 rfl), r⟩
theorem Din.set {d : Addr} {cs cs' : List (Str × Value)} {h' : Heap} (D : Din B C L ι₀ σ ρ s₀ ι s ((d, cs) :: ds)) (hd : h'.DictOf (strKind B.prog B.w) d cs') (sb : Heap.SameBut d s.heap h') (tk : Tok) :
  Din B C L ι₀ σ ρ s₀ ι { s with heap := h', toks := tk } ((d, cs') :: ds) := by
 obtain ⟨h1, h2, h3, h4⟩ := D.off (d, cs) List.mem_cons_self
 simp only at h1 h2 h3 h4
 have up : Up ι σ.nx s.heap ι σ.nx h' := ⟨fun _ _ => rfl, Nat.le_refl _, fun a vs e => by
  obtain ⟨o, e1, hc, n, hdd⟩ := e
  refine ⟨o, (sb.2 a fun q => ?_).trans e1, hc, n, hdd⟩
  obtain ⟨o', es, ep, e2, hd', hd2, _⟩ := D.dict (d, cs) List.mem_cons_self
  simp only at e2
  rw [q, e2] at e1; cases e1
  rw [hdd] at hd2; cases hd2⟩
 refine ⟨⟨D.tr.ext, D.tr.le, fun b o e n l => (sb.2 b fun q => ?_).trans (D.tr.keep b o e n l), D.tr.fresh, D.tr.mono, fun a o l v e => (sb.2 _ fun q => ?_).trans (D.tr.unch a o l v e)⟩, ⟨⟨fun a l => ?_, D.sl.sim.inj, fun b o e => (sb.2 b fun q => ?_).trans (D.sl.sim.base b o e), D.sl.sim.off, D.sl.sim.gens, D.sl.sim.os, D.sl.sim.lst⟩, ?_⟩, fun p hp => ?_, fun p hp => ?_, D.nd⟩
 ·rw [q, h1] at e; cases e
 ·rw [q, h1] at e; cases e
 ·exact (D.sl.sim.objs a l).up up rfl (sb.2 _ (h4 a l))
 ·rw [q, h2] at e; cases e
 ·obtain ⟨m, ⟨o', es, ep, e, r⟩, hl⟩ := D.sl.fr.loc
  refine ⟨D.sl.fr.len, ⟨m, ⟨o', es, ep, (sb.2 _ (Ne.symm h3)).trans e, r⟩, fun i x v h1 h2 => ?_⟩, D.sl.fr.offL, D.sl.fr.newL⟩
  obtain ⟨c, e, r⟩ := hl i x v h1 h2
  exact ⟨c, e, r.up up⟩
 ·rcases List.mem_cons.mp hp with rfl | hp
  ·exact ⟨h1, h2, h3, h4⟩
  ·exact D.off p (List.mem_cons_of_mem _ hp)
 ·rcases List.mem_cons.mp hp with rfl | hp
  ·exact hd
  ·have nd := D.nd
   simp only [List.map_cons, List.nodup_cons] at nd
   obtain ⟨o, es, ep, e, r⟩ := D.dict p (List.mem_cons_of_mem _ hp)
   exact ⟨o, es, ep, (sb.2 _ fun q => nd.1 (List.mem_map.mpr ⟨p, hp, q⟩)).trans e, r⟩
theorem Din.alive (D : Din B C L ι₀ σ ρ s₀ ι s ds) (S₀ : SL B C.ns L ι₀ σ ρ s₀) : s₀.heap.get? s.heap.objs.size = none := by
 cases q : s₀.heap.get? s.heap.objs.size with
 | none => rfl
 | some o =>
  exfalso
  by_cases hl : L = s.heap.objs.size
  ·obtain ⟨m, h, _⟩ := D.sl.fr.loc
   have := h.lt
   exact absurd this (by rw [hl]; exact Nat.lt_irrefl _)
  ·by_cases hn : ∀ a, a < σ.nx → ι₀ a ≠ s.heap.objs.size
   ·exact absurd (Heap.lt_size (D.tr.keep _ _ q hn (by intro e; cases e; exact hl rfl))) (Nat.lt_irrefl _)
   ·obtain ⟨a, hb⟩ := Classical.not_forall.mp hn
    obtain ⟨ha, e⟩ := Classical.not_imp.mp hb
    have e := Classical.not_not.mp e
    have := D.sl.sim.lt ha
    rw [D.tr.ext a ha, e] at this
    exact absurd this (Nat.lt_irrefl _)
theorem Din.alloc (D : Din B C L ι₀ σ ρ s₀ ι s ds) (S₀ : SL B C.ns L ι₀ σ ρ s₀) :
  Din B C L ι₀ σ ρ s₀ ι { s with heap := s.heap.push { cls := .type "dict", data := .dict #[] } } ((s.heap.objs.size, []) :: ds) := by
 have al := D.alive S₀
 have k : ∀ b o, s.heap.get? b = some o → (s.heap.push { cls := .type "dict", data := .dict #[] }).get? b = some o := fun b o e => Heap.get?_push_of_some _ e
 have z : Ans B C L ι σ s σ ρ (fun _ _ => True) { s with heap := s.heap.push { cls := .type "dict", data := .dict #[] } } := Ans.more D.sl k s.toks fun _ => trivial
 have D' : Din B C L ι₀ σ ρ s₀ ι { s with heap := s.heap.push { cls := .type "dict", data := .dict #[] } } ds := by
  obtain ⟨t, S'⟩ := Tr.fr0 D.sl (Tr.more (L := none) k s.toks) (D.sl.sim.more k s.toks)
  refine ⟨D.tr.trans t S'.sep, S', D.off, fun p hp => ?_, D.nd⟩
  obtain ⟨o, es, ep, e, r⟩ := D.dict p hp
  exact ⟨o, es, ep, k _ _ e, r⟩
 have g1 : (s.heap.push { cls := .type "dict", data := .dict #[] }).get? s.heap.objs.size = some { cls := .type "dict", data := .dict #[] } := by heap_get
 refine ⟨D'.tr, D'.sl, fun p hp => ?_, fun p hp => ?_, ?_⟩
 ·rcases List.mem_cons.mp hp with rfl | hp
  ·refine ⟨al, ?_, ?_, fun a l => ?_⟩
   ·cases q : B.h₀.get? s.heap.objs.size with
    | none => rfl
    | some o => exact absurd (Heap.lt_size (D.sl.sim.base _ _ q)) (Nat.lt_irrefl _)
   ·intro q
    obtain ⟨m, h, _⟩ := D.sl.fr.loc
    have := h.lt
    simp only at q
    exact absurd this (by rw [← q]; exact Nat.lt_irrefl _)
   ·have := D.sl.sim.lt l
    exact fun q => absurd this (by rw [q]; exact Nat.lt_irrefl _)
  ·exact D'.off p hp
 ·rcases List.mem_cons.mp hp with rfl | hp
  ·exact edict_of g1 _
  ·exact D'.dict p hp
 ·simp only [List.map_cons, List.nodup_cons]
  refine ⟨fun hm => ?_, D.nd⟩
  obtain ⟨p, hp, e⟩ := List.mem_map.mp hm
  obtain ⟨o, es, ep, e', r⟩ := D.dict p hp
  have := Heap.lt_size e'
  exact absurd this (by rw [e]; exact Nat.lt_irrefl _)
noncomputable abbrev conc (rows : List (Nat × Addr)) : List (Str × Value) := rows.map fun p => (nm p.1, .ref p.2)
noncomputable abbrev abst (rows : List (Nat × Addr)) : List (Nat × AV) := rows.map fun p => (p.1, .k (.ref p.2))
structure RowOk (B : Base) (C : RC) (L : Addr) (A : Around) (σ : St) (ρ : Lc) (p : Nat × Addr) (x : Sem Value × Sem Value) : Prop where
 key : ∀ ι s, SL B C.ns L ι σ ρ s → wpAny (model B.prog B.w) A x.1 (fun c => Ans B C L ι σ s σ ρ fun ι' s' => RelV ι' σ.nx s'.heap (.str p.1) c) NoE s
 val : ∀ ι s, SL B C.ns L ι σ ρ s → wpAny (model B.prog B.w) A x.2 (fun c => Ans B C L ι σ s σ ρ fun ι' s' => RelV ι' σ.nx s'.heap (.k (.ref p.2)) c) NoE s
inductive Rows (B : Base) (C : RC) (L : Addr) (A : Around) (σ : St) (ρ : Lc) : List (Nat × Addr) → List (Sem Value × Sem Value) → Prop
 | nil : Rows B C L A σ ρ [] []
 | cons {p x r l} : RowOk B C L A σ ρ p x → Rows B C L A σ ρ r l → Rows B C L A σ ρ (p :: r) (x :: l)
theorem Rows.length {rows l} (h : Rows B C L A σ ρ rows l) : l.length = rows.length := by
 induction h with
 | nil => rfl
 | cons _ _ ih => simp [ih]
theorem stored_new {acc : List (Str × Value)} {k : Str} {v : Value} (h : k ∉ acc.map (·.1)) : stored acc k v = acc ++ [(k, v)] := by
 unfold stored
 rw [if_neg]
 rw [List.any_eq_true]; rintro ⟨x, hx, he⟩
 exact h (List.mem_map.mpr ⟨x, hx, of_decide_eq_true he⟩)
theorem rows_loop {d : Addr} {rows l} (h : Rows B C L A σ ρ rows l) : ∀ {acc : List (Str × Value)} {ι s}, Din B C L ι₀ σ ρ s₀ ι s ((d, acc) :: ds) → ((acc ++ conc rows).map (·.1)).Nodup → acc.length + rows.length ≤ sizeLine →
  wpAny (model B.prog B.w) A (forIn l PUnit.unit fun (x : Sem Value × Sem Value) (_ : PUnit) => (do
   let kv ← x.1
   let vv ← holding [kv] x.2
   holding [kv, vv] (dictSet d kv vv)
   pure (ForInStep.yield PUnit.unit) : Sem (ForInStep PUnit))) (fun _ s' => ∃ ι', Din B C L ι₀ σ ρ s₀ ι' s' ((d, acc ++ conc rows) :: ds)) NoE s := by
 induction h with
 | nil => intro acc ι s D nd hl; rw [List.forIn_nil]; exact wpAny_pure ⟨ι, by simpa using D⟩
 | cons r h ih =>
  rename_i p x rs l
  intro acc ι s D nd hl
  rw [List.forIn_cons]
  refine wpAny_bind (wpAny_bind (wpAny_mono (r.key _ _ D.sl) (fun kv s₁ z => ?_) fun _ _ x => x))
  obtain ⟨ι₁, D₁, rk⟩ := D.step z
  simp only [RelV] at rk
  obtain ⟨hk, t, rfl⟩ := rk
  refine wpAny_bind (wpAny_holding (wpAny_mono (r.val _ _ D₁.sl) (fun vv s₂ z => ?_) fun _ _ x => x))
  obtain ⟨ι₂, D₂, rv⟩ := D₁.step z
  simp only [RelV] at rv
  obtain ⟨rfl, _⟩ := rv
  have hnew : nm p.1 ∉ acc.map (·.1) := by
   rw [List.map_append, List.nodup_append] at nd
   exact fun hm => nd.2.2 _ hm (nm p.1) (by simp) rfl
  simp only [List.length_cons] at hl
  refine wpAny_bind (wpAny_holding (wpAny_dictSet_pairs (strKind_is _ _ _ _) (D₂.dict _ List.mem_cons_self) (fun h' hd sb => wpAny_pure ?_) (by show acc.length ≤ sizeLine; lia)))
  rw [stored_new hnew] at hd
  have D₃ := D₂.set hd sb (s₂.toks + 1)
  have := ih D₃ (by simpa using nd) (by simp; lia)
  simpa using this
theorem rows_pairs {rows l} (h : Rows B C L A σ ρ rows l) : ∀ {ι s}, Din B C L ι₀ σ ρ s₀ ι s ds →
  wpAny (model B.prog B.w) A (evalPairs l) (fun vs s' => (∃ ι', Din B C L ι₀ σ ρ s₀ ι' s' ds) ∧ Carries (strKind B.prog B.w) vs (conc rows)) NoE s := by
 induction h with
 | nil => intro ι s D; exact evalPairs_nil ⟨⟨ι, D⟩, trivial⟩
 | cons r h ih =>
  rename_i p x rs l
  intro ι s D
  refine evalPairs_cons (wpAny_mono (r.key _ _ D.sl) (fun kv s₁ z => ?_) fun _ _ x => x)
  obtain ⟨ι₁, D₁, rk⟩ := D.step z
  simp only [RelV] at rk
  obtain ⟨hk, t, rfl⟩ := rk
  refine wpAny_mono (r.val _ _ D₁.sl) (fun vv s₂ z => ?_) fun _ _ x => x
  obtain ⟨ι₂, D₂, rv⟩ := D₁.step z
  simp only [RelV] at rv
  obtain ⟨rfl, _⟩ := rv
  exact wpAny_mono (ih D₂) (fun vs s₃ z => ⟨z.1, strKind_is _ _ _ _, rfl, z.2⟩) fun _ _ x => x
theorem sub_short {rows l} (h : Rows B C L A σ ρ rows l) (hl : rows.length ≤ 15) (nd : ((conc rows).map (·.1)).Nodup) (S₀ : SL B C.ns L ι₀ σ ρ s₀) (D : Din B C L ι₀ σ ρ s₀ ι s ds) :
  wpAny (model B.prog B.w) A (subDict l) (fun d s' => ∃ ι', Din B C L ι₀ σ ρ s₀ ι' s' ((d, conc rows) :: ds)) NoE s := by
 refine wpAny_subDict (knd := strKind B.prog B.w) (by rw [h.length]; exact hl) (wpAny_mono (rows_pairs h (D.alloc S₀)) (fun vs s₁ z => ?_) fun _ _ x => x)
 obtain ⟨⟨ι₁, D₁⟩, hc⟩ := z
 refine ⟨_, hc, D₁.dict _ List.mem_cons_self, fun h' hd sb => ⟨ι₁, ?_⟩⟩
 rw [merged_nil_of_nodup _ nd] at hd
 exact D₁.set hd sb _
theorem sub_long {rows l} (h : Rows B C L A σ ρ rows l) (hl : 15 < rows.length) (hl2 : rows.length ≤ 100) (nd : ((conc rows).map (·.1)).Nodup) (S₀ : SL B C.ns L ι₀ σ ρ s₀) (D : Din B C L ι₀ σ ρ s₀ ι s ds) :
  wpAny (model B.prog B.w) A (subDict l) (fun d s' => ∃ ι', Din B C L ι₀ σ ρ s₀ ι' s' ((d, conc rows) :: ds)) NoE s := by
 unfold subDict
 refine wpAny_bind (wpAny_alloc ?_)
 refine wpAny_bind (wpAny_holding ?_)
 rw [if_neg (by rw [h.length]; lia)]
 refine wpAny_bind (wpAny_rule ?_)
 refine wpAny_bind (wpAny_mono (rows_loop h (D.alloc S₀) (by simpa using nd) (by simp [sizeLine_eq]; lia)) (fun _ s' z => ?_) fun _ _ x => x)
 exact wpAny_pure (wpAny_pure (by simpa using z))
end
end Mine
end
section
open PySem PySem.W PyProof.Rows PySem.Calls PySem.Spec
namespace Mine
section
variable {B : Base} {C : RC} {fd : FuncData} {L fa : Addr} {A : Around} {T : Tab} {cf : CF}
variable {ι ι₀ : Nat → Addr} {σ : St} {ρ : Lc} {s s₀ : Shared} {ds : List (Addr × List (Str × Value))}
theorem PairsR.conc {n h} : ∀ rows : List (Nat × Addr), PairsR (K := Str) ι n h ((abst rows).map fun p => (nm p.1, p.2)) (conc rows)
 | [] => rfl
 | p :: r => ⟨.ref p.2, Mine.conc r, rfl, by simp [RelV], PairsR.conc r⟩
theorem Din.adopt {d : Addr} {rows : List (Nat × Addr)} (D : Din B C L ι₀ σ ρ s₀ ι s ((d, conc rows) :: ds)) (hr : ∀ p ∈ rows, p.1 < NT.length) :
  Ans B C L ι₀ σ s₀ (σ.new (.sdict (abst rows))) ρ (fun ι' s' => RelV ι' (σ.nx + 1) s'.heap (.ref σ.nx) (.ref d)) s := by
 obtain ⟨h1, h2, h3, h4⟩ := D.off (d, conc rows) List.mem_cons_self
 simp only at h1 h2 h3 h4
 have hd := D.dict (d, conc rows) List.mem_cons_self
 have up : Up ι σ.nx s.heap (ext1 ι σ.nx d) (σ.nx + 1) s.heap := ⟨fun a l => ext1_lt l, Nat.le_succ _, fun _ _ e => e⟩
 have cs : ∀ a, a < σ.nx + 1 → a < σ.nx ∨ a = σ.nx := fun a l => by lia
 refine ⟨ext1 ι σ.nx d, ⟨fun a l => by rw [ext1_lt l]; exact D.tr.ext a l, Nat.le_succ _, D.tr.keep, fun a x1 x2 => ?_, D.tr.mono, D.tr.unch⟩, ⟨⟨fun a l => ?_, fun a b ha hb e => ?_, D.sl.sim.base, fun a l => ?_, D.sl.sim.gens, D.sl.sim.os, D.sl.sim.lst⟩, ?_⟩, ?_⟩
 ·have x2 : a < σ.nx + 1 := x2
  obtain rfl : a = σ.nx := by lia
  rw [ext1_self]; exact h1
 ·rcases cs a l with h | rfl
  ·rw [ext1_lt h]
   show ObjOk B _ _ _ _ (upd σ.ob σ.nx _ a)
   rw [upd_ne (Nat.ne_of_lt h)]
   exact (D.sl.sim.objs a h).up up rfl rfl
  ·rw [ext1_self]
   show ObjOk B _ _ _ _ (upd σ.ob σ.nx _ σ.nx)
   rw [upd_self]
   exact ⟨_, _, hd, PairsR.conc rows, rfl, fun p hp => by obtain ⟨q, hq, rfl⟩ := List.mem_map.mp hp; exact hr q hq⟩
 ·rcases cs a ha with h | rfl <;> rcases cs b hb with h' | rfl
  ·rw [ext1_lt h, ext1_lt h'] at e; exact D.sl.sim.inj a b h h' e
  ·rw [ext1_lt h, ext1_self] at e; exact absurd e (h4 a h)
  ·rw [ext1_lt h', ext1_self] at e; exact absurd e.symm (h4 b h')
  ·rfl
 ·rcases cs a l with h | rfl
  ·rw [ext1_lt h]; exact D.sl.sim.off a h
  ·rw [ext1_self]; exact h2
 ·obtain ⟨m, hm, hl⟩ := D.sl.fr.loc
  refine ⟨D.sl.fr.len, ⟨m, hm, fun i x v e1 e2 => ?_⟩, fun a l => ?_, D.sl.fr.newL⟩
  ·obtain ⟨c, e, r⟩ := hl i x v e1 e2
   exact ⟨c, e, r.up up⟩
  ·rcases cs a l with h | rfl
   ·rw [ext1_lt h]; exact D.sl.fr.offL a h
   ·rw [ext1_self]; exact h3
 ·simp [RelV]
noncomputable def rowReps (C : RC) : List (Nat × Addr) → List (Option Expr) → List Expr → Bool
 | [], ks, xs => on0 ks (on0 xs true)
 | p :: r, ks, xs => match ks with
  | [] => false
  | k :: ks => onS k fun k => match xs with
   | [] => false
   | x :: xs => rep C (.lit (.str p.1)) k && (rep C (.lit (.k (.ref p.2))) x && rowReps C r ks xs)
noncomputable def T0 : Tab := ⟨fun _ => none, fun _ => none, fun _ => none, fun _ _ => none, fun _ _ => none, fun _ _ => false⟩
theorem rows_of {pos : Pos} (F : FrOk B C fd L fa A) : ∀ {rows ks xs}, rowReps C rows ks xs = true → ∃ l, (evalEachOpt ks (callEnv fd L fa)).zip ((evalEach xs (callEnv fd L fa)).map fun v => do let x ← v; standAt pos; pure x) = l.map (fun p => (some p.1, p.2)) ∧ Rows B C L A σ ρ rows l
 | [], ks, xs, h => by
  refine on0_k h ?_
  clear h
  intro hk h2
  refine on0_k h2 ?_
  clear h2
  intro hx _
  rw [hk, hx]
  exact ⟨[], rfl, .nil⟩
 | p :: r, ks, xs, h => by
  cases ks with
  | nil => cases h
  | cons k ks =>
   refine onS_k h ?_
   clear h
   intro k hq145 h2
   subst hq145
   cases xs with
   | nil => cases h2
   | cons x xs =>
    refine and_k h2 ?_
    clear h2
    intro h1 h
    refine and_k h ?_
    clear h
    intro h2 h
    obtain ⟨l, e, hl⟩ := rows_of (pos := pos) F h
    refine ⟨(eval k (callEnv fd L fa), do let v ← eval x (callEnv fd L fa); standAt pos; pure v) :: l, ?_, .cons ⟨fun ι s S => ?_, fun ι s S => ?_⟩ hl⟩
    ·rw [List.map_cons, ← e]; rfl
    ·exact so_lit (T := T0) (cf := fun _ _ _ => none) F h1 ρ σ (.str p.1) σ ι s rfl S
    ·refine wpAny_bind (wpAny_mono (so_lit (T := T0) (cf := fun _ _ _ => none) F h2 ρ σ (.k (.ref p.2)) σ ι s rfl S) (fun c s₁ z => ?_) fun _ _ x => x)
     exact wpAny_bind (wpAny_standAt (wpAny_pure z))
theorem Rows.split {l} : ∀ {n : Nat} {rows : List (Nat × Addr)}, Rows B C L A σ ρ rows l → Rows B C L A σ ρ (rows.take n) (l.take n) ∧ Rows B C L A σ ρ (rows.drop n) (l.drop n) := by
 intro n rows h
 induction h generalizing n with
 | nil => simp; exact .nil
 | cons r h ih =>
  cases n with
  | zero => exact ⟨.nil, .cons r h⟩
  | succ n => exact ⟨.cons r (ih (n := n)).1, (ih (n := n)).2⟩
theorem table_ok {rows : List (Nat × Addr)} {ks : List (Option Expr)} {xs : List Expr} {pos : Pos} (F : FrOk B C fd L fa A) (hm : ∃ o, B.h₀.get? sysModules = some o) (h : rowReps C rows ks xs = true) (h1 : 17 ≤ rows.length) (h2 : rows.length ≤ 32)
  (nd : ((conc rows).map (·.1)).Nodup) (hr : ∀ p ∈ rows, p.1 < NT.length) (S : SL B C.ns L ι σ ρ s) :
  wpAny (model B.prog B.w) A (eval (.Dict ks xs pos) (callEnv fd L fa)) (fun c => Ans B C L ι σ s (σ.new (.sdict (abst rows))) ρ fun ι' s' => RelV ι' (σ.nx + 1) s'.heap (.ref σ.nx) c) NoE s := by
 obtain ⟨l, e, hl⟩ := rows_of (σ := σ) (ρ := ρ) (pos := pos) F h
 have ll := hl.length
 rw [arm_eval_Dict, e]
 refine wpAny_bind (wpAny_standAt ?_)
 have e2 : l = l.take 16 ++ l[16]'(by lia) :: l.drop 17 := by
  rw [← List.drop_eq_getElem_cons, List.take_append_drop]
 have e3 : l.take 16 ++ [l[16]'(by lia)] = l.take 17 := by
  rw [← List.take_succ_eq_append_getElem]
 have ed := dictDisplay_long (l.take 16) (l.drop 17) (l[16]'(by lia)) (by simp; lia) (by simp; lia)
 rw [← e2, e3] at ed
 rw [ed]
 obtain ⟨q1, q2⟩ := hl.split (n := 17)
 have ec : conc rows = conc (rows.take 17) ++ conc (rows.drop 17) := by
  rw [← List.map_append, List.take_append_drop]
 have nd2 := nd
 rw [ec, List.map_append, List.nodup_append] at nd2
 refine wpAny_bind (wpAny_mono (sub_long q1 (by simp; lia) (by simp; lia) nd2.1 S (Din.start S)) (fun d s₁ z => ?_) fun _ _ x => x)
 obtain ⟨ι₁, D₁⟩ := z
 by_cases hemp : (l.drop 17).isEmpty = true
 ·rw [if_pos hemp]
  have : rows.drop 17 = [] := by
   have : (l.drop 17).length = 0 := by rw [List.isEmpty_iff.mp hemp]; rfl
   rw [List.length_drop] at this
   exact List.drop_eq_nil_of_le (by lia)
  have ec : conc rows = conc (rows.take 17) := by rw [ec, this]; exact List.append_nil _
  rw [← ec] at D₁
  exact wpAny_pure (D₁.adopt hr)
 ·rw [if_neg hemp]
  refine wpAny_bind (wpAny_holding (wpAny_mono (sub_short q2 (by simp; lia) nd2.2.1 S D₁) (fun o s₂ z => ?_) fun _ _ x => x))
  obtain ⟨ι₂, D₂⟩ := z
  have hdo : d ≠ o := by
   have := D₂.nd
   simp only [List.map_cons, List.map_nil, List.nodup_cons, List.mem_singleton] at this
   exact Ne.symm this.1
  have hoS : (o == sysModules) = false := by
   refine beq_false_of_ne fun q => ?_
   obtain ⟨om, hom⟩ := hm
   have := (D₂.off _ List.mem_cons_self).2.1
   simp only at this
   rw [q, hom] at this; cases this
  refine wpAny_bind (wpAny_onRaise ?_)
  refine wpAny_holding (wpAny_mergeMapping hdo hoS (D₂.dict (d, conc (rows.take 17)) (by simp)) (D₂.dict _ List.mem_cons_self) (fun q => ?_) ?_ (fun h' hd ho sb => ?_) ?_)
  ·have : (conc (rows.take 17)).length = 0 := congrArg List.length q
   rw [List.length_map, List.length_take] at this; lia
  ·rw [← ec]; exact nd
  ·have D₂' : Din B C L ι σ ρ s ι₂ s₂ ((d, conc (rows.take 17)) :: []) := ⟨D₂.tr, D₂.sl, fun p hp => D₂.off p (List.mem_cons_of_mem _ hp), fun p hp => D₂.dict p (List.mem_cons_of_mem _ hp), by simp⟩
   rw [← ec] at hd
   exact wpAny_pure ((D₂'.set hd sb s₂.toks).adopt hr)
  ·simp [sizeLine_eq]; lia
theorem prim_ok {a : Addr} {nl : Nat} {body : List Stmt} {rows : List (Nat × Addr)} {ks : List (Option Expr)} {xs : List Expr} {pos pos' : Pos} (G : B.Good) (BL : Blt B) (K : FnBody B a ⟨0, [], nl, []⟩ fd C body) (hb : body = [.Return (some (.Dict ks xs pos)) pos'])
  (h : rowReps C rows ks xs = true) (h1 : 17 ≤ rows.length) (h2 : rows.length ≤ 32) (nd : ((conc rows).map (·.1)).Nodup) (hr : ∀ p ∈ rows, p.1 < NT.length) : PrimOk B a (abst rows) := by
 intro ι σ s A S RM
 subst hb
 refine fn_core (d := 0) (F := ⟨0, [], nl, []⟩) (fl := .ret (.ref σ.nx)) (ρ := List.replicate nl none) (ρ' := List.replicate nl none) (vs := []) (cs := []) G BL K RM S .nil (by simp [bindA]) fun L A' s' FO RM' SLL => ?_
 ·refine wpAny_execs_cons (wpAny_Return_some (wpAny_mono (table_ok FO G.mods h h1 h2 nd hr SLL) (fun c s₁ z => ?_) fun _ _ x => x))
  refine Ans_k z ?_
  clear z
  intro ι₁ t₁ S₁ v₁
  exact ⟨ι₁, t₁, S₁, c, rfl, v₁⟩
end
end Mine
end
section
open PySem PySem.W PyProof.Rows PySem.Calls PySem.Spec
namespace Mine
noncomputable def cInt : Value → Option Int
 | .int i _ => some i
 | _ => none
noncomputable def cStr : Value → Option Str
 | .str x _ => some x
 | _ => none
noncomputable def cRef : Value → Option Addr
 | .ref a => some a
 | _ => none
theorem cInt_inv {v i} (h : cInt v = some i) : ∃ t, v = .int i t := by cases v <;> cases h; exact ⟨_, rfl⟩
theorem cStr_inv {v i} (h : cStr v = some i) : ∃ t, v = .str i t := by cases v <;> cases h; exact ⟨_, rfl⟩
theorem cRef_inv {v i} (h : cRef v = some i) : v = .ref i := by cases v <;> cases h; rfl
noncomputable def cNone : Value → Bool
 | .none => true
 | _ => false
noncomputable def cBool : Value → Option Bool
 | .bool b => some b
 | _ => none
noncomputable def isTupT : Value → Bool
 | .type x => x == "tuple"
 | _ => false
noncomputable def asSeq : Data → Option (List Value)
 | .seq xs _ => some xs.toList
 | _ => none
theorem asSeq_inv {d xs} (h : asSeq d = some xs) : ∃ m, d = .seq xs.toArray m := by
 cases d <;> cases h
 exact ⟨_, by rw [Array.toArray_toList]⟩
noncomputable def cInts : List Value → Option (List Int)
 | [] => some []
 | v :: r => (cInt v).bind fun i => (cInts r).bind fun l => some (i :: l)
noncomputable def constIs (K : Frag) (u : AV) (c : Value) : Bool := match u with
 | .none => cNone c
 | .bool a => decide (cBool c = some a)
 | .int i => decide (cInt c = some i)
 | .str n => decide (n < NT.length) && decide (cStr c = some (nm n))
 | .k v => onS (cRef v) fun a => decide (cRef c = some a)
 | .tup l => onS (ints? l) fun is => onS (cRef c) fun t => onS (K.lookup t) fun o => isTupT o.cls && (onS (asSeq o.data) (fun xs => decide (cInts xs = some is)) && decide (is.length < 100))
 | .ref _ => false
theorem cInts_rel {ι n h} : ∀ {xs : List Value} {is : List Int}, cInts xs = some is → RelVs ι n h (is.map AV.int) xs
 | [], is, e => by cases e; exact .nil
 | v :: r, is, e => by
  refine bind_k e ?_
  clear e
  intro i h1 e
  refine bind_k e ?_
  clear e
  intro l h2 e
  cases e
  obtain ⟨t, rfl⟩ := cInt_inv h1
  exact .cons ⟨t, rfl⟩ (cInts_rel h2)
theorem constIs_ok {K : Frag} {h₀ : Heap} (X : K.In h₀) {u : AV} {c : Value} (e : constIs K u c = true) : ∀ ι n h, (∀ b o, h₀.get? b = some o → h.get? b = some o) → RelV ι n h u c := by
 intro ι n h k
 cases u with
 | none => cases c <;> first | rfl | cases e
 | bool a => have e := of_decide_eq_true e; cases c <;> cases e; rfl
 | int i => exact cInt_inv (of_decide_eq_true e)
 | str m => obtain ⟨e1, e2⟩ := and_inv e; exact ⟨of_decide_eq_true e1, cStr_inv (of_decide_eq_true e2)⟩
 | k v =>
  refine onS_k e ?_
  clear e
  intro a ha e
  exact ⟨(cRef_inv (of_decide_eq_true e)).trans (cRef_inv ha).symm, a, cRef_inv ha⟩
 | ref a => cases e
 | tup l =>
  refine onS_k e ?_
  clear e
  intro is hi e
  refine onS_k e ?_
  clear e
  intro t ht e
  refine onS_k e ?_
  clear e
  intro o ho e
  refine and_k e ?_
  clear e
  intro e1 e
  refine and_k e ?_
  clear e
  intro e e3
  refine onS_k e ?_
  clear e
  intro xs hx e4
  obtain ⟨m, hd⟩ := asSeq_inv hx
  obtain rfl := ints?_inv hi
  refine ⟨t, xs, cRef_inv ht, ⟨o, k _ _ (X _ _ ho), ?_, m, hd⟩, cInts_rel (of_decide_eq_true e4), by rw [List.length_map]; exact Nat.lt_trans (of_decide_eq_true e3) (by decide)⟩
  cases hc : o.cls with
  | type x => rw [hc] at e1; rw [beq_iff_eq.mp e1]
  | _ => rw [hc] at e1; cases e1
noncomputable def glOk (K : Frag) : List (Str × AV) → Bool
 | [] => true
 | p :: r => onS (nsIn K mainGlobals p.1) (fun o => onS o fun c => constIs K p.2 c) && glOk K r
theorem glOk_ok {B : Base} (G : B.Good) : ∀ {l : List (Str × AV)}, glOk B.K l = true → ∀ x u, l.lookup x = some u → StaticOk B x u
 | [], _, x, u, h => by cases h
 | (y, v) :: r, e, x, u, h => by
  refine and_k e ?_
  clear e
  intro e1 e2
  rw [List.lookup_cons] at h
  cases q : x == y with
  | true =>
   rw [q] at h
   obtain rfl := beq_iff_eq.mp q
   cases h
   refine onS_k e1 ?_
   clear e1
   intro o ho e1
   refine onS_k e1 ?_
   clear e1
   intro c hq146 e1
   subst hq146
   exact ⟨c, mg_of G.kin G.g ho, constIs_ok G.kin e1⟩
  | false =>
   rw [q] at h
   exact glOk_ok G e2 x u h
noncomputable def bltOk (K : Frag) : Bool := (["len", "abs", "min", "range", "list"] : List Str).all fun x => onS (nsIn K mainGlobals x) fun o => o.isNone
theorem bltOk_ok {B : Base} (G : B.Good) (e : bltOk B.K = true) : Blt B := by
 intro x hx
 obtain ⟨o, q, h⟩ := onS_inv (List.all_eq_true.mp e x hx)
 rw [Option.isNone_iff_eq_none] at h
 subst h
 exact mg_none_of G.kin G.g q
noncomputable def nodupB : List Str → Bool
 | [] => true
 | x :: r => !r.contains x && nodupB r
theorem nodupB_ok : ∀ {l : List Str}, nodupB l = true → l.Nodup
 | [], _ => List.nodup_nil
 | x :: r, h => by
  simp only [nodupB, Bool.and_eq_true, Bool.not_eq_true', List.contains_eq_mem, decide_eq_false_iff_not] at h
  exact List.nodup_cons.mpr ⟨h.1, nodupB_ok h.2⟩
noncomputable def dfltsIn (K : Frag) (v : Value) : Option (List Value) := if cNone v = true then some [] else (cRef v).bind fun t => (K.lookup t).bind fun o => asSeq o.data
noncomputable def isCst : AV → Bool
 | .none => true
 | .bool _ => true
 | .int _ => true
 | _ => false
noncomputable def constsAre : List AV → List Value → Bool
 | [], l => on0 l true
 | u :: r, l => match l with
  | [] => false
  | c :: l => isCst u && (constIs [] u c && constsAre r l)
theorem constsAre_ok : ∀ {us cs}, constsAre us cs = true → ∀ ι n h, RelVs ι n h us cs
 | [], cs, e, _, _, _ => by rw [(on0_inv e).1]; exact .nil
 | u :: r, [], e, _, _, _ => by cases e
 | u :: r, c :: l, e, ι, n, h => by
  refine and_k e ?_
  clear e
  intro e1 e
  refine and_k e ?_
  clear e
  intro e2 e3
  exact .cons (constIs_ok (h₀ := h) (fun _ _ h => by cases h) e2 ι n h fun _ _ e => e) (constsAre_ok e3 ι n h)
noncomputable def asFunc : Data → Option FuncData
 | .func fd => some fd
 | _ => none
theorem asFunc_inv {d fd} (h : asFunc d = some fd) : d = .func fd := by cases d <;> cases h; rfl
noncomputable def asStmts (b : FuncBody) : Option (List Stmt) := match b with
 | .stmts l => some l
 | _ => none
theorem asStmts_inv {b l} (h : asStmts b = some l) : b = .stmts l := by cases b <;> cases h; rfl
noncomputable def fnCheck (K : Frag) (GL : List (Str × AV)) (ns : List Str) (a : Addr) (F : FnIR) (bodyOk : RC → List Stmt → Bool) : Bool := onS (K.lookup a) fun o => onS (asFunc o.data) fun fd =>
 onS (asStmts fd.body) (fun body => bodyOk ⟨ns, fd.scope.names, GL⟩ body) && (decide (fd.scope.kind = .function) && (decide (fd.globals = mainGlobals) && (decide (fd.builtins = builtinsNs) &&
  (!fd.scope.isGenerator && (!fd.scope.isCoroutine && (codeIn K fd.code fd.qualname && (fd.scope.names.all (fun p => p.2 != .cell) && (decide (ns.length = F.nloc) && (nodupB ns && (ns.all (fun x => fd.scope.names.lookup x == some .local) &&
  (fd.params.posonlyargs.isEmpty && (fd.params.kwonlyargs.isEmpty && (fd.params.vararg.isNone && (fd.params.kwarg.isNone && (fd.params.args.map (·.arg) == ns.take F.npar && (decide (F.npar ≤ ns.length) &&
  onS (dfltsIn K fd.defaults) fun D => decide (D.length ≤ F.npar) && (decide (F.dflt.length ≤ D.length) && constsAre F.dflt (D.drop (D.length - F.dflt.length)))))))))))))))))))
theorem dflts_run {K : Frag} {h₀ : Heap} (X : K.In h₀) {v : Value} {D : List Value} (hD : dfltsIn K v = some D) {s : Shared} (hs : ∀ b o, h₀.get? b = some o → s.heap.get? b = some o) {M : Model} {A : Around} {E : Value → Shared → Prop} :
  wpAny M A (seqItems? v) (fun r s' => s' = s ∧ (r.getD #[]).toList = D) E s := by
 unfold dfltsIn at hD
 cases hn : cNone v with
 | true =>
  rw [if_pos hn] at hD
  cases hD
  have : v = .none := by cases v <;> first | rfl | cases hn
  rw [this]
  exact wpAny_bind (wpAny_pure (wpAny_pure ⟨rfl, rfl⟩))
 | false =>
  rw [if_neg (by rw [hn]; exact Bool.false_ne_true)] at hD
  refine bind_k hD ?_
  clear hD
  intro t ht hD
  refine bind_k hD ?_
  clear hD
  intro o ho hD
  obtain ⟨m, hd⟩ := asSeq_inv hD
  rw [cRef_inv ht]
  exact wpAny_seqItems (hs _ _ (X _ _ ho)) hd ⟨rfl, rfl⟩
theorem fnCheck_ok {B : Base} (G : B.Good) {GL : List (Str × AV)} (hG : glOk B.K GL = true) {ns : List Str} {a : Addr} {F : FnIR} {bodyOk : RC → List Stmt → Bool} (e : fnCheck B.K GL ns a F bodyOk = true) :
  ∃ fd sc body, FnBody B a F fd ⟨ns, sc, GL⟩ body ∧ bodyOk ⟨ns, sc, GL⟩ body = true := by
 refine onS_k e ?_
 clear e
 intro o q e
 refine onS_k e ?_
 clear e
 intro fd hfd e
 refine and_k e ?_
 clear e
 intro hb e
 refine and_k e ?_
 clear e
 intro hk e
 refine and_k e ?_
 clear e
 intro hg e
 refine and_k e ?_
 clear e
 intro hbl e
 refine and_k e ?_
 clear e
 intro hgen e
 refine and_k e ?_
 clear e
 intro hcor e
 refine and_k e ?_
 clear e
 intro hcode e
 refine and_k e ?_
 clear e
 intro hcell e
 refine and_k e ?_
 clear e
 intro hlen e
 refine and_k e ?_
 clear e
 intro hnd e
 refine and_k e ?_
 clear e
 intro hloc e
 refine and_k e ?_
 clear e
 intro h1 e
 refine and_k e ?_
 clear e
 intro h3 e
 refine and_k e ?_
 clear e
 intro h4 e
 refine and_k e ?_
 clear e
 intro h5 e
 refine and_k e ?_
 clear e
 intro h2 e
 refine and_k e ?_
 clear e
 intro hnp hdf
 refine onS_k hb ?_
 clear hb
 intro body hbody hb
 refine onS_k hdf ?_
 clear hdf
 intro D hD hdf
 refine and_k hdf ?_
 clear hdf
 intro hD1 hdf
 refine and_k hdf ?_
 clear hdf
 intro hD2 hD3
 have hnp := of_decide_eq_true hnp
 have hD1 := of_decide_eq_true hD1
 have hD2 := of_decide_eq_true hD2
 refine ⟨fd, fd.scope.names, body, ⟨⟨_, G.kin _ _ q, asFunc_inv hfd⟩, asStmts_inv hbody, of_decide_eq_true hk, of_decide_eq_true hg, of_decide_eq_true hbl, (Bool.not_eq_true' _).mp hgen, (Bool.not_eq_true' _).mp hcor, codeRec_of G.kin hcode, rfl,
  fun x hx => bne_iff_ne.mp (List.all_eq_true.mp hcell x hx), of_decide_eq_true hlen, nodupB_ok hnd, fun x hx => beq_iff_eq.mp (List.all_eq_true.mp hloc x hx), glOk_ok G hG, fun s hs cs hcs => ?_⟩, hb⟩
 refine ⟨D.drop (D.length - F.dflt.length), fun M A E Q hq => ?_, fun ι n h => constsAre_ok hD3 ι n h⟩
 have tk : (ns.take F.npar).length = F.npar := by rw [List.length_take]; exact Nat.min_eq_left hnp
 refine bind_ok (List.isEmpty_iff.mp h1) (beq_iff_eq.mp h2) (List.isEmpty_iff.mp h3) (Option.isNone_iff_eq_none.mp h4) (Option.isNone_iff_eq_none.mp h5) ((nodupB_ok hnd).sublist (List.take_sublist _ _)) (by lia) (by lia) (by lia) (D := D) (dflts_run G.kin hD hs) ?_
 rw [tk, show cs.length - (F.npar - D.length) = D.length - F.dflt.length by lia]
 exact hq
end Mine
end
section
open PySem PySem.W PyProof.Rows PySem.Calls PySem.Spec
namespace Mine
structure TabL where
 gl : List (Str × AV)
 fns : List (Nat × List Str × FnIR)
 prims : List (Nat × List (Nat × Addr))
 inits : List (Nat × Nat)
 meths : List ((Nat × Nat) × Nat)
 cmeths : List ((Nat × Nat) × Nat)
 flds : List (Nat × Nat)
noncomputable def TabL.tab (X : TabL) : Tab := ⟨fun a => (X.fns.lookup a).map (·.2), fun a => (X.prims.lookup a).map abst, fun a => X.inits.lookup a, fun C m => X.meths.lookup (C, m), fun C m => X.cmeths.lookup (C, m), fun C f => X.flds.contains (C, f)⟩
noncomputable def isOwn (r : Option (Option Value)) (g : Nat) : Bool := onS r fun o => onS o fun v => decide (cRef v = some g)
theorem isOwn_ok {r g} (h : isOwn r g = true) : r = some (some (.ref g)) := by
 refine onS_k h ?_
 clear h
 intro o hq147 h1
 subst hq147
 refine onS_k h1 ?_
 clear h1
 intro v hq148 h2
 subst hq148
 rw [cRef_inv (of_decide_eq_true h2)]
noncomputable def isNone2 (r : Option (Option Value)) : Bool := onS r fun o => o.isNone
theorem isNone2_ok {r} (h : isNone2 r = true) : r = some none := by
 refine onS_k h ?_
 clear h
 intro o hq149 h
 subst hq149
 rw [Option.isNone_iff_eq_none.mp h]
noncomputable def cTyp : Value → Option String
 | .type x => some x
 | _ => none
noncomputable def cBin : Value → Option String
 | .builtin x => some x
 | _ => none
theorem cTyp_inv {v x} (h : cTyp v = some x) : v = .type x := by cases v <;> cases h; rfl
theorem cBin_inv {v x} (h : cBin v = some x) : v = .builtin x := by cases v <;> cases h; rfl
noncomputable def isTyp (r : Option Value) (t : String) : Bool := onS r fun v => decide (cTyp v = some t)
theorem isTyp_ok {r t} (h : isTyp r t = true) : r = some (.type t) := by
 refine onS_k h ?_
 clear h
 intro v hq150 h
 subst hq150
 rw [cTyp_inv (of_decide_eq_true h)]
noncomputable def isBin (r : Option (Option Value)) (t : String) : Bool := onS r fun o => onS o fun v => decide (cBin v = some t)
theorem isBin_ok {r t} (h : isBin r t = true) : r = some (some (.builtin t)) := by
 refine onS_k h ?_
 clear h
 intro o hq151 h1
 subst hq151
 refine onS_k h1 ?_
 clear h1
 intro v hq152 h2
 subst hq152
 rw [cBin_inv (of_decide_eq_true h2)]
noncomputable def primBody (rows : List (Nat × Addr)) (C : RC) (body : List Stmt) : Bool := on1 body fun s => onRet s fun o => onS o fun e => onDict e fun ks xs => rowReps C rows ks xs
noncomputable def readOk (K : Frag) (C : Nat) (m : Str) (f : Nat) (mc : Value) : Bool := readsIn K C mc && (match findCls K (.ref C) mc m with | some (.val v) => decide (cRef v = some f) | _ => false)
noncomputable def TabL.ok (X : TabL) (K : Frag) : Bool := glOk K X.gl && (bltOk K &&
 (X.fns.all (fun p => fnCheck K X.gl p.2.1 p.1 p.2.2 (fun C body => repSs C p.2.2.body body) && keepIn K (.ref p.1)) &&
 (X.prims.all (fun p => fnCheck K X.gl [] p.1 ⟨0, [], 0, []⟩ (primBody p.2) && (decide (17 ≤ p.2.length) && (decide (p.2.length ≤ 32) && (nodupB (p.2.map fun q => nm q.1) && (p.2.all (fun q => decide (q.1 < NT.length)) && keepIn K (.ref p.1)))))) &&
 (X.inits.all (fun p => keepIn K (.ref p.1) && (makesIn K p.1 && (isOwn (findIn K (.ref p.1) "__init__") p.2 && isTyp (typeIn K (.ref p.2)) "function"))) &&
 (X.meths.all (fun p => decide (p.1.2 < NT.length) && (plainGet K p.1.1 (nm p.1.2) && (isOwn (findIn K (.ref p.1.1) (nm p.1.2)) p.2 && (isTyp (typeIn K (.ref p.2)) "function" && keepIn K (.ref p.2))))) &&
 (X.cmeths.all (fun p => decide (p.1.2 < NT.length) && (isBin (specialIn K (.ref p.1.1) "__getattribute__") "type.__getattribute__" && (onS (typeIn K (.ref p.1.1)) (readOk K p.1.1 (nm p.1.2) p.2) && keepIn K (.ref p.2)))) &&
 X.flds.all (fun p => decide (p.2 < NT.length) && (isNone2 (findIn K (.ref p.1) (nm p.2)) && (plainGet K p.1 (nm p.2) && (hasDictIn K p.1 && (isBin (findIn K (.ref p.1) "__setattr__") "object.__setattr__" && plainOver K p.1)))))))))))
theorem mem_of_lookup {α β : Type} [BEq α] [LawfulBEq α] : ∀ {l : List (α × β)} {a : α} {b : β}, l.lookup a = some b → (a, b) ∈ l
 | [], _, _, h => by cases h
 | (x, y) :: r, a, b, h => by
  rw [List.lookup_cons] at h
  cases q : a == x with
  | true => rw [q] at h; cases h; rw [beq_iff_eq.mp q]; exact List.mem_cons_self
  | false => rw [q] at h; exact List.mem_cons_of_mem _ (mem_of_lookup h)
theorem TabL.sound {B : Base} (G : B.Good) {X : TabL} (h : X.ok B.K = true) : TabOk B X.tab ∧ ∀ d, CfOk B (cfN X.tab d) d := by
 refine and_k h ?_
 clear h
 intro hG h
 refine and_k h ?_
 clear h
 intro hB h
 refine and_k h ?_
 clear h
 intro hF h
 refine and_k h ?_
 clear h
 intro hP h
 refine and_k h ?_
 clear h
 intro hI h
 refine and_k h ?_
 clear h
 intro hM h
 refine and_k h ?_
 clear h
 intro hC hD
 have fn : ∀ a F, X.tab.fn a = some F → FnOk B a F ∧ keepIn B.K (.ref a) = true := fun a F q => by
  refine map2_k q ?_
  clear q
  intro ns F' e hq153
  subst hq153
  obtain ⟨e1, e2⟩ := and_inv (List.all_eq_true.mp hF _ (mem_of_lookup e))
  obtain ⟨fd, sc, body, K, hb⟩ := fnCheck_ok G hG e1
  exact ⟨⟨fd, _, body, K, hb⟩, e2⟩
 have pr : ∀ a kvs, X.tab.prim a = some kvs → PrimOk B a kvs ∧ keepIn B.K (.ref a) = true := fun a kvs q => by
  refine map_k q ?_
  clear q
  intro rows e hq154
  subst hq154
  obtain ⟨h1, e⟩ := and_inv (List.all_eq_true.mp hP _ (mem_of_lookup e))
  refine and_k e ?_
  clear e
  intro h2 e
  refine and_k e ?_
  clear e
  intro h3 e
  refine and_k e ?_
  clear e
  intro h4 e
  refine and_k e ?_
  clear e
  intro h5 h6
  obtain ⟨fd, sc, body, K, hb⟩ := fnCheck_ok G hG h1
  refine on1_k hb ?_
  clear hb
  intro s hbb hb
  refine onRet_k hb ?_
  clear hb
  intro o p hq155 hb
  subst hq155
  refine onS_k hb ?_
  clear hb
  intro x hq156 hb
  subst hq156
  refine onDict_k hb ?_
  clear hb
  intro ks xs p' hq157 hb
  subst hq157
  refine ⟨prim_ok G (bltOk_ok G hB) K hbb hb (of_decide_eq_true h2) (of_decide_eq_true h3) ?_ fun p hp => of_decide_eq_true (List.all_eq_true.mp h5 p hp), h6⟩
  have := nodupB_ok h4
  rw [conc, List.map_map]
  exact this
 have TO : TabOk B X.tab := by
  refine ⟨fun C f q => ?_, fun C m f q => ?_, fun C m f q => ?_, fun C g q => ?_, fun a F q => (fn a F q).2⟩
  ·obtain ⟨h1, e⟩ := and_inv (List.all_eq_true.mp hD _ (List.contains_iff_mem.mp q))
   refine and_k e ?_
   clear e
   intro h2 e
   refine and_k e ?_
   clear e
   intro h3 e
   refine and_k e ?_
   clear e
   intro h4 e
   refine and_k e ?_
   clear e
   intro h5 h6
   exact ⟨of_decide_eq_true h1, isNone2_ok h2, h3, h4, isBin_ok h5, h6⟩
  ·obtain ⟨h1, e⟩ := and_inv (List.all_eq_true.mp hM _ (mem_of_lookup q))
   refine and_k e ?_
   clear e
   intro h2 e
   refine and_k e ?_
   clear e
   intro h3 e
   refine and_k e ?_
   clear e
   intro h4 h5
   exact ⟨of_decide_eq_true h1, h2, isOwn_ok h3, isTyp_ok h4, h5⟩
  ·obtain ⟨h1, e⟩ := and_inv (List.all_eq_true.mp hC _ (mem_of_lookup q))
   refine and_k e ?_
   clear e
   intro h2 e
   refine and_k e ?_
   clear e
   intro h3 h4
   refine onS_k h3 ?_
   clear h3
   intro mc hmc h3
   refine and_k h3 ?_
   clear h3
   intro h5 h6
   refine ⟨of_decide_eq_true h1, isBin_ok h2, ⟨mc, h5, ?_⟩, h4⟩
   split at h6
   ·rename_i v hf
    rw [hf, cRef_inv (of_decide_eq_true h6)]
   ·cases h6
  ·obtain ⟨h1, e⟩ := and_inv (List.all_eq_true.mp hI _ (mem_of_lookup q))
   refine and_k e ?_
   clear e
   intro h2 e
   refine and_k e ?_
   clear e
   intro h3 h4
   exact ⟨h1, h2, isOwn_ok h3, isTyp_ok h4⟩
 exact ⟨TO, cf_all G (bltOk_ok G hB) TO (fun a F q => (fn a F q).1) (fun a kvs q => (pr a kvs q).1) fun a kvs q => (pr a kvs q).2⟩
end Mine
end
section
open PySem PySem.W PyProof.Rows
namespace Head
noncomputable section
noncomputable abbrev PW : Program := PySem.Challenge.pw_ok0031_02
noncomputable def nthS : List Stmt → Nat → Stmt
 | [], _ => .Pass default
 | s :: _, 0 => s
 | _ :: l, n + 1 => nthS l n
noncomputable def bodyL : List Stmt := PW.main.body
noncomputable def stA (i : Nat) : Stmt := nthS bodyL i
noncomputable def clsBody : Stmt → List Stmt
 | .ClassDef _ _ _ b _ _ _ _ _ _ _ => b
 | _ => []
noncomputable def stB (i j : Nat) : Stmt := nthS (clsBody (stA i)) j
noncomputable def fnD (st : Stmt) (qual : Str) (gl bn : Addr) (dflt kwd doc md : Value) (ann : Option Addr) (code ct : Value) : FuncData := match st with
 | .FunctionDef name args body _ _ _ scope _ _ _ => { name, qualname := qual, params := args, body := .stmts body, scope, globals := gl, closure := [], defaults := dflt, kwdefaults := kwd, doc, pyModule := md, annotations := ann, code, closureTuple := ct, builtins := bn }
 | _ => default
noncomputable abbrev en (P : Params) (x : Str) (t : Tok) (v : Value) : DictEntry := ⟨PyData.keyHash P x, .str x t, v⟩
noncomputable def insL : BT → Nat → List Obj → BT
 | t, _, [] => t
 | t, n, o :: r => insL (t.ins n o) (n + 1) r
noncomputable def setL : BT → List (Nat × Obj) → BT
 | t, [] => t
 | t, (a, o) :: r => setL (t.set a (fun _ => o)) r
noncomputable def eT : Obj := ⟨.type "tuple", none, .seq #[] 0, #[]⟩
noncomputable def eF : Obj := ⟨.none, none, .fields #[], #[]⟩
noncomputable def eP : Obj := ⟨.type "builtin_function_or_method", none, .fields #[.builtin "type.__prepare__", .type "type"], #[]⟩
noncomputable def tO (a : Array Value) : Obj := ⟨.type "tuple", none, .seq a 0, #[]⟩
noncomputable def cO (s1 : Str) (n1 : Nat) (s2 : Str) (n2 n3 : Nat) (a b c d e : Int) (r1 : Nat) (x : Bool) (u : Int) (r2 : Nat) (v1 v2 v3 v4 : Value) (f : Int) (m : Nat) (g : Int) (n4 : Nat) : Obj := ⟨.type "code", none, .fields #[.str s1 n1, .str s2 n2, .str "/claim/cut.py" n3, .int a 0, .int b 0, .int c 0, .int d 0, .int e 0, .ref r1, .bool x, .int u 0, .ref r2, v1, v2, v3, v4, .int f m, .int g 0, .str "/claim/cut.py" n4], #[]⟩
noncomputable def f0 (s : Stmt) (q : Str) : Obj := ⟨.none, none, .func (fnD s q 0 0 (.none) (.none) (.none) (.none) none (.none) (.none)), #[]⟩
noncomputable def f1 (s : Stmt) (q : Str) (d : Value) (md : Str) (t c : Nat) : Obj := ⟨.type "function", none, .func (fnD s q 3 0 d (.none) (.none) (.str md t) none (.ref c) (.none)), #[]⟩
noncomputable def o13 : Obj := cO "<module>" 182 "<module>" 183 184 1 0 0 0 0 11 false 181 12 (.none) (.none) (.none) (.none) 185 0 1 186
noncomputable def o14 : Obj := ⟨.type "frame", none, .plain, #[(some (.ref 13)), (some (.ref 3)), (some (.ref 3)), none, (some (.str "__main__" 164)), none, (some (.ref 0))]⟩
noncomputable def T_a (P : Params) : BT := insL .nil 0 [boot_o_0 P, boot_o_1 P, boot_o_2 P, boot_o_3 P, boot_o_4 P, boot_o_5 P, boot_o_6 P, boot_o_7 P, boot_o_8 P, boot_o_9 P, boot_o_10 P, eT, eF, o13, o14]
noncomputable def o2_0 (P : Params) : Obj := ⟨.none, none, .dict #[en P "type.__subclasses__.Exception.0" 212 (.int (31) 0), en P "type.__subclasses__.Exception.n" 213 (.int (1) 0)] 2, #[]⟩
noncomputable def o3_0 (P : Params) : Obj := ⟨.type "dict", none, .dict #[en P "__name__" 165 (.str "clausemill.symbols" 194), en P "__doc__" 166 (.none), en P "__package__" 167 (.none), en P "__loader__" 168 (.builtin "__main__.__loader__#opaque"), en P "__spec__" 169 (.none), en P "__annotations__" 170 (.ref 6), en P "__builtins__" 171 (.ref 4), en P "__file__" 173 (.str "/claim/cut.py" 172), en P "__cached__" 174 (.none), en P "_wall" 193 (.ref 21), en P "ClausemillError" 215 (.ref 31)] 11, #[]⟩
noncomputable def o12_0 : Obj := ⟨.none, none, .fields #[.int (1) 0, .int (0) 0, .ref 20, .int (5) 0, .int (0) 0, .ref 27], #[]⟩
noncomputable def o17 : Obj := tO #[.str "k" 190]
noncomputable def o19 : Obj := f0 (stA 0) "_wall"
noncomputable def o20 : Obj := cO "_wall" 187 "_wall" 188 189 1 1 0 0 3 15 true 181 16 (.none) (.ref 17) (.ref 18) (.ref 19) 191 0 1 192
noncomputable def o21 : Obj := f1 (stA 0) "_wall" (.none) "__main__" 164 20
noncomputable def o22 : Obj := tO #[.type "Exception"]
noncomputable def o24 (P : Params) : Obj := ⟨.type "dict", none, .dict #[en P "__module__" 203 (.str "clausemill.symbols" 194), en P "__qualname__" 205 (.str "ClausemillError" 204), en P "__firstlineno__" 207 (.int (5) 206), en P "__static_attributes__" 208 (.ref 29)] 4, #[]⟩
noncomputable def o27 : Obj := cO "ClausemillError" 198 "ClausemillError" 199 200 5 0 0 0 0 25 false 181 26 (.none) (.none) (.none) (.none) 201 0 5 202
noncomputable def o28 : Obj := ⟨.type "frame", none, .plain, #[(some (.ref 27)), (some (.ref 3)), (some (.ref 24)), none, (some (.str "clausemill.symbols" 194)), none, (some (.ref 0))]⟩
noncomputable def o30 (P : Params) : Obj := ⟨.type "dict", none, .dict #[en P "__module__" 203 (.str "clausemill.symbols" 194), en P "__firstlineno__" 207 (.int (5) 206), en P "__static_attributes__" 208 (.ref 29), en P "__weakref__" 210 (.ref 32), en P "__doc__" 211 (.none)] 3, #[]⟩
noncomputable def o31 : Obj := ⟨.type "type", none, .cls { name := "ClausemillError", bases := [.type "Exception"], mro := [.ref 31, .type "Exception", .type "BaseException", .type "object"], ns := 30, qualname := "ClausemillError", hasDict := true, slotNames := [], subclasses := [], abstract := false, collection := none, hasDel := false }, #[(some (.ref 22)), none, (some (.str "ClausemillError" 196)), (some (.str "ClausemillError" 204)), (some (.builtin "Exception.__new__")), (some (.bool true))]⟩
noncomputable def o32 : Obj := ⟨.type "getset_descriptor", none, .fields #[.str "__weakref__" 209, .ref 31, .builtin "ExceptionGroup.__weakref__", .none], #[]⟩
noncomputable def o33 : Obj := ⟨.type "super", none, .fields #[.ref 31, .ref 31, .ref 31], #[]⟩
noncomputable def o34 : Obj := ⟨.type "builtin_function_or_method", none, .fields #[.builtin "object.__init_subclass__", .ref 31], #[]⟩
noncomputable def T_0 (P : Params) : BT := insL (setL (T_a P) [(2, o2_0 P), (3, o3_0 P), (12, o12_0)]) 15 [eT, eF, o17, eT, o19, o20, o21, o22, eP, o24 P, eT, eF, o27, o28, eT, o30 P, o31, o32, o33, o34]
noncomputable def o3_1 (P : Params) : Obj := ⟨.type "dict", none, .dict #[en P "__name__" 165 (.str "clausemill.symbols" 194), en P "__doc__" 166 (.none), en P "__package__" 167 (.none), en P "__loader__" 168 (.builtin "__main__.__loader__#opaque"), en P "__spec__" 169 (.none), en P "__annotations__" 170 (.ref 6), en P "__builtins__" 171 (.ref 4), en P "__file__" 173 (.str "/claim/cut.py" 172), en P "__cached__" 174 (.none), en P "_wall" 193 (.ref 21), en P "ClausemillError" 215 (.ref 31), en P "PrologError" 240 (.ref 51)] 12, #[]⟩
noncomputable def o12_1 : Obj := ⟨.none, none, .fields #[.int (1) 0, .int (0) 0, .ref 20, .int (5) 0, .int (0) 0, .ref 27, .int (7) 0, .int (0) 0, .ref 40], #[]⟩
noncomputable def o31_1 : Obj := ⟨.type "type", none, .cls { name := "ClausemillError", bases := [.type "Exception"], mro := [.ref 31, .type "Exception", .type "BaseException", .type "object"], ns := 30, qualname := "ClausemillError", hasDict := true, slotNames := [], subclasses := [.ref 51], abstract := false, collection := none, hasDel := false }, #[(some (.ref 22)), none, (some (.str "ClausemillError" 196)), (some (.str "ClausemillError" 204)), (some (.builtin "Exception.__new__")), (some (.bool true))]⟩
noncomputable def o35 : Obj := tO #[.ref 31]
noncomputable def o37 (P : Params) : Obj := ⟨.type "dict", none, .dict #[en P "__module__" 223 (.str "clausemill.symbols" 194), en P "__qualname__" 225 (.str "PrologError" 224), en P "__firstlineno__" 227 (.int (7) 226), en P "__init__" 235 (.ref 48), en P "__static_attributes__" 237 (.ref 49)] 5, #[]⟩
noncomputable def o39 : Obj := ⟨.none, none, .fields #[.int (9) 0, .int (4) 0, .ref 47], #[]⟩
noncomputable def o40 : Obj := cO "PrologError" 218 "PrologError" 219 220 7 0 0 0 0 38 false 181 39 (.none) (.none) (.none) (.none) 221 0 7 222
noncomputable def o41 : Obj := ⟨.type "frame", none, .plain, #[(some (.ref 40)), (some (.ref 3)), (some (.ref 37)), none, (some (.str "clausemill.symbols" 194)), none, (some (.ref 0))]⟩
noncomputable def o44 : Obj := tO #[.str "self" 231, .str "ball" 232]
noncomputable def o46 : Obj := f0 (stB 3 0) "PrologError.__init__"
noncomputable def o47 : Obj := cO "__init__" 228 "PrologError.__init__" 229 230 9 2 0 0 3 42 true 181 43 (.none) (.ref 44) (.ref 45) (.ref 46) 233 0 9 234
noncomputable def o48 : Obj := f1 (stB 3 0) "PrologError.__init__" (.none) "clausemill.symbols" 194 47
noncomputable def o49 : Obj := tO #[.str "ball" 236]
noncomputable def o50 (P : Params) : Obj := ⟨.type "dict", none, .dict #[en P "__module__" 223 (.str "clausemill.symbols" 194), en P "__firstlineno__" 227 (.int (7) 226), en P "__init__" 235 (.ref 48), en P "__static_attributes__" 237 (.ref 49), en P "__doc__" 238 (.none)] 2, #[]⟩
noncomputable def o51 : Obj := ⟨.type "type", none, .cls { name := "PrologError", bases := [.ref 31], mro := [.ref 51, .ref 31, .type "Exception", .type "BaseException", .type "object"], ns := 50, qualname := "PrologError", hasDict := true, slotNames := [], subclasses := [], abstract := false, collection := none, hasDel := false }, #[(some (.ref 35)), none, (some (.str "PrologError" 216)), (some (.str "PrologError" 224)), (some (.builtin "Exception.__new__")), (some (.bool true))]⟩
noncomputable def o52 : Obj := ⟨.type "super", none, .fields #[.ref 51, .ref 51, .ref 51], #[]⟩
noncomputable def o53 : Obj := ⟨.type "builtin_function_or_method", none, .fields #[.builtin "object.__init_subclass__", .ref 51], #[]⟩
noncomputable def T_1 (P : Params) : BT := insL (setL (T_0 P) [(3, o3_1 P), (12, o12_1), (31, o31_1)]) 35 [o35, eP, o37 P, eT, o39, o40, o41, eT, eF, o44, eT, o46, o47, o48, o49, o50 P, o51, o52, o53]
noncomputable def o3_2 (P : Params) : Obj := ⟨.type "dict", none, .dict #[en P "__name__" 165 (.str "clausemill.store" 303), en P "__doc__" 166 (.none), en P "__package__" 167 (.none), en P "__loader__" 168 (.builtin "__main__.__loader__#opaque"), en P "__spec__" 169 (.none), en P "__annotations__" 170 (.ref 6), en P "__builtins__" 171 (.ref 4), en P "__file__" 173 (.str "/claim/cut.py" 172), en P "__cached__" 174 (.none), en P "_wall" 193 (.ref 21), en P "ClausemillError" 215 (.ref 31), en P "PrologError" 240 (.ref 51), en P "StepLimit" 266 (.ref 71), en P "A_SYSTEM" 268 (.int (25) 267), en P "F_DOT" 270 (.int (0) 269), en P "F_ERROR" 272 (.int (16) 271), en P "HALT_ADDRESS" 274 (.int (1) 273), en P "system_error" 283 (.ref 80), en P "formal_of" 294 (.ref 87), en P "resource_error" 302 (.ref 94), en P "REF" 306 (.int (0) 305), en P "SRF" 308 (.int (1) 307), en P "STR" 310 (.int (2) 309)] 23, #[]⟩
noncomputable def o12_2 : Obj := ⟨.none, none, .fields #[.int (1) 0, .int (0) 0, .ref 20, .int (5) 0, .int (0) 0, .ref 27, .int (7) 0, .int (0) 0, .ref 40, .int (11) 0, .int (0) 0, .ref 59, .int (20) 0, .int (0) 0, .ref 79, .int (22) 0, .int (0) 0, .ref 86, .int (27) 0, .int (0) 0, .ref 93], #[]⟩
noncomputable def o31_2 : Obj := ⟨.type "type", none, .cls { name := "ClausemillError", bases := [.type "Exception"], mro := [.ref 31, .type "Exception", .type "BaseException", .type "object"], ns := 30, qualname := "ClausemillError", hasDict := true, slotNames := [], subclasses := [.ref 51, .ref 71], abstract := false, collection := none, hasDel := false }, #[(some (.ref 22)), none, (some (.str "ClausemillError" 196)), (some (.str "ClausemillError" 204)), (some (.builtin "Exception.__new__")), (some (.bool true))]⟩
noncomputable def o54 : Obj := tO #[.ref 31]
noncomputable def o56 (P : Params) : Obj := ⟨.type "dict", none, .dict #[en P "__module__" 248 (.str "clausemill.symbols" 194), en P "__qualname__" 250 (.str "StepLimit" 249), en P "__firstlineno__" 252 (.int (11) 251), en P "__init__" 261 (.ref 68), en P "__static_attributes__" 263 (.ref 69)] 5, #[]⟩
noncomputable def o58 : Obj := ⟨.none, none, .fields #[.int (13) 0, .int (4) 0, .ref 67], #[]⟩
noncomputable def o59 : Obj := cO "StepLimit" 243 "StepLimit" 244 245 11 0 0 0 0 57 false 181 58 (.none) (.none) (.none) (.none) 246 0 11 247
noncomputable def o60 : Obj := ⟨.type "frame", none, .plain, #[(some (.ref 59)), (some (.ref 3)), (some (.ref 56)), none, (some (.str "clausemill.symbols" 194)), none, (some (.ref 0))]⟩
noncomputable def o61 : Obj := tO #[.int (0) 253]
noncomputable def o64 : Obj := tO #[.str "self" 257, .str "steps" 258]
noncomputable def o66 : Obj := f0 (stB 4 0) "StepLimit.__init__"
noncomputable def o67 : Obj := cO "__init__" 254 "StepLimit.__init__" 255 256 13 2 0 0 3 62 true 181 63 (.none) (.ref 64) (.ref 65) (.ref 66) 259 0 13 260
noncomputable def o68 : Obj := f1 (stB 4 0) "StepLimit.__init__" (.ref 61) "clausemill.symbols" 194 67
noncomputable def o69 : Obj := tO #[.str "steps" 262]
noncomputable def o70 (P : Params) : Obj := ⟨.type "dict", none, .dict #[en P "__module__" 248 (.str "clausemill.symbols" 194), en P "__firstlineno__" 252 (.int (11) 251), en P "__init__" 261 (.ref 68), en P "__static_attributes__" 263 (.ref 69), en P "__doc__" 264 (.none)] 2, #[]⟩
noncomputable def o71 : Obj := ⟨.type "type", none, .cls { name := "StepLimit", bases := [.ref 31], mro := [.ref 71, .ref 31, .type "Exception", .type "BaseException", .type "object"], ns := 70, qualname := "StepLimit", hasDict := true, slotNames := [], subclasses := [], abstract := false, collection := none, hasDel := false }, #[(some (.ref 54)), none, (some (.str "StepLimit" 241)), (some (.str "StepLimit" 249)), (some (.builtin "Exception.__new__")), (some (.bool true))]⟩
noncomputable def o72 : Obj := ⟨.type "super", none, .fields #[.ref 71, .ref 71, .ref 71], #[]⟩
noncomputable def o73 : Obj := ⟨.type "builtin_function_or_method", none, .fields #[.builtin "object.__init_subclass__", .ref 71], #[]⟩
noncomputable def o76 : Obj := tO #[.str "formal" 280]
noncomputable def o78 : Obj := f0 (stA 10) "system_error"
noncomputable def o79 : Obj := cO "system_error" 277 "system_error" 278 279 20 1 0 0 3 74 true 181 75 (.none) (.ref 76) (.ref 77) (.ref 78) 281 0 20 282
noncomputable def o80 : Obj := f1 (stA 10) "system_error" (.none) "clausemill.terms" 275 79
noncomputable def o83 : Obj := tO #[.str "symbols" 287, .str "name" 288, .str "parts" 289, .str "args" 290, .str "part" 291]
noncomputable def o85 : Obj := f0 (stA 11) "formal_of"
noncomputable def o86 : Obj := cO "formal_of" 284 "formal_of" 285 286 22 3 0 0 3 81 true 181 82 (.none) (.ref 83) (.ref 84) (.ref 85) 292 0 22 293
noncomputable def o87 : Obj := f1 (stA 11) "formal_of" (.none) "clausemill.terms" 275 86
noncomputable def o90 : Obj := tO #[.str "symbols" 298, .str "what" 299]
noncomputable def o92 : Obj := f0 (stA 12) "resource_error"
noncomputable def o93 : Obj := cO "resource_error" 295 "resource_error" 296 297 27 2 0 0 3 88 true 181 89 (.none) (.ref 90) (.ref 91) (.ref 92) 300 0 27 301
noncomputable def o94 : Obj := f1 (stA 12) "resource_error" (.none) "clausemill.terms" 275 93
noncomputable def T_2 (P : Params) : BT := insL (setL (T_1 P) [(3, o3_2 P), (12, o12_2), (31, o31_2)]) 54 [o54, eP, o56 P, eT, o58, o59, o60, o61, eT, eF, o64, eT, o66, o67, o68, o69, o70 P, o71, o72, o73, eT, eF, o76, eT, o78, o79, o80, eT, eF, o83, eT, o85, o86, o87, eT, eF, o90, eT, o92, o93, o94]
noncomputable def o3_3 (P : Params) : Obj := ⟨.type "dict", none, .dict #[en P "__name__" 165 (.str "clausemill.store" 303), en P "__doc__" 166 (.none), en P "__package__" 167 (.none), en P "__loader__" 168 (.builtin "__main__.__loader__#opaque"), en P "__spec__" 169 (.none), en P "__annotations__" 170 (.ref 6), en P "__builtins__" 171 (.ref 4), en P "__file__" 173 (.str "/claim/cut.py" 172), en P "__cached__" 174 (.none), en P "_wall" 193 (.ref 21), en P "ClausemillError" 215 (.ref 31), en P "PrologError" 240 (.ref 51), en P "StepLimit" 266 (.ref 71), en P "A_SYSTEM" 268 (.int (25) 267), en P "F_DOT" 270 (.int (0) 269), en P "F_ERROR" 272 (.int (16) 271), en P "HALT_ADDRESS" 274 (.int (1) 273), en P "system_error" 283 (.ref 80), en P "formal_of" 294 (.ref 87), en P "resource_error" 302 (.ref 94), en P "REF" 306 (.int (0) 305), en P "SRF" 308 (.int (1) 307), en P "STR" 310 (.int (2) 309), en P "LIS" 312 (.int (3) 311), en P "CON" 314 (.int (4) 313), en P "INT" 316 (.int (5) 315), en P "FUN" 318 (.int (6) 317), en P "VOID" 320 (.ref 95)] 28, #[]⟩
noncomputable def o95 : Obj := tO #[.int (5) 315, .int (0) 319]
noncomputable def T_3 (P : Params) : BT := insL (setL (T_2 P) [(3, o3_3 P)]) 95 [o95]
noncomputable def o3_4 (P : Params) : Obj := ⟨.type "dict", none, .dict #[en P "__name__" 165 (.str "clausemill.store" 303), en P "__doc__" 166 (.none), en P "__package__" 167 (.none), en P "__loader__" 168 (.builtin "__main__.__loader__#opaque"), en P "__spec__" 169 (.none), en P "__annotations__" 170 (.ref 6), en P "__builtins__" 171 (.ref 4), en P "__file__" 173 (.str "/claim/cut.py" 172), en P "__cached__" 174 (.none), en P "_wall" 193 (.ref 21), en P "ClausemillError" 215 (.ref 31), en P "PrologError" 240 (.ref 51), en P "StepLimit" 266 (.ref 71), en P "A_SYSTEM" 268 (.int (25) 267), en P "F_DOT" 270 (.int (0) 269), en P "F_ERROR" 272 (.int (16) 271), en P "HALT_ADDRESS" 274 (.int (1) 273), en P "system_error" 283 (.ref 80), en P "formal_of" 294 (.ref 87), en P "resource_error" 302 (.ref 94), en P "REF" 306 (.int (0) 305), en P "SRF" 308 (.int (1) 307), en P "STR" 310 (.int (2) 309), en P "LIS" 312 (.int (3) 311), en P "CON" 314 (.int (4) 313), en P "INT" 316 (.int (5) 315), en P "FUN" 318 (.int (6) 317), en P "VOID" 320 (.ref 95), en P "Cells" 514 (.ref 239)] 29, #[]⟩
noncomputable def o12_4 : Obj := ⟨.none, none, .fields #[.int (1) 0, .int (0) 0, .ref 20, .int (5) 0, .int (0) 0, .ref 27, .int (7) 0, .int (0) 0, .ref 40, .int (11) 0, .int (0) 0, .ref 59, .int (20) 0, .int (0) 0, .ref 79, .int (22) 0, .int (0) 0, .ref 86, .int (27) 0, .int (0) 0, .ref 93, .int (38) 0, .int (0) 0, .ref 101], #[]⟩
noncomputable def o98 (P : Params) : Obj := ⟨.type "dict", none, .dict #[en P "__module__" 328 (.str "clausemill.store" 303), en P "__qualname__" 330 (.str "Cells" 329), en P "__firstlineno__" 332 (.int (38) 331), en P "__init__" 342 (.ref 110), en P "push" 351 (.ref 117), en P "new_var" 359 (.ref 124), en P "reserve" 367 (.ref 131), en P "trim" 375 (.ref 138), en P "deref" 385 (.ref 145), en P "is_unbound" 393 (.ref 152), en P "bind" 403 (.ref 159), en P "bind_pair" 412 (.ref 166), en P "globalise" 421 (.ref 173), en P "mark" 428 (.ref 180), en P "undo_to" 438 (.ref 187), en P "stack_put" 448 (.ref 194), en P "is_compound" 456 (.ref 201), en P "functor_of" 465 (.ref 208), en P "width" 474 (.ref 215), en P "base" 482 (.ref 222), en P "arg" 491 (.ref 229), en P "new_block" 499 (.ref 236), en P "__static_attributes__" 507 (.ref 237)] 23, #[]⟩
noncomputable def o100 : Obj := ⟨.none, none, .fields #[.int (40) 0, .int (4) 0, .ref 109, .int (49) 0, .int (4) 0, .ref 116, .int (56) 0, .int (4) 0, .ref 123, .int (61) 0, .int (4) 0, .ref 130, .int (64) 0, .int (4) 0, .ref 137, .int (67) 0, .int (4) 0, .ref 144, .int (80) 0, .int (4) 0, .ref 151, .int (83) 0, .int (4) 0, .ref 158, .int (94) 0, .int (4) 0, .ref 165, .int (107) 0, .int (4) 0, .ref 172, .int (115) 0, .int (4) 0, .ref 179, .int (118) 0, .int (4) 0, .ref 186, .int (127) 0, .int (4) 0, .ref 193, .int (136) 0, .int (4) 0, .ref 200, .int (139) 0, .int (4) 0, .ref 207, .int (149) 0, .int (4) 0, .ref 214, .int (157) 0, .int (4) 0, .ref 221, .int (162) 0, .int (4) 0, .ref 228, .int (165) 0, .int (4) 0, .ref 235], #[]⟩
noncomputable def o101 : Obj := cO "Cells" 323 "Cells" 324 325 38 0 0 0 0 99 false 181 100 (.none) (.none) (.none) (.none) 326 0 38 327
noncomputable def o102 : Obj := ⟨.type "frame", none, .plain, #[(some (.ref 101)), (some (.ref 3)), (some (.ref 98)), none, (some (.str "clausemill.store" 303)), none, (some (.ref 0))]⟩
noncomputable def o103 : Obj := tO #[.int (100000) 333]
noncomputable def o106 : Obj := tO #[.str "self" 337, .str "symbols" 338, .str "max_heap" 339]
noncomputable def o108 : Obj := f0 (stB 22 0) "Cells.__init__"
noncomputable def o109 : Obj := cO "__init__" 334 "Cells.__init__" 335 336 40 3 0 0 3 104 true 181 105 (.none) (.ref 106) (.ref 107) (.ref 108) 340 0 40 341
noncomputable def o110 : Obj := f1 (stB 22 0) "Cells.__init__" (.ref 103) "clausemill.store" 303 109
noncomputable def o113 : Obj := tO #[.str "self" 346, .str "cell" 347, .str "address" 348]
noncomputable def o115 : Obj := f0 (stB 22 1) "Cells.push"
noncomputable def o116 : Obj := cO "push" 343 "Cells.push" 344 345 49 2 0 0 3 111 true 181 112 (.none) (.ref 113) (.ref 114) (.ref 115) 349 0 49 350
noncomputable def o117 : Obj := f1 (stB 22 1) "Cells.push" (.none) "clausemill.store" 303 116
noncomputable def o120 : Obj := tO #[.str "self" 355, .str "cell" 356]
noncomputable def o122 : Obj := f0 (stB 22 2) "Cells.new_var"
noncomputable def o123 : Obj := cO "new_var" 352 "Cells.new_var" 353 354 56 1 0 0 3 118 true 181 119 (.none) (.ref 120) (.ref 121) (.ref 122) 357 0 56 358
noncomputable def o124 : Obj := f1 (stB 22 2) "Cells.new_var" (.none) "clausemill.store" 303 123
noncomputable def o127 : Obj := tO #[.str "self" 363, .str "count" 364]
noncomputable def o129 : Obj := f0 (stB 22 3) "Cells.reserve"
noncomputable def o130 : Obj := cO "reserve" 360 "Cells.reserve" 361 362 61 2 0 0 3 125 true 181 126 (.none) (.ref 127) (.ref 128) (.ref 129) 365 0 61 366
noncomputable def o131 : Obj := f1 (stB 22 3) "Cells.reserve" (.none) "clausemill.store" 303 130
noncomputable def o134 : Obj := tO #[.str "self" 371, .str "h" 372]
noncomputable def o136 : Obj := f0 (stB 22 4) "Cells.trim"
noncomputable def o137 : Obj := cO "trim" 368 "Cells.trim" 369 370 64 2 0 0 3 132 true 181 133 (.none) (.ref 134) (.ref 135) (.ref 136) 373 0 64 374
noncomputable def o138 : Obj := f1 (stB 22 4) "Cells.trim" (.none) "clausemill.store" 303 137
noncomputable def o141 : Obj := tO #[.str "self" 379, .str "cell" 380, .str "tag" 381, .str "found" 382]
noncomputable def o143 : Obj := f0 (stB 22 5) "Cells.deref"
noncomputable def o144 : Obj := cO "deref" 376 "Cells.deref" 377 378 67 2 0 0 3 139 true 181 140 (.none) (.ref 141) (.ref 142) (.ref 143) 383 0 67 384
noncomputable def o145 : Obj := f1 (stB 22 5) "Cells.deref" (.none) "clausemill.store" 303 144
noncomputable def o148 : Obj := tO #[.str "self" 389, .str "cell" 390]
noncomputable def o150 : Obj := f0 (stB 22 6) "Cells.is_unbound"
noncomputable def o151 : Obj := cO "is_unbound" 386 "Cells.is_unbound" 387 388 80 2 0 0 3 146 true 181 147 (.none) (.ref 148) (.ref 149) (.ref 150) 391 0 80 392
noncomputable def o152 : Obj := f1 (stB 22 6) "Cells.is_unbound" (.none) "clausemill.store" 303 151
noncomputable def o155 : Obj := tO #[.str "self" 397, .str "cell" 398, .str "value" 399, .str "place" 400]
noncomputable def o157 : Obj := f0 (stB 22 7) "Cells.bind"
noncomputable def o158 : Obj := cO "bind" 394 "Cells.bind" 395 396 83 3 0 0 3 153 true 181 154 (.none) (.ref 155) (.ref 156) (.ref 157) 401 0 83 402
noncomputable def o159 : Obj := f1 (stB 22 7) "Cells.bind" (.none) "clausemill.store" 303 158
noncomputable def o162 : Obj := tO #[.str "self" 407, .str "c1" 408, .str "c2" 409]
noncomputable def o164 : Obj := f0 (stB 22 8) "Cells.bind_pair"
noncomputable def o165 : Obj := cO "bind_pair" 404 "Cells.bind_pair" 405 406 94 3 0 0 3 160 true 181 161 (.none) (.ref 162) (.ref 163) (.ref 164) 410 0 94 411
noncomputable def o166 : Obj := f1 (stB 22 8) "Cells.bind_pair" (.none) "clausemill.store" 303 165
noncomputable def o169 : Obj := tO #[.str "self" 416, .str "cell" 417, .str "fresh" 418]
noncomputable def o171 : Obj := f0 (stB 22 9) "Cells.globalise"
noncomputable def o172 : Obj := cO "globalise" 413 "Cells.globalise" 414 415 107 2 0 0 3 167 true 181 168 (.none) (.ref 169) (.ref 170) (.ref 171) 419 0 107 420
noncomputable def o173 : Obj := f1 (stB 22 9) "Cells.globalise" (.none) "clausemill.store" 303 172
noncomputable def o176 : Obj := tO #[.str "self" 425]
noncomputable def o178 : Obj := f0 (stB 22 10) "Cells.mark"
noncomputable def o179 : Obj := cO "mark" 422 "Cells.mark" 423 424 115 1 0 0 3 174 true 181 175 (.none) (.ref 176) (.ref 177) (.ref 178) 426 0 115 427
noncomputable def o180 : Obj := f1 (stB 22 10) "Cells.mark" (.none) "clausemill.store" 303 179
noncomputable def o183 : Obj := tO #[.str "self" 432, .str "mark" 433, .str "entry" 434, .str "slot" 435]
noncomputable def o185 : Obj := f0 (stB 22 11) "Cells.undo_to"
noncomputable def o186 : Obj := cO "undo_to" 429 "Cells.undo_to" 430 431 118 2 0 0 3 181 true 181 182 (.none) (.ref 183) (.ref 184) (.ref 185) 436 0 118 437
noncomputable def o187 : Obj := f1 (stB 22 11) "Cells.undo_to" (.none) "clausemill.store" 303 186
noncomputable def o190 : Obj := tO #[.str "self" 442, .str "i" 443, .str "value" 444, .str "stack" 445]
noncomputable def o192 : Obj := f0 (stB 22 12) "Cells.stack_put"
noncomputable def o193 : Obj := cO "stack_put" 439 "Cells.stack_put" 440 441 127 3 0 0 3 188 true 181 189 (.none) (.ref 190) (.ref 191) (.ref 192) 446 0 127 447
noncomputable def o194 : Obj := f1 (stB 22 12) "Cells.stack_put" (.none) "clausemill.store" 303 193
noncomputable def o197 : Obj := tO #[.str "self" 452, .str "cell" 453]
noncomputable def o199 : Obj := f0 (stB 22 13) "Cells.is_compound"
noncomputable def o200 : Obj := cO "is_compound" 449 "Cells.is_compound" 450 451 136 2 0 0 3 195 true 181 196 (.none) (.ref 197) (.ref 198) (.ref 199) 454 0 136 455
noncomputable def o201 : Obj := f1 (stB 22 13) "Cells.is_compound" (.none) "clausemill.store" 303 200
noncomputable def o204 : Obj := tO #[.str "self" 460, .str "cell" 461, .str "tag" 462]
noncomputable def o206 : Obj := f0 (stB 22 14) "Cells.functor_of"
noncomputable def o207 : Obj := cO "functor_of" 457 "Cells.functor_of" 458 459 139 2 0 0 3 202 true 181 203 (.none) (.ref 204) (.ref 205) (.ref 206) 463 0 139 464
noncomputable def o208 : Obj := f1 (stB 22 14) "Cells.functor_of" (.none) "clausemill.store" 303 207
noncomputable def o211 : Obj := tO #[.str "self" 469, .str "cell" 470, .str "tag" 471]
noncomputable def o213 : Obj := f0 (stB 22 15) "Cells.width"
noncomputable def o214 : Obj := cO "width" 466 "Cells.width" 467 468 149 2 0 0 3 209 true 181 210 (.none) (.ref 211) (.ref 212) (.ref 213) 472 0 149 473
noncomputable def o215 : Obj := f1 (stB 22 15) "Cells.width" (.none) "clausemill.store" 303 214
noncomputable def o218 : Obj := tO #[.str "self" 478, .str "cell" 479]
noncomputable def o220 : Obj := f0 (stB 22 16) "Cells.base"
noncomputable def o221 : Obj := cO "base" 475 "Cells.base" 476 477 157 2 0 0 3 216 true 181 217 (.none) (.ref 218) (.ref 219) (.ref 220) 480 0 157 481
noncomputable def o222 : Obj := f1 (stB 22 16) "Cells.base" (.none) "clausemill.store" 303 221
noncomputable def o225 : Obj := tO #[.str "self" 486, .str "cell" 487, .str "i" 488]
noncomputable def o227 : Obj := f0 (stB 22 17) "Cells.arg"
noncomputable def o228 : Obj := cO "arg" 483 "Cells.arg" 484 485 162 3 0 0 3 223 true 181 224 (.none) (.ref 225) (.ref 226) (.ref 227) 489 0 162 490
noncomputable def o229 : Obj := f1 (stB 22 17) "Cells.arg" (.none) "clausemill.store" 303 228
noncomputable def o232 : Obj := tO #[.str "self" 495, .str "f" 496]
noncomputable def o234 : Obj := f0 (stB 22 18) "Cells.new_block"
noncomputable def o235 : Obj := cO "new_block" 492 "Cells.new_block" 493 494 165 2 0 0 3 230 true 181 231 (.none) (.ref 232) (.ref 233) (.ref 234) 497 0 165 498
noncomputable def o236 : Obj := f1 (stB 22 18) "Cells.new_block" (.none) "clausemill.store" 303 235
noncomputable def o237 : Obj := tO #[.str "bb" 500, .str "hb" 501, .str "heap" 502, .str "max_heap" 503, .str "stack" 504, .str "symbols" 505, .str "trail" 506]
noncomputable def o238 (P : Params) : Obj := ⟨.type "dict", none, .dict #[en P "__module__" 328 (.str "clausemill.store" 303), en P "__firstlineno__" 332 (.int (38) 331), en P "__init__" 342 (.ref 110), en P "push" 351 (.ref 117), en P "new_var" 359 (.ref 124), en P "reserve" 367 (.ref 131), en P "trim" 375 (.ref 138), en P "deref" 385 (.ref 145), en P "is_unbound" 393 (.ref 152), en P "bind" 403 (.ref 159), en P "bind_pair" 412 (.ref 166), en P "globalise" 421 (.ref 173), en P "mark" 428 (.ref 180), en P "undo_to" 438 (.ref 187), en P "stack_put" 448 (.ref 194), en P "is_compound" 456 (.ref 201), en P "functor_of" 465 (.ref 208), en P "width" 474 (.ref 215), en P "base" 482 (.ref 222), en P "arg" 491 (.ref 229), en P "new_block" 499 (.ref 236), en P "__static_attributes__" 507 (.ref 237), en P "__dict__" 509 (.ref 240), en P "__weakref__" 511 (.ref 241), en P "__doc__" 512 (.none)] 4, #[]⟩
noncomputable def o239 : Obj := ⟨.type "type", none, .cls { name := "Cells", bases := [.type "object"], mro := [.ref 239, .type "object"], ns := 238, qualname := "Cells", hasDict := true, slotNames := [], subclasses := [], abstract := false, collection := none, hasDel := false }, #[none, none, (some (.str "Cells" 321)), (some (.str "Cells" 329)), (some (.builtin "object.__new__")), (some (.bool true))]⟩
noncomputable def o240 : Obj := ⟨.type "getset_descriptor", none, .fields #[.str "__dict__" 508, .ref 239, .builtin "function.__dict__", .builtin "function.__dict__#set"], #[]⟩
noncomputable def o241 : Obj := ⟨.type "getset_descriptor", none, .fields #[.str "__weakref__" 510, .ref 239, .builtin "ExceptionGroup.__weakref__", .none], #[]⟩
noncomputable def o242 : Obj := ⟨.type "super", none, .fields #[.ref 239, .ref 239, .ref 239], #[]⟩
noncomputable def o243 : Obj := ⟨.type "builtin_function_or_method", none, .fields #[.builtin "object.__init_subclass__", .ref 239], #[]⟩
noncomputable def T_4 (P : Params) : BT := insL (setL (T_3 P) [(3, o3_4 P), (12, o12_4)]) 96 [eT, eP, o98 P, eT, o100, o101, o102, o103, eT, eF, o106, eT, o108, o109, o110, eT, eF, o113, eT, o115, o116, o117, eT, eF, o120, eT, o122, o123, o124, eT, eF, o127, eT, o129, o130, o131, eT, eF, o134, eT, o136, o137, o138, eT, eF, o141, eT, o143, o144, o145, eT, eF, o148, eT, o150, o151, o152, eT, eF, o155, eT, o157, o158, o159, eT, eF, o162, eT, o164, o165, o166, eT, eF, o169, eT, o171, o172, o173, eT, eF, o176, eT, o178, o179, o180, eT, eF, o183, eT, o185, o186, o187, eT, eF, o190, eT, o192, o193, o194, eT, eF, o197, eT, o199, o200, o201, eT, eF, o204, eT, o206, o207, o208, eT, eF, o211, eT, o213, o214, o215, eT, eF, o218, eT, o220, o221, o222, eT, eF, o225, eT, o227, o228, o229, eT, eF, o232, eT, o234, o235, o236, o237, o238 P, o239, o240, o241, o242, o243]
noncomputable def o3_5 (P : Params) : Obj := ⟨.type "dict", none, .dict #[en P "__name__" 165 (.str "clausemill.unify" 575), en P "__doc__" 166 (.none), en P "__package__" 167 (.none), en P "__loader__" 168 (.builtin "__main__.__loader__#opaque"), en P "__spec__" 169 (.none), en P "__annotations__" 170 (.ref 6), en P "__builtins__" 171 (.ref 4), en P "__file__" 173 (.str "/claim/cut.py" 172), en P "__cached__" 174 (.none), en P "_wall" 193 (.ref 21), en P "ClausemillError" 215 (.ref 31), en P "PrologError" 240 (.ref 51), en P "StepLimit" 266 (.ref 71), en P "A_SYSTEM" 268 (.int (25) 267), en P "F_DOT" 270 (.int (0) 269), en P "F_ERROR" 272 (.int (16) 271), en P "HALT_ADDRESS" 274 (.int (1) 273), en P "system_error" 283 (.ref 80), en P "formal_of" 294 (.ref 87), en P "resource_error" 302 (.ref 94), en P "REF" 306 (.int (0) 305), en P "SRF" 308 (.int (1) 307), en P "STR" 310 (.int (2) 309), en P "LIS" 312 (.int (3) 311), en P "CON" 314 (.int (4) 313), en P "INT" 316 (.int (5) 315), en P "FUN" 318 (.int (6) 317), en P "VOID" 320 (.ref 95), en P "Cells" 514 (.ref 239), en P "Store" 574 (.ref 289)] 30, #[]⟩
noncomputable def o12_5 : Obj := ⟨.none, none, .fields #[.int (1) 0, .int (0) 0, .ref 20, .int (5) 0, .int (0) 0, .ref 27, .int (7) 0, .int (0) 0, .ref 40, .int (11) 0, .int (0) 0, .ref 59, .int (20) 0, .int (0) 0, .ref 79, .int (22) 0, .int (0) 0, .ref 86, .int (27) 0, .int (0) 0, .ref 93, .int (38) 0, .int (0) 0, .ref 101, .int (167) 0, .int (0) 0, .ref 249], #[]⟩
noncomputable def o239_5 : Obj := ⟨.type "type", none, .cls { name := "Cells", bases := [.type "object"], mro := [.ref 239, .type "object"], ns := 238, qualname := "Cells", hasDict := true, slotNames := [], subclasses := [.ref 289], abstract := false, collection := none, hasDel := false }, #[none, none, (some (.str "Cells" 321)), (some (.str "Cells" 329)), (some (.builtin "object.__new__")), (some (.bool true))]⟩
noncomputable def o244 : Obj := tO #[.ref 239]
noncomputable def o246 (P : Params) : Obj := ⟨.type "dict", none, .dict #[en P "__module__" 522 (.str "clausemill.store" 303), en P "__qualname__" 524 (.str "Store" 523), en P "__firstlineno__" 526 (.int (167) 525), en P "new_struct" 535 (.ref 257), en P "build_list" 544 (.ref 265), en P "list_cells" 552 (.ref 272), en P "put_term" 561 (.ref 279), en P "take_term" 570 (.ref 286), en P "__static_attributes__" 571 (.ref 287)] 9, #[]⟩
noncomputable def o248 : Obj := ⟨.none, none, .fields #[.int (169) 0, .int (4) 0, .ref 256, .int (172) 0, .int (4) 0, .ref 264, .int (175) 0, .int (4) 0, .ref 271, .int (178) 0, .int (4) 0, .ref 278, .int (181) 0, .int (4) 0, .ref 285], #[]⟩
noncomputable def o249 : Obj := cO "Store" 517 "Store" 518 519 167 0 0 0 0 247 false 181 248 (.none) (.none) (.none) (.none) 520 0 167 521
noncomputable def o250 : Obj := ⟨.type "frame", none, .plain, #[(some (.ref 249)), (some (.ref 3)), (some (.ref 246)), none, (some (.str "clausemill.store" 303)), none, (some (.ref 0))]⟩
noncomputable def o253 : Obj := tO #[.str "self" 530, .str "f" 531, .str "cells" 532]
noncomputable def o255 : Obj := f0 (stB 23 0) "Store.new_struct"
noncomputable def o256 : Obj := cO "new_struct" 527 "Store.new_struct" 528 529 169 3 0 0 3 251 true 181 252 (.none) (.ref 253) (.ref 254) (.ref 255) 533 0 169 534
noncomputable def o257 : Obj := f1 (stB 23 0) "Store.new_struct" (.none) "clausemill.store" 303 256
noncomputable def o258 : Obj := tO #[.none]
noncomputable def o261 : Obj := tO #[.str "self" 539, .str "cells" 540, .str "tail" 541]
noncomputable def o263 : Obj := f0 (stB 23 1) "Store.build_list"
noncomputable def o264 : Obj := cO "build_list" 536 "Store.build_list" 537 538 172 3 0 0 3 259 true 181 260 (.none) (.ref 261) (.ref 262) (.ref 263) 542 0 172 543
noncomputable def o265 : Obj := f1 (stB 23 1) "Store.build_list" (.ref 258) "clausemill.store" 303 264
noncomputable def o268 : Obj := tO #[.str "self" 548, .str "cell" 549]
noncomputable def o270 : Obj := f0 (stB 23 2) "Store.list_cells"
noncomputable def o271 : Obj := cO "list_cells" 545 "Store.list_cells" 546 547 175 2 0 0 3 266 true 181 267 (.none) (.ref 268) (.ref 269) (.ref 270) 550 0 175 551
noncomputable def o272 : Obj := f1 (stB 23 2) "Store.list_cells" (.none) "clausemill.store" 303 271
noncomputable def o275 : Obj := tO #[.str "self" 556, .str "term" 557, .str "table" 558]
noncomputable def o277 : Obj := f0 (stB 23 3) "Store.put_term"
noncomputable def o278 : Obj := cO "put_term" 553 "Store.put_term" 554 555 178 3 0 0 3 273 true 181 274 (.none) (.ref 275) (.ref 276) (.ref 277) 559 0 178 560
noncomputable def o279 : Obj := f1 (stB 23 3) "Store.put_term" (.none) "clausemill.store" 303 278
noncomputable def o282 : Obj := tO #[.str "self" 565, .str "cell" 566, .str "table" 567]
noncomputable def o284 : Obj := f0 (stB 23 4) "Store.take_term"
noncomputable def o285 : Obj := cO "take_term" 562 "Store.take_term" 563 564 181 3 0 0 3 280 true 181 281 (.none) (.ref 282) (.ref 283) (.ref 284) 568 0 181 569
noncomputable def o286 : Obj := f1 (stB 23 4) "Store.take_term" (.none) "clausemill.store" 303 285
noncomputable def o288 (P : Params) : Obj := ⟨.type "dict", none, .dict #[en P "__module__" 522 (.str "clausemill.store" 303), en P "__firstlineno__" 526 (.int (167) 525), en P "new_struct" 535 (.ref 257), en P "build_list" 544 (.ref 265), en P "list_cells" 552 (.ref 272), en P "put_term" 561 (.ref 279), en P "take_term" 570 (.ref 286), en P "__static_attributes__" 571 (.ref 287), en P "__doc__" 572 (.none)] 2, #[]⟩
noncomputable def o289 : Obj := ⟨.type "type", none, .cls { name := "Store", bases := [.ref 239], mro := [.ref 289, .ref 239, .type "object"], ns := 288, qualname := "Store", hasDict := true, slotNames := [], subclasses := [], abstract := false, collection := none, hasDel := false }, #[(some (.ref 244)), none, (some (.str "Store" 515)), (some (.str "Store" 523)), (some (.builtin "object.__new__")), (some (.bool true))]⟩
noncomputable def o290 : Obj := ⟨.type "super", none, .fields #[.ref 289, .ref 289, .ref 289], #[]⟩
noncomputable def o291 : Obj := ⟨.type "builtin_function_or_method", none, .fields #[.builtin "object.__init_subclass__", .ref 289], #[]⟩
noncomputable def T_5 (P : Params) : BT := insL (setL (T_4 P) [(3, o3_5 P), (12, o12_5), (239, o239_5)]) 244 [o244, eP, o246 P, eT, o248, o249, o250, eT, eF, o253, eT, o255, o256, o257, o258, eT, eF, o261, eT, o263, o264, o265, eT, eF, o268, eT, o270, o271, o272, eT, eF, o275, eT, o277, o278, o279, eT, eF, o282, eT, o284, o285, o286, eT, o288 P, o289, o290, o291]
noncomputable def o3_6 (P : Params) : Obj := ⟨.type "dict", none, .dict #[en P "__name__" 165 (.str "clausemill.unify" 575), en P "__doc__" 166 (.none), en P "__package__" 167 (.none), en P "__loader__" 168 (.builtin "__main__.__loader__#opaque"), en P "__spec__" 169 (.none), en P "__annotations__" 170 (.ref 6), en P "__builtins__" 171 (.ref 4), en P "__file__" 173 (.str "/claim/cut.py" 172), en P "__cached__" 174 (.none), en P "_wall" 193 (.ref 21), en P "ClausemillError" 215 (.ref 31), en P "PrologError" 240 (.ref 51), en P "StepLimit" 266 (.ref 71), en P "A_SYSTEM" 268 (.int (25) 267), en P "F_DOT" 270 (.int (0) 269), en P "F_ERROR" 272 (.int (16) 271), en P "HALT_ADDRESS" 274 (.int (1) 273), en P "system_error" 283 (.ref 80), en P "formal_of" 294 (.ref 87), en P "resource_error" 302 (.ref 94), en P "REF" 306 (.int (0) 305), en P "SRF" 308 (.int (1) 307), en P "STR" 310 (.int (2) 309), en P "LIS" 312 (.int (3) 311), en P "CON" 314 (.int (4) 313), en P "INT" 316 (.int (5) 315), en P "FUN" 318 (.int (6) 317), en P "VOID" 320 (.ref 95), en P "Cells" 514 (.ref 239), en P "Store" 574 (.ref 289), en P "PairSet" 616 (.ref 315), en P "push_arguments" 627 (.ref 326), en P "push_pairs" 640 (.ref 333), en P "same_shape" 649 (.ref 340), en P "is_variable" 656 (.ref 347)] 35, #[]⟩
noncomputable def o12_6 : Obj := ⟨.none, none, .fields #[.int (1) 0, .int (0) 0, .ref 20, .int (5) 0, .int (0) 0, .ref 27, .int (7) 0, .int (0) 0, .ref 40, .int (11) 0, .int (0) 0, .ref 59, .int (20) 0, .int (0) 0, .ref 79, .int (22) 0, .int (0) 0, .ref 86, .int (27) 0, .int (0) 0, .ref 93, .int (38) 0, .int (0) 0, .ref 101, .int (167) 0, .int (0) 0, .ref 249, .int (184) 0, .int (0) 0, .ref 297, .int (196) 0, .int (0) 0, .ref 325, .int (200) 0, .int (0) 0, .ref 332, .int (205) 0, .int (0) 0, .ref 339, .int (211) 0, .int (0) 0, .ref 346], #[]⟩
noncomputable def o294 (P : Params) : Obj := ⟨.type "dict", none, .dict #[en P "__module__" 584 (.str "clausemill.unify" 575), en P "__qualname__" 586 (.str "PairSet" 585), en P "__firstlineno__" 588 (.int (184) 587), en P "__init__" 596 (.ref 305), en P "add" 606 (.ref 312), en P "__static_attributes__" 609 (.ref 313)] 6, #[]⟩
noncomputable def o296 : Obj := ⟨.none, none, .fields #[.int (186) 0, .int (4) 0, .ref 304, .int (190) 0, .int (4) 0, .ref 311], #[]⟩
noncomputable def o297 : Obj := cO "PairSet" 579 "PairSet" 580 581 184 0 0 0 0 295 false 181 296 (.none) (.none) (.none) (.none) 582 0 184 583
noncomputable def o298 : Obj := ⟨.type "frame", none, .plain, #[(some (.ref 297)), (some (.ref 3)), (some (.ref 294)), none, (some (.str "clausemill.unify" 575)), none, (some (.ref 0))]⟩
noncomputable def o301 : Obj := tO #[.str "self" 592, .str "store" 593]
noncomputable def o303 : Obj := f0 (stB 25 0) "PairSet.__init__"
noncomputable def o304 : Obj := cO "__init__" 589 "PairSet.__init__" 590 591 186 2 0 0 3 299 true 181 300 (.none) (.ref 301) (.ref 302) (.ref 303) 594 0 186 595
noncomputable def o305 : Obj := f1 (stB 25 0) "PairSet.__init__" (.none) "clausemill.unify" 575 304
noncomputable def o308 : Obj := tO #[.str "self" 600, .str "left" 601, .str "right" 602, .str "number" 603]
noncomputable def o310 : Obj := f0 (stB 25 1) "PairSet.add"
noncomputable def o311 : Obj := cO "add" 597 "PairSet.add" 598 599 190 3 0 0 3 306 true 181 307 (.none) (.ref 308) (.ref 309) (.ref 310) 604 0 190 605
noncomputable def o312 : Obj := f1 (stB 25 1) "PairSet.add" (.none) "clausemill.unify" 575 311
noncomputable def o313 : Obj := tO #[.str "met" 607, .str "span" 608]
noncomputable def o314 (P : Params) : Obj := ⟨.type "dict", none, .dict #[en P "__module__" 584 (.str "clausemill.unify" 575), en P "__firstlineno__" 588 (.int (184) 587), en P "__init__" 596 (.ref 305), en P "add" 606 (.ref 312), en P "__static_attributes__" 609 (.ref 313), en P "__dict__" 611 (.ref 316), en P "__weakref__" 613 (.ref 317), en P "__doc__" 614 (.none)] 4, #[]⟩
noncomputable def o315 : Obj := ⟨.type "type", none, .cls { name := "PairSet", bases := [.type "object"], mro := [.ref 315, .type "object"], ns := 314, qualname := "PairSet", hasDict := true, slotNames := [], subclasses := [], abstract := false, collection := none, hasDel := false }, #[none, none, (some (.str "PairSet" 577)), (some (.str "PairSet" 585)), (some (.builtin "object.__new__")), (some (.bool true))]⟩
noncomputable def o316 : Obj := ⟨.type "getset_descriptor", none, .fields #[.str "__dict__" 610, .ref 315, .builtin "function.__dict__", .builtin "function.__dict__#set"], #[]⟩
noncomputable def o317 : Obj := ⟨.type "getset_descriptor", none, .fields #[.str "__weakref__" 612, .ref 315, .builtin "ExceptionGroup.__weakref__", .none], #[]⟩
noncomputable def o318 : Obj := ⟨.type "super", none, .fields #[.ref 315, .ref 315, .ref 315], #[]⟩
noncomputable def o319 : Obj := ⟨.type "builtin_function_or_method", none, .fields #[.builtin "object.__init_subclass__", .ref 315], #[]⟩
noncomputable def o322 : Obj := tO #[.str "store" 620, .str "cell" 621, .str "work" 622, .str "place" 623, .str "step" 624]
noncomputable def o324 : Obj := f0 (stA 26) "push_arguments"
noncomputable def o325 : Obj := cO "push_arguments" 617 "push_arguments" 618 619 196 3 0 0 3 320 true 181 321 (.none) (.ref 322) (.ref 323) (.ref 324) 625 0 196 626
noncomputable def o326 : Obj := f1 (stA 26) "push_arguments" (.none) "clausemill.unify" 575 325
noncomputable def o329 : Obj := tO #[.str "store" 631, .str "left" 632, .str "right" 633, .str "work" 634, .str "left_place" 635, .str "right_place" 636, .str "step" 637]
noncomputable def o331 : Obj := f0 (stA 27) "push_pairs"
noncomputable def o332 : Obj := cO "push_pairs" 628 "push_pairs" 629 630 200 4 0 0 3 327 true 181 328 (.none) (.ref 329) (.ref 330) (.ref 331) 638 0 200 639
noncomputable def o333 : Obj := f1 (stA 27) "push_pairs" (.none) "clausemill.unify" 575 332
noncomputable def o336 : Obj := tO #[.str "store" 644, .str "left" 645, .str "right" 646]
noncomputable def o338 : Obj := f0 (stA 28) "same_shape"
noncomputable def o339 : Obj := cO "same_shape" 641 "same_shape" 642 643 205 3 0 0 3 334 true 181 335 (.none) (.ref 336) (.ref 337) (.ref 338) 647 0 205 648
noncomputable def o340 : Obj := f1 (stA 28) "same_shape" (.none) "clausemill.unify" 575 339
noncomputable def o343 : Obj := tO #[.str "cell" 653]
noncomputable def o345 : Obj := f0 (stA 29) "is_variable"
noncomputable def o346 : Obj := cO "is_variable" 650 "is_variable" 651 652 211 1 0 0 3 341 true 181 342 (.none) (.ref 343) (.ref 344) (.ref 345) 654 0 211 655
noncomputable def o347 : Obj := f1 (stA 29) "is_variable" (.none) "clausemill.unify" 575 346
noncomputable def T_6 (P : Params) : BT := insL (setL (T_5 P) [(3, o3_6 P), (12, o12_6)]) 292 [eT, eP, o294 P, eT, o296, o297, o298, eT, eF, o301, eT, o303, o304, o305, eT, eF, o308, eT, o310, o311, o312, o313, o314 P, o315, o316, o317, o318, o319, eT, eF, o322, eT, o324, o325, o326, eT, eF, o329, eT, o331, o332, o333, eT, eF, o336, eT, o338, o339, o340, eT, eF, o343, eT, o345, o346, o347]
noncomputable def o3_7 (P : Params) : Obj := ⟨.type "dict", none, .dict #[en P "__name__" 165 (.str "clausemill.areas" 704), en P "__doc__" 166 (.none), en P "__package__" 167 (.none), en P "__loader__" 168 (.builtin "__main__.__loader__#opaque"), en P "__spec__" 169 (.none), en P "__annotations__" 170 (.ref 6), en P "__builtins__" 171 (.ref 4), en P "__file__" 173 (.str "/claim/cut.py" 172), en P "__cached__" 174 (.none), en P "_wall" 193 (.ref 21), en P "ClausemillError" 215 (.ref 31), en P "PrologError" 240 (.ref 51), en P "StepLimit" 266 (.ref 71), en P "A_SYSTEM" 268 (.int (25) 267), en P "F_DOT" 270 (.int (0) 269), en P "F_ERROR" 272 (.int (16) 271), en P "HALT_ADDRESS" 274 (.int (1) 273), en P "system_error" 283 (.ref 80), en P "formal_of" 294 (.ref 87), en P "resource_error" 302 (.ref 94), en P "REF" 306 (.int (0) 305), en P "SRF" 308 (.int (1) 307), en P "STR" 310 (.int (2) 309), en P "LIS" 312 (.int (3) 311), en P "CON" 314 (.int (4) 313), en P "INT" 316 (.int (5) 315), en P "FUN" 318 (.int (6) 317), en P "VOID" 320 (.ref 95), en P "Cells" 514 (.ref 239), en P "Store" 574 (.ref 289), en P "PairSet" 616 (.ref 315), en P "push_arguments" 627 (.ref 326), en P "push_pairs" 640 (.ref 333), en P "same_shape" 649 (.ref 340), en P "is_variable" 656 (.ref 347), en P "unify" 670 (.ref 354), en P "unify_unify" 671 (.ref 354), en P "bind_checked" 681 (.ref 361), en P "occurs_in" 692 (.ref 368), en P "reaches" 703 (.ref 375), en P "READ" 707 (.str "read" 706), en P "WRITE" 709 (.str "write" 708), en P "AT_E" 711 (.int (1) 710), en P "AT_CP" 713 (.int (2) 712), en P "AT_PREVIOUS" 715 (.int (3) 714), en P "AT_ALTERNATIVE" 717 (.int (4) 716), en P "AT_TRAIL" 719 (.int (5) 718), en P "AT_HEAP" 721 (.int (6) 720), en P "AT_B0" 723 (.int (7) 722), en P "EXTRA" 725 (.int (8) 724)] 50, #[]⟩
noncomputable def o12_7 : Obj := ⟨.none, none, .fields #[.int (1) 0, .int (0) 0, .ref 20, .int (5) 0, .int (0) 0, .ref 27, .int (7) 0, .int (0) 0, .ref 40, .int (11) 0, .int (0) 0, .ref 59, .int (20) 0, .int (0) 0, .ref 79, .int (22) 0, .int (0) 0, .ref 86, .int (27) 0, .int (0) 0, .ref 93, .int (38) 0, .int (0) 0, .ref 101, .int (167) 0, .int (0) 0, .ref 249, .int (184) 0, .int (0) 0, .ref 297, .int (196) 0, .int (0) 0, .ref 325, .int (200) 0, .int (0) 0, .ref 332, .int (205) 0, .int (0) 0, .ref 339, .int (211) 0, .int (0) 0, .ref 346, .int (213) 0, .int (0) 0, .ref 353, .int (237) 0, .int (0) 0, .ref 360, .int (242) 0, .int (0) 0, .ref 367, .int (258) 0, .int (0) 0, .ref 374], #[]⟩
noncomputable def o350 : Obj := tO #[.str "store" 660, .str "c1" 661, .str "c2" 662, .str "occurs" 663, .str "met" 664, .str "work" 665, .str "left" 666, .str "right" 667]
noncomputable def o352 : Obj := f0 (stA 30) "unify"
noncomputable def o353 : Obj := cO "unify" 657 "unify" 658 659 213 4 0 0 3 348 true 181 349 (.none) (.ref 350) (.ref 351) (.ref 352) 668 0 213 669
noncomputable def o354 : Obj := f1 (stA 30) "unify" (.none) "clausemill.unify" 575 353
noncomputable def o357 : Obj := tO #[.str "store" 675, .str "variable" 676, .str "value" 677, .str "occurs" 678]
noncomputable def o359 : Obj := f0 (stA 32) "bind_checked"
noncomputable def o360 : Obj := cO "bind_checked" 672 "bind_checked" 673 674 237 4 0 0 3 355 true 181 356 (.none) (.ref 357) (.ref 358) (.ref 359) 679 0 237 680
noncomputable def o361 : Obj := f1 (stA 32) "bind_checked" (.none) "clausemill.unify" 575 360
noncomputable def o364 : Obj := tO #[.str "store" 685, .str "variable" 686, .str "cell" 687, .str "met" 688, .str "work" 689]
noncomputable def o366 : Obj := f0 (stA 33) "occurs_in"
noncomputable def o367 : Obj := cO "occurs_in" 682 "occurs_in" 683 684 242 3 0 0 3 362 true 181 363 (.none) (.ref 364) (.ref 365) (.ref 366) 690 0 242 691
noncomputable def o368 : Obj := f1 (stA 33) "occurs_in" (.none) "clausemill.unify" 575 367
noncomputable def o371 : Obj := tO #[.str "store" 696, .str "cell" 697, .str "target" 698, .str "met" 699, .str "work" 700]
noncomputable def o373 : Obj := f0 (stA 34) "reaches"
noncomputable def o374 : Obj := cO "reaches" 693 "reaches" 694 695 258 3 0 0 3 369 true 181 370 (.none) (.ref 371) (.ref 372) (.ref 373) 701 0 258 702
noncomputable def o375 : Obj := f1 (stA 34) "reaches" (.none) "clausemill.unify" 575 374
noncomputable def T_7 (P : Params) : BT := insL (setL (T_6 P) [(3, o3_7 P), (12, o12_7)]) 348 [eT, eF, o350, eT, o352, o353, o354, eT, eF, o357, eT, o359, o360, o361, eT, eF, o364, eT, o366, o367, o368, eT, eF, o371, eT, o373, o374, o375]
noncomputable def o3_8 (P : Params) : Obj := ⟨.type "dict", none, .dict #[en P "__name__" 165 (.str "clausemill.areas" 704), en P "__doc__" 166 (.none), en P "__package__" 167 (.none), en P "__loader__" 168 (.builtin "__main__.__loader__#opaque"), en P "__spec__" 169 (.none), en P "__annotations__" 170 (.ref 6), en P "__builtins__" 171 (.ref 4), en P "__file__" 173 (.str "/claim/cut.py" 172), en P "__cached__" 174 (.none), en P "_wall" 193 (.ref 21), en P "ClausemillError" 215 (.ref 31), en P "PrologError" 240 (.ref 51), en P "StepLimit" 266 (.ref 71), en P "A_SYSTEM" 268 (.int (25) 267), en P "F_DOT" 270 (.int (0) 269), en P "F_ERROR" 272 (.int (16) 271), en P "HALT_ADDRESS" 274 (.int (1) 273), en P "system_error" 283 (.ref 80), en P "formal_of" 294 (.ref 87), en P "resource_error" 302 (.ref 94), en P "REF" 306 (.int (0) 305), en P "SRF" 308 (.int (1) 307), en P "STR" 310 (.int (2) 309), en P "LIS" 312 (.int (3) 311), en P "CON" 314 (.int (4) 313), en P "INT" 316 (.int (5) 315), en P "FUN" 318 (.int (6) 317), en P "VOID" 320 (.ref 95), en P "Cells" 514 (.ref 239), en P "Store" 574 (.ref 289), en P "PairSet" 616 (.ref 315), en P "push_arguments" 627 (.ref 326), en P "push_pairs" 640 (.ref 333), en P "same_shape" 649 (.ref 340), en P "is_variable" 656 (.ref 347), en P "unify" 670 (.ref 354), en P "unify_unify" 671 (.ref 354), en P "bind_checked" 681 (.ref 361), en P "occurs_in" 692 (.ref 368), en P "reaches" 703 (.ref 375), en P "READ" 707 (.str "read" 706), en P "WRITE" 709 (.str "write" 708), en P "AT_E" 711 (.int (1) 710), en P "AT_CP" 713 (.int (2) 712), en P "AT_PREVIOUS" 715 (.int (3) 714), en P "AT_ALTERNATIVE" 717 (.int (4) 716), en P "AT_TRAIL" 719 (.int (5) 718), en P "AT_HEAP" 721 (.int (6) 720), en P "AT_B0" 723 (.int (7) 722), en P "EXTRA" 725 (.int (8) 724), en P "Areas" 950 (.ref 533)] 51, #[]⟩
noncomputable def o12_8 : Obj := ⟨.none, none, .fields #[.int (1) 0, .int (0) 0, .ref 20, .int (5) 0, .int (0) 0, .ref 27, .int (7) 0, .int (0) 0, .ref 40, .int (11) 0, .int (0) 0, .ref 59, .int (20) 0, .int (0) 0, .ref 79, .int (22) 0, .int (0) 0, .ref 86, .int (27) 0, .int (0) 0, .ref 93, .int (38) 0, .int (0) 0, .ref 101, .int (167) 0, .int (0) 0, .ref 249, .int (184) 0, .int (0) 0, .ref 297, .int (196) 0, .int (0) 0, .ref 325, .int (200) 0, .int (0) 0, .ref 332, .int (205) 0, .int (0) 0, .ref 339, .int (211) 0, .int (0) 0, .ref 346, .int (213) 0, .int (0) 0, .ref 353, .int (237) 0, .int (0) 0, .ref 360, .int (242) 0, .int (0) 0, .ref 367, .int (258) 0, .int (0) 0, .ref 374, .int (282) 0, .int (0) 0, .ref 381], #[]⟩
noncomputable def o378 (P : Params) : Obj := ⟨.type "dict", none, .dict #[en P "__module__" 733 (.str "clausemill.areas" 704), en P "__qualname__" 735 (.str "Areas" 734), en P "__firstlineno__" 737 (.int (282) 736), en P "__init__" 751 (.ref 390), en P "reset" 758 (.ref 397), en P "set_x" 767 (.ref 404), en P "set_arguments" 777 (.ref 411), en P "arg" 785 (.ref 418), en P "unify" 794 (.ref 425), en P "take" 802 (.ref 432), en P "put" 810 (.ref 439), en P "top" 817 (.ref 446), en P "push_environment" 828 (.ref 453), en P "pop_environment" 836 (.ref 460), en P "in_chain" 844 (.ref 467), en P "set_choice" 853 (.ref 474), en P "push_choice" 867 (.ref 481), en P "set_alternative" 876 (.ref 488), en P "choice_part" 885 (.ref 495), en P "restore_choice" 895 (.ref 502), en P "pop_choice" 902 (.ref 509), en P "cut_back" 910 (.ref 516), en P "choices" 917 (.ref 523), en P "environments" 924 (.ref 530), en P "__static_attributes__" 943 (.ref 531)] 25, #[]⟩
noncomputable def o380 : Obj := ⟨.none, none, .fields #[.int (284) 0, .int (4) 0, .ref 389, .int (292) 0, .int (4) 0, .ref 396, .int (307) 0, .int (4) 0, .ref 403, .int (312) 0, .int (4) 0, .ref 410, .int (318) 0, .int (4) 0, .ref 417, .int (321) 0, .int (4) 0, .ref 424, .int (324) 0, .int (4) 0, .ref 431, .int (327) 0, .int (4) 0, .ref 438, .int (330) 0, .int (4) 0, .ref 445, .int (337) 0, .int (4) 0, .ref 452, .int (346) 0, .int (4) 0, .ref 459, .int (351) 0, .int (4) 0, .ref 466, .int (354) 0, .int (4) 0, .ref 473, .int (364) 0, .int (4) 0, .ref 480, .int (382) 0, .int (4) 0, .ref 487, .int (386) 0, .int (4) 0, .ref 494, .int (390) 0, .int (4) 0, .ref 501, .int (400) 0, .int (4) 0, .ref 508, .int (403) 0, .int (4) 0, .ref 515, .int (407) 0, .int (4) 0, .ref 522, .int (410) 0, .int (4) 0, .ref 529], #[]⟩
noncomputable def o381 : Obj := cO "Areas" 728 "Areas" 729 730 282 0 0 0 0 379 false 181 380 (.none) (.none) (.none) (.none) 731 0 282 732
noncomputable def o382 : Obj := ⟨.type "frame", none, .plain, #[(some (.ref 381)), (some (.ref 3)), (some (.ref 378)), none, (some (.str "clausemill.areas" 704)), none, (some (.ref 0))]⟩
noncomputable def o383 : Obj := tO #[.int (100000) 738, .bool true, .int (4096) 739]
noncomputable def o386 : Obj := tO #[.str "self" 743, .str "symbols" 744, .str "code" 745, .str "max_heap" 746, .str "occurs" 747, .str "max_bits" 748]
noncomputable def o388 : Obj := f0 (stB 46 0) "Areas.__init__"
noncomputable def o389 : Obj := cO "__init__" 740 "Areas.__init__" 741 742 284 6 0 0 3 384 true 181 385 (.none) (.ref 386) (.ref 387) (.ref 388) 749 0 284 750
noncomputable def o390 : Obj := f1 (stB 46 0) "Areas.__init__" (.ref 383) "clausemill.areas" 704 389
noncomputable def o393 : Obj := tO #[.str "self" 755]
noncomputable def o395 : Obj := f0 (stB 46 1) "Areas.reset"
noncomputable def o396 : Obj := cO "reset" 752 "Areas.reset" 753 754 292 1 0 0 3 391 true 181 392 (.none) (.ref 393) (.ref 394) (.ref 395) 756 0 292 757
noncomputable def o397 : Obj := f1 (stB 46 1) "Areas.reset" (.none) "clausemill.areas" 704 396
noncomputable def o400 : Obj := tO #[.str "self" 762, .str "number" 763, .str "cell" 764]
noncomputable def o402 : Obj := f0 (stB 46 2) "Areas.set_x"
noncomputable def o403 : Obj := cO "set_x" 759 "Areas.set_x" 760 761 307 3 0 0 3 398 true 181 399 (.none) (.ref 400) (.ref 401) (.ref 402) 765 0 307 766
noncomputable def o404 : Obj := f1 (stB 46 2) "Areas.set_x" (.none) "clausemill.areas" 704 403
noncomputable def o407 : Obj := tO #[.str "self" 771, .str "cells" 772, .str "number" 773, .str "cell" 774]
noncomputable def o409 : Obj := f0 (stB 46 3) "Areas.set_arguments"
noncomputable def o410 : Obj := cO "set_arguments" 768 "Areas.set_arguments" 769 770 312 2 0 0 3 405 true 181 406 (.none) (.ref 407) (.ref 408) (.ref 409) 775 0 312 776
noncomputable def o411 : Obj := f1 (stB 46 3) "Areas.set_arguments" (.none) "clausemill.areas" 704 410
noncomputable def o414 : Obj := tO #[.str "self" 781, .str "i" 782]
noncomputable def o416 : Obj := f0 (stB 46 4) "Areas.arg"
noncomputable def o417 : Obj := cO "arg" 778 "Areas.arg" 779 780 318 2 0 0 3 412 true 181 413 (.none) (.ref 414) (.ref 415) (.ref 416) 783 0 318 784
noncomputable def o418 : Obj := f1 (stB 46 4) "Areas.arg" (.none) "clausemill.areas" 704 417
noncomputable def o421 : Obj := tO #[.str "self" 789, .str "c1" 790, .str "c2" 791]
noncomputable def o423 : Obj := f0 (stB 46 5) "Areas.unify"
noncomputable def o424 : Obj := cO "unify" 786 "Areas.unify" 787 788 321 3 0 0 3 419 true 181 420 (.none) (.ref 421) (.ref 422) (.ref 423) 792 0 321 793
noncomputable def o425 : Obj := f1 (stB 46 5) "Areas.unify" (.none) "clausemill.areas" 704 424
noncomputable def o428 : Obj := tO #[.str "self" 798, .str "cell" 799]
noncomputable def o430 : Obj := f0 (stB 46 6) "Areas.take"
noncomputable def o431 : Obj := cO "take" 795 "Areas.take" 796 797 324 2 0 0 3 426 true 181 427 (.none) (.ref 428) (.ref 429) (.ref 430) 800 0 324 801
noncomputable def o432 : Obj := f1 (stB 46 6) "Areas.take" (.none) "clausemill.areas" 704 431
noncomputable def o435 : Obj := tO #[.str "self" 806, .str "term" 807]
noncomputable def o437 : Obj := f0 (stB 46 7) "Areas.put"
noncomputable def o438 : Obj := cO "put" 803 "Areas.put" 804 805 327 2 0 0 3 433 true 181 434 (.none) (.ref 435) (.ref 436) (.ref 437) 808 0 327 809
noncomputable def o439 : Obj := f1 (stB 46 7) "Areas.put" (.none) "clausemill.areas" 704 438
noncomputable def o442 : Obj := tO #[.str "self" 814]
noncomputable def o444 : Obj := f0 (stB 46 8) "Areas.top"
noncomputable def o445 : Obj := cO "top" 811 "Areas.top" 812 813 330 1 0 0 3 440 true 181 441 (.none) (.ref 442) (.ref 443) (.ref 444) 815 0 330 816
noncomputable def o446 : Obj := f1 (stB 46 8) "Areas.top" (.none) "clausemill.areas" 704 445
noncomputable def o449 : Obj := tO #[.str "self" 821, .str "size" 822, .str "place" 823, .str "store" 824, .str "number" 825]
noncomputable def o451 : Obj := f0 (stB 46 9) "Areas.push_environment"
noncomputable def o452 : Obj := cO "push_environment" 818 "Areas.push_environment" 819 820 337 2 0 0 3 447 true 181 448 (.none) (.ref 449) (.ref 450) (.ref 451) 826 0 337 827
noncomputable def o453 : Obj := f1 (stB 46 9) "Areas.push_environment" (.none) "clausemill.areas" 704 452
noncomputable def o456 : Obj := tO #[.str "self" 832, .str "stack" 833]
noncomputable def o458 : Obj := f0 (stB 46 10) "Areas.pop_environment"
noncomputable def o459 : Obj := cO "pop_environment" 829 "Areas.pop_environment" 830 831 346 1 0 0 3 454 true 181 455 (.none) (.ref 456) (.ref 457) (.ref 458) 834 0 346 835
noncomputable def o460 : Obj := f1 (stB 46 10) "Areas.pop_environment" (.none) "clausemill.areas" 704 459
noncomputable def o463 : Obj := tO #[.str "self" 840, .str "index" 841]
noncomputable def o465 : Obj := f0 (stB 46 11) "Areas.in_chain"
noncomputable def o466 : Obj := cO "in_chain" 837 "Areas.in_chain" 838 839 351 2 0 0 3 461 true 181 462 (.none) (.ref 463) (.ref 464) (.ref 465) 842 0 351 843
noncomputable def o467 : Obj := f1 (stB 46 11) "Areas.in_chain" (.none) "clausemill.areas" 704 466
noncomputable def o470 : Obj := tO #[.str "self" 848, .str "b" 849, .str "store" 850]
noncomputable def o472 : Obj := f0 (stB 46 12) "Areas.set_choice"
noncomputable def o473 : Obj := cO "set_choice" 845 "Areas.set_choice" 846 847 354 2 0 0 3 468 true 181 469 (.none) (.ref 470) (.ref 471) (.ref 472) 851 0 354 852
noncomputable def o474 : Obj := f1 (stB 46 12) "Areas.set_choice" (.none) "clausemill.areas" 704 473
noncomputable def o477 : Obj := tO #[.str "self" 857, .str "cells" 858, .str "alternative" 859, .str "store" 860, .str "place" 861, .str "count" 862, .str "at" 863, .str "cell" 864]
noncomputable def o479 : Obj := f0 (stB 46 13) "Areas.push_choice"
noncomputable def o480 : Obj := cO "push_choice" 854 "Areas.push_choice" 855 856 364 3 0 0 3 475 true 181 476 (.none) (.ref 477) (.ref 478) (.ref 479) 865 0 364 866
noncomputable def o481 : Obj := f1 (stB 46 13) "Areas.push_choice" (.none) "clausemill.areas" 704 480
noncomputable def o484 : Obj := tO #[.str "self" 871, .str "address" 872, .str "stack" 873]
noncomputable def o486 : Obj := f0 (stB 46 14) "Areas.set_alternative"
noncomputable def o487 : Obj := cO "set_alternative" 868 "Areas.set_alternative" 869 870 382 2 0 0 3 482 true 181 483 (.none) (.ref 484) (.ref 485) (.ref 486) 874 0 382 875
noncomputable def o488 : Obj := f1 (stB 46 14) "Areas.set_alternative" (.none) "clausemill.areas" 704 487
noncomputable def o491 : Obj := tO #[.str "self" 880, .str "part" 881, .str "stack" 882]
noncomputable def o493 : Obj := f0 (stB 46 15) "Areas.choice_part"
noncomputable def o494 : Obj := cO "choice_part" 877 "Areas.choice_part" 878 879 386 2 0 0 3 489 true 181 490 (.none) (.ref 491) (.ref 492) (.ref 493) 883 0 386 884
noncomputable def o495 : Obj := f1 (stB 46 15) "Areas.choice_part" (.none) "clausemill.areas" 704 494
noncomputable def o498 : Obj := tO #[.str "self" 889, .str "store" 890, .str "count" 891, .str "i" 892]
noncomputable def o500 : Obj := f0 (stB 46 16) "Areas.restore_choice"
noncomputable def o501 : Obj := cO "restore_choice" 886 "Areas.restore_choice" 887 888 390 1 0 0 3 496 true 181 497 (.none) (.ref 498) (.ref 499) (.ref 500) 893 0 390 894
noncomputable def o502 : Obj := f1 (stB 46 16) "Areas.restore_choice" (.none) "clausemill.areas" 704 501
noncomputable def o505 : Obj := tO #[.str "self" 899]
noncomputable def o507 : Obj := f0 (stB 46 17) "Areas.pop_choice"
noncomputable def o508 : Obj := cO "pop_choice" 896 "Areas.pop_choice" 897 898 400 1 0 0 3 503 true 181 504 (.none) (.ref 505) (.ref 506) (.ref 507) 900 0 400 901
noncomputable def o509 : Obj := f1 (stB 46 17) "Areas.pop_choice" (.none) "clausemill.areas" 704 508
noncomputable def o512 : Obj := tO #[.str "self" 906, .str "b" 907]
noncomputable def o514 : Obj := f0 (stB 46 18) "Areas.cut_back"
noncomputable def o515 : Obj := cO "cut_back" 903 "Areas.cut_back" 904 905 403 2 0 0 3 510 true 181 511 (.none) (.ref 512) (.ref 513) (.ref 514) 908 0 403 909
noncomputable def o516 : Obj := f1 (stB 46 18) "Areas.cut_back" (.none) "clausemill.areas" 704 515
noncomputable def o519 : Obj := tO #[.str "self" 914]
noncomputable def o521 : Obj := f0 (stB 46 19) "Areas.choices"
noncomputable def o522 : Obj := cO "choices" 911 "Areas.choices" 912 913 407 1 0 0 3 517 true 181 518 (.none) (.ref 519) (.ref 520) (.ref 521) 915 0 407 916
noncomputable def o523 : Obj := f1 (stB 46 19) "Areas.choices" (.none) "clausemill.areas" 704 522
noncomputable def o526 : Obj := tO #[.str "self" 921]
noncomputable def o528 : Obj := f0 (stB 46 20) "Areas.environments"
noncomputable def o529 : Obj := cO "environments" 918 "Areas.environments" 919 920 410 1 0 0 3 524 true 181 525 (.none) (.ref 526) (.ref 527) (.ref 528) 922 0 410 923
noncomputable def o530 : Obj := f1 (stB 46 20) "Areas.environments" (.none) "clausemill.areas" 704 529
noncomputable def o531 : Obj := tO #[.str "b" 925, .str "b0" 926, .str "bags" 927, .str "code" 928, .str "collect_wanted" 929, .str "cp" 930, .str "e" 931, .str "guard" 932, .str "max_bits" 933, .str "max_heap" 934, .str "mode" 935, .str "occurs" 936, .str "p" 937, .str "roots" 938, .str "s" 939, .str "store" 940, .str "symbols" 941, .str "x" 942]
noncomputable def o532 (P : Params) : Obj := ⟨.type "dict", none, .dict #[en P "__module__" 733 (.str "clausemill.areas" 704), en P "__firstlineno__" 737 (.int (282) 736), en P "__init__" 751 (.ref 390), en P "reset" 758 (.ref 397), en P "set_x" 767 (.ref 404), en P "set_arguments" 777 (.ref 411), en P "arg" 785 (.ref 418), en P "unify" 794 (.ref 425), en P "take" 802 (.ref 432), en P "put" 810 (.ref 439), en P "top" 817 (.ref 446), en P "push_environment" 828 (.ref 453), en P "pop_environment" 836 (.ref 460), en P "in_chain" 844 (.ref 467), en P "set_choice" 853 (.ref 474), en P "push_choice" 867 (.ref 481), en P "set_alternative" 876 (.ref 488), en P "choice_part" 885 (.ref 495), en P "restore_choice" 895 (.ref 502), en P "pop_choice" 902 (.ref 509), en P "cut_back" 910 (.ref 516), en P "choices" 917 (.ref 523), en P "environments" 924 (.ref 530), en P "__static_attributes__" 943 (.ref 531), en P "__dict__" 945 (.ref 534), en P "__weakref__" 947 (.ref 535), en P "__doc__" 948 (.none)] 4, #[]⟩
noncomputable def o533 : Obj := ⟨.type "type", none, .cls { name := "Areas", bases := [.type "object"], mro := [.ref 533, .type "object"], ns := 532, qualname := "Areas", hasDict := true, slotNames := [], subclasses := [], abstract := false, collection := none, hasDel := false }, #[none, none, (some (.str "Areas" 726)), (some (.str "Areas" 734)), (some (.builtin "object.__new__")), (some (.bool true))]⟩
noncomputable def o534 : Obj := ⟨.type "getset_descriptor", none, .fields #[.str "__dict__" 944, .ref 533, .builtin "function.__dict__", .builtin "function.__dict__#set"], #[]⟩
noncomputable def o535 : Obj := ⟨.type "getset_descriptor", none, .fields #[.str "__weakref__" 946, .ref 533, .builtin "ExceptionGroup.__weakref__", .none], #[]⟩
noncomputable def o536 : Obj := ⟨.type "super", none, .fields #[.ref 533, .ref 533, .ref 533], #[]⟩
noncomputable def o537 : Obj := ⟨.type "builtin_function_or_method", none, .fields #[.builtin "object.__init_subclass__", .ref 533], #[]⟩
noncomputable def T_8 (P : Params) : BT := insL (setL (T_7 P) [(3, o3_8 P), (12, o12_8)]) 376 [eT, eP, o378 P, eT, o380, o381, o382, o383, eT, eF, o386, eT, o388, o389, o390, eT, eF, o393, eT, o395, o396, o397, eT, eF, o400, eT, o402, o403, o404, eT, eF, o407, eT, o409, o410, o411, eT, eF, o414, eT, o416, o417, o418, eT, eF, o421, eT, o423, o424, o425, eT, eF, o428, eT, o430, o431, o432, eT, eF, o435, eT, o437, o438, o439, eT, eF, o442, eT, o444, o445, o446, eT, eF, o449, eT, o451, o452, o453, eT, eF, o456, eT, o458, o459, o460, eT, eF, o463, eT, o465, o466, o467, eT, eF, o470, eT, o472, o473, o474, eT, eF, o477, eT, o479, o480, o481, eT, eF, o484, eT, o486, o487, o488, eT, eF, o491, eT, o493, o494, o495, eT, eF, o498, eT, o500, o501, o502, eT, eF, o505, eT, o507, o508, o509, eT, eF, o512, eT, o514, o515, o516, eT, eF, o519, eT, o521, o522, o523, eT, eF, o526, eT, o528, o529, o530, o531, o532 P, o533, o534, o535, o536, o537]
noncomputable def o3_9 (P : Params) : Obj := ⟨.type "dict", none, .dict #[en P "__name__" 165 (.str "clausemill.moves" 951), en P "__doc__" 166 (.none), en P "__package__" 167 (.none), en P "__loader__" 168 (.builtin "__main__.__loader__#opaque"), en P "__spec__" 169 (.none), en P "__annotations__" 170 (.ref 6), en P "__builtins__" 171 (.ref 4), en P "__file__" 173 (.str "/claim/cut.py" 172), en P "__cached__" 174 (.none), en P "_wall" 193 (.ref 21), en P "ClausemillError" 215 (.ref 31), en P "PrologError" 240 (.ref 51), en P "StepLimit" 266 (.ref 71), en P "A_SYSTEM" 268 (.int (25) 267), en P "F_DOT" 270 (.int (0) 269), en P "F_ERROR" 272 (.int (16) 271), en P "HALT_ADDRESS" 274 (.int (1) 273), en P "system_error" 283 (.ref 80), en P "formal_of" 294 (.ref 87), en P "resource_error" 302 (.ref 94), en P "REF" 306 (.int (0) 305), en P "SRF" 308 (.int (1) 307), en P "STR" 310 (.int (2) 309), en P "LIS" 312 (.int (3) 311), en P "CON" 314 (.int (4) 313), en P "INT" 316 (.int (5) 315), en P "FUN" 318 (.int (6) 317), en P "VOID" 320 (.ref 95), en P "Cells" 514 (.ref 239), en P "Store" 574 (.ref 289), en P "PairSet" 616 (.ref 315), en P "push_arguments" 627 (.ref 326), en P "push_pairs" 640 (.ref 333), en P "same_shape" 649 (.ref 340), en P "is_variable" 656 (.ref 347), en P "unify" 670 (.ref 354), en P "unify_unify" 671 (.ref 354), en P "bind_checked" 681 (.ref 361), en P "occurs_in" 692 (.ref 368), en P "reaches" 703 (.ref 375), en P "READ" 707 (.str "read" 706), en P "WRITE" 709 (.str "write" 708), en P "AT_E" 711 (.int (1) 710), en P "AT_CP" 713 (.int (2) 712), en P "AT_PREVIOUS" 715 (.int (3) 714), en P "AT_ALTERNATIVE" 717 (.int (4) 716), en P "AT_TRAIL" 719 (.int (5) 718), en P "AT_HEAP" 721 (.int (6) 720), en P "AT_B0" 723 (.int (7) 722), en P "EXTRA" 725 (.int (8) 724), en P "Areas" 950 (.ref 533), en P "slot_index" 960 (.ref 544), en P "read" 968 (.ref 551), en P "write" 978 (.ref 558), en P "match_constant" 988 (.ref 565), en P "next_argument" 996 (.ref 572), en P "closes_cycle" 1004 (.ref 579), en P "push_local" 1014 (.ref 586), en P "get_variable" 1022 (.ref 593), en P "get_value" 1030 (.ref 600), en P "get_constant" 1038 (.ref 607), en P "get_list" 1049 (.ref 614), en P "get_structure" 1061 (.ref 621), en P "unify_variable" 1069 (.ref 628)] 64, #[]⟩
noncomputable def o12_9 : Obj := ⟨.none, none, .fields #[.int (1) 0, .int (0) 0, .ref 20, .int (5) 0, .int (0) 0, .ref 27, .int (7) 0, .int (0) 0, .ref 40, .int (11) 0, .int (0) 0, .ref 59, .int (20) 0, .int (0) 0, .ref 79, .int (22) 0, .int (0) 0, .ref 86, .int (27) 0, .int (0) 0, .ref 93, .int (38) 0, .int (0) 0, .ref 101, .int (167) 0, .int (0) 0, .ref 249, .int (184) 0, .int (0) 0, .ref 297, .int (196) 0, .int (0) 0, .ref 325, .int (200) 0, .int (0) 0, .ref 332, .int (205) 0, .int (0) 0, .ref 339, .int (211) 0, .int (0) 0, .ref 346, .int (213) 0, .int (0) 0, .ref 353, .int (237) 0, .int (0) 0, .ref 360, .int (242) 0, .int (0) 0, .ref 367, .int (258) 0, .int (0) 0, .ref 374, .int (282) 0, .int (0) 0, .ref 381, .int (413) 0, .int (0) 0, .ref 543, .int (415) 0, .int (0) 0, .ref 550, .int (419) 0, .int (0) 0, .ref 557, .int (427) 0, .int (0) 0, .ref 564, .int (433) 0, .int (0) 0, .ref 571, .int (437) 0, .int (0) 0, .ref 578, .int (441) 0, .int (0) 0, .ref 585, .int (451) 0, .int (0) 0, .ref 592, .int (454) 0, .int (0) 0, .ref 599, .int (456) 0, .int (0) 0, .ref 606, .int (458) 0, .int (0) 0, .ref 613, .int (472) 0, .int (0) 0, .ref 620, .int (489) 0, .int (0) 0, .ref 627], #[]⟩
noncomputable def o540 : Obj := tO #[.str "m" 956, .str "number" 957]
noncomputable def o542 : Obj := f0 (stA 48) "slot_index"
noncomputable def o543 : Obj := cO "slot_index" 953 "slot_index" 954 955 413 2 0 0 3 538 true 181 539 (.none) (.ref 540) (.ref 541) (.ref 542) 958 0 413 959
noncomputable def o544 : Obj := f1 (stA 48) "slot_index" (.none) "clausemill.moves" 951 543
noncomputable def o547 : Obj := tO #[.str "m" 964, .str "operand" 965]
noncomputable def o549 : Obj := f0 (stA 49) "read"
noncomputable def o550 : Obj := cO "read" 961 "read" 962 963 415 2 0 0 3 545 true 181 546 (.none) (.ref 547) (.ref 548) (.ref 549) 966 0 415 967
noncomputable def o551 : Obj := f1 (stA 49) "read" (.none) "clausemill.moves" 951 550
noncomputable def o554 : Obj := tO #[.str "m" 972, .str "operand" 973, .str "cell" 974, .str "index" 975]
noncomputable def o556 : Obj := f0 (stA 50) "write"
noncomputable def o557 : Obj := cO "write" 969 "write" 970 971 419 3 0 0 3 552 true 181 553 (.none) (.ref 554) (.ref 555) (.ref 556) 976 0 419 977
noncomputable def o558 : Obj := f1 (stA 50) "write" (.none) "clausemill.moves" 951 557
noncomputable def o561 : Obj := tO #[.str "m" 982, .str "cell" 983, .str "constant" 984, .str "found" 985]
noncomputable def o563 : Obj := f0 (stA 51) "match_constant"
noncomputable def o564 : Obj := cO "match_constant" 979 "match_constant" 980 981 427 3 0 0 3 559 true 181 560 (.none) (.ref 561) (.ref 562) (.ref 563) 986 0 427 987
noncomputable def o565 : Obj := f1 (stA 51) "match_constant" (.none) "clausemill.moves" 951 564
noncomputable def o568 : Obj := tO #[.str "m" 992, .str "cell" 993]
noncomputable def o570 : Obj := f0 (stA 52) "next_argument"
noncomputable def o571 : Obj := cO "next_argument" 989 "next_argument" 990 991 433 1 0 0 3 566 true 181 567 (.none) (.ref 568) (.ref 569) (.ref 570) 994 0 433 995
noncomputable def o572 : Obj := f1 (stA 52) "next_argument" (.none) "clausemill.moves" 951 571
noncomputable def o575 : Obj := tO #[.str "m" 1000, .str "cell" 1001]
noncomputable def o577 : Obj := f0 (stA 53) "closes_cycle"
noncomputable def o578 : Obj := cO "closes_cycle" 997 "closes_cycle" 998 999 437 2 0 0 3 573 true 181 574 (.none) (.ref 575) (.ref 576) (.ref 577) 1002 0 437 1003
noncomputable def o579 : Obj := f1 (stA 53) "closes_cycle" (.none) "clausemill.moves" 951 578
noncomputable def o582 : Obj := tO #[.str "m" 1008, .str "operand" 1009, .str "found" 1010, .str "fresh" 1011]
noncomputable def o584 : Obj := f0 (stA 54) "push_local"
noncomputable def o585 : Obj := cO "push_local" 1005 "push_local" 1006 1007 441 2 0 0 3 580 true 181 581 (.none) (.ref 582) (.ref 583) (.ref 584) 1012 0 441 1013
noncomputable def o586 : Obj := f1 (stA 54) "push_local" (.none) "clausemill.moves" 951 585
noncomputable def o589 : Obj := tO #[.str "m" 1018, .str "ins" 1019]
noncomputable def o591 : Obj := f0 (stA 55) "get_variable"
noncomputable def o592 : Obj := cO "get_variable" 1015 "get_variable" 1016 1017 451 2 0 0 3 587 true 181 588 (.none) (.ref 589) (.ref 590) (.ref 591) 1020 0 451 1021
noncomputable def o593 : Obj := f1 (stA 55) "get_variable" (.none) "clausemill.moves" 951 592
noncomputable def o596 : Obj := tO #[.str "m" 1026, .str "ins" 1027]
noncomputable def o598 : Obj := f0 (stA 56) "get_value"
noncomputable def o599 : Obj := cO "get_value" 1023 "get_value" 1024 1025 454 2 0 0 3 594 true 181 595 (.none) (.ref 596) (.ref 597) (.ref 598) 1028 0 454 1029
noncomputable def o600 : Obj := f1 (stA 56) "get_value" (.none) "clausemill.moves" 951 599
noncomputable def o603 : Obj := tO #[.str "m" 1034, .str "ins" 1035]
noncomputable def o605 : Obj := f0 (stA 57) "get_constant"
noncomputable def o606 : Obj := cO "get_constant" 1031 "get_constant" 1032 1033 456 2 0 0 3 601 true 181 602 (.none) (.ref 603) (.ref 604) (.ref 605) 1036 0 456 1037
noncomputable def o607 : Obj := f1 (stA 57) "get_constant" (.none) "clausemill.moves" 951 606
noncomputable def o610 : Obj := tO #[.str "m" 1042, .str "ins" 1043, .str "store" 1044, .str "found" 1045, .str "made" 1046]
noncomputable def o612 : Obj := f0 (stA 58) "get_list"
noncomputable def o613 : Obj := cO "get_list" 1039 "get_list" 1040 1041 458 2 0 0 3 608 true 181 609 (.none) (.ref 610) (.ref 611) (.ref 612) 1047 0 458 1048
noncomputable def o614 : Obj := f1 (stA 58) "get_list" (.none) "clausemill.moves" 951 613
noncomputable def o617 : Obj := tO #[.str "m" 1053, .str "ins" 1054, .str "store" 1055, .str "functor" 1056, .str "found" 1057, .str "made" 1058]
noncomputable def o619 : Obj := f0 (stA 59) "get_structure"
noncomputable def o620 : Obj := cO "get_structure" 1050 "get_structure" 1051 1052 472 2 0 0 3 615 true 181 616 (.none) (.ref 617) (.ref 618) (.ref 619) 1059 0 472 1060
noncomputable def o621 : Obj := f1 (stA 59) "get_structure" (.none) "clausemill.moves" 951 620
noncomputable def o624 : Obj := tO #[.str "m" 1065, .str "ins" 1066]
noncomputable def o626 : Obj := f0 (stA 60) "unify_variable"
noncomputable def o627 : Obj := cO "unify_variable" 1062 "unify_variable" 1063 1064 489 2 0 0 3 622 true 181 623 (.none) (.ref 624) (.ref 625) (.ref 626) 1067 0 489 1068
noncomputable def o628 : Obj := f1 (stA 60) "unify_variable" (.none) "clausemill.moves" 951 627
noncomputable def T_9 (P : Params) : BT := insL (setL (T_8 P) [(3, o3_9 P), (12, o12_9)]) 538 [eT, eF, o540, eT, o542, o543, o544, eT, eF, o547, eT, o549, o550, o551, eT, eF, o554, eT, o556, o557, o558, eT, eF, o561, eT, o563, o564, o565, eT, eF, o568, eT, o570, o571, o572, eT, eF, o575, eT, o577, o578, o579, eT, eF, o582, eT, o584, o585, o586, eT, eF, o589, eT, o591, o592, o593, eT, eF, o596, eT, o598, o599, o600, eT, eF, o603, eT, o605, o606, o607, eT, eF, o610, eT, o612, o613, o614, eT, eF, o617, eT, o619, o620, o621, eT, eF, o624, eT, o626, o627, o628]
noncomputable def o3_10 (P : Params) : Obj := ⟨.type "dict", none, .dict #[en P "__name__" 165 (.str "clausemill.moves" 951), en P "__doc__" 166 (.none), en P "__package__" 167 (.none), en P "__loader__" 168 (.builtin "__main__.__loader__#opaque"), en P "__spec__" 169 (.none), en P "__annotations__" 170 (.ref 6), en P "__builtins__" 171 (.ref 4), en P "__file__" 173 (.str "/claim/cut.py" 172), en P "__cached__" 174 (.none), en P "_wall" 193 (.ref 21), en P "ClausemillError" 215 (.ref 31), en P "PrologError" 240 (.ref 51), en P "StepLimit" 266 (.ref 71), en P "A_SYSTEM" 268 (.int (25) 267), en P "F_DOT" 270 (.int (0) 269), en P "F_ERROR" 272 (.int (16) 271), en P "HALT_ADDRESS" 274 (.int (1) 273), en P "system_error" 283 (.ref 80), en P "formal_of" 294 (.ref 87), en P "resource_error" 302 (.ref 94), en P "REF" 306 (.int (0) 305), en P "SRF" 308 (.int (1) 307), en P "STR" 310 (.int (2) 309), en P "LIS" 312 (.int (3) 311), en P "CON" 314 (.int (4) 313), en P "INT" 316 (.int (5) 315), en P "FUN" 318 (.int (6) 317), en P "VOID" 320 (.ref 95), en P "Cells" 514 (.ref 239), en P "Store" 574 (.ref 289), en P "PairSet" 616 (.ref 315), en P "push_arguments" 627 (.ref 326), en P "push_pairs" 640 (.ref 333), en P "same_shape" 649 (.ref 340), en P "is_variable" 656 (.ref 347), en P "unify" 670 (.ref 354), en P "unify_unify" 671 (.ref 354), en P "bind_checked" 681 (.ref 361), en P "occurs_in" 692 (.ref 368), en P "reaches" 703 (.ref 375), en P "READ" 707 (.str "read" 706), en P "WRITE" 709 (.str "write" 708), en P "AT_E" 711 (.int (1) 710), en P "AT_CP" 713 (.int (2) 712), en P "AT_PREVIOUS" 715 (.int (3) 714), en P "AT_ALTERNATIVE" 717 (.int (4) 716), en P "AT_TRAIL" 719 (.int (5) 718), en P "AT_HEAP" 721 (.int (6) 720), en P "AT_B0" 723 (.int (7) 722), en P "EXTRA" 725 (.int (8) 724), en P "Areas" 950 (.ref 533), en P "slot_index" 960 (.ref 544), en P "read" 968 (.ref 551), en P "write" 978 (.ref 558), en P "match_constant" 988 (.ref 565), en P "next_argument" 996 (.ref 572), en P "closes_cycle" 1004 (.ref 579), en P "push_local" 1014 (.ref 586), en P "get_variable" 1022 (.ref 593), en P "get_value" 1030 (.ref 600), en P "get_constant" 1038 (.ref 607), en P "get_list" 1049 (.ref 614), en P "get_structure" 1061 (.ref 621), en P "unify_variable" 1069 (.ref 628), en P "unify_value" 1078 (.ref 635), en P "unify_local_value" 1088 (.ref 642), en P "unify_constant" 1096 (.ref 649), en P "unify_void" 1104 (.ref 656), en P "push_variables" 1113 (.ref 663), en P "put_variable" 1123 (.ref 670), en P "put_void" 1131 (.ref 677), en P "put_value" 1139 (.ref 684), en P "put_unsafe_value" 1147 (.ref 691), en P "put_constant" 1155 (.ref 698), en P "put_list" 1163 (.ref 705), en P "put_structure" 1172 (.ref 712), en P "set_variable" 1180 (.ref 719)] 77, #[]⟩
noncomputable def o12_10 : Obj := ⟨.none, none, .fields #[.int (1) 0, .int (0) 0, .ref 20, .int (5) 0, .int (0) 0, .ref 27, .int (7) 0, .int (0) 0, .ref 40, .int (11) 0, .int (0) 0, .ref 59, .int (20) 0, .int (0) 0, .ref 79, .int (22) 0, .int (0) 0, .ref 86, .int (27) 0, .int (0) 0, .ref 93, .int (38) 0, .int (0) 0, .ref 101, .int (167) 0, .int (0) 0, .ref 249, .int (184) 0, .int (0) 0, .ref 297, .int (196) 0, .int (0) 0, .ref 325, .int (200) 0, .int (0) 0, .ref 332, .int (205) 0, .int (0) 0, .ref 339, .int (211) 0, .int (0) 0, .ref 346, .int (213) 0, .int (0) 0, .ref 353, .int (237) 0, .int (0) 0, .ref 360, .int (242) 0, .int (0) 0, .ref 367, .int (258) 0, .int (0) 0, .ref 374, .int (282) 0, .int (0) 0, .ref 381, .int (413) 0, .int (0) 0, .ref 543, .int (415) 0, .int (0) 0, .ref 550, .int (419) 0, .int (0) 0, .ref 557, .int (427) 0, .int (0) 0, .ref 564, .int (433) 0, .int (0) 0, .ref 571, .int (437) 0, .int (0) 0, .ref 578, .int (441) 0, .int (0) 0, .ref 585, .int (451) 0, .int (0) 0, .ref 592, .int (454) 0, .int (0) 0, .ref 599, .int (456) 0, .int (0) 0, .ref 606, .int (458) 0, .int (0) 0, .ref 613, .int (472) 0, .int (0) 0, .ref 620, .int (489) 0, .int (0) 0, .ref 627, .int (495) 0, .int (0) 0, .ref 634, .int (503) 0, .int (0) 0, .ref 641, .int (516) 0, .int (0) 0, .ref 648, .int (521) 0, .int (0) 0, .ref 655, .int (527) 0, .int (0) 0, .ref 662, .int (530) 0, .int (0) 0, .ref 669, .int (539) 0, .int (0) 0, .ref 676, .int (542) 0, .int (0) 0, .ref 683, .int (545) 0, .int (0) 0, .ref 690, .int (548) 0, .int (0) 0, .ref 697, .int (551) 0, .int (0) 0, .ref 704, .int (554) 0, .int (0) 0, .ref 711, .int (558) 0, .int (0) 0, .ref 718], #[]⟩
noncomputable def o631 : Obj := tO #[.str "m" 1073, .str "ins" 1074, .str "value" 1075]
noncomputable def o633 : Obj := f0 (stA 61) "unify_value"
noncomputable def o634 : Obj := cO "unify_value" 1070 "unify_value" 1071 1072 495 2 0 0 3 629 true 181 630 (.none) (.ref 631) (.ref 632) (.ref 633) 1076 0 495 1077
noncomputable def o635 : Obj := f1 (stA 61) "unify_value" (.none) "clausemill.moves" 951 634
noncomputable def o638 : Obj := tO #[.str "m" 1082, .str "ins" 1083, .str "operand" 1084, .str "value" 1085]
noncomputable def o640 : Obj := f0 (stA 62) "unify_local_value"
noncomputable def o641 : Obj := cO "unify_local_value" 1079 "unify_local_value" 1080 1081 503 2 0 0 3 636 true 181 637 (.none) (.ref 638) (.ref 639) (.ref 640) 1086 0 503 1087
noncomputable def o642 : Obj := f1 (stA 62) "unify_local_value" (.none) "clausemill.moves" 951 641
noncomputable def o645 : Obj := tO #[.str "m" 1092, .str "ins" 1093]
noncomputable def o647 : Obj := f0 (stA 63) "unify_constant"
noncomputable def o648 : Obj := cO "unify_constant" 1089 "unify_constant" 1090 1091 516 2 0 0 3 643 true 181 644 (.none) (.ref 645) (.ref 646) (.ref 647) 1094 0 516 1095
noncomputable def o649 : Obj := f1 (stA 63) "unify_constant" (.none) "clausemill.moves" 951 648
noncomputable def o652 : Obj := tO #[.str "m" 1100, .str "ins" 1101]
noncomputable def o654 : Obj := f0 (stA 64) "unify_void"
noncomputable def o655 : Obj := cO "unify_void" 1097 "unify_void" 1098 1099 521 2 0 0 3 650 true 181 651 (.none) (.ref 652) (.ref 653) (.ref 654) 1102 0 521 1103
noncomputable def o656 : Obj := f1 (stA 64) "unify_void" (.none) "clausemill.moves" 951 655
noncomputable def o659 : Obj := tO #[.str "m" 1108, .str "count" 1109, .str "_" 1110]
noncomputable def o661 : Obj := f0 (stA 65) "push_variables"
noncomputable def o662 : Obj := cO "push_variables" 1105 "push_variables" 1106 1107 527 2 0 0 3 657 true 181 658 (.none) (.ref 659) (.ref 660) (.ref 661) 1111 0 527 1112
noncomputable def o663 : Obj := f1 (stA 65) "push_variables" (.none) "clausemill.moves" 951 662
noncomputable def o666 : Obj := tO #[.str "m" 1117, .str "ins" 1118, .str "operand" 1119, .str "cell" 1120]
noncomputable def o668 : Obj := f0 (stA 66) "put_variable"
noncomputable def o669 : Obj := cO "put_variable" 1114 "put_variable" 1115 1116 530 2 0 0 3 664 true 181 665 (.none) (.ref 666) (.ref 667) (.ref 668) 1121 0 530 1122
noncomputable def o670 : Obj := f1 (stA 66) "put_variable" (.none) "clausemill.moves" 951 669
noncomputable def o673 : Obj := tO #[.str "m" 1127, .str "ins" 1128]
noncomputable def o675 : Obj := f0 (stA 67) "put_void"
noncomputable def o676 : Obj := cO "put_void" 1124 "put_void" 1125 1126 539 2 0 0 3 671 true 181 672 (.none) (.ref 673) (.ref 674) (.ref 675) 1129 0 539 1130
noncomputable def o677 : Obj := f1 (stA 67) "put_void" (.none) "clausemill.moves" 951 676
noncomputable def o680 : Obj := tO #[.str "m" 1135, .str "ins" 1136]
noncomputable def o682 : Obj := f0 (stA 68) "put_value"
noncomputable def o683 : Obj := cO "put_value" 1132 "put_value" 1133 1134 542 2 0 0 3 678 true 181 679 (.none) (.ref 680) (.ref 681) (.ref 682) 1137 0 542 1138
noncomputable def o684 : Obj := f1 (stA 68) "put_value" (.none) "clausemill.moves" 951 683
noncomputable def o687 : Obj := tO #[.str "m" 1143, .str "ins" 1144]
noncomputable def o689 : Obj := f0 (stA 69) "put_unsafe_value"
noncomputable def o690 : Obj := cO "put_unsafe_value" 1140 "put_unsafe_value" 1141 1142 545 2 0 0 3 685 true 181 686 (.none) (.ref 687) (.ref 688) (.ref 689) 1145 0 545 1146
noncomputable def o691 : Obj := f1 (stA 69) "put_unsafe_value" (.none) "clausemill.moves" 951 690
noncomputable def o694 : Obj := tO #[.str "m" 1151, .str "ins" 1152]
noncomputable def o696 : Obj := f0 (stA 70) "put_constant"
noncomputable def o697 : Obj := cO "put_constant" 1148 "put_constant" 1149 1150 548 2 0 0 3 692 true 181 693 (.none) (.ref 694) (.ref 695) (.ref 696) 1153 0 548 1154
noncomputable def o698 : Obj := f1 (stA 70) "put_constant" (.none) "clausemill.moves" 951 697
noncomputable def o701 : Obj := tO #[.str "m" 1159, .str "ins" 1160]
noncomputable def o703 : Obj := f0 (stA 71) "put_list"
noncomputable def o704 : Obj := cO "put_list" 1156 "put_list" 1157 1158 551 2 0 0 3 699 true 181 700 (.none) (.ref 701) (.ref 702) (.ref 703) 1161 0 551 1162
noncomputable def o705 : Obj := f1 (stA 71) "put_list" (.none) "clausemill.moves" 951 704
noncomputable def o708 : Obj := tO #[.str "m" 1167, .str "ins" 1168, .str "address" 1169]
noncomputable def o710 : Obj := f0 (stA 72) "put_structure"
noncomputable def o711 : Obj := cO "put_structure" 1164 "put_structure" 1165 1166 554 2 0 0 3 706 true 181 707 (.none) (.ref 708) (.ref 709) (.ref 710) 1170 0 554 1171
noncomputable def o712 : Obj := f1 (stA 72) "put_structure" (.none) "clausemill.moves" 951 711
noncomputable def o715 : Obj := tO #[.str "m" 1176, .str "ins" 1177]
noncomputable def o717 : Obj := f0 (stA 73) "set_variable"
noncomputable def o718 : Obj := cO "set_variable" 1173 "set_variable" 1174 1175 558 2 0 0 3 713 true 181 714 (.none) (.ref 715) (.ref 716) (.ref 717) 1178 0 558 1179
noncomputable def o719 : Obj := f1 (stA 73) "set_variable" (.none) "clausemill.moves" 951 718
noncomputable def T_10 (P : Params) : BT := insL (setL (T_9 P) [(3, o3_10 P), (12, o12_10)]) 629 [eT, eF, o631, eT, o633, o634, o635, eT, eF, o638, eT, o640, o641, o642, eT, eF, o645, eT, o647, o648, o649, eT, eF, o652, eT, o654, o655, o656, eT, eF, o659, eT, o661, o662, o663, eT, eF, o666, eT, o668, o669, o670, eT, eF, o673, eT, o675, o676, o677, eT, eF, o680, eT, o682, o683, o684, eT, eF, o687, eT, o689, o690, o691, eT, eF, o694, eT, o696, o697, o698, eT, eF, o701, eT, o703, o704, o705, eT, eF, o708, eT, o710, o711, o712, eT, eF, o715, eT, o717, o718, o719]
noncomputable def o3_11 (P : Params) : Obj := ⟨.type "dict", none, .dict #[en P "__name__" 165 (.str "clausemill.control" 1219), en P "__doc__" 166 (.none), en P "__package__" 167 (.none), en P "__loader__" 168 (.builtin "__main__.__loader__#opaque"), en P "__spec__" 169 (.none), en P "__annotations__" 170 (.ref 6), en P "__builtins__" 171 (.ref 4), en P "__file__" 173 (.str "/claim/cut.py" 172), en P "__cached__" 174 (.none), en P "_wall" 193 (.ref 21), en P "ClausemillError" 215 (.ref 31), en P "PrologError" 240 (.ref 51), en P "StepLimit" 266 (.ref 71), en P "A_SYSTEM" 268 (.int (25) 267), en P "F_DOT" 270 (.int (0) 269), en P "F_ERROR" 272 (.int (16) 271), en P "HALT_ADDRESS" 274 (.int (1) 273), en P "system_error" 283 (.ref 80), en P "formal_of" 294 (.ref 87), en P "resource_error" 302 (.ref 94), en P "REF" 306 (.int (0) 305), en P "SRF" 308 (.int (1) 307), en P "STR" 310 (.int (2) 309), en P "LIS" 312 (.int (3) 311), en P "CON" 314 (.int (4) 313), en P "INT" 316 (.int (5) 315), en P "FUN" 318 (.int (6) 317), en P "VOID" 320 (.ref 95), en P "Cells" 514 (.ref 239), en P "Store" 574 (.ref 289), en P "PairSet" 616 (.ref 315), en P "push_arguments" 627 (.ref 326), en P "push_pairs" 640 (.ref 333), en P "same_shape" 649 (.ref 340), en P "is_variable" 656 (.ref 347), en P "unify" 670 (.ref 354), en P "unify_unify" 671 (.ref 354), en P "bind_checked" 681 (.ref 361), en P "occurs_in" 692 (.ref 368), en P "reaches" 703 (.ref 375), en P "READ" 707 (.str "read" 706), en P "WRITE" 709 (.str "write" 708), en P "AT_E" 711 (.int (1) 710), en P "AT_CP" 713 (.int (2) 712), en P "AT_PREVIOUS" 715 (.int (3) 714), en P "AT_ALTERNATIVE" 717 (.int (4) 716), en P "AT_TRAIL" 719 (.int (5) 718), en P "AT_HEAP" 721 (.int (6) 720), en P "AT_B0" 723 (.int (7) 722), en P "EXTRA" 725 (.int (8) 724), en P "Areas" 950 (.ref 533), en P "slot_index" 960 (.ref 544), en P "read" 968 (.ref 551), en P "write" 978 (.ref 558), en P "match_constant" 988 (.ref 565), en P "next_argument" 996 (.ref 572), en P "closes_cycle" 1004 (.ref 579), en P "push_local" 1014 (.ref 586), en P "get_variable" 1022 (.ref 593), en P "get_value" 1030 (.ref 600), en P "get_constant" 1038 (.ref 607), en P "get_list" 1049 (.ref 614), en P "get_structure" 1061 (.ref 621), en P "unify_variable" 1069 (.ref 628), en P "unify_value" 1078 (.ref 635), en P "unify_local_value" 1088 (.ref 642), en P "unify_constant" 1096 (.ref 649), en P "unify_void" 1104 (.ref 656), en P "push_variables" 1113 (.ref 663), en P "put_variable" 1123 (.ref 670), en P "put_void" 1131 (.ref 677), en P "put_value" 1139 (.ref 684), en P "put_unsafe_value" 1147 (.ref 691), en P "put_constant" 1155 (.ref 698), en P "put_list" 1163 (.ref 705), en P "put_structure" 1172 (.ref 712), en P "set_variable" 1180 (.ref 719), en P "set_value" 1188 (.ref 726), en P "set_local_value" 1196 (.ref 733), en P "set_constant" 1204 (.ref 740), en P "set_void" 1212 (.ref 747), en P "move_table" 1218 (.ref 754), en P "do_call" 1228 (.ref 761), en P "do_execute" 1236 (.ref 768), en P "do_proceed" 1244 (.ref 775), en P "do_allocate" 1252 (.ref 782), en P "do_deallocate" 1260 (.ref 789), en P "do_neck_cut" 1268 (.ref 796), en P "do_get_level" 1276 (.ref 803), en P "do_mark" 1284 (.ref 810)] 90, #[]⟩
noncomputable def o12_11 : Obj := ⟨.none, none, .fields #[.int (1) 0, .int (0) 0, .ref 20, .int (5) 0, .int (0) 0, .ref 27, .int (7) 0, .int (0) 0, .ref 40, .int (11) 0, .int (0) 0, .ref 59, .int (20) 0, .int (0) 0, .ref 79, .int (22) 0, .int (0) 0, .ref 86, .int (27) 0, .int (0) 0, .ref 93, .int (38) 0, .int (0) 0, .ref 101, .int (167) 0, .int (0) 0, .ref 249, .int (184) 0, .int (0) 0, .ref 297, .int (196) 0, .int (0) 0, .ref 325, .int (200) 0, .int (0) 0, .ref 332, .int (205) 0, .int (0) 0, .ref 339, .int (211) 0, .int (0) 0, .ref 346, .int (213) 0, .int (0) 0, .ref 353, .int (237) 0, .int (0) 0, .ref 360, .int (242) 0, .int (0) 0, .ref 367, .int (258) 0, .int (0) 0, .ref 374, .int (282) 0, .int (0) 0, .ref 381, .int (413) 0, .int (0) 0, .ref 543, .int (415) 0, .int (0) 0, .ref 550, .int (419) 0, .int (0) 0, .ref 557, .int (427) 0, .int (0) 0, .ref 564, .int (433) 0, .int (0) 0, .ref 571, .int (437) 0, .int (0) 0, .ref 578, .int (441) 0, .int (0) 0, .ref 585, .int (451) 0, .int (0) 0, .ref 592, .int (454) 0, .int (0) 0, .ref 599, .int (456) 0, .int (0) 0, .ref 606, .int (458) 0, .int (0) 0, .ref 613, .int (472) 0, .int (0) 0, .ref 620, .int (489) 0, .int (0) 0, .ref 627, .int (495) 0, .int (0) 0, .ref 634, .int (503) 0, .int (0) 0, .ref 641, .int (516) 0, .int (0) 0, .ref 648, .int (521) 0, .int (0) 0, .ref 655, .int (527) 0, .int (0) 0, .ref 662, .int (530) 0, .int (0) 0, .ref 669, .int (539) 0, .int (0) 0, .ref 676, .int (542) 0, .int (0) 0, .ref 683, .int (545) 0, .int (0) 0, .ref 690, .int (548) 0, .int (0) 0, .ref 697, .int (551) 0, .int (0) 0, .ref 704, .int (554) 0, .int (0) 0, .ref 711, .int (558) 0, .int (0) 0, .ref 718, .int (561) 0, .int (0) 0, .ref 725, .int (564) 0, .int (0) 0, .ref 732, .int (567) 0, .int (0) 0, .ref 739, .int (570) 0, .int (0) 0, .ref 746, .int (573) 0, .int (0) 0, .ref 753, .int (576) 0, .int (0) 0, .ref 760, .int (579) 0, .int (0) 0, .ref 767, .int (581) 0, .int (0) 0, .ref 774, .int (584) 0, .int (0) 0, .ref 781, .int (587) 0, .int (0) 0, .ref 788, .int (590) 0, .int (0) 0, .ref 795, .int (593) 0, .int (0) 0, .ref 802, .int (596) 0, .int (0) 0, .ref 809], #[]⟩
noncomputable def o722 : Obj := tO #[.str "m" 1184, .str "ins" 1185]
noncomputable def o724 : Obj := f0 (stA 74) "set_value"
noncomputable def o725 : Obj := cO "set_value" 1181 "set_value" 1182 1183 561 2 0 0 3 720 true 181 721 (.none) (.ref 722) (.ref 723) (.ref 724) 1186 0 561 1187
noncomputable def o726 : Obj := f1 (stA 74) "set_value" (.none) "clausemill.moves" 951 725
noncomputable def o729 : Obj := tO #[.str "m" 1192, .str "ins" 1193]
noncomputable def o731 : Obj := f0 (stA 75) "set_local_value"
noncomputable def o732 : Obj := cO "set_local_value" 1189 "set_local_value" 1190 1191 564 2 0 0 3 727 true 181 728 (.none) (.ref 729) (.ref 730) (.ref 731) 1194 0 564 1195
noncomputable def o733 : Obj := f1 (stA 75) "set_local_value" (.none) "clausemill.moves" 951 732
noncomputable def o736 : Obj := tO #[.str "m" 1200, .str "ins" 1201]
noncomputable def o738 : Obj := f0 (stA 76) "set_constant"
noncomputable def o739 : Obj := cO "set_constant" 1197 "set_constant" 1198 1199 567 2 0 0 3 734 true 181 735 (.none) (.ref 736) (.ref 737) (.ref 738) 1202 0 567 1203
noncomputable def o740 : Obj := f1 (stA 76) "set_constant" (.none) "clausemill.moves" 951 739
noncomputable def o743 : Obj := tO #[.str "m" 1208, .str "ins" 1209]
noncomputable def o745 : Obj := f0 (stA 77) "set_void"
noncomputable def o746 : Obj := cO "set_void" 1205 "set_void" 1206 1207 570 2 0 0 3 741 true 181 742 (.none) (.ref 743) (.ref 744) (.ref 745) 1210 0 570 1211
noncomputable def o747 : Obj := f1 (stA 77) "set_void" (.none) "clausemill.moves" 951 746
noncomputable def o752 : Obj := f0 (stA 78) "move_table"
noncomputable def o753 : Obj := cO "move_table" 1213 "move_table" 1214 1215 573 0 0 0 3 748 true 181 749 (.none) (.ref 750) (.ref 751) (.ref 752) 1216 0 573 1217
noncomputable def o754 : Obj := f1 (stA 78) "move_table" (.none) "clausemill.moves" 951 753
noncomputable def o757 : Obj := tO #[.str "m" 1224, .str "ins" 1225]
noncomputable def o759 : Obj := f0 (stA 80) "do_call"
noncomputable def o760 : Obj := cO "do_call" 1221 "do_call" 1222 1223 576 2 0 0 3 755 true 181 756 (.none) (.ref 757) (.ref 758) (.ref 759) 1226 0 576 1227
noncomputable def o761 : Obj := f1 (stA 80) "do_call" (.none) "clausemill.control" 1219 760
noncomputable def o764 : Obj := tO #[.str "m" 1232, .str "ins" 1233]
noncomputable def o766 : Obj := f0 (stA 81) "do_execute"
noncomputable def o767 : Obj := cO "do_execute" 1229 "do_execute" 1230 1231 579 2 0 0 3 762 true 181 763 (.none) (.ref 764) (.ref 765) (.ref 766) 1234 0 579 1235
noncomputable def o768 : Obj := f1 (stA 81) "do_execute" (.none) "clausemill.control" 1219 767
noncomputable def o771 : Obj := tO #[.str "m" 1240, .str "ins" 1241]
noncomputable def o773 : Obj := f0 (stA 82) "do_proceed"
noncomputable def o774 : Obj := cO "do_proceed" 1237 "do_proceed" 1238 1239 581 2 0 0 3 769 true 181 770 (.none) (.ref 771) (.ref 772) (.ref 773) 1242 0 581 1243
noncomputable def o775 : Obj := f1 (stA 82) "do_proceed" (.none) "clausemill.control" 1219 774
noncomputable def o778 : Obj := tO #[.str "m" 1248, .str "ins" 1249]
noncomputable def o780 : Obj := f0 (stA 83) "do_allocate"
noncomputable def o781 : Obj := cO "do_allocate" 1245 "do_allocate" 1246 1247 584 2 0 0 3 776 true 181 777 (.none) (.ref 778) (.ref 779) (.ref 780) 1250 0 584 1251
noncomputable def o782 : Obj := f1 (stA 83) "do_allocate" (.none) "clausemill.control" 1219 781
noncomputable def o785 : Obj := tO #[.str "m" 1256, .str "ins" 1257]
noncomputable def o787 : Obj := f0 (stA 84) "do_deallocate"
noncomputable def o788 : Obj := cO "do_deallocate" 1253 "do_deallocate" 1254 1255 587 2 0 0 3 783 true 181 784 (.none) (.ref 785) (.ref 786) (.ref 787) 1258 0 587 1259
noncomputable def o789 : Obj := f1 (stA 84) "do_deallocate" (.none) "clausemill.control" 1219 788
noncomputable def o792 : Obj := tO #[.str "m" 1264, .str "ins" 1265]
noncomputable def o794 : Obj := f0 (stA 85) "do_neck_cut"
noncomputable def o795 : Obj := cO "do_neck_cut" 1261 "do_neck_cut" 1262 1263 590 2 0 0 3 790 true 181 791 (.none) (.ref 792) (.ref 793) (.ref 794) 1266 0 590 1267
noncomputable def o796 : Obj := f1 (stA 85) "do_neck_cut" (.none) "clausemill.control" 1219 795
noncomputable def o799 : Obj := tO #[.str "m" 1272, .str "ins" 1273]
noncomputable def o801 : Obj := f0 (stA 86) "do_get_level"
noncomputable def o802 : Obj := cO "do_get_level" 1269 "do_get_level" 1270 1271 593 2 0 0 3 797 true 181 798 (.none) (.ref 799) (.ref 800) (.ref 801) 1274 0 593 1275
noncomputable def o803 : Obj := f1 (stA 86) "do_get_level" (.none) "clausemill.control" 1219 802
noncomputable def o806 : Obj := tO #[.str "m" 1280, .str "ins" 1281]
noncomputable def o808 : Obj := f0 (stA 87) "do_mark"
noncomputable def o809 : Obj := cO "do_mark" 1277 "do_mark" 1278 1279 596 2 0 0 3 804 true 181 805 (.none) (.ref 806) (.ref 807) (.ref 808) 1282 0 596 1283
noncomputable def o810 : Obj := f1 (stA 87) "do_mark" (.none) "clausemill.control" 1219 809
noncomputable def T_11 (P : Params) : BT := insL (setL (T_10 P) [(3, o3_11 P), (12, o12_11)]) 720 [eT, eF, o722, eT, o724, o725, o726, eT, eF, o729, eT, o731, o732, o733, eT, eF, o736, eT, o738, o739, o740, eT, eF, o743, eT, o745, o746, o747, eT, eF, eT, eT, o752, o753, o754, eT, eF, o757, eT, o759, o760, o761, eT, eF, o764, eT, o766, o767, o768, eT, eF, o771, eT, o773, o774, o775, eT, eF, o778, eT, o780, o781, o782, eT, eF, o785, eT, o787, o788, o789, eT, eF, o792, eT, o794, o795, o796, eT, eF, o799, eT, o801, o802, o803, eT, eF, o806, eT, o808, o809, o810]
noncomputable def o3_12 (P : Params) : Obj := ⟨.type "dict", none, .dict #[en P "__name__" 165 (.str "clausemill.emulator" 1359), en P "__doc__" 166 (.none), en P "__package__" 167 (.none), en P "__loader__" 168 (.builtin "__main__.__loader__#opaque"), en P "__spec__" 169 (.none), en P "__annotations__" 170 (.ref 6), en P "__builtins__" 171 (.ref 4), en P "__file__" 173 (.str "/claim/cut.py" 172), en P "__cached__" 174 (.none), en P "_wall" 193 (.ref 21), en P "ClausemillError" 215 (.ref 31), en P "PrologError" 240 (.ref 51), en P "StepLimit" 266 (.ref 71), en P "A_SYSTEM" 268 (.int (25) 267), en P "F_DOT" 270 (.int (0) 269), en P "F_ERROR" 272 (.int (16) 271), en P "HALT_ADDRESS" 274 (.int (1) 273), en P "system_error" 283 (.ref 80), en P "formal_of" 294 (.ref 87), en P "resource_error" 302 (.ref 94), en P "REF" 306 (.int (0) 305), en P "SRF" 308 (.int (1) 307), en P "STR" 310 (.int (2) 309), en P "LIS" 312 (.int (3) 311), en P "CON" 314 (.int (4) 313), en P "INT" 316 (.int (5) 315), en P "FUN" 318 (.int (6) 317), en P "VOID" 320 (.ref 95), en P "Cells" 514 (.ref 239), en P "Store" 574 (.ref 289), en P "PairSet" 616 (.ref 315), en P "push_arguments" 627 (.ref 326), en P "push_pairs" 640 (.ref 333), en P "same_shape" 649 (.ref 340), en P "is_variable" 656 (.ref 347), en P "unify" 670 (.ref 354), en P "unify_unify" 671 (.ref 354), en P "bind_checked" 681 (.ref 361), en P "occurs_in" 692 (.ref 368), en P "reaches" 703 (.ref 375), en P "READ" 707 (.str "read" 706), en P "WRITE" 709 (.str "write" 708), en P "AT_E" 711 (.int (1) 710), en P "AT_CP" 713 (.int (2) 712), en P "AT_PREVIOUS" 715 (.int (3) 714), en P "AT_ALTERNATIVE" 717 (.int (4) 716), en P "AT_TRAIL" 719 (.int (5) 718), en P "AT_HEAP" 721 (.int (6) 720), en P "AT_B0" 723 (.int (7) 722), en P "EXTRA" 725 (.int (8) 724), en P "Areas" 950 (.ref 533), en P "slot_index" 960 (.ref 544), en P "read" 968 (.ref 551), en P "write" 978 (.ref 558), en P "match_constant" 988 (.ref 565), en P "next_argument" 996 (.ref 572), en P "closes_cycle" 1004 (.ref 579), en P "push_local" 1014 (.ref 586), en P "get_variable" 1022 (.ref 593), en P "get_value" 1030 (.ref 600), en P "get_constant" 1038 (.ref 607), en P "get_list" 1049 (.ref 614), en P "get_structure" 1061 (.ref 621), en P "unify_variable" 1069 (.ref 628), en P "unify_value" 1078 (.ref 635), en P "unify_local_value" 1088 (.ref 642), en P "unify_constant" 1096 (.ref 649), en P "unify_void" 1104 (.ref 656), en P "push_variables" 1113 (.ref 663), en P "put_variable" 1123 (.ref 670), en P "put_void" 1131 (.ref 677), en P "put_value" 1139 (.ref 684), en P "put_unsafe_value" 1147 (.ref 691), en P "put_constant" 1155 (.ref 698), en P "put_list" 1163 (.ref 705), en P "put_structure" 1172 (.ref 712), en P "set_variable" 1180 (.ref 719), en P "set_value" 1188 (.ref 726), en P "set_local_value" 1196 (.ref 733), en P "set_constant" 1204 (.ref 740), en P "set_void" 1212 (.ref 747), en P "move_table" 1218 (.ref 754), en P "do_call" 1228 (.ref 761), en P "do_execute" 1236 (.ref 768), en P "do_proceed" 1244 (.ref 775), en P "do_allocate" 1252 (.ref 782), en P "do_deallocate" 1260 (.ref 789), en P "do_neck_cut" 1268 (.ref 796), en P "do_get_level" 1276 (.ref 803), en P "do_mark" 1284 (.ref 810), en P "do_cut_to" 1292 (.ref 817), en P "do_fail" 1300 (.ref 824), en P "do_halt" 1308 (.ref 831), en P "do_try" 1316 (.ref 838), en P "do_retry" 1324 (.ref 845), en P "do_trust" 1332 (.ref 852), en P "do_switch_on_term" 1341 (.ref 859), en P "do_switch_on_constant" 1349 (.ref 866), en P "do_switch_on_structure" 1358 (.ref 873), en P "plain_control_table" 1366 (.ref 880)] 100, #[]⟩
noncomputable def o12_12 : Obj := ⟨.none, none, .fields #[.int (1) 0, .int (0) 0, .ref 20, .int (5) 0, .int (0) 0, .ref 27, .int (7) 0, .int (0) 0, .ref 40, .int (11) 0, .int (0) 0, .ref 59, .int (20) 0, .int (0) 0, .ref 79, .int (22) 0, .int (0) 0, .ref 86, .int (27) 0, .int (0) 0, .ref 93, .int (38) 0, .int (0) 0, .ref 101, .int (167) 0, .int (0) 0, .ref 249, .int (184) 0, .int (0) 0, .ref 297, .int (196) 0, .int (0) 0, .ref 325, .int (200) 0, .int (0) 0, .ref 332, .int (205) 0, .int (0) 0, .ref 339, .int (211) 0, .int (0) 0, .ref 346, .int (213) 0, .int (0) 0, .ref 353, .int (237) 0, .int (0) 0, .ref 360, .int (242) 0, .int (0) 0, .ref 367, .int (258) 0, .int (0) 0, .ref 374, .int (282) 0, .int (0) 0, .ref 381, .int (413) 0, .int (0) 0, .ref 543, .int (415) 0, .int (0) 0, .ref 550, .int (419) 0, .int (0) 0, .ref 557, .int (427) 0, .int (0) 0, .ref 564, .int (433) 0, .int (0) 0, .ref 571, .int (437) 0, .int (0) 0, .ref 578, .int (441) 0, .int (0) 0, .ref 585, .int (451) 0, .int (0) 0, .ref 592, .int (454) 0, .int (0) 0, .ref 599, .int (456) 0, .int (0) 0, .ref 606, .int (458) 0, .int (0) 0, .ref 613, .int (472) 0, .int (0) 0, .ref 620, .int (489) 0, .int (0) 0, .ref 627, .int (495) 0, .int (0) 0, .ref 634, .int (503) 0, .int (0) 0, .ref 641, .int (516) 0, .int (0) 0, .ref 648, .int (521) 0, .int (0) 0, .ref 655, .int (527) 0, .int (0) 0, .ref 662, .int (530) 0, .int (0) 0, .ref 669, .int (539) 0, .int (0) 0, .ref 676, .int (542) 0, .int (0) 0, .ref 683, .int (545) 0, .int (0) 0, .ref 690, .int (548) 0, .int (0) 0, .ref 697, .int (551) 0, .int (0) 0, .ref 704, .int (554) 0, .int (0) 0, .ref 711, .int (558) 0, .int (0) 0, .ref 718, .int (561) 0, .int (0) 0, .ref 725, .int (564) 0, .int (0) 0, .ref 732, .int (567) 0, .int (0) 0, .ref 739, .int (570) 0, .int (0) 0, .ref 746, .int (573) 0, .int (0) 0, .ref 753, .int (576) 0, .int (0) 0, .ref 760, .int (579) 0, .int (0) 0, .ref 767, .int (581) 0, .int (0) 0, .ref 774, .int (584) 0, .int (0) 0, .ref 781, .int (587) 0, .int (0) 0, .ref 788, .int (590) 0, .int (0) 0, .ref 795, .int (593) 0, .int (0) 0, .ref 802, .int (596) 0, .int (0) 0, .ref 809, .int (599) 0, .int (0) 0, .ref 816, .int (602) 0, .int (0) 0, .ref 823, .int (604) 0, .int (0) 0, .ref 830, .int (607) 0, .int (0) 0, .ref 837, .int (611) 0, .int (0) 0, .ref 844, .int (616) 0, .int (0) 0, .ref 851, .int (621) 0, .int (0) 0, .ref 858, .int (632) 0, .int (0) 0, .ref 865, .int (635) 0, .int (0) 0, .ref 872, .int (640) 0, .int (0) 0, .ref 879], #[]⟩
noncomputable def o813 : Obj := tO #[.str "m" 1288, .str "ins" 1289]
noncomputable def o815 : Obj := f0 (stA 88) "do_cut_to"
noncomputable def o816 : Obj := cO "do_cut_to" 1285 "do_cut_to" 1286 1287 599 2 0 0 3 811 true 181 812 (.none) (.ref 813) (.ref 814) (.ref 815) 1290 0 599 1291
noncomputable def o817 : Obj := f1 (stA 88) "do_cut_to" (.none) "clausemill.control" 1219 816
noncomputable def o820 : Obj := tO #[.str "m" 1296, .str "ins" 1297]
noncomputable def o822 : Obj := f0 (stA 89) "do_fail"
noncomputable def o823 : Obj := cO "do_fail" 1293 "do_fail" 1294 1295 602 2 0 0 3 818 true 181 819 (.none) (.ref 820) (.ref 821) (.ref 822) 1298 0 602 1299
noncomputable def o824 : Obj := f1 (stA 89) "do_fail" (.none) "clausemill.control" 1219 823
noncomputable def o827 : Obj := tO #[.str "m" 1304, .str "ins" 1305]
noncomputable def o829 : Obj := f0 (stA 90) "do_halt"
noncomputable def o830 : Obj := cO "do_halt" 1301 "do_halt" 1302 1303 604 2 0 0 3 825 true 181 826 (.none) (.ref 827) (.ref 828) (.ref 829) 1306 0 604 1307
noncomputable def o831 : Obj := f1 (stA 90) "do_halt" (.none) "clausemill.control" 1219 830
noncomputable def o834 : Obj := tO #[.str "m" 1312, .str "ins" 1313]
noncomputable def o836 : Obj := f0 (stA 91) "do_try"
noncomputable def o837 : Obj := cO "do_try" 1309 "do_try" 1310 1311 607 2 0 0 3 832 true 181 833 (.none) (.ref 834) (.ref 835) (.ref 836) 1314 0 607 1315
noncomputable def o838 : Obj := f1 (stA 91) "do_try" (.none) "clausemill.control" 1219 837
noncomputable def o841 : Obj := tO #[.str "m" 1320, .str "ins" 1321]
noncomputable def o843 : Obj := f0 (stA 92) "do_retry"
noncomputable def o844 : Obj := cO "do_retry" 1317 "do_retry" 1318 1319 611 2 0 0 3 839 true 181 840 (.none) (.ref 841) (.ref 842) (.ref 843) 1322 0 611 1323
noncomputable def o845 : Obj := f1 (stA 92) "do_retry" (.none) "clausemill.control" 1219 844
noncomputable def o848 : Obj := tO #[.str "m" 1328, .str "ins" 1329]
noncomputable def o850 : Obj := f0 (stA 93) "do_trust"
noncomputable def o851 : Obj := cO "do_trust" 1325 "do_trust" 1326 1327 616 2 0 0 3 846 true 181 847 (.none) (.ref 848) (.ref 849) (.ref 850) 1330 0 616 1331
noncomputable def o852 : Obj := f1 (stA 93) "do_trust" (.none) "clausemill.control" 1219 851
noncomputable def o855 : Obj := tO #[.str "m" 1336, .str "ins" 1337, .str "tag" 1338]
noncomputable def o857 : Obj := f0 (stA 94) "do_switch_on_term"
noncomputable def o858 : Obj := cO "do_switch_on_term" 1333 "do_switch_on_term" 1334 1335 621 2 0 0 3 853 true 181 854 (.none) (.ref 855) (.ref 856) (.ref 857) 1339 0 621 1340
noncomputable def o859 : Obj := f1 (stA 94) "do_switch_on_term" (.none) "clausemill.control" 1219 858
noncomputable def o862 : Obj := tO #[.str "m" 1345, .str "ins" 1346]
noncomputable def o864 : Obj := f0 (stA 95) "do_switch_on_constant"
noncomputable def o865 : Obj := cO "do_switch_on_constant" 1342 "do_switch_on_constant" 1343 1344 632 2 0 0 3 860 true 181 861 (.none) (.ref 862) (.ref 863) (.ref 864) 1347 0 632 1348
noncomputable def o866 : Obj := f1 (stA 95) "do_switch_on_constant" (.none) "clausemill.control" 1219 865
noncomputable def o869 : Obj := tO #[.str "m" 1353, .str "ins" 1354, .str "f" 1355]
noncomputable def o871 : Obj := f0 (stA 96) "do_switch_on_structure"
noncomputable def o872 : Obj := cO "do_switch_on_structure" 1350 "do_switch_on_structure" 1351 1352 635 2 0 0 3 867 true 181 868 (.none) (.ref 869) (.ref 870) (.ref 871) 1356 0 635 1357
noncomputable def o873 : Obj := f1 (stA 96) "do_switch_on_structure" (.none) "clausemill.control" 1219 872
noncomputable def o878 : Obj := f0 (stA 98) "plain_control_table"
noncomputable def o879 : Obj := cO "plain_control_table" 1361 "plain_control_table" 1362 1363 640 0 0 0 3 874 true 181 875 (.none) (.ref 876) (.ref 877) (.ref 878) 1364 0 640 1365
noncomputable def o880 : Obj := f1 (stA 98) "plain_control_table" (.none) "clausemill.emulator" 1359 879
noncomputable def T_12 (P : Params) : BT := insL (setL (T_11 P) [(3, o3_12 P), (12, o12_12)]) 811 [eT, eF, o813, eT, o815, o816, o817, eT, eF, o820, eT, o822, o823, o824, eT, eF, o827, eT, o829, o830, o831, eT, eF, o834, eT, o836, o837, o838, eT, eF, o841, eT, o843, o844, o845, eT, eF, o848, eT, o850, o851, o852, eT, eF, o855, eT, o857, o858, o859, eT, eF, o862, eT, o864, o865, o866, eT, eF, o869, eT, o871, o872, o873, eT, eF, eT, eT, o878, o879, o880]
noncomputable def o3_13 (P : Params) : Obj := ⟨.type "dict", none, .dict #[en P "__name__" 165 (.str "clausemill.emulator" 1359), en P "__doc__" 166 (.none), en P "__package__" 167 (.none), en P "__loader__" 168 (.builtin "__main__.__loader__#opaque"), en P "__spec__" 169 (.none), en P "__annotations__" 170 (.ref 6), en P "__builtins__" 171 (.ref 4), en P "__file__" 173 (.str "/claim/cut.py" 172), en P "__cached__" 174 (.none), en P "_wall" 193 (.ref 21), en P "ClausemillError" 215 (.ref 31), en P "PrologError" 240 (.ref 51), en P "StepLimit" 266 (.ref 71), en P "A_SYSTEM" 268 (.int (25) 267), en P "F_DOT" 270 (.int (0) 269), en P "F_ERROR" 272 (.int (16) 271), en P "HALT_ADDRESS" 274 (.int (1) 273), en P "system_error" 283 (.ref 80), en P "formal_of" 294 (.ref 87), en P "resource_error" 302 (.ref 94), en P "REF" 306 (.int (0) 305), en P "SRF" 308 (.int (1) 307), en P "STR" 310 (.int (2) 309), en P "LIS" 312 (.int (3) 311), en P "CON" 314 (.int (4) 313), en P "INT" 316 (.int (5) 315), en P "FUN" 318 (.int (6) 317), en P "VOID" 320 (.ref 95), en P "Cells" 514 (.ref 239), en P "Store" 574 (.ref 289), en P "PairSet" 616 (.ref 315), en P "push_arguments" 627 (.ref 326), en P "push_pairs" 640 (.ref 333), en P "same_shape" 649 (.ref 340), en P "is_variable" 656 (.ref 347), en P "unify" 670 (.ref 354), en P "unify_unify" 671 (.ref 354), en P "bind_checked" 681 (.ref 361), en P "occurs_in" 692 (.ref 368), en P "reaches" 703 (.ref 375), en P "READ" 707 (.str "read" 706), en P "WRITE" 709 (.str "write" 708), en P "AT_E" 711 (.int (1) 710), en P "AT_CP" 713 (.int (2) 712), en P "AT_PREVIOUS" 715 (.int (3) 714), en P "AT_ALTERNATIVE" 717 (.int (4) 716), en P "AT_TRAIL" 719 (.int (5) 718), en P "AT_HEAP" 721 (.int (6) 720), en P "AT_B0" 723 (.int (7) 722), en P "EXTRA" 725 (.int (8) 724), en P "Areas" 950 (.ref 533), en P "slot_index" 960 (.ref 544), en P "read" 968 (.ref 551), en P "write" 978 (.ref 558), en P "match_constant" 988 (.ref 565), en P "next_argument" 996 (.ref 572), en P "closes_cycle" 1004 (.ref 579), en P "push_local" 1014 (.ref 586), en P "get_variable" 1022 (.ref 593), en P "get_value" 1030 (.ref 600), en P "get_constant" 1038 (.ref 607), en P "get_list" 1049 (.ref 614), en P "get_structure" 1061 (.ref 621), en P "unify_variable" 1069 (.ref 628), en P "unify_value" 1078 (.ref 635), en P "unify_local_value" 1088 (.ref 642), en P "unify_constant" 1096 (.ref 649), en P "unify_void" 1104 (.ref 656), en P "push_variables" 1113 (.ref 663), en P "put_variable" 1123 (.ref 670), en P "put_void" 1131 (.ref 677), en P "put_value" 1139 (.ref 684), en P "put_unsafe_value" 1147 (.ref 691), en P "put_constant" 1155 (.ref 698), en P "put_list" 1163 (.ref 705), en P "put_structure" 1172 (.ref 712), en P "set_variable" 1180 (.ref 719), en P "set_value" 1188 (.ref 726), en P "set_local_value" 1196 (.ref 733), en P "set_constant" 1204 (.ref 740), en P "set_void" 1212 (.ref 747), en P "move_table" 1218 (.ref 754), en P "do_call" 1228 (.ref 761), en P "do_execute" 1236 (.ref 768), en P "do_proceed" 1244 (.ref 775), en P "do_allocate" 1252 (.ref 782), en P "do_deallocate" 1260 (.ref 789), en P "do_neck_cut" 1268 (.ref 796), en P "do_get_level" 1276 (.ref 803), en P "do_mark" 1284 (.ref 810), en P "do_cut_to" 1292 (.ref 817), en P "do_fail" 1300 (.ref 824), en P "do_halt" 1308 (.ref 831), en P "do_try" 1316 (.ref 838), en P "do_retry" 1324 (.ref 845), en P "do_trust" 1332 (.ref 852), en P "do_switch_on_term" 1341 (.ref 859), en P "do_switch_on_constant" 1349 (.ref 866), en P "do_switch_on_structure" 1358 (.ref 873), en P "plain_control_table" 1366 (.ref 880), en P "Emulator" 1464 (.ref 947)] 101, #[]⟩
noncomputable def o12_13 : Obj := ⟨.none, none, .fields #[.int (1) 0, .int (0) 0, .ref 20, .int (5) 0, .int (0) 0, .ref 27, .int (7) 0, .int (0) 0, .ref 40, .int (11) 0, .int (0) 0, .ref 59, .int (20) 0, .int (0) 0, .ref 79, .int (22) 0, .int (0) 0, .ref 86, .int (27) 0, .int (0) 0, .ref 93, .int (38) 0, .int (0) 0, .ref 101, .int (167) 0, .int (0) 0, .ref 249, .int (184) 0, .int (0) 0, .ref 297, .int (196) 0, .int (0) 0, .ref 325, .int (200) 0, .int (0) 0, .ref 332, .int (205) 0, .int (0) 0, .ref 339, .int (211) 0, .int (0) 0, .ref 346, .int (213) 0, .int (0) 0, .ref 353, .int (237) 0, .int (0) 0, .ref 360, .int (242) 0, .int (0) 0, .ref 367, .int (258) 0, .int (0) 0, .ref 374, .int (282) 0, .int (0) 0, .ref 381, .int (413) 0, .int (0) 0, .ref 543, .int (415) 0, .int (0) 0, .ref 550, .int (419) 0, .int (0) 0, .ref 557, .int (427) 0, .int (0) 0, .ref 564, .int (433) 0, .int (0) 0, .ref 571, .int (437) 0, .int (0) 0, .ref 578, .int (441) 0, .int (0) 0, .ref 585, .int (451) 0, .int (0) 0, .ref 592, .int (454) 0, .int (0) 0, .ref 599, .int (456) 0, .int (0) 0, .ref 606, .int (458) 0, .int (0) 0, .ref 613, .int (472) 0, .int (0) 0, .ref 620, .int (489) 0, .int (0) 0, .ref 627, .int (495) 0, .int (0) 0, .ref 634, .int (503) 0, .int (0) 0, .ref 641, .int (516) 0, .int (0) 0, .ref 648, .int (521) 0, .int (0) 0, .ref 655, .int (527) 0, .int (0) 0, .ref 662, .int (530) 0, .int (0) 0, .ref 669, .int (539) 0, .int (0) 0, .ref 676, .int (542) 0, .int (0) 0, .ref 683, .int (545) 0, .int (0) 0, .ref 690, .int (548) 0, .int (0) 0, .ref 697, .int (551) 0, .int (0) 0, .ref 704, .int (554) 0, .int (0) 0, .ref 711, .int (558) 0, .int (0) 0, .ref 718, .int (561) 0, .int (0) 0, .ref 725, .int (564) 0, .int (0) 0, .ref 732, .int (567) 0, .int (0) 0, .ref 739, .int (570) 0, .int (0) 0, .ref 746, .int (573) 0, .int (0) 0, .ref 753, .int (576) 0, .int (0) 0, .ref 760, .int (579) 0, .int (0) 0, .ref 767, .int (581) 0, .int (0) 0, .ref 774, .int (584) 0, .int (0) 0, .ref 781, .int (587) 0, .int (0) 0, .ref 788, .int (590) 0, .int (0) 0, .ref 795, .int (593) 0, .int (0) 0, .ref 802, .int (596) 0, .int (0) 0, .ref 809, .int (599) 0, .int (0) 0, .ref 816, .int (602) 0, .int (0) 0, .ref 823, .int (604) 0, .int (0) 0, .ref 830, .int (607) 0, .int (0) 0, .ref 837, .int (611) 0, .int (0) 0, .ref 844, .int (616) 0, .int (0) 0, .ref 851, .int (621) 0, .int (0) 0, .ref 858, .int (632) 0, .int (0) 0, .ref 865, .int (635) 0, .int (0) 0, .ref 872, .int (640) 0, .int (0) 0, .ref 879, .int (642) 0, .int (0) 0, .ref 886], #[]⟩
noncomputable def o533_13 : Obj := ⟨.type "type", none, .cls { name := "Areas", bases := [.type "object"], mro := [.ref 533, .type "object"], ns := 532, qualname := "Areas", hasDict := true, slotNames := [], subclasses := [.ref 947], abstract := false, collection := none, hasDel := false }, #[none, none, (some (.str "Areas" 726)), (some (.str "Areas" 734)), (some (.builtin "object.__new__")), (some (.bool true))]⟩
noncomputable def o881 : Obj := tO #[.ref 533]
noncomputable def o883 (P : Params) : Obj := ⟨.type "dict", none, .dict #[en P "__module__" 1374 (.str "clausemill.emulator" 1359), en P "__qualname__" 1376 (.str "Emulator" 1375), en P "__firstlineno__" 1378 (.int (642) 1377), en P "__init__" 1397 (.ref 895), en P "clear" 1404 (.ref 902), en P "backtrack" 1411 (.ref 909), en P "enter" 1420 (.ref 916), en P "start_at" 1429 (.ref 923), en P "step" 1437 (.ref 930), en P "run" 1444 (.ref 937), en P "redo" 1451 (.ref 944), en P "__static_attributes__" 1461 (.ref 945)] 12, #[]⟩
noncomputable def o885 : Obj := ⟨.none, none, .fields #[.int (644) 0, .int (4) 0, .ref 894, .int (654) 0, .int (4) 0, .ref 901, .int (662) 0, .int (4) 0, .ref 908, .int (670) 0, .int (4) 0, .ref 915, .int (678) 0, .int (4) 0, .ref 922, .int (686) 0, .int (4) 0, .ref 929, .int (695) 0, .int (4) 0, .ref 936, .int (700) 0, .int (4) 0, .ref 943], #[]⟩
noncomputable def o886 : Obj := cO "Emulator" 1369 "Emulator" 1370 1371 642 0 0 0 0 884 false 181 885 (.none) (.none) (.none) (.none) 1372 0 642 1373
noncomputable def o887 : Obj := ⟨.type "frame", none, .plain, #[(some (.ref 886)), (some (.ref 3)), (some (.ref 883)), none, (some (.str "clausemill.emulator" 1359)), none, (some (.ref 0))]⟩
noncomputable def o888 : Obj := tO #[.int (100000) 1379, .int (100000) 1380, .bool true, .int (4096) 1381]
noncomputable def o891 : Obj := tO #[.str "self" 1385, .str "symbols" 1386, .str "code" 1387, .str "entries" 1388, .str "max_steps" 1389, .str "max_heap" 1390, .str "occurs" 1391, .str "max_bits" 1392, .str "control" 1393, .str "name" 1394]
noncomputable def o893 : Obj := f0 (stB 99 0) "Emulator.__init__"
noncomputable def o894 : Obj := cO "__init__" 1382 "Emulator.__init__" 1383 1384 644 8 0 0 3 889 true 181 890 (.none) (.ref 891) (.ref 892) (.ref 893) 1395 0 644 1396
noncomputable def o895 : Obj := f1 (stB 99 0) "Emulator.__init__" (.ref 888) "clausemill.emulator" 1359 894
noncomputable def o898 : Obj := tO #[.str "self" 1401]
noncomputable def o900 : Obj := f0 (stB 99 1) "Emulator.clear"
noncomputable def o901 : Obj := cO "clear" 1398 "Emulator.clear" 1399 1400 654 1 0 0 3 896 true 181 897 (.none) (.ref 898) (.ref 899) (.ref 900) 1402 0 654 1403
noncomputable def o902 : Obj := f1 (stB 99 1) "Emulator.clear" (.none) "clausemill.emulator" 1359 901
noncomputable def o905 : Obj := tO #[.str "self" 1408]
noncomputable def o907 : Obj := f0 (stB 99 2) "Emulator.backtrack"
noncomputable def o908 : Obj := cO "backtrack" 1405 "Emulator.backtrack" 1406 1407 662 1 0 0 3 903 true 181 904 (.none) (.ref 905) (.ref 906) (.ref 907) 1409 0 662 1410
noncomputable def o909 : Obj := f1 (stB 99 2) "Emulator.backtrack" (.none) "clausemill.emulator" 1359 908
noncomputable def o912 : Obj := tO #[.str "self" 1415, .str "f" 1416, .str "entry" 1417]
noncomputable def o914 : Obj := f0 (stB 99 3) "Emulator.enter"
noncomputable def o915 : Obj := cO "enter" 1412 "Emulator.enter" 1413 1414 670 2 0 0 3 910 true 181 911 (.none) (.ref 912) (.ref 913) (.ref 914) 1418 0 670 1419
noncomputable def o916 : Obj := f1 (stB 99 3) "Emulator.enter" (.none) "clausemill.emulator" 1359 915
noncomputable def o919 : Obj := tO #[.str "self" 1424, .str "f" 1425, .str "cells" 1426]
noncomputable def o921 : Obj := f0 (stB 99 4) "Emulator.start_at"
noncomputable def o922 : Obj := cO "start_at" 1421 "Emulator.start_at" 1422 1423 678 3 0 0 3 917 true 181 918 (.none) (.ref 919) (.ref 920) (.ref 921) 1427 0 678 1428
noncomputable def o923 : Obj := f1 (stB 99 4) "Emulator.start_at" (.none) "clausemill.emulator" 1359 922
noncomputable def o926 : Obj := tO #[.str "self" 1433, .str "instruction" 1434]
noncomputable def o928 : Obj := f0 (stB 99 5) "Emulator.step"
noncomputable def o929 : Obj := cO "step" 1430 "Emulator.step" 1431 1432 686 1 0 0 3 924 true 181 925 (.none) (.ref 926) (.ref 927) (.ref 928) 1435 0 686 1436
noncomputable def o930 : Obj := f1 (stB 99 5) "Emulator.step" (.none) "clausemill.emulator" 1359 929
noncomputable def o933 : Obj := tO #[.str "self" 1441]
noncomputable def o935 : Obj := f0 (stB 99 6) "Emulator.run"
noncomputable def o936 : Obj := cO "run" 1438 "Emulator.run" 1439 1440 695 1 0 0 3 931 true 181 932 (.none) (.ref 933) (.ref 934) (.ref 935) 1442 0 695 1443
noncomputable def o937 : Obj := f1 (stB 99 6) "Emulator.run" (.none) "clausemill.emulator" 1359 936
noncomputable def o940 : Obj := tO #[.str "self" 1448]
noncomputable def o942 : Obj := f0 (stB 99 7) "Emulator.redo"
noncomputable def o943 : Obj := cO "redo" 1445 "Emulator.redo" 1446 1447 700 1 0 0 3 938 true 181 939 (.none) (.ref 940) (.ref 941) (.ref 942) 1449 0 700 1450
noncomputable def o944 : Obj := f1 (stB 99 7) "Emulator.redo" (.none) "clausemill.emulator" 1359 943
noncomputable def o945 : Obj := tO #[.str "b0" 1452, .str "cp" 1453, .str "entries" 1454, .str "failed" 1455, .str "halted" 1456, .str "max_steps" 1457, .str "p" 1458, .str "steps" 1459, .str "table" 1460]
noncomputable def o946 (P : Params) : Obj := ⟨.type "dict", none, .dict #[en P "__module__" 1374 (.str "clausemill.emulator" 1359), en P "__firstlineno__" 1378 (.int (642) 1377), en P "__init__" 1397 (.ref 895), en P "clear" 1404 (.ref 902), en P "backtrack" 1411 (.ref 909), en P "enter" 1420 (.ref 916), en P "start_at" 1429 (.ref 923), en P "step" 1437 (.ref 930), en P "run" 1444 (.ref 937), en P "redo" 1451 (.ref 944), en P "__static_attributes__" 1461 (.ref 945), en P "__doc__" 1462 (.none)] 2, #[]⟩
noncomputable def o947 : Obj := ⟨.type "type", none, .cls { name := "Emulator", bases := [.ref 533], mro := [.ref 947, .ref 533, .type "object"], ns := 946, qualname := "Emulator", hasDict := true, slotNames := [], subclasses := [], abstract := false, collection := none, hasDel := false }, #[(some (.ref 881)), none, (some (.str "Emulator" 1367)), (some (.str "Emulator" 1375)), (some (.builtin "object.__new__")), (some (.bool true))]⟩
noncomputable def o948 : Obj := ⟨.type "super", none, .fields #[.ref 947, .ref 947, .ref 947], #[]⟩
noncomputable def o949 : Obj := ⟨.type "builtin_function_or_method", none, .fields #[.builtin "object.__init_subclass__", .ref 947], #[]⟩
noncomputable def T_13 (P : Params) : BT := insL (setL (T_12 P) [(3, o3_13 P), (12, o12_13), (533, o533_13)]) 881 [o881, eP, o883 P, eT, o885, o886, o887, o888, eT, eF, o891, eT, o893, o894, o895, eT, eF, o898, eT, o900, o901, o902, eT, eF, o905, eT, o907, o908, o909, eT, eF, o912, eT, o914, o915, o916, eT, eF, o919, eT, o921, o922, o923, eT, eF, o926, eT, o928, o929, o930, eT, eF, o933, eT, o935, o936, o937, eT, eF, o940, eT, o942, o943, o944, o945, o946 P, o947, o948, o949]
noncomputable def o3_14 (P : Params) : Obj := ⟨.type "dict", none, .dict #[en P "__name__" 165 (.str "law_ok0031_02" 1465), en P "__doc__" 166 (.none), en P "__package__" 167 (.none), en P "__loader__" 168 (.builtin "__main__.__loader__#opaque"), en P "__spec__" 169 (.none), en P "__annotations__" 170 (.ref 6), en P "__builtins__" 171 (.ref 4), en P "__file__" 173 (.str "/claim/cut.py" 172), en P "__cached__" 174 (.none), en P "_wall" 193 (.ref 21), en P "ClausemillError" 215 (.ref 31), en P "PrologError" 240 (.ref 51), en P "StepLimit" 266 (.ref 71), en P "A_SYSTEM" 268 (.int (25) 267), en P "F_DOT" 270 (.int (0) 269), en P "F_ERROR" 272 (.int (16) 271), en P "HALT_ADDRESS" 274 (.int (1) 273), en P "system_error" 283 (.ref 80), en P "formal_of" 294 (.ref 87), en P "resource_error" 302 (.ref 94), en P "REF" 306 (.int (0) 305), en P "SRF" 308 (.int (1) 307), en P "STR" 310 (.int (2) 309), en P "LIS" 312 (.int (3) 311), en P "CON" 314 (.int (4) 313), en P "INT" 316 (.int (5) 315), en P "FUN" 318 (.int (6) 317), en P "VOID" 320 (.ref 95), en P "Cells" 514 (.ref 239), en P "Store" 574 (.ref 289), en P "PairSet" 616 (.ref 315), en P "push_arguments" 627 (.ref 326), en P "push_pairs" 640 (.ref 333), en P "same_shape" 649 (.ref 340), en P "is_variable" 656 (.ref 347), en P "unify" 670 (.ref 354), en P "unify_unify" 671 (.ref 354), en P "bind_checked" 681 (.ref 361), en P "occurs_in" 692 (.ref 368), en P "reaches" 703 (.ref 375), en P "READ" 707 (.str "read" 706), en P "WRITE" 709 (.str "write" 708), en P "AT_E" 711 (.int (1) 710), en P "AT_CP" 713 (.int (2) 712), en P "AT_PREVIOUS" 715 (.int (3) 714), en P "AT_ALTERNATIVE" 717 (.int (4) 716), en P "AT_TRAIL" 719 (.int (5) 718), en P "AT_HEAP" 721 (.int (6) 720), en P "AT_B0" 723 (.int (7) 722), en P "EXTRA" 725 (.int (8) 724), en P "Areas" 950 (.ref 533), en P "slot_index" 960 (.ref 544), en P "read" 968 (.ref 551), en P "write" 978 (.ref 558), en P "match_constant" 988 (.ref 565), en P "next_argument" 996 (.ref 572), en P "closes_cycle" 1004 (.ref 579), en P "push_local" 1014 (.ref 586), en P "get_variable" 1022 (.ref 593), en P "get_value" 1030 (.ref 600), en P "get_constant" 1038 (.ref 607), en P "get_list" 1049 (.ref 614), en P "get_structure" 1061 (.ref 621), en P "unify_variable" 1069 (.ref 628), en P "unify_value" 1078 (.ref 635), en P "unify_local_value" 1088 (.ref 642), en P "unify_constant" 1096 (.ref 649), en P "unify_void" 1104 (.ref 656), en P "push_variables" 1113 (.ref 663), en P "put_variable" 1123 (.ref 670), en P "put_void" 1131 (.ref 677), en P "put_value" 1139 (.ref 684), en P "put_unsafe_value" 1147 (.ref 691), en P "put_constant" 1155 (.ref 698), en P "put_list" 1163 (.ref 705), en P "put_structure" 1172 (.ref 712), en P "set_variable" 1180 (.ref 719), en P "set_value" 1188 (.ref 726), en P "set_local_value" 1196 (.ref 733), en P "set_constant" 1204 (.ref 740), en P "set_void" 1212 (.ref 747), en P "move_table" 1218 (.ref 754), en P "do_call" 1228 (.ref 761), en P "do_execute" 1236 (.ref 768), en P "do_proceed" 1244 (.ref 775), en P "do_allocate" 1252 (.ref 782), en P "do_deallocate" 1260 (.ref 789), en P "do_neck_cut" 1268 (.ref 796), en P "do_get_level" 1276 (.ref 803), en P "do_mark" 1284 (.ref 810), en P "do_cut_to" 1292 (.ref 817), en P "do_fail" 1300 (.ref 824), en P "do_halt" 1308 (.ref 831), en P "do_try" 1316 (.ref 838), en P "do_retry" 1324 (.ref 845), en P "do_trust" 1332 (.ref 852), en P "do_switch_on_term" 1341 (.ref 859), en P "do_switch_on_constant" 1349 (.ref 866), en P "do_switch_on_structure" 1358 (.ref 873), en P "plain_control_table" 1366 (.ref 880), en P "Emulator" 1464 (.ref 947), en P "_law_take" 1476 (.ref 956), en P "law" 1501 (.ref 963)] 103, #[]⟩
noncomputable def o12_14 : Obj := ⟨.none, none, .fields #[.int (1) 0, .int (0) 0, .ref 20, .int (5) 0, .int (0) 0, .ref 27, .int (7) 0, .int (0) 0, .ref 40, .int (11) 0, .int (0) 0, .ref 59, .int (20) 0, .int (0) 0, .ref 79, .int (22) 0, .int (0) 0, .ref 86, .int (27) 0, .int (0) 0, .ref 93, .int (38) 0, .int (0) 0, .ref 101, .int (167) 0, .int (0) 0, .ref 249, .int (184) 0, .int (0) 0, .ref 297, .int (196) 0, .int (0) 0, .ref 325, .int (200) 0, .int (0) 0, .ref 332, .int (205) 0, .int (0) 0, .ref 339, .int (211) 0, .int (0) 0, .ref 346, .int (213) 0, .int (0) 0, .ref 353, .int (237) 0, .int (0) 0, .ref 360, .int (242) 0, .int (0) 0, .ref 367, .int (258) 0, .int (0) 0, .ref 374, .int (282) 0, .int (0) 0, .ref 381, .int (413) 0, .int (0) 0, .ref 543, .int (415) 0, .int (0) 0, .ref 550, .int (419) 0, .int (0) 0, .ref 557, .int (427) 0, .int (0) 0, .ref 564, .int (433) 0, .int (0) 0, .ref 571, .int (437) 0, .int (0) 0, .ref 578, .int (441) 0, .int (0) 0, .ref 585, .int (451) 0, .int (0) 0, .ref 592, .int (454) 0, .int (0) 0, .ref 599, .int (456) 0, .int (0) 0, .ref 606, .int (458) 0, .int (0) 0, .ref 613, .int (472) 0, .int (0) 0, .ref 620, .int (489) 0, .int (0) 0, .ref 627, .int (495) 0, .int (0) 0, .ref 634, .int (503) 0, .int (0) 0, .ref 641, .int (516) 0, .int (0) 0, .ref 648, .int (521) 0, .int (0) 0, .ref 655, .int (527) 0, .int (0) 0, .ref 662, .int (530) 0, .int (0) 0, .ref 669, .int (539) 0, .int (0) 0, .ref 676, .int (542) 0, .int (0) 0, .ref 683, .int (545) 0, .int (0) 0, .ref 690, .int (548) 0, .int (0) 0, .ref 697, .int (551) 0, .int (0) 0, .ref 704, .int (554) 0, .int (0) 0, .ref 711, .int (558) 0, .int (0) 0, .ref 718, .int (561) 0, .int (0) 0, .ref 725, .int (564) 0, .int (0) 0, .ref 732, .int (567) 0, .int (0) 0, .ref 739, .int (570) 0, .int (0) 0, .ref 746, .int (573) 0, .int (0) 0, .ref 753, .int (576) 0, .int (0) 0, .ref 760, .int (579) 0, .int (0) 0, .ref 767, .int (581) 0, .int (0) 0, .ref 774, .int (584) 0, .int (0) 0, .ref 781, .int (587) 0, .int (0) 0, .ref 788, .int (590) 0, .int (0) 0, .ref 795, .int (593) 0, .int (0) 0, .ref 802, .int (596) 0, .int (0) 0, .ref 809, .int (599) 0, .int (0) 0, .ref 816, .int (602) 0, .int (0) 0, .ref 823, .int (604) 0, .int (0) 0, .ref 830, .int (607) 0, .int (0) 0, .ref 837, .int (611) 0, .int (0) 0, .ref 844, .int (616) 0, .int (0) 0, .ref 851, .int (621) 0, .int (0) 0, .ref 858, .int (632) 0, .int (0) 0, .ref 865, .int (635) 0, .int (0) 0, .ref 872, .int (640) 0, .int (0) 0, .ref 879, .int (642) 0, .int (0) 0, .ref 886, .int (707) 0, .int (0) 0, .ref 955, .int (713) 0, .int (0) 0, .ref 962], #[]⟩
noncomputable def o952 : Obj := tO #[.str "state" 1470, .str "most" 1471, .str "row" 1472, .str "at" 1473]
noncomputable def o954 : Obj := f0 (stA 101) "_law_take"
noncomputable def o955 : Obj := cO "_law_take" 1467 "_law_take" 1468 1469 707 2 0 0 3 950 true 181 951 (.none) (.ref 952) (.ref 953) (.ref 954) 1474 0 707 1475
noncomputable def o956 : Obj := f1 (stA 101) "_law_take" (.none) "law_ok0031_02" 1465 955
noncomputable def o959 : Obj := tO #[.str "script" 1480, .str "state" 1481, .str "code" 1482, .str "turn" 1483, .str "door" 1484, .str "base" 1485, .str "by_constant" 1486, .str "told_constant" 1487, .str "cell" 1488, .str "by_functor" 1489, .str "told_functor" 1490, .str "sort" 1491, .str "figure" 1492, .str "m" 1493, .str "kind" 1494, .str "due" 1495, .str "step" 1496, .str "outer" 1497, .str "answer" 1498]
noncomputable def o961 : Obj := f0 (stA 102) "law"
noncomputable def o962 : Obj := cO "law" 1477 "law" 1478 1479 713 1 0 0 3 957 true 181 958 (.none) (.ref 959) (.ref 960) (.ref 961) 1499 0 713 1500
noncomputable def o963 : Obj := f1 (stA 102) "law" (.none) "law_ok0031_02" 1465 962
noncomputable def T_14 (P : Params) : BT := insL (setL (T_13 P) [(3, o3_14 P), (12, o12_14)]) 950 [eT, eF, o952, eT, o954, o955, o956, eT, eF, o959, eT, o961, o962, o963]
noncomputable def hl_0 (P : Params) : List Obj := [boot_o_0 P, boot_o_1 P, o2_0 P, o3_14 P, boot_o_4 P, boot_o_5 P, boot_o_6 P, boot_o_7 P, boot_o_8 P, boot_o_9 P, boot_o_10 P, eT, o12_14, o13, o14, eT, eF, o17, eT, o19, o20, o21, o22, eP, o24 P, eT, eF, o27, o28, eT, o30 P, o31_2, o32, o33, o34, o35, eP, o37 P, eT, o39, o40, o41, eT, eF, o44, eT, o46, o47, o48, o49, o50 P, o51, o52, o53, o54, eP, o56 P, eT, o58, o59]
noncomputable def hl_1 (P : Params) : List Obj := [o60, o61, eT, eF, o64, eT, o66, o67, o68, o69, o70 P, o71, o72, o73, eT, eF, o76, eT, o78, o79, o80, eT, eF, o83, eT, o85, o86, o87, eT, eF, o90, eT, o92, o93, o94, o95, eT, eP, o98 P, eT, o100, o101, o102, o103, eT, eF, o106, eT, o108, o109, o110, eT, eF, o113, eT, o115, o116, o117, eT, eF]
noncomputable def hl_2 (P : Params) : List Obj := [o120, eT, o122, o123, o124, eT, eF, o127, eT, o129, o130, o131, eT, eF, o134, eT, o136, o137, o138, eT, eF, o141, eT, o143, o144, o145, eT, eF, o148, eT, o150, o151, o152, eT, eF, o155, eT, o157, o158, o159, eT, eF, o162, eT, o164, o165, o166, eT, eF, o169, eT, o171, o172, o173, eT, eF, o176, eT, o178, o179]
noncomputable def hl_3 (P : Params) : List Obj := [o180, eT, eF, o183, eT, o185, o186, o187, eT, eF, o190, eT, o192, o193, o194, eT, eF, o197, eT, o199, o200, o201, eT, eF, o204, eT, o206, o207, o208, eT, eF, o211, eT, o213, o214, o215, eT, eF, o218, eT, o220, o221, o222, eT, eF, o225, eT, o227, o228, o229, eT, eF, o232, eT, o234, o235, o236, o237, o238 P, o239_5]
noncomputable def hl_4 (P : Params) : List Obj := [o240, o241, o242, o243, o244, eP, o246 P, eT, o248, o249, o250, eT, eF, o253, eT, o255, o256, o257, o258, eT, eF, o261, eT, o263, o264, o265, eT, eF, o268, eT, o270, o271, o272, eT, eF, o275, eT, o277, o278, o279, eT, eF, o282, eT, o284, o285, o286, eT, o288 P, o289, o290, o291, eT, eP, o294 P, eT, o296, o297, o298, eT]
noncomputable def hl_5 (P : Params) : List Obj := [eF, o301, eT, o303, o304, o305, eT, eF, o308, eT, o310, o311, o312, o313, o314 P, o315, o316, o317, o318, o319, eT, eF, o322, eT, o324, o325, o326, eT, eF, o329, eT, o331, o332, o333, eT, eF, o336, eT, o338, o339, o340, eT, eF, o343, eT, o345, o346, o347, eT, eF, o350, eT, o352, o353, o354, eT, eF, o357, eT, o359]
noncomputable def hl_6 (P : Params) : List Obj := [o360, o361, eT, eF, o364, eT, o366, o367, o368, eT, eF, o371, eT, o373, o374, o375, eT, eP, o378 P, eT, o380, o381, o382, o383, eT, eF, o386, eT, o388, o389, o390, eT, eF, o393, eT, o395, o396, o397, eT, eF, o400, eT, o402, o403, o404, eT, eF, o407, eT, o409, o410, o411, eT, eF, o414, eT, o416, o417, o418, eT]
noncomputable def hl_7 (P : Params) : List Obj := [eF, o421, eT, o423, o424, o425, eT, eF, o428, eT, o430, o431, o432, eT, eF, o435, eT, o437, o438, o439, eT, eF, o442, eT, o444, o445, o446, eT, eF, o449, eT, o451, o452, o453, eT, eF, o456, eT, o458, o459, o460, eT, eF, o463, eT, o465, o466, o467, eT, eF, o470, eT, o472, o473, o474, eT, eF, o477, eT, o479]
noncomputable def hl_8 (P : Params) : List Obj := [o480, o481, eT, eF, o484, eT, o486, o487, o488, eT, eF, o491, eT, o493, o494, o495, eT, eF, o498, eT, o500, o501, o502, eT, eF, o505, eT, o507, o508, o509, eT, eF, o512, eT, o514, o515, o516, eT, eF, o519, eT, o521, o522, o523, eT, eF, o526, eT, o528, o529, o530, o531, o532 P, o533_13, o534, o535, o536, o537, eT, eF]
noncomputable def hl_9 (P : Params) : List Obj := [o540, eT, o542, o543, o544, eT, eF, o547, eT, o549, o550, o551, eT, eF, o554, eT, o556, o557, o558, eT, eF, o561, eT, o563, o564, o565, eT, eF, o568, eT, o570, o571, o572, eT, eF, o575, eT, o577, o578, o579, eT, eF, o582, eT, o584, o585, o586, eT, eF, o589, eT, o591, o592, o593, eT, eF, o596, eT, o598, o599]
noncomputable def hl_10 (P : Params) : List Obj := [o600, eT, eF, o603, eT, o605, o606, o607, eT, eF, o610, eT, o612, o613, o614, eT, eF, o617, eT, o619, o620, o621, eT, eF, o624, eT, o626, o627, o628, eT, eF, o631, eT, o633, o634, o635, eT, eF, o638, eT, o640, o641, o642, eT, eF, o645, eT, o647, o648, o649, eT, eF, o652, eT, o654, o655, o656, eT, eF, o659]
noncomputable def hl_11 (P : Params) : List Obj := [eT, o661, o662, o663, eT, eF, o666, eT, o668, o669, o670, eT, eF, o673, eT, o675, o676, o677, eT, eF, o680, eT, o682, o683, o684, eT, eF, o687, eT, o689, o690, o691, eT, eF, o694, eT, o696, o697, o698, eT, eF, o701, eT, o703, o704, o705, eT, eF, o708, eT, o710, o711, o712, eT, eF, o715, eT, o717, o718, o719]
noncomputable def hl_12 (P : Params) : List Obj := [eT, eF, o722, eT, o724, o725, o726, eT, eF, o729, eT, o731, o732, o733, eT, eF, o736, eT, o738, o739, o740, eT, eF, o743, eT, o745, o746, o747, eT, eF, eT, eT, o752, o753, o754, eT, eF, o757, eT, o759, o760, o761, eT, eF, o764, eT, o766, o767, o768, eT, eF, o771, eT, o773, o774, o775, eT, eF, o778, eT]
noncomputable def hl_13 (P : Params) : List Obj := [o780, o781, o782, eT, eF, o785, eT, o787, o788, o789, eT, eF, o792, eT, o794, o795, o796, eT, eF, o799, eT, o801, o802, o803, eT, eF, o806, eT, o808, o809, o810, eT, eF, o813, eT, o815, o816, o817, eT, eF, o820, eT, o822, o823, o824, eT, eF, o827, eT, o829, o830, o831, eT, eF, o834, eT, o836, o837, o838, eT]
noncomputable def hl_14 (P : Params) : List Obj := [eF, o841, eT, o843, o844, o845, eT, eF, o848, eT, o850, o851, o852, eT, eF, o855, eT, o857, o858, o859, eT, eF, o862, eT, o864, o865, o866, eT, eF, o869, eT, o871, o872, o873, eT, eF, eT, eT, o878, o879, o880, o881, eP, o883 P, eT, o885, o886, o887, o888, eT, eF, o891, eT, o893, o894, o895, eT, eF, o898, eT]
noncomputable def hl_15 (P : Params) : List Obj := [o900, o901, o902, eT, eF, o905, eT, o907, o908, o909, eT, eF, o912, eT, o914, o915, o916, eT, eF, o919, eT, o921, o922, o923, eT, eF, o926, eT, o928, o929, o930, eT, eF, o933, eT, o935, o936, o937, eT, eF, o940, eT, o942, o943, o944, o945, o946 P, o947, o948, o949, eT, eF, o952, eT, o954, o955, o956, eT, eF, o959]
noncomputable def hl_16 (P : Params) : List Obj := [eT, o961, o962, o963]
noncomputable def hlAll (P : Params) : List Obj := hl_0 P ++ hl_1 P ++ hl_2 P ++ hl_3 P ++ hl_4 P ++ hl_5 P ++ hl_6 P ++ hl_7 P ++ hl_8 P ++ hl_9 P ++ hl_10 P ++ hl_11 P ++ hl_12 P ++ hl_13 P ++ hl_14 P ++ hl_15 P ++ hl_16 P
noncomputable def S_a (w : World) (os : OsState) : SharedT := ⟨T_a w.params, 15, {}, #[], {}, 187, os⟩
noncomputable def S_0 (w : World) (os : OsState) : SharedT := ⟨T_0 w.params, 35, {}, #[], {}, 216, os⟩
noncomputable def S_1 (w : World) (os : OsState) : SharedT := ⟨T_1 w.params, 54, {}, #[], {}, 241, os⟩
noncomputable def S_2 (w : World) (os : OsState) : SharedT := ⟨T_2 w.params, 95, {}, #[], {}, 311, os⟩
noncomputable def S_3 (w : World) (os : OsState) : SharedT := ⟨T_3 w.params, 96, {}, #[], {}, 321, os⟩
noncomputable def S_4 (w : World) (os : OsState) : SharedT := ⟨T_4 w.params, 244, {}, #[], {}, 515, os⟩
noncomputable def S_5 (w : World) (os : OsState) : SharedT := ⟨T_5 w.params, 292, {}, #[], {}, 577, os⟩
noncomputable def S_6 (w : World) (os : OsState) : SharedT := ⟨T_6 w.params, 348, {}, #[], {}, 657, os⟩
noncomputable def S_7 (w : World) (os : OsState) : SharedT := ⟨T_7 w.params, 376, {}, #[], {}, 726, os⟩
noncomputable def S_8 (w : World) (os : OsState) : SharedT := ⟨T_8 w.params, 538, {}, #[], {}, 951, os⟩
noncomputable def S_9 (w : World) (os : OsState) : SharedT := ⟨T_9 w.params, 629, {}, #[], {}, 1070, os⟩
noncomputable def S_10 (w : World) (os : OsState) : SharedT := ⟨T_10 w.params, 720, {}, #[], {}, 1181, os⟩
noncomputable def S_11 (w : World) (os : OsState) : SharedT := ⟨T_11 w.params, 811, {}, #[], {}, 1285, os⟩
noncomputable def S_12 (w : World) (os : OsState) : SharedT := ⟨T_12 w.params, 881, {}, #[], {}, 1367, os⟩
noncomputable def S_13 (w : World) (os : OsState) : SharedT := ⟨T_13 w.params, 950, {}, #[], {}, 1465, os⟩
noncomputable def S_14 (w : World) (os : OsState) : SharedT := ⟨T_14 w.params, 964, {}, #[], {}, 1502, os⟩
noncomputable def blkEnv : Env := { scope := PW.main.scope, locals := mainNs, globals := mainNs, cells := [], code := .ref 13, frame := some 14 }
noncomputable def cE : Code := .body (behindTheImports PW) blkEnv
noncomputable abbrev qP : Pos := ⟨0, 0, 0, 0⟩
noncomputable abbrev annV : Option Value := some (.ref 6)
noncomputable def sts (a n : Nat) : List Stmt := ((behindTheImports PW).drop a).take n
end
end Head
end
section
open PySem PySem.W PyProof.Rows
namespace Head
theorem pc0 (w : World) (os : OsState) : segRunT treeTable PW w 11 annV 1 235 (S_a w os) (piecesOf (sts 0 3) blkEnv cE ⟨0, 0, 0, 0⟩ [topFrame qP]) = some (.next, S_0 w os, cE, ⟨5, 0, 6, 8⟩) := by
 rw [PySem.W.Fast.te10110043849684766642, PySem.W.Fast.te14364793385576792824]; kernel_rfl
theorem pc1 (w : World) (os : OsState) : segRunT treeTable PW w 11 annV 1 246 (S_0 w os) (piecesOf (sts 3 1) blkEnv cE ⟨5, 0, 6, 8⟩ [topFrame qP]) = some (.next, S_1 w os, cE, ⟨7, 0, 10, 24⟩) := by
 rw [PySem.W.Fast.te10110043849684766642, PySem.W.Fast.te14364793385576792824]; kernel_rfl
theorem pc2 (w : World) (os : OsState) : segRunT treeTable PW w 11 annV 1 421 (S_1 w os) (piecesOf (sts 4 13) blkEnv cE ⟨7, 0, 10, 24⟩ [topFrame qP]) = some (.next, S_2 w os, cE, ⟨32, 0, 32, 3⟩) := by
 rw [PySem.W.Fast.te10110043849684766642, PySem.W.Fast.te14364793385576792824]; kernel_rfl
theorem pc3 (w : World) (os : OsState) : segRunT treeTable PW w 11 annV 1 50 (S_2 w os) (piecesOf (sts 17 5) blkEnv cE ⟨32, 0, 32, 3⟩ [topFrame qP]) = some (.next, S_3 w os, cE, ⟨37, 0, 37, 4⟩) := by
 rw [PySem.W.Fast.te10110043849684766642, PySem.W.Fast.te14364793385576792824]; kernel_rfl
theorem pc4 (w : World) (os : OsState) : segRunT treeTable PW w 11 annV 1 821 (S_3 w os) (piecesOf (sts 22 1) blkEnv cE ⟨37, 0, 37, 4⟩ [topFrame qP]) = some (.next, S_4 w os, cE, ⟨38, 0, 166, 16⟩) := by
 rw [PySem.W.Fast.te10110043849684766642, PySem.W.Fast.te14364793385576792824]; kernel_rfl
theorem pc5 (w : World) (os : OsState) : segRunT treeTable PW w 11 annV 1 387 (S_4 w os) (piecesOf (sts 23 2) blkEnv cE ⟨38, 0, 166, 16⟩ [topFrame qP]) = some (.next, S_5 w os, cE, ⟨183, 0, 183, 8⟩) := by
 rw [PySem.W.Fast.te10110043849684766642, PySem.W.Fast.te14364793385576792824]; kernel_rfl
theorem pc6 (w : World) (os : OsState) : segRunT treeTable PW w 11 annV 1 386 (S_5 w os) (piecesOf (sts 25 5) blkEnv cE ⟨183, 0, 183, 8⟩ [topFrame qP]) = some (.next, S_6 w os, cE, ⟨211, 0, 212, 43⟩) := by
 rw [PySem.W.Fast.te10110043849684766642, PySem.W.Fast.te14364793385576792824]; kernel_rfl
theorem pc7 (w : World) (os : OsState) : segRunT treeTable PW w 11 annV 1 244 (S_6 w os) (piecesOf (sts 30 16) blkEnv cE ⟨211, 0, 212, 43⟩ [topFrame qP]) = some (.next, S_7 w os, cE, ⟨281, 0, 281, 5⟩) := by
 rw [PySem.W.Fast.te10110043849684766642, PySem.W.Fast.te14364793385576792824]; kernel_rfl
theorem pc8 (w : World) (os : OsState) : segRunT treeTable PW w 11 annV 1 900 (S_7 w os) (piecesOf (sts 46 1) blkEnv cE ⟨281, 0, 281, 5⟩ [topFrame qP]) = some (.next, S_8 w os, cE, ⟨282, 0, 411, 17⟩) := by
 rw [PySem.W.Fast.te10110043849684766642, PySem.W.Fast.te14364793385576792824]; kernel_rfl
theorem pc9 (w : World) (os : OsState) : segRunT treeTable PW w 11 annV 1 413 (S_8 w os) (piecesOf (sts 47 14) blkEnv cE ⟨282, 0, 411, 17⟩ [topFrame qP]) = some (.next, S_9 w os, cE, ⟨489, 0, 494, 15⟩) := by
 rw [PySem.W.Fast.te10110043849684766642, PySem.W.Fast.te14364793385576792824]; kernel_rfl
theorem pc10 (w : World) (os : OsState) : segRunT treeTable PW w 11 annV 1 398 (S_9 w os) (piecesOf (sts 61 13) blkEnv cE ⟨489, 0, 494, 15⟩ [topFrame qP]) = some (.next, S_10 w os, cE, ⟨558, 0, 560, 15⟩) := by
 rw [PySem.W.Fast.te10110043849684766642, PySem.W.Fast.te14364793385576792824]; kernel_rfl
theorem pc11 (w : World) (os : OsState) : segRunT treeTable PW w 11 annV 1 398 (S_10 w os) (piecesOf (sts 74 14) blkEnv cE ⟨558, 0, 560, 15⟩ [topFrame qP]) = some (.next, S_11 w os, cE, ⟨596, 0, 598, 15⟩) := by
 rw [PySem.W.Fast.te10110043849684766642, PySem.W.Fast.te14364793385576792824]; kernel_rfl
theorem pc12 (w : World) (os : OsState) : segRunT treeTable PW w 11 annV 1 310 (S_11 w os) (piecesOf (sts 88 11) blkEnv cE ⟨596, 0, 598, 15⟩ [topFrame qP]) = some (.next, S_12 w os, cE, ⟨640, 0, 641, 434⟩) := by
 rw [PySem.W.Fast.te10110043849684766642, PySem.W.Fast.te14364793385576792824]; kernel_rfl
theorem pc13 (w : World) (os : OsState) : segRunT treeTable PW w 11 annV 1 488 (S_12 w os) (piecesOf (sts 99 1) blkEnv cE ⟨640, 0, 641, 434⟩ [topFrame qP]) = some (.next, S_13 w os, cE, ⟨642, 0, 705, 25⟩) := by
 rw [PySem.W.Fast.te10110043849684766642, PySem.W.Fast.te14364793385576792824]; kernel_rfl
theorem pc14 (w : World) (os : OsState) : segRunT treeTable PW w 11 annV 1 89 (S_13 w os) (piecesOf (sts 100 3) blkEnv cE ⟨642, 0, 705, 25⟩ [topFrame qP]) = some (.next, S_14 w os, cE, ⟨713, 0, 770, 15⟩) := by
 rw [PySem.W.Fast.te10110043849684766642, PySem.W.Fast.te14364793385576792824]; kernel_rfl
end Head
end
section
open PySem PySem.W PyProof.Rows
namespace Head
theorem open_plain : opening PW = plainProg PW.main.scope.names := by kernel_rfl
theorem open0 : ∀ w : World, (fencedOpening treeTable PW w 20000).map (fun s => (s.heap, s.gens, s.drawn, s.toks)) = some (boot_heap w.params, Array.mk [], boot_drawn, boot_toks) :=
 boot_open open_plain (by decide) (fun s => by kernel_rfl)
theorem size0 : ∀ w : World, ((boot_heap w.params).isNs mainGlobals && (Array.mk [] : Array GenState).size == 0, (boot_heap w.params).objs.size, (boot_heap w.params).nsMap mainGlobals "__annotations__") = (true, 11, annV) := fun w => by kernel_rfl
theorem pre0 (w : World) (os : OsState) : topGo treeTable PW w 11 annV 12 ⟨boot_heap w.params, Array.mk [], boot_drawn, boot_toks, os⟩ (topStub PW) = some ((S_a w os).abs, ⟨denote treeTable cE, cE, ⟨0, 0, 0, 0⟩, [topFrame qP]⟩) := by
 rw [PySem.W.Fast.te14364793385576792824]
 kernel_rfl
theorem block0 (w : World) (os : OsState) : segRun treeTable PW w 11 annV 1 1 (S_a w os).abs (blockOf (behindTheImports PW) blkEnv cE ⟨0, 0, 0, 0⟩ [topFrame qP]) = some (.next, (S_a w os).abs, cE, ⟨0, 0, 0, 0⟩) := by
 rw [PySem.W.Fast.te14364793385576792824]
 kernel_rfl
end Head
end
section
open PySem PySem.W PyProof.Rows
namespace Head
noncomputable section
noncomputable def H1 (P : Params) : Heap := ⟨(hlAll P).toArray, {}⟩
theorem fin0 (w : World) (os : OsState) : topRun treeTable PW w 11 annV 2 (S_14 w os).abs (restOf [] blkEnv cE ⟨713, 0, 770, 15⟩ [topFrame qP]) = some ⟨(H1 w.params), Array.mk [], {}, 1502, os⟩ := by
 rw [PySem.W.Fast.te14364793385576792824]
 kernel_rfl
theorem drop_take (l : List Stmt) (a n : Nat) : (l.drop a).take n ++ l.drop (a + n) = l.drop a := by
 rw [← List.drop_drop]; exact List.take_append_drop n _
theorem dropped : (behindTheImports PW).drop 103 = [] := by kernel_rfl
theorem run_15 (w : World) (os : OsState) : topRun treeTable PW w 11 annV 2 (S_14 w os).abs (restOf ((behindTheImports PW).drop 103) blkEnv cE ⟨713, 0, 770, 15⟩ [topFrame qP]) = some ⟨(H1 w.params), Array.mk [], {}, 1502, os⟩ := by
 rw [dropped]; exact fin0 w os
theorem run_14 (w : World) (os : OsState) : topRun treeTable PW w 11 annV (89 + 2) (S_13 w os).abs (restOf ((behindTheImports PW).drop 100) blkEnv cE ⟨642, 0, 705, 25⟩ [topFrame qP]) = some ⟨(H1 w.params), Array.mk [], {}, 1502, os⟩ := by
 rw [← drop_take (behindTheImports PW) 100 3]
 exact piece_app (segRun_of (pc14 w os)) (run_15 w os)
theorem run_13 (w : World) (os : OsState) : topRun treeTable PW w 11 annV (488 + 91) (S_12 w os).abs (restOf ((behindTheImports PW).drop 99) blkEnv cE ⟨640, 0, 641, 434⟩ [topFrame qP]) = some ⟨(H1 w.params), Array.mk [], {}, 1502, os⟩ := by
 rw [← drop_take (behindTheImports PW) 99 1]
 exact piece_app (segRun_of (pc13 w os)) (run_14 w os)
theorem run_12 (w : World) (os : OsState) : topRun treeTable PW w 11 annV (310 + 579) (S_11 w os).abs (restOf ((behindTheImports PW).drop 88) blkEnv cE ⟨596, 0, 598, 15⟩ [topFrame qP]) = some ⟨(H1 w.params), Array.mk [], {}, 1502, os⟩ := by
 rw [← drop_take (behindTheImports PW) 88 11]
 exact piece_app (segRun_of (pc12 w os)) (run_13 w os)
theorem run_11 (w : World) (os : OsState) : topRun treeTable PW w 11 annV (398 + 889) (S_10 w os).abs (restOf ((behindTheImports PW).drop 74) blkEnv cE ⟨558, 0, 560, 15⟩ [topFrame qP]) = some ⟨(H1 w.params), Array.mk [], {}, 1502, os⟩ := by
 rw [← drop_take (behindTheImports PW) 74 14]
 exact piece_app (segRun_of (pc11 w os)) (run_12 w os)
theorem run_10 (w : World) (os : OsState) : topRun treeTable PW w 11 annV (398 + 1287) (S_9 w os).abs (restOf ((behindTheImports PW).drop 61) blkEnv cE ⟨489, 0, 494, 15⟩ [topFrame qP]) = some ⟨(H1 w.params), Array.mk [], {}, 1502, os⟩ := by
 rw [← drop_take (behindTheImports PW) 61 13]
 exact piece_app (segRun_of (pc10 w os)) (run_11 w os)
theorem run_9 (w : World) (os : OsState) : topRun treeTable PW w 11 annV (413 + 1685) (S_8 w os).abs (restOf ((behindTheImports PW).drop 47) blkEnv cE ⟨282, 0, 411, 17⟩ [topFrame qP]) = some ⟨(H1 w.params), Array.mk [], {}, 1502, os⟩ := by
 rw [← drop_take (behindTheImports PW) 47 14]
 exact piece_app (segRun_of (pc9 w os)) (run_10 w os)
theorem run_8 (w : World) (os : OsState) : topRun treeTable PW w 11 annV (900 + 2098) (S_7 w os).abs (restOf ((behindTheImports PW).drop 46) blkEnv cE ⟨281, 0, 281, 5⟩ [topFrame qP]) = some ⟨(H1 w.params), Array.mk [], {}, 1502, os⟩ := by
 rw [← drop_take (behindTheImports PW) 46 1]
 exact piece_app (segRun_of (pc8 w os)) (run_9 w os)
theorem run_7 (w : World) (os : OsState) : topRun treeTable PW w 11 annV (244 + 2998) (S_6 w os).abs (restOf ((behindTheImports PW).drop 30) blkEnv cE ⟨211, 0, 212, 43⟩ [topFrame qP]) = some ⟨(H1 w.params), Array.mk [], {}, 1502, os⟩ := by
 rw [← drop_take (behindTheImports PW) 30 16]
 exact piece_app (segRun_of (pc7 w os)) (run_8 w os)
theorem run_6 (w : World) (os : OsState) : topRun treeTable PW w 11 annV (386 + 3242) (S_5 w os).abs (restOf ((behindTheImports PW).drop 25) blkEnv cE ⟨183, 0, 183, 8⟩ [topFrame qP]) = some ⟨(H1 w.params), Array.mk [], {}, 1502, os⟩ := by
 rw [← drop_take (behindTheImports PW) 25 5]
 exact piece_app (segRun_of (pc6 w os)) (run_7 w os)
theorem run_5 (w : World) (os : OsState) : topRun treeTable PW w 11 annV (387 + 3628) (S_4 w os).abs (restOf ((behindTheImports PW).drop 23) blkEnv cE ⟨38, 0, 166, 16⟩ [topFrame qP]) = some ⟨(H1 w.params), Array.mk [], {}, 1502, os⟩ := by
 rw [← drop_take (behindTheImports PW) 23 2]
 exact piece_app (segRun_of (pc5 w os)) (run_6 w os)
theorem run_4 (w : World) (os : OsState) : topRun treeTable PW w 11 annV (821 + 4015) (S_3 w os).abs (restOf ((behindTheImports PW).drop 22) blkEnv cE ⟨37, 0, 37, 4⟩ [topFrame qP]) = some ⟨(H1 w.params), Array.mk [], {}, 1502, os⟩ := by
 rw [← drop_take (behindTheImports PW) 22 1]
 exact piece_app (segRun_of (pc4 w os)) (run_5 w os)
theorem run_3 (w : World) (os : OsState) : topRun treeTable PW w 11 annV (50 + 4836) (S_2 w os).abs (restOf ((behindTheImports PW).drop 17) blkEnv cE ⟨32, 0, 32, 3⟩ [topFrame qP]) = some ⟨(H1 w.params), Array.mk [], {}, 1502, os⟩ := by
 rw [← drop_take (behindTheImports PW) 17 5]
 exact piece_app (segRun_of (pc3 w os)) (run_4 w os)
theorem run_2 (w : World) (os : OsState) : topRun treeTable PW w 11 annV (421 + 4886) (S_1 w os).abs (restOf ((behindTheImports PW).drop 4) blkEnv cE ⟨7, 0, 10, 24⟩ [topFrame qP]) = some ⟨(H1 w.params), Array.mk [], {}, 1502, os⟩ := by
 rw [← drop_take (behindTheImports PW) 4 13]
 exact piece_app (segRun_of (pc2 w os)) (run_3 w os)
theorem run_1 (w : World) (os : OsState) : topRun treeTable PW w 11 annV (246 + 5307) (S_0 w os).abs (restOf ((behindTheImports PW).drop 3) blkEnv cE ⟨5, 0, 6, 8⟩ [topFrame qP]) = some ⟨(H1 w.params), Array.mk [], {}, 1502, os⟩ := by
 rw [← drop_take (behindTheImports PW) 3 1]
 exact piece_app (segRun_of (pc1 w os)) (run_2 w os)
theorem run_0 (w : World) (os : OsState) : topRun treeTable PW w 11 annV (235 + 5553) (S_a w os).abs (restOf ((behindTheImports PW).drop 0) blkEnv cE ⟨0, 0, 0, 0⟩ [topFrame qP]) = some ⟨(H1 w.params), Array.mk [], {}, 1502, os⟩ := by
 rw [← drop_take (behindTheImports PW) 0 3]
 exact piece_app (segRun_of (pc0 w os)) (run_1 w os)
theorem run_all (w : World) (os : OsState) : topRun treeTable PW w 11 annV (12 + (1 + 5788)) ⟨boot_heap w.params, Array.mk [], boot_drawn, boot_toks, os⟩ (topStub PW) = some ⟨(H1 w.params), Array.mk [], {}, 1502, os⟩ :=
 go_top (pre0 w os) (piece_block (block0 w os) (by rw [← List.drop_zero (l := behindTheImports PW)]; exact run_0 w os))
noncomputable def q0 : Program := { PW with main := { PW.main with body := [stA 102] } }
noncomputable def loose0 : List Str := (["_wall", "ClausemillError", "PrologError", "StepLimit", "A_SYSTEM", "F_DOT", "F_ERROR", "HALT_ADDRESS", "system_error", "formal_of", "resource_error", "REF", "SRF", "STR", "LIS", "CON", "INT", "FUN", "VOID", "Cells", "Store", "PairSet", "push_arguments", "push_pairs", "same_shape", "is_variable", "unify", "unify_unify", "bind_checked", "occurs_in", "reaches", "READ", "WRITE", "AT_E", "AT_CP", "AT_PREVIOUS", "AT_ALTERNATIVE", "AT_TRAIL", "AT_HEAP", "AT_B0", "EXTRA", "Areas", "slot_index", "read", "write", "match_constant", "next_argument", "closes_cycle", "push_local", "get_variable", "get_value", "get_constant", "get_list", "get_structure", "unify_variable", "unify_value", "unify_local_value", "unify_constant", "unify_void", "push_variables", "put_variable", "put_void", "put_value", "put_unsafe_value", "put_constant", "put_list", "put_structure", "set_variable", "set_value", "set_local_value", "set_constant", "set_void", "move_table", "do_call", "do_execute", "do_proceed", "do_allocate", "do_deallocate", "do_neck_cut", "do_get_level", "do_mark", "do_cut_to", "do_fail", "do_halt", "do_try", "do_retry", "do_trust", "do_switch_on_term", "do_switch_on_constant", "do_switch_on_structure", "plain_control_table", "Emulator", "_law_take"] : List String).map Str.ofString
noncomputable def K_0 (P : Params) : Frag := [(2, o2_0 P), (3, o3_14 P), (20, o20), (21, o21), (22, o22), (24, o24 P), (27, o27), (30, o30 P), (31, o31_2), (32, o32), (35, o35), (37, o37 P), (40, o40), (47, o47), (48, o48), (50, o50 P), (51, o51), (54, o54), (56, o56 P), (59, o59), (61, o61), (67, o67), (68, o68), (70, o70 P), (71, o71), (79, o79), (80, o80), (86, o86), (87, o87), (93, o93), (94, o94), (95, o95), (98, o98 P), (101, o101), (103, o103), (109, o109), (110, o110), (116, o116), (117, o117), (123, o123), (124, o124), (130, o130), (131, o131), (137, o137), (138, o138), (144, o144), (145, o145), (151, o151), (152, o152), (158, o158), (159, o159), (165, o165), (166, o166), (172, o172), (173, o173), (179, o179), (180, o180), (186, o186), (187, o187), (193, o193)]
noncomputable def K_1 (P : Params) : Frag := [(194, o194), (200, o200), (201, o201), (207, o207), (208, o208), (214, o214), (215, o215), (221, o221), (222, o222), (228, o228), (229, o229), (235, o235), (236, o236), (238, o238 P), (239, o239_5), (240, o240), (241, o241), (244, o244), (246, o246 P), (249, o249), (256, o256), (257, o257), (258, o258), (264, o264), (265, o265), (271, o271), (272, o272), (278, o278), (279, o279), (285, o285), (286, o286), (288, o288 P), (289, o289), (294, o294 P), (297, o297), (304, o304), (305, o305), (311, o311), (312, o312), (314, o314 P), (315, o315), (316, o316), (317, o317), (325, o325), (326, o326), (332, o332), (333, o333), (339, o339), (340, o340), (346, o346), (347, o347), (353, o353), (354, o354), (360, o360), (361, o361), (367, o367), (368, o368), (374, o374), (375, o375), (378, o378 P)]
noncomputable def K_2 (P : Params) : Frag := [(381, o381), (383, o383), (389, o389), (390, o390), (396, o396), (397, o397), (403, o403), (404, o404), (410, o410), (411, o411), (417, o417), (418, o418), (424, o424), (425, o425), (431, o431), (432, o432), (438, o438), (439, o439), (445, o445), (446, o446), (452, o452), (453, o453), (459, o459), (460, o460), (466, o466), (467, o467), (473, o473), (474, o474), (480, o480), (481, o481), (487, o487), (488, o488), (494, o494), (495, o495), (501, o501), (502, o502), (508, o508), (509, o509), (515, o515), (516, o516), (522, o522), (523, o523), (529, o529), (530, o530), (532, o532 P), (533, o533_13), (534, o534), (535, o535), (543, o543), (544, o544), (550, o550), (551, o551), (557, o557), (558, o558), (564, o564), (565, o565), (571, o571), (572, o572), (578, o578), (579, o579)]
noncomputable def K_3 (P : Params) : Frag := [(585, o585), (586, o586), (592, o592), (593, o593), (599, o599), (600, o600), (606, o606), (607, o607), (613, o613), (614, o614), (620, o620), (621, o621), (627, o627), (628, o628), (634, o634), (635, o635), (641, o641), (642, o642), (648, o648), (649, o649), (655, o655), (656, o656), (662, o662), (663, o663), (669, o669), (670, o670), (676, o676), (677, o677), (683, o683), (684, o684), (690, o690), (691, o691), (697, o697), (698, o698), (704, o704), (705, o705), (711, o711), (712, o712), (718, o718), (719, o719), (725, o725), (726, o726), (732, o732), (733, o733), (739, o739), (740, o740), (746, o746), (747, o747), (753, o753), (754, o754), (760, o760), (761, o761), (767, o767), (768, o768), (774, o774), (775, o775), (781, o781), (782, o782), (788, o788), (789, o789)]
noncomputable def K_4 (P : Params) : Frag := [(795, o795), (796, o796), (802, o802), (803, o803), (809, o809), (810, o810), (816, o816), (817, o817), (823, o823), (824, o824), (830, o830), (831, o831), (837, o837), (838, o838), (844, o844), (845, o845), (851, o851), (852, o852), (858, o858), (859, o859), (865, o865), (866, o866), (872, o872), (873, o873), (879, o879), (880, o880), (881, o881), (883, o883 P), (886, o886), (888, o888), (894, o894), (895, o895), (901, o901), (902, o902), (908, o908), (909, o909), (915, o915), (916, o916), (922, o922), (923, o923), (929, o929), (930, o930), (936, o936), (937, o937), (943, o943), (944, o944), (946, o946 P), (947, o947), (955, o955), (956, o956), (962, o962), (963, o963)]
noncomputable def KF (P : Params) : Frag := K_0 P ++ K_1 P ++ K_2 P ++ K_3 P ++ K_4 P
noncomputable def asK : List Addr := [2, 3, 20, 21, 22, 24, 27, 30, 31, 32, 35, 37, 40, 47, 48, 50, 51, 54, 56, 59, 61, 67, 68, 70, 71, 79, 80, 86, 87, 93, 94, 95, 98, 101, 103, 109, 110, 116, 117, 123, 124, 130, 131, 137, 138, 144, 145, 151, 152, 158, 159, 165, 166, 172, 173, 179, 180, 186, 187, 193, 194, 200, 201, 207, 208, 214, 215, 221, 222, 228, 229, 235, 236, 238, 239, 240, 241, 244, 246, 249, 256, 257, 258, 264, 265, 271, 272, 278, 279, 285, 286, 288, 289, 294, 297, 304, 305, 311, 312, 314, 315, 316, 317, 325, 326, 332, 333, 339, 340, 346, 347, 353, 354, 360, 361, 367, 368, 374, 375, 378, 381, 383, 389, 390, 396, 397, 403, 404, 410, 411, 417, 418, 424, 425, 431, 432, 438, 439, 445, 446, 452, 453, 459, 460, 466, 467, 473, 474, 480, 481, 487, 488, 494, 495, 501, 502, 508, 509, 515, 516, 522, 523, 529, 530, 532, 533, 534, 535, 543, 544, 550, 551, 557, 558, 564, 565, 571, 572, 578, 579, 585, 586, 592, 593, 599, 600, 606, 607, 613, 614, 620, 621, 627, 628, 634, 635, 641, 642, 648, 649, 655, 656, 662, 663, 669, 670, 676, 677, 683, 684, 690, 691, 697, 698, 704, 705, 711, 712, 718, 719, 725, 726, 732, 733, 739, 740, 746, 747, 753, 754, 760, 761, 767, 768, 774, 775, 781, 782, 788, 789, 795, 796, 802, 803, 809, 810, 816, 817, 823, 824, 830, 831, 837, 838, 844, 845, 851, 852, 858, 859, 865, 866, 872, 873, 879, 880, 881, 883, 886, 888, 894, 895, 901, 902, 908, 909, 915, 916, 922, 923, 929, 930, 936, 937, 943, 944, 946, 947, 955, 956, 962, 963]
noncomputable def hook0 : Hook := kHook KF asK (fun _ => by kernel_rfl)
theorem looks0 : ∀ w : World, (fun os => ((staticsOk (importedModules PW.main.body) (boot_heap w.params) (H1 w.params) && namesBound PW (H1 w.params) && gensDone ⟨(H1 w.params), Array.mk [], {}, 1502, os⟩ && laidKept (boot_heap w.params) (H1 w.params)),
    openSeen q0 loose0 (importedModules PW.main.body) (fun _ => true) true ⟨(H1 w.params), Array.mk [], {}, 1502, os⟩, hook0.obs ⟨(H1 w.params), Array.mk [], {}, 1502, os⟩)) = fun _ => (true, openGood q0 loose0, hook0.val w) := fun w => by
 kernel_rfl
theorem left0 : LeftO PW q0 loose0 (fun _ => true) hook0.obs hook0.val 20000 :=
 LeftO.of_pieces (p := PW) (q := q0) (loose := loose0) (Xt := fun _ => true) (Yf := hook0.obs) (Ya := hook0.val) (N := 20000) (g0 := true) (H₀ := boot_heap) (H₁ := H1) (gs₀ := Array.mk []) (gs₁ := Array.mk []) (d₀ := boot_drawn) (d₁ := {}) (k₀ := boot_toks) (k₁ := 1502) (m₀ := 11) (ann := annV) (M := 12 + (1 + 5788)) open0 size0 run_all (by decide) looks0
end
end Head
end
section
open PySem PySem.W PyProof.Rows
namespace Mine
noncomputable def ir_Cells__init : FnIR := ⟨3, [], 3, [.setA (.loc 0) 132 (.loc 1), .setA (.loc 0) 133 (.loc 2), .setA (.loc 0) 134 (.lst []), .setA (.loc 0) 135 (.lst []), .setA (.loc 0) 136 (.lst []), .setA (.loc 0) 137 (.lit (.int 0)), .setA (.loc 0) 138 (.lit (.int 0))]⟩
noncomputable def ir_Cells_push : FnIR := ⟨2, [], 3, [.asg 2 (.len (.attr (.loc 0) 134)), .ite (.cmp .ge (.loc 2) (.attr (.loc 0) 133)) [.bad] [], .expr (.app (.attr (.loc 0) 134) (.loc 1)), .ret (.loc 2)]⟩
noncomputable def ir_Cells_new_var : FnIR := ⟨1, [], 2, [.asg 1 (.tup [(.lit (.int (0))), (.len (.attr (.loc 0) 134))]), .expr (.meth (.loc 0) 70 [(.loc 1)]), .ret (.loc 1)]⟩
noncomputable def ir_Cells_trim : FnIR := ⟨2, [], 2, [.delF (.attr (.loc 0) 134) (.loc 1)]⟩
noncomputable def ir_Cells_deref : FnIR := ⟨2, [], 4, [.whl (.lit (.bool true)) [.asg 2 (.sub (.loc 1) (.lit (.int 0))), .ite (.cmp .eq (.loc 2) (.lit (.int (0)))) [.asg 3 (.sub (.attr (.loc 0) 134) (.sub (.loc 1) (.lit (.int 1))))] [.ite (.cmp .eq (.loc 2) (.lit (.int (1)))) [.asg 3 (.sub (.attr (.loc 0) 135) (.sub (.loc 1) (.lit (.int 1))))] [.ret (.loc 1)]], .ite (.cmp .eq (.loc 3) (.loc 1)) [.ret (.loc 1)] [], .asg 1 (.loc 3)]]⟩
noncomputable def ir_Cells_bind : FnIR := ⟨3, [], 4, [.asg 3 (.sub (.loc 1) (.lit (.int 1))), .ite (.cmp .eq (.sub (.loc 1) (.lit (.int 0))) (.lit (.int (0)))) [.setS (.attr (.loc 0) 134) (.loc 3) (.loc 2), .ite (.cmp .lt (.loc 3) (.attr (.loc 0) 137)) [.expr (.app (.attr (.loc 0) 136) (.loc 3))] []] [.setS (.attr (.loc 0) 135) (.loc 3) (.loc 2), .ite (.cmp .lt (.loc 3) (.attr (.loc 0) 138)) [.expr (.app (.attr (.loc 0) 136) (.bin .sub (.neg (.lit (.int 1))) (.loc 3)))] []]]⟩
noncomputable def ir_Cells_mark : FnIR := ⟨1, [], 1, [.ret (.len (.attr (.loc 0) 136))]⟩
noncomputable def ir_Cells_undo_to : FnIR := ⟨2, [], 4, [.whl (.cmp .gt (.len (.attr (.loc 0) 136)) (.loc 1)) [.asg 2 (.pop (.attr (.loc 0) 136)), .ite (.cmp .ge (.loc 2) (.lit (.int 0))) [.setS (.attr (.loc 0) 134) (.loc 2) (.tup [(.lit (.int (0))), (.loc 2)])] [.asg 3 (.bin .sub (.neg (.lit (.int 1))) (.loc 2)), .setS (.attr (.loc 0) 135) (.loc 3) (.tup [(.lit (.int (1))), (.loc 3)])]]]⟩
noncomputable def ir_Cells_stack_put : FnIR := ⟨3, [], 4, [.asg 3 (.attr (.loc 0) 135), .ite (.cmp .lt (.loc 1) (.len (.loc 3))) [.setS (.loc 3) (.loc 1) (.loc 2), .retN] [], .whl (.cmp .lt (.len (.loc 3)) (.loc 1)) [.expr (.app (.loc 3) (.lit (.tup [.int (5), .int (0)])))], .expr (.app (.loc 3) (.loc 2))]⟩
noncomputable def ir_Areas__init : FnIR := ⟨6, [], 6, [.setA (.loc 0) 132 (.loc 1), .setA (.loc 0) 141 (.loc 2), .setA (.loc 0) 133 (.loc 3), .setA (.loc 0) 142 (.loc 4), .setA (.loc 0) 143 (.loc 5), .expr (.meth (.loc 0) 96 [])]⟩
noncomputable def ir_Areas_reset : FnIR := ⟨1, [], 1, [.setA (.loc 0) 126 (.call (.lit (.k (.ref 289))) [(.attr (.loc 0) 132), (.attr (.loc 0) 133)]), .setA (.loc 0) 144 (.lst [(.lit (.tup [.int (5), .int (0)]))]), .setA (.loc 0) 128 (.lit (.int 0)), .setA (.loc 0) 127 (.lit (.int 0)), .setA (.loc 0) 145 (.neg (.lit (.int 1))), .setA (.loc 0) 146 (.neg (.lit (.int 1))), .setA (.loc 0) 147 (.neg (.lit (.int 1))), .setA (.loc 0) 148 (.lit (.str 13)), .setA (.loc 0) 125 (.lit (.int 0)), .setA (.loc 0) 149 (.lit (.tup [.int (5), .int (0)])), .setA (.loc 0) 150 (.lst []), .setA (.loc 0) 151 .edict, .setA (.loc 0) 152 (.lit (.bool false))]⟩
noncomputable def ir_Areas_set_x : FnIR := ⟨3, [], 3, [.whl (.cmp .le (.len (.attr (.loc 0) 144)) (.loc 1)) [.expr (.app (.attr (.loc 0) 144) (.lit (.tup [.int (5), .int (0)])))], .setS (.attr (.loc 0) 144) (.loc 1) (.loc 2)]⟩
noncomputable def ir_Areas_set_arguments : FnIR := ⟨2, [], 4, [.asg 2 (.lit (.int 0)), .forL 3 (.loc 1) [.augL 2 .add (.lit (.int 1)), .expr (.meth (.loc 0) 97 [(.loc 2), (.loc 3)])]]⟩
noncomputable def ir_Areas_top : FnIR := ⟨1, [], 1, [.ite (.cmp .gt (.attr (.loc 0) 145) (.attr (.loc 0) 146)) [.ret (.bin .add (.bin .add (.attr (.loc 0) 145) (.lit (.int 2))) (.sub (.sub (.attr (.loc 0) 141) (.bin .sub (.attr (.loc 0) 127) (.lit (.int 1)))) (.lit (.int 2))))] [], .ite (.cmp .ge (.attr (.loc 0) 146) (.lit (.int 0))) [.ret (.bin .add (.bin .add (.attr (.loc 0) 146) (.sub (.attr (.attr (.loc 0) 126) 135) (.attr (.loc 0) 146))) (.lit (.int (8))))] [], .ret (.lit (.int 0))]⟩
noncomputable def ir_Areas_push_environment : FnIR := ⟨2, [], 5, [.asg 2 (.meth (.loc 0) 101 []), .asg 3 (.attr (.loc 0) 126), .expr (.meth (.loc 3) 81 [(.loc 2), (.attr (.loc 0) 145)]), .expr (.meth (.loc 3) 81 [(.bin .add (.loc 2) (.lit (.int 1))), (.attr (.loc 0) 127)]), .forR 4 (.loc 1) [.expr (.meth (.loc 3) 81 [(.bin .add (.bin .add (.loc 2) (.lit (.int 2))) (.loc 4)), (.lit (.tup [.int (5), .int (0)]))])], .setA (.loc 0) 145 (.loc 2)]⟩
noncomputable def ir_Areas_pop_environment : FnIR := ⟨1, [], 2, [.asg 1 (.attr (.attr (.loc 0) 126) 135), .setA (.loc 0) 127 (.sub (.loc 1) (.bin .add (.attr (.loc 0) 145) (.lit (.int 1)))), .setA (.loc 0) 145 (.sub (.loc 1) (.attr (.loc 0) 145))]⟩
noncomputable def ir_Areas_set_choice : FnIR := ⟨2, [], 3, [.asg 2 (.attr (.loc 0) 126), .setA (.loc 0) 146 (.loc 1), .ite (.cmp .lt (.loc 1) (.lit (.int 0))) [.setA (.loc 2) 137 (.lit (.int 0)), .setA (.loc 2) 138 (.lit (.int 0))] [.setA (.loc 2) 137 (.sub (.attr (.loc 2) 135) (.bin .add (.bin .add (.loc 1) (.sub (.attr (.loc 2) 135) (.loc 1))) (.lit (.int (6))))), .setA (.loc 2) 138 (.loc 1)]]⟩
noncomputable def ir_Areas_push_choice : FnIR := ⟨3, [], 8, [.asg 3 (.attr (.loc 0) 126), .asg 4 (.meth (.loc 0) 101 []), .asg 5 (.len (.loc 1)), .expr (.meth (.loc 3) 81 [(.loc 4), (.loc 5)]), .asg 6 (.loc 4), .forL 7 (.loc 1) [.augL 6 .add (.lit (.int 1)), .expr (.meth (.loc 3) 81 [(.loc 6), (.loc 7)])], .expr (.meth (.loc 3) 81 [(.bin .add (.loc 6) (.lit (.int (1)))), (.attr (.loc 0) 145)]), .expr (.meth (.loc 3) 81 [(.bin .add (.loc 6) (.lit (.int (2)))), (.attr (.loc 0) 127)]), .expr (.meth (.loc 3) 81 [(.bin .add (.loc 6) (.lit (.int (3)))), (.attr (.loc 0) 146)]), .expr (.meth (.loc 3) 81 [(.bin .add (.loc 6) (.lit (.int (4)))), (.loc 2)]), .expr (.meth (.loc 3) 81 [(.bin .add (.loc 6) (.lit (.int (5)))), (.meth (.loc 3) 79 [])]), .expr (.meth (.loc 3) 81 [(.bin .add (.loc 6) (.lit (.int (6)))), (.len (.attr (.loc 3) 134))]), .expr (.meth (.loc 3) 81 [(.bin .add (.loc 6) (.lit (.int (7)))), (.attr (.loc 0) 147)]), .expr (.meth (.loc 0) 105 [(.loc 4)])]⟩
noncomputable def ir_Areas_choice_part : FnIR := ⟨2, [], 3, [.asg 2 (.attr (.attr (.loc 0) 126) 135), .ret (.sub (.loc 2) (.bin .add (.bin .add (.attr (.loc 0) 146) (.sub (.loc 2) (.attr (.loc 0) 146))) (.loc 1)))]⟩
noncomputable def ir_Areas_restore_choice : FnIR := ⟨1, [], 4, [.asg 1 (.attr (.loc 0) 126), .asg 2 (.sub (.attr (.loc 1) 135) (.attr (.loc 0) 146)), .forR2 3 (.lit (.int 1)) (.bin .add (.loc 2) (.lit (.int 1))) [.expr (.meth (.loc 0) 97 [(.loc 3), (.sub (.attr (.loc 1) 135) (.bin .add (.attr (.loc 0) 146) (.loc 3)))])], .setA (.loc 0) 145 (.meth (.loc 0) 108 [(.lit (.int (1)))]), .setA (.loc 0) 127 (.meth (.loc 0) 108 [(.lit (.int (2)))]), .expr (.meth (.loc 1) 80 [(.meth (.loc 0) 108 [(.lit (.int (5)))])]), .expr (.meth (.loc 1) 73 [(.meth (.loc 0) 108 [(.lit (.int (6)))])])]⟩
noncomputable def ir_Areas_pop_choice : FnIR := ⟨1, [], 1, [.expr (.meth (.loc 0) 105 [(.meth (.loc 0) 108 [(.lit (.int (3)))])])]⟩
noncomputable def ir_Areas_cut_back : FnIR := ⟨2, [], 2, [.ite (.cmp .gt (.attr (.loc 0) 146) (.loc 1)) [.expr (.meth (.loc 0) 105 [(.loc 1)])] []]⟩
noncomputable def ir_slot_index : FnIR := ⟨2, [], 2, [.ret (.bin .add (.bin .add (.attr (.loc 0) 145) (.lit (.int 1))) (.loc 1))]⟩
noncomputable def ir_read : FnIR := ⟨2, [], 2, [.ite (.cmp .eq (.sub (.loc 1) (.lit (.int 0))) (.lit (.str 144))) [.ret (.sub (.attr (.loc 0) 144) (.sub (.loc 1) (.lit (.int 1))))] [], .ret (.sub (.attr (.attr (.loc 0) 126) 135) (.call (.lit (.k (.ref 544))) [(.loc 0), (.sub (.loc 1) (.lit (.int 1)))]))]⟩
noncomputable def ir_write : FnIR := ⟨3, [], 4, [.ite (.cmp .eq (.sub (.loc 1) (.lit (.int 0))) (.lit (.str 144))) [.expr (.meth (.loc 0) 97 [(.sub (.loc 1) (.lit (.int 1))), (.loc 2)]), .retN] [], .asg 3 (.call (.lit (.k (.ref 544))) [(.loc 0), (.sub (.loc 1) (.lit (.int 1)))]), .ite (.cmp .lt (.loc 3) (.attr (.attr (.loc 0) 126) 138)) [.expr (.app (.attr (.attr (.loc 0) 126) 136) (.bin .sub (.neg (.lit (.int 1))) (.loc 3)))] [], .expr (.meth (.attr (.loc 0) 126) 81 [(.loc 3), (.loc 2)])]⟩
noncomputable def ir_match_constant : FnIR := ⟨3, [], 4, [.asg 3 (.meth (.attr (.loc 0) 126) 74 [(.loc 1)]), .ite (.bop false [(.cmp .eq (.sub (.loc 3) (.lit (.int 0))) (.lit (.int (0)))), (.cmp .eq (.sub (.loc 3) (.lit (.int 0))) (.lit (.int (1))))]) [.expr (.meth (.attr (.loc 0) 126) 76 [(.loc 3), (.loc 2)]), .ret (.lit (.bool true))] [], .ret (.cmp .eq (.loc 3) (.loc 2))]⟩
noncomputable def ir_get_variable : FnIR := ⟨2, [], 2, [.expr (.call (.lit (.k (.ref 558))) [(.loc 0), (.sub (.loc 1) (.lit (.int 1))), (.call (.lit (.k (.ref 551))) [(.loc 0), (.sub (.loc 1) (.lit (.int 2)))])]), .ret (.lit (.bool true))]⟩
noncomputable def ir_get_constant : FnIR := ⟨2, [], 2, [.ret (.call (.lit (.k (.ref 565))) [(.loc 0), (.call (.lit (.k (.ref 551))) [(.loc 0), (.sub (.loc 1) (.lit (.int 2)))]), (.sub (.loc 1) (.lit (.int 1)))])]⟩
noncomputable def ir_put_value : FnIR := ⟨2, [], 2, [.expr (.call (.lit (.k (.ref 558))) [(.loc 0), (.sub (.loc 1) (.lit (.int 2))), (.call (.lit (.k (.ref 551))) [(.loc 0), (.sub (.loc 1) (.lit (.int 1)))])]), .ret (.lit (.bool true))]⟩
noncomputable def ir_put_constant : FnIR := ⟨2, [], 2, [.expr (.call (.lit (.k (.ref 558))) [(.loc 0), (.sub (.loc 1) (.lit (.int 2))), (.sub (.loc 1) (.lit (.int 1)))]), .ret (.lit (.bool true))]⟩
noncomputable def ir_do_call : FnIR := ⟨2, [], 2, [.setA (.loc 0) 127 (.attr (.loc 0) 128), .ret (.meth (.loc 0) 119 [(.sub (.loc 1) (.lit (.int 1)))])]⟩
noncomputable def ir_do_execute : FnIR := ⟨2, [], 2, [.ret (.meth (.loc 0) 119 [(.sub (.loc 1) (.lit (.int 1)))])]⟩
noncomputable def ir_do_proceed : FnIR := ⟨2, [], 2, [.setA (.loc 0) 128 (.attr (.loc 0) 127), .ret (.lit (.bool true))]⟩
noncomputable def ir_do_allocate : FnIR := ⟨2, [], 2, [.expr (.meth (.loc 0) 102 [(.sub (.loc 1) (.lit (.int 1)))]), .ret (.lit (.bool true))]⟩
noncomputable def ir_do_deallocate : FnIR := ⟨2, [], 2, [.expr (.meth (.loc 0) 103 []), .ret (.lit (.bool true))]⟩
noncomputable def ir_do_neck_cut : FnIR := ⟨2, [], 2, [.expr (.meth (.loc 0) 111 [(.attr (.loc 0) 147)]), .ret (.lit (.bool true))]⟩
noncomputable def ir_do_get_level : FnIR := ⟨2, [], 2, [.expr (.call (.lit (.k (.ref 558))) [(.loc 0), (.sub (.loc 1) (.lit (.int 1))), (.tup [(.lit (.int (5))), (.attr (.loc 0) 147)])]), .ret (.lit (.bool true))]⟩
noncomputable def ir_do_cut_to : FnIR := ⟨2, [], 2, [.expr (.meth (.loc 0) 111 [(.sub (.meth (.attr (.loc 0) 126) 74 [(.call (.lit (.k (.ref 551))) [(.loc 0), (.sub (.loc 1) (.lit (.int 1)))])]) (.lit (.int 1)))]), .ret (.lit (.bool true))]⟩
noncomputable def ir_do_fail : FnIR := ⟨2, [], 2, [.ret (.lit (.bool false))]⟩
noncomputable def ir_do_halt : FnIR := ⟨2, [], 2, [.setA (.loc 0) 129 (.lit (.bool true)), .ret (.lit (.bool true))]⟩
noncomputable def ir_do_try : FnIR := ⟨2, [], 2, [.expr (.meth (.loc 0) 106 [(.slc (.attr (.loc 0) 144) (.lit (.int 1)) (.bin .add (.sub (.loc 1) (.lit (.int 2))) (.lit (.int 1)))), (.attr (.loc 0) 128)]), .setA (.loc 0) 128 (.sub (.loc 1) (.lit (.int 1))), .ret (.lit (.bool true))]⟩
noncomputable def ir_do_trust : FnIR := ⟨2, [], 2, [.expr (.meth (.loc 0) 109 []), .expr (.meth (.loc 0) 110 []), .setA (.loc 0) 128 (.sub (.loc 1) (.lit (.int 1))), .ret (.lit (.bool true))]⟩
noncomputable def ir_Emulator__init : FnIR := ⟨8, [.int (100000), .bool true, .int (4096)], 10, [.expr (.meth (.lit (.k (.ref 533))) 67 [(.loc 0), (.loc 1), (.loc 2), (.loc 5), (.loc 6), (.loc 7)]), .setA (.loc 0) 170 (.loc 3), .setA (.loc 0) 171 (.loc 4), .setA (.loc 0) 172 (.call (.lit (.k (.ref 754))) []), .asg 8 (.call (.lit (.k (.ref 880))) []), .forK 9 (.loc 8) [.setS (.attr (.loc 0) 172) (.loc 9) (.sub (.loc 8) (.loc 9))], .expr (.meth (.loc 0) 117 [])]⟩
noncomputable def ir_Emulator_clear : FnIR := ⟨1, [], 1, [.expr (.meth (.loc 0) 96 []), .setA (.loc 0) 128 (.lit (.int (1))), .setA (.loc 0) 127 (.lit (.int (1))), .setA (.loc 0) 131 (.lit (.int 0)), .setA (.loc 0) 129 (.lit (.bool true)), .setA (.loc 0) 173 (.lit (.bool true))]⟩
noncomputable def ir_Emulator_backtrack : FnIR := ⟨1, [], 1, [.ite (.cmp .lt (.attr (.loc 0) 146) (.lit (.int 0))) [.setA (.loc 0) 173 (.lit (.bool true)), .setA (.loc 0) 129 (.lit (.bool true)), .retN] [], .setA (.loc 0) 147 (.meth (.loc 0) 108 [(.lit (.int (7)))]), .setA (.loc 0) 128 (.meth (.loc 0) 108 [(.lit (.int (4)))])]⟩
noncomputable def ir_Emulator_enter : FnIR := ⟨2, [], 3, [.asg 2 (.dget (.attr (.loc 0) 170) (.loc 1)), .ite (.isN (.loc 2)) [.ret (.lit (.bool false))] [], .setA (.loc 0) 147 (.attr (.loc 0) 146), .setA (.loc 0) 128 (.loc 2), .ret (.lit (.bool true))]⟩
noncomputable def ir_Emulator_start_at : FnIR := ⟨3, [], 3, [.expr (.meth (.loc 0) 98 [(.loc 2)]), .setA (.loc 0) 127 (.lit (.int (1))), .setA (.loc 0) 129 (.lit (.bool false)), .setA (.loc 0) 173 (.lit (.bool false)), .ite (.not (.meth (.loc 0) 119 [(.loc 1)])) [.expr (.meth (.loc 0) 118 [])] []]⟩
noncomputable def ir_Emulator_step : FnIR := ⟨1, [], 2, [.ite (.cmp .ge (.attr (.loc 0) 131) (.attr (.loc 0) 171)) [.bad] [], .augA (.loc 0) 131 .add (.lit (.int 1)), .asg 1 (.sub (.attr (.loc 0) 141) (.attr (.loc 0) 128)), .augA (.loc 0) 128 .add (.lit (.int 1)), .ite (.not (.call (.sub (.attr (.loc 0) 172) (.sub (.loc 1) (.lit (.int 0)))) [(.loc 0), (.loc 1)])) [.expr (.meth (.loc 0) 118 [])] []]⟩
noncomputable def ir_Emulator_run : FnIR := ⟨1, [], 1, [.whl (.not (.attr (.loc 0) 129)) [.expr (.meth (.loc 0) 121 [])], .ret (.not (.attr (.loc 0) 173))]⟩
noncomputable def ir_Emulator_redo : FnIR := ⟨1, [], 1, [.ite (.attr (.loc 0) 173) [.ret (.lit (.bool false))] [], .setA (.loc 0) 129 (.lit (.bool false)), .expr (.meth (.loc 0) 118 []), .ret (.meth (.loc 0) 122 [])]⟩
noncomputable def ir_law_take : FnIR := ⟨2, [], 4, [.asg2 2 3 (.loc 0), .setS (.loc 0) (.lit (.int 1)) (.bin .add (.loc 3) (.lit (.int 1))), .ite (.cmp .eq (.loc 2) (.lst [])) [.ret (.lit (.int 0))] [], .ret (.bin .mod (.bin .fdiv (.abs (.sub (.loc 2) (.bin .mod (.loc 3) (.len (.loc 2))))) (.bin .pow (.lit (.int 7)) (.bin .fdiv (.loc 3) (.len (.loc 2))))) (.loc 1))]⟩
noncomputable def ir_law : FnIR := ⟨1, [], 19, [.asg 1 (.lst [(.slcL (.loc 0) (.lit (.int 40))), (.lit (.int 0))]), .asg 2 (.lst []), .forR 3 (.lit (.int (1))) [.expr (.app (.loc 2) (.tup [(.lit (.str 162))]))], .expr (.app (.loc 2) (.tup [(.lit (.str 163))])), .asg 4 (.len (.loc 2)), .asg 5 (.bin .add (.loc 4) (.lit (.int 3))), .asg 6 .edict, .asg 7 .edict, .forR 3 (.call (.lit (.k (.ref 956))) [(.loc 1), (.lit (.int 5))]) [.asg 11 (.tup [(.sub (.lst [(.lit (.int (5))), (.lit (.int (4)))]) (.call (.lit (.k (.ref 956))) [(.loc 1), (.lit (.int 2))])), (.call (.lit (.k (.ref 956))) [(.loc 1), (.lit (.int 4))])]), .setS (.loc 6) (.loc 11) (.bin .add (.loc 5) (.bin .mul (.lit (.int 2)) (.bin .add (.lit (.int 10)) (.loc 3)))), .setS (.loc 7) (.loc 11) (.bin .add (.lit (.int 10)) (.loc 3))], .asg 8 .edict, .asg 9 .edict, .forR 3 (.call (.lit (.k (.ref 956))) [(.loc 1), (.lit (.int 4))]) [.asg 12 (.bin .add (.lit (.int 20)) (.call (.lit (.k (.ref 956))) [(.loc 1), (.lit (.int 4))])), .setS (.loc 8) (.loc 12) (.bin .add (.loc 5) (.bin .mul (.lit (.int 2)) (.bin .add (.lit (.int 5)) (.loc 3)))), .setS (.loc 9) (.loc 12) (.bin .add (.lit (.int 5)) (.loc 3))], .expr (.app (.loc 2) (.tup [(.lit (.str 167)), (.loc 5), (.bin .add (.loc 4) (.lit (.int 1))), (.bin .add (.loc 5) (.lit (.int 2))), (.bin .add (.loc 4) (.lit (.int 2)))])), .expr (.app (.loc 2) (.tup [(.lit (.str 168)), (.loc 6), (.bin .add (.loc 5) (.lit (.int 4)))])), .expr (.app (.loc 2) (.tup [(.lit (.str 169)), (.loc 8), (.bin .add (.loc 5) (.lit (.int 6)))])), .forR 10 (.lit (.int 15)) [.expr (.app (.loc 2) (.tup [(.lit (.str 21)), (.tup [(.lit (.int (5))), (.loc 10)]), (.tup [(.lit (.str 144)), (.lit (.int 2))])])), .expr (.app (.loc 2) (.tup [(.lit (.str 156))]))], .forR 3 (.bin .add (.lit (.int 1)) (.call (.lit (.k (.ref 956))) [(.loc 1), (.lit (.int 8))])) [.asg 13 (.call (.lit (.k (.ref 947))) [(.lit .none), (.loc 2), (.idict1 (.lit (.int 7)) (.loc 4)), (.lit (.int 100))]), .asg 14 (.call (.lit (.k (.ref 956))) [(.loc 1), (.lit (.int 5))]), .asg 10 (.call (.lit (.k (.ref 956))) [(.loc 1), (.lit (.int 4))]), .ite (.cmp .eq (.loc 14) (.lit (.int 0))) [.asg 17 (.lit (.int 0)), .asg 11 (.meth (.attr (.loc 13) 126) 71 [])] [.ite (.cmp .eq (.loc 14) (.lit (.int 1))) [.asg 11 (.tup [(.lit (.int (5))), (.loc 10)]), .asg 17 (.dgetd (.loc 7) (.loc 11) (.lit (.int 2)))] [.ite (.cmp .eq (.loc 14) (.lit (.int 2))) [.asg 11 (.tup [(.lit (.int (4))), (.loc 10)]), .asg 17 (.dgetd (.loc 7) (.loc 11) (.lit (.int 2)))] [.ite (.cmp .eq (.loc 14) (.lit (.int 3))) [.asg 17 (.lit (.int 1)), .asg 11 (.tup [(.lit (.int (3))), (.meth (.attr (.loc 13) 126) 70 [(.tup [(.lit (.int (5))), (.lit (.int 8))])])]), .expr (.meth (.attr (.loc 13) 126) 70 [(.tup [(.lit (.int (5))), (.lit (.int 9))])])] [.asg 17 (.dgetd (.loc 9) (.bin .add (.lit (.int 20)) (.loc 10)) (.lit (.int 3))), .asg 11 (.tup [(.lit (.int (2))), (.meth (.attr (.loc 13) 126) 70 [(.tup [(.lit (.int (6))), (.bin .add (.lit (.int 20)) (.loc 10))])])]), .expr (.meth (.attr (.loc 13) 126) 70 [(.tup [(.lit (.int (5))), (.lit (.int 9))])])]]]], .forR 15 (.call (.lit (.k (.ref 956))) [(.loc 1), (.lit (.int 3))]) [.asg 18 (.meth (.attr (.loc 13) 126) 71 []), .expr (.meth (.attr (.loc 13) 126) 76 [(.loc 18), (.loc 11)]), .asg 11 (.loc 18)], .asg 16 (.meth (.attr (.loc 13) 126) 71 []), .expr (.meth (.loc 13) 120 [(.lit (.int 7)), (.lst [(.loc 11), (.loc 16)])]), .ite (.not (.meth (.loc 13) 122 [])) [.ret (.lit (.bool false))] [], .ite (.bop false [(.cmp .ne (.meth (.attr (.loc 13) 126) 74 [(.loc 16)]) (.tup [(.lit (.int (5))), (.loc 17)])), (.meth (.loc 13) 123 [])]) [.ret (.lit (.bool false))] []], .ret (.lit (.bool true))]⟩
noncomputable def ir_Cells_functor_of : FnIR := ⟨2, [], 3, [.asg 2 (.sub (.loc 1) (.lit (.int 0))), .ite (.cmp .eq (.loc 2) (.lit (.int (2)))) [.ret (.sub (.sub (.attr (.loc 0) 134) (.sub (.loc 1) (.lit (.int 1)))) (.lit (.int 1)))] [], .ite (.cmp .eq (.loc 2) (.lit (.int (3)))) [.ret (.lit (.int (0)))] [], .ite (.cmp .eq (.loc 2) (.lit (.int (4)))) [.ret (.meth (.attr (.loc 0) 132) 181 [(.sub (.loc 1) (.lit (.int 1))), (.lit (.int 0))])] [], .ret (.neg (.lit (.int 1)))]⟩
noncomputable def ir_do_switch_on_term : FnIR := ⟨2, [], 3, [.asg 2 (.sub (.meth (.attr (.loc 0) 126) 74 [(.sub (.attr (.loc 0) 144) (.lit (.int 1)))]) (.lit (.int 0))), .ite (.bop false [(.cmp .eq (.loc 2) (.lit (.int (0)))), (.cmp .eq (.loc 2) (.lit (.int (1))))]) [.setA (.loc 0) 128 (.sub (.loc 1) (.lit (.int 1)))] [.ite (.bop false [(.cmp .eq (.loc 2) (.lit (.int (4)))), (.cmp .eq (.loc 2) (.lit (.int (5))))]) [.setA (.loc 0) 128 (.sub (.loc 1) (.lit (.int 2)))] [.ite (.cmp .eq (.loc 2) (.lit (.int (3)))) [.setA (.loc 0) 128 (.sub (.loc 1) (.lit (.int 3)))] [.setA (.loc 0) 128 (.sub (.loc 1) (.lit (.int 4)))]]], .ret (.lit (.bool true))]⟩
noncomputable def ir_do_switch_on_constant : FnIR := ⟨2, [], 2, [.setA (.loc 0) 128 (.dgetd (.sub (.loc 1) (.lit (.int 1))) (.meth (.attr (.loc 0) 126) 74 [(.sub (.attr (.loc 0) 144) (.lit (.int 1)))]) (.sub (.loc 1) (.lit (.int 2)))), .ret (.lit (.bool true))]⟩
noncomputable def ir_do_switch_on_structure : FnIR := ⟨2, [], 3, [.asg 2 (.meth (.attr (.loc 0) 126) 83 [(.meth (.attr (.loc 0) 126) 74 [(.sub (.attr (.loc 0) 144) (.lit (.int 1)))])]), .setA (.loc 0) 128 (.dgetd (.sub (.loc 1) (.lit (.int 1))) (.loc 2) (.sub (.loc 1) (.lit (.int 2)))), .ret (.lit (.bool true))]⟩
noncomputable def tabL : TabL where
 gl := [(("AT_ALTERNATIVE" : Str), AV.int (4)), (("AT_B0" : Str), AV.int (7)), (("AT_CP" : Str), AV.int (2)), (("AT_E" : Str), AV.int (1)), (("AT_HEAP" : Str), AV.int (6)), (("AT_PREVIOUS" : Str), AV.int (3)), (("AT_TRAIL" : Str), AV.int (5)), (("Areas" : Str), AV.k (.ref 533)), (("CON" : Str), AV.int (4)), (("EXTRA" : Str), AV.int (8)), (("Emulator" : Str), AV.k (.ref 947)), (("FUN" : Str), AV.int (6)), (("F_DOT" : Str), AV.int (0)), (("HALT_ADDRESS" : Str), AV.int (1)), (("INT" : Str), AV.int (5)), (("LIS" : Str), AV.int (3)), (("READ" : Str), AV.str 13), (("REF" : Str), AV.int (0)), (("SRF" : Str), AV.int (1)), (("STR" : Str), AV.int (2)), (("Store" : Str), AV.k (.ref 289)), (("VOID" : Str), AV.tup [.int (5), .int (0)]), (("_law_take" : Str), AV.k (.ref 956)), (("do_allocate" : Str), AV.k (.ref 782)), (("do_call" : Str), AV.k (.ref 761)), (("do_cut_to" : Str), AV.k (.ref 817)), (("do_deallocate" : Str), AV.k (.ref 789)), (("do_execute" : Str), AV.k (.ref 768)), (("do_fail" : Str), AV.k (.ref 824)), (("do_get_level" : Str), AV.k (.ref 803)), (("do_halt" : Str), AV.k (.ref 831)), (("do_mark" : Str), AV.k (.ref 810)), (("do_neck_cut" : Str), AV.k (.ref 796)), (("do_proceed" : Str), AV.k (.ref 775)), (("do_retry" : Str), AV.k (.ref 845)), (("do_switch_on_constant" : Str), AV.k (.ref 866)), (("do_switch_on_structure" : Str), AV.k (.ref 873)), (("do_switch_on_term" : Str), AV.k (.ref 859)), (("do_trust" : Str), AV.k (.ref 852)), (("do_try" : Str), AV.k (.ref 838)), (("get_constant" : Str), AV.k (.ref 607)), (("get_list" : Str), AV.k (.ref 614)), (("get_structure" : Str), AV.k (.ref 621)), (("get_value" : Str), AV.k (.ref 600)), (("get_variable" : Str), AV.k (.ref 593)), (("match_constant" : Str), AV.k (.ref 565)), (("move_table" : Str), AV.k (.ref 754)), (("plain_control_table" : Str), AV.k (.ref 880)), (("put_constant" : Str), AV.k (.ref 698)), (("put_list" : Str), AV.k (.ref 705)), (("put_structure" : Str), AV.k (.ref 712)), (("put_unsafe_value" : Str), AV.k (.ref 691)), (("put_value" : Str), AV.k (.ref 684)), (("put_variable" : Str), AV.k (.ref 670)), (("put_void" : Str), AV.k (.ref 677)), (("read" : Str), AV.k (.ref 551)), (("set_constant" : Str), AV.k (.ref 740)), (("set_local_value" : Str), AV.k (.ref 733)), (("set_value" : Str), AV.k (.ref 726)), (("set_variable" : Str), AV.k (.ref 719)), (("set_void" : Str), AV.k (.ref 747)), (("slot_index" : Str), AV.k (.ref 544)), (("unify_constant" : Str), AV.k (.ref 649)), (("unify_local_value" : Str), AV.k (.ref 642)), (("unify_value" : Str), AV.k (.ref 635)), (("unify_variable" : Str), AV.k (.ref 628)), (("unify_void" : Str), AV.k (.ref 656)), (("write" : Str), AV.k (.ref 558))]
 fns := [(110, (["self", "symbols", "max_heap"] : List Str), ir_Cells__init), (117, (["self", "cell", "address"] : List Str), ir_Cells_push), (124, (["self", "cell"] : List Str), ir_Cells_new_var), (138, (["self", "h"] : List Str), ir_Cells_trim), (145, (["self", "cell", "tag", "found"] : List Str), ir_Cells_deref), (159, (["self", "cell", "value", "place"] : List Str), ir_Cells_bind), (180, (["self"] : List Str), ir_Cells_mark), (187, (["self", "mark", "entry", "slot"] : List Str), ir_Cells_undo_to), (194, (["self", "i", "value", "stack"] : List Str), ir_Cells_stack_put), (390, (["self", "symbols", "code", "max_heap", "occurs", "max_bits"] : List Str), ir_Areas__init), (397, (["self"] : List Str), ir_Areas_reset), (404, (["self", "number", "cell"] : List Str), ir_Areas_set_x), (411, (["self", "cells", "number", "cell"] : List Str), ir_Areas_set_arguments), (446, (["self"] : List Str), ir_Areas_top), (453, (["self", "size", "place", "store", "number"] : List Str), ir_Areas_push_environment), (460, (["self", "stack"] : List Str), ir_Areas_pop_environment), (474, (["self", "b", "store"] : List Str), ir_Areas_set_choice), (481, (["self", "cells", "alternative", "store", "place", "count", "at", "cell"] : List Str), ir_Areas_push_choice), (495, (["self", "part", "stack"] : List Str), ir_Areas_choice_part), (502, (["self", "store", "count", "i"] : List Str), ir_Areas_restore_choice), (509, (["self"] : List Str), ir_Areas_pop_choice), (516, (["self", "b"] : List Str), ir_Areas_cut_back), (544, (["m", "number"] : List Str), ir_slot_index), (551, (["m", "operand"] : List Str), ir_read), (558, (["m", "operand", "cell", "index"] : List Str), ir_write), (565, (["m", "cell", "constant", "found"] : List Str), ir_match_constant), (593, (["m", "ins"] : List Str), ir_get_variable), (607, (["m", "ins"] : List Str), ir_get_constant), (684, (["m", "ins"] : List Str), ir_put_value), (698, (["m", "ins"] : List Str), ir_put_constant), (761, (["m", "ins"] : List Str), ir_do_call), (768, (["m", "ins"] : List Str), ir_do_execute), (775, (["m", "ins"] : List Str), ir_do_proceed), (782, (["m", "ins"] : List Str), ir_do_allocate), (789, (["m", "ins"] : List Str), ir_do_deallocate), (796, (["m", "ins"] : List Str), ir_do_neck_cut), (803, (["m", "ins"] : List Str), ir_do_get_level), (817, (["m", "ins"] : List Str), ir_do_cut_to), (824, (["m", "ins"] : List Str), ir_do_fail), (831, (["m", "ins"] : List Str), ir_do_halt), (838, (["m", "ins"] : List Str), ir_do_try), (852, (["m", "ins"] : List Str), ir_do_trust), (895, (["self", "symbols", "code", "entries", "max_steps", "max_heap", "occurs", "max_bits", "control", "name"] : List Str), ir_Emulator__init), (902, (["self"] : List Str), ir_Emulator_clear), (909, (["self"] : List Str), ir_Emulator_backtrack), (916, (["self", "f", "entry"] : List Str), ir_Emulator_enter), (923, (["self", "f", "cells"] : List Str), ir_Emulator_start_at), (930, (["self", "instruction"] : List Str), ir_Emulator_step), (937, (["self"] : List Str), ir_Emulator_run), (944, (["self"] : List Str), ir_Emulator_redo), (956, (["state", "most", "row", "at"] : List Str), ir_law_take), (963, (["script", "state", "code", "turn", "door", "base", "by_constant", "told_constant", "by_functor", "told_functor", "figure", "cell", "sort", "m", "kind", "step", "answer", "due", "outer"] : List Str), ir_law), (208, (["self", "cell", "tag"] : List Str), ir_Cells_functor_of), (859, (["m", "ins", "tag"] : List Str), ir_do_switch_on_term), (866, (["m", "ins"] : List Str), ir_do_switch_on_constant), (873, (["m", "ins", "f"] : List Str), ir_do_switch_on_structure)]
 prims := [(754, [(19, 593), (20, 600), (21, 607), (22, 614), (23, 621), (24, 628), (25, 635), (26, 642), (27, 649), (28, 656), (30, 670), (31, 677), (32, 684), (33, 691), (34, 698), (35, 705), (36, 712), (37, 719), (38, 726), (39, 733), (40, 740), (41, 747)]), (880, [(154, 761), (155, 768), (156, 775), (157, 782), (158, 789), (159, 796), (160, 803), (79, 810), (161, 817), (162, 824), (163, 831), (164, 838), (165, 845), (166, 852), (167, 859), (168, 866), (169, 873)])]
 inits := [(289, 110), (947, 895)]
 meths := [((289, 67), 110), ((289, 76), 159), ((289, 74), 145), ((289, 83), 208), ((289, 79), 180), ((289, 71), 124), ((289, 70), 117), ((289, 81), 194), ((289, 73), 138), ((289, 80), 187), ((947, 67), 895), ((947, 118), 909), ((947, 108), 495), ((947, 117), 902), ((947, 111), 516), ((947, 119), 916), ((947, 110), 509), ((947, 103), 460), ((947, 106), 481), ((947, 102), 453), ((947, 123), 944), ((947, 96), 397), ((947, 109), 502), ((947, 122), 937), ((947, 98), 411), ((947, 105), 474), ((947, 97), 404), ((947, 120), 923), ((947, 121), 930), ((947, 101), 446)]
 cmeths := [((533, 67), 390)]
 flds := [(289, 146), (289, 147), (289, 151), (289, 138), (289, 141), (289, 152), (289, 127), (289, 145), (289, 170), (289, 173), (289, 149), (289, 129), (289, 137), (289, 134), (289, 143), (289, 133), (289, 171), (289, 148), (289, 142), (289, 128), (289, 150), (289, 125), (289, 135), (289, 131), (289, 126), (289, 132), (289, 172), (289, 136), (289, 144), (947, 146), (947, 147), (947, 151), (947, 138), (947, 141), (947, 152), (947, 127), (947, 145), (947, 170), (947, 173), (947, 149), (947, 129), (947, 137), (947, 134), (947, 143), (947, 133), (947, 171), (947, 148), (947, 142), (947, 128), (947, 150), (947, 125), (947, 135), (947, 131), (947, 126), (947, 132), (947, 172), (947, 136), (947, 144)]
noncomputable abbrev tab : Tab := tabL.tab
noncomputable abbrev f_Cells__init : Nat := 110
noncomputable abbrev f_Cells_push : Nat := 117
noncomputable abbrev f_Cells_new_var : Nat := 124
noncomputable abbrev f_Cells_trim : Nat := 138
noncomputable abbrev f_Cells_deref : Nat := 145
noncomputable abbrev f_Cells_bind : Nat := 159
noncomputable abbrev f_Cells_mark : Nat := 180
noncomputable abbrev f_Cells_undo_to : Nat := 187
noncomputable abbrev f_Cells_stack_put : Nat := 194
noncomputable abbrev f_Areas__init : Nat := 390
noncomputable abbrev f_Areas_reset : Nat := 397
noncomputable abbrev f_Areas_set_x : Nat := 404
noncomputable abbrev f_Areas_set_arguments : Nat := 411
noncomputable abbrev f_Areas_top : Nat := 446
noncomputable abbrev f_Areas_push_environment : Nat := 453
noncomputable abbrev f_Areas_pop_environment : Nat := 460
noncomputable abbrev f_Areas_set_choice : Nat := 474
noncomputable abbrev f_Areas_push_choice : Nat := 481
noncomputable abbrev f_Areas_choice_part : Nat := 495
noncomputable abbrev f_Areas_restore_choice : Nat := 502
noncomputable abbrev f_Areas_pop_choice : Nat := 509
noncomputable abbrev f_Areas_cut_back : Nat := 516
noncomputable abbrev f_slot_index : Nat := 544
noncomputable abbrev f_read : Nat := 551
noncomputable abbrev f_write : Nat := 558
noncomputable abbrev f_match_constant : Nat := 565
noncomputable abbrev f_get_variable : Nat := 593
noncomputable abbrev f_get_constant : Nat := 607
noncomputable abbrev f_put_value : Nat := 684
noncomputable abbrev f_put_constant : Nat := 698
noncomputable abbrev f_do_call : Nat := 761
noncomputable abbrev f_do_execute : Nat := 768
noncomputable abbrev f_do_proceed : Nat := 775
noncomputable abbrev f_do_allocate : Nat := 782
noncomputable abbrev f_do_deallocate : Nat := 789
noncomputable abbrev f_do_neck_cut : Nat := 796
noncomputable abbrev f_do_get_level : Nat := 803
noncomputable abbrev f_do_cut_to : Nat := 817
noncomputable abbrev f_do_fail : Nat := 824
noncomputable abbrev f_do_halt : Nat := 831
noncomputable abbrev f_do_try : Nat := 838
noncomputable abbrev f_do_trust : Nat := 852
noncomputable abbrev f_Emulator__init : Nat := 895
noncomputable abbrev f_Emulator_clear : Nat := 902
noncomputable abbrev f_Emulator_backtrack : Nat := 909
noncomputable abbrev f_Emulator_enter : Nat := 916
noncomputable abbrev f_Emulator_start_at : Nat := 923
noncomputable abbrev f_Emulator_step : Nat := 930
noncomputable abbrev f_Emulator_run : Nat := 937
noncomputable abbrev f_Emulator_redo : Nat := 944
noncomputable abbrev f_law_take : Nat := 956
noncomputable abbrev f_law : Nat := 963
noncomputable abbrev f_Cells_functor_of : Nat := 208
noncomputable abbrev f_do_switch_on_term : Nat := 859
noncomputable abbrev f_do_switch_on_constant : Nat := 866
noncomputable abbrev f_do_switch_on_structure : Nat := 873
noncomputable abbrev c_Store : Nat := 289
noncomputable abbrev c_Emulator : Nat := 947
noncomputable abbrev n_init : Nat := 67
noncomputable abbrev n_b : Nat := 146
noncomputable abbrev n_b0 : Nat := 147
noncomputable abbrev n_backtrack : Nat := 118
noncomputable abbrev n_bags : Nat := 151
noncomputable abbrev n_bb : Nat := 138
noncomputable abbrev n_bind : Nat := 76
noncomputable abbrev n_choice_part : Nat := 108
noncomputable abbrev n_clear : Nat := 117
noncomputable abbrev n_code : Nat := 141
noncomputable abbrev n_collect_wanted : Nat := 152
noncomputable abbrev n_cp : Nat := 127
noncomputable abbrev n_cut_back : Nat := 111
noncomputable abbrev n_deref : Nat := 74
noncomputable abbrev n_e : Nat := 145
noncomputable abbrev n_enter : Nat := 119
noncomputable abbrev n_entries : Nat := 170
noncomputable abbrev n_failed : Nat := 173
noncomputable abbrev n_functor : Nat := 181
noncomputable abbrev n_functor_of : Nat := 83
noncomputable abbrev n_guard : Nat := 149
noncomputable abbrev n_halted : Nat := 129
noncomputable abbrev n_hb : Nat := 137
noncomputable abbrev n_heap : Nat := 134
noncomputable abbrev n_mark : Nat := 79
noncomputable abbrev n_max_bits : Nat := 143
noncomputable abbrev n_max_heap : Nat := 133
noncomputable abbrev n_max_steps : Nat := 171
noncomputable abbrev n_mode : Nat := 148
noncomputable abbrev n_new_var : Nat := 71
noncomputable abbrev n_occurs : Nat := 142
noncomputable abbrev n_p : Nat := 128
noncomputable abbrev n_pop_choice : Nat := 110
noncomputable abbrev n_pop_environment : Nat := 103
noncomputable abbrev n_push : Nat := 70
noncomputable abbrev n_push_choice : Nat := 106
noncomputable abbrev n_push_environment : Nat := 102
noncomputable abbrev n_redo : Nat := 123
noncomputable abbrev n_reset : Nat := 96
noncomputable abbrev n_restore_choice : Nat := 109
noncomputable abbrev n_roots : Nat := 150
noncomputable abbrev n_run : Nat := 122
noncomputable abbrev n_s : Nat := 125
noncomputable abbrev n_set_arguments : Nat := 98
noncomputable abbrev n_set_choice : Nat := 105
noncomputable abbrev n_set_x : Nat := 97
noncomputable abbrev n_stack : Nat := 135
noncomputable abbrev n_stack_put : Nat := 81
noncomputable abbrev n_start_at : Nat := 120
noncomputable abbrev n_step : Nat := 121
noncomputable abbrev n_steps : Nat := 131
noncomputable abbrev n_store : Nat := 126
noncomputable abbrev n_symbols : Nat := 132
noncomputable abbrev n_table : Nat := 172
noncomputable abbrev n_top : Nat := 101
noncomputable abbrev n_trail : Nat := 136
noncomputable abbrev n_trim : Nat := 73
noncomputable abbrev n_undo_to : Nat := 80
noncomputable abbrev n_x : Nat := 144
end Mine
end
section
open PySem PySem.W PyProof.Rows
namespace Mine
theorem tab_ok (P : Params) : tabL.ok (Head.KF P) = true := by kernel_rfl
end Mine
end
section
section
namespace Mine
section
variable {M : Type} {I : M → St → Prop} {d : Nat}
structure EvR (I : M → St → Prop) (d : Nat) (x : Ex) (ρ : Lc) (m : M) (v : AV) (m' : M) : Prop where
 run : ∀ σ, I m σ → ∃ σ', ev tab (cfN tab d) x ρ σ = some (v, σ') ∧ I m' σ'
structure EvsR (I : M → St → Prop) (d : Nat) (x : List Ex) (ρ : Lc) (m : M) (v : List AV) (m' : M) : Prop where
 run : ∀ σ, I m σ → ∃ σ', evs tab (cfN tab d) x ρ σ = some (v, σ') ∧ I m' σ'
structure ExR (I : M → St → Prop) (d : Nat) (x : List Sx) (ρ : Lc) (m : M) (f : Fl) (ρ' : Lc) (m' : M) : Prop where
 run : ∀ σ, I m σ → ∃ σ', exs tab (cfN tab d) x ρ σ = some (f, ρ', σ') ∧ I m' σ'
structure CR (I : M → St → Prop) (d : Nat) (f : Nat) (vs : List AV) (m : M) (r : AV) (m' : M) : Prop where
 run : ∀ σ, I m σ → ∃ σ', cfN tab d (.k (.ref f)) vs σ = some (r, σ') ∧ I m' σ'
structure GF (I : M → St → Prop) (m : M) (w : AV) (f : Nat) (v : AV) : Prop where
 run : ∀ σ, I m σ → getF tab σ w f = some v
structure SF (I : M → St → Prop) (m : M) (w : AV) (f : Nat) (v : AV) (m' : M) : Prop where
 run : ∀ σ, I m σ → ∃ σ', setF tab σ w f v = some σ' ∧ I m' σ'
structure LS (I : M → St → Prop) (m : M) (w : AV) (xs : List AV) : Prop where
 run : ∀ σ, I m σ → ∃ a, w = .ref a ∧ σ.ob a = .list xs
structure UL (I : M → St → Prop) (m : M) (w : AV) (xs : List AV) (m' : M) : Prop where
 run : ∀ σ, I m σ → ∀ a, w = .ref a → I m' (σ.set a (.list xs))
structure MT (I : M → St → Prop) (m : M) (w : AV) (n f : Nat) : Prop where
 run : ∀ σ, I m σ → ∃ a C e fs, w = .ref a ∧ σ.ob a = .inst C e ∧ σ.ob e = .ns fs ∧ tab.meth C n = some f ∧ fget n fs = none
theorem ev_loc {i ρ v} {m : M} (h : ρ[i]? = some (some v)) : EvR I d (.loc i) ρ m v m := .mk fun σ s => ⟨σ, by show (ρ[i]?).bind _ = _; rw [h]; rfl, s⟩
theorem ev_lit {v ρ} {m : M} : EvR I d (.lit v) ρ m v m := .mk fun σ s => ⟨σ, rfl, s⟩
theorem ev_attr {x ρ f w v} {m m1 : M} (h : EvR I d x ρ m w m1) (g : GF I m1 w f v) : EvR I d (.attr x f) ρ m v m1 := .mk fun σ s => by
 obtain ⟨σ1, e, s1⟩ := h.run σ s
 refine ⟨σ1, ?_, s1⟩
 show (ev _ _ _ _ _).bind _ = _
 rw [e]
 show (getF _ _ _ _).bind _ = _
 rw [g.run σ1 s1]; rfl
theorem evs_nil {ρ} {m : M} : EvsR I d [] ρ m [] m := .mk fun σ s => ⟨σ, rfl, s⟩
theorem evs_cons {x xs ρ v vs} {m m1 m2 : M} (h : EvR I d x ρ m v m1) (g : EvsR I d xs ρ m1 vs m2) : EvsR I d (x :: xs) ρ m (v :: vs) m2 := .mk fun σ s => by
 obtain ⟨σ1, e, s1⟩ := h.run σ s
 obtain ⟨σ2, e2, s2⟩ := g.run σ1 s1
 refine ⟨σ2, ?_, s2⟩
 show (ev _ _ _ _ _).bind _ = _
 rw [e]
 show (evs _ _ _ _ _).bind _ = _
 rw [e2]; rfl
theorem ev_tup {xs ρ vs} {m m1 : M} (h : EvsR I d xs ρ m vs m1) : EvR I d (.tup xs) ρ m (.tup vs) m1 := .mk fun σ s => by
 obtain ⟨σ1, e, s1⟩ := h.run σ s
 refine ⟨σ1, ?_, s1⟩
 show (evs _ _ _ _ _).bind _ = _
 rw [e]; rfl
theorem at?_ok {i : Int} {n : Nat} (h1 : 0 ≤ i) (h2 : i < n) : at? i n = some i.toNat := if_pos ⟨h1, h2⟩
structure SD (I : M → St → Prop) (m : M) (w : AV) (n : Nat) (v : AV) : Prop where
 run : ∀ σ, I m σ → ∃ a fs, w = .ref a ∧ σ.ob a = .sdict fs ∧ fget n fs = some v
theorem ev_bin {op x y ρ a b c} {m m1 m2 : M} (h : EvR I d x ρ m (.int a) m1) (g : EvR I d y ρ m1 (.int b) m2) (k : binI op a b = some c) : EvR I d (.bin op x y) ρ m (.int c) m2 := .mk fun σ s => by
 obtain ⟨σ1, e, s1⟩ := h.run σ s
 obtain ⟨σ2, e2, s2⟩ := g.run σ1 s1
 refine ⟨σ2, ?_, s2⟩
 show (ev _ _ _ _ _).bind _ = _
 rw [e]
 show (ev _ _ _ _ _).bind _ = _
 rw [e2]
 show (binI op a b).bind _ = _
 rw [k]; rfl
noncomputable abbrev c2 (t v : Int) : AV := .tup [.int t, .int v]
theorem ev_not {x ρ b} {m m1 : M} (h : EvR I d x ρ m (.bool b) m1) : EvR I d (.not x) ρ m (.bool !b) m1 := .mk fun σ s => by
 obtain ⟨σ1, e, s1⟩ := h.run σ s
 refine ⟨σ1, ?_, s1⟩
 show (ev _ _ _ _ _).bind _ = _
 rw [e]; rfl
theorem ev_isN {x ρ v} {m m1 : M} (h : EvR I d x ρ m v m1) : EvR I d (.isN x) ρ m (.bool (isNA v)) m1 := .mk fun σ s => by
 obtain ⟨σ1, e, s1⟩ := h.run σ s
 refine ⟨σ1, ?_, s1⟩
 show (ev _ _ _ _ _).bind _ = _
 rw [e]; rfl
theorem ev_neg {x ρ i} {m m1 : M} (h : EvR I d x ρ m (.int i) m1) : EvR I d (.neg x) ρ m (.int (-i)) m1 := .mk fun σ s => by
 obtain ⟨σ1, e, s1⟩ := h.run σ s
 refine ⟨σ1, ?_, s1⟩
 show (ev _ _ _ _ _).bind _ = _
 rw [e]; rfl
theorem ev_len {x ρ w xs} {m m1 : M} (h : EvR I d x ρ m w m1) (l : LS I m1 w xs) : EvR I d (.len x) ρ m (.int xs.length) m1 := .mk fun σ s => by
 obtain ⟨σ1, e, s1⟩ := h.run σ s
 obtain ⟨a, rfl, hl⟩ := l.run σ1 s1
 refine ⟨σ1, ?_, s1⟩
 show (ev _ _ _ _ _).bind _ = _
 rw [e]
 show (asList (σ1.ob a)).bind _ = _
 rw [hl]; rfl
theorem ev_bop1 {a x y ρ b} {m m1 : M} (h : EvR I d x ρ m (.bool b) m1) (k : (decide (b = a)) = false) : EvR I d (.bop a [x, y]) ρ m (.bool b) m1 := .mk fun σ s => by
 obtain ⟨σ1, e, s1⟩ := h.run σ s
 refine ⟨σ1, ?_, s1⟩
 show (ev _ _ _ _ _).bind _ = _
 rw [e]
 show (if b = a then _ else _) = _
 rw [if_neg (of_decide_eq_false k)]
theorem ev_bop2 {a x y ρ b c} {m m1 m2 : M} (h : EvR I d x ρ m (.bool b) m1) (k : (decide (b = a)) = true) (g : EvR I d y ρ m1 (.bool c) m2) : EvR I d (.bop a [x, y]) ρ m (.bool c) m2 := .mk fun σ s => by
 obtain ⟨σ1, e, s1⟩ := h.run σ s
 obtain ⟨σ2, e2, s2⟩ := g.run σ1 s1
 refine ⟨σ2, ?_, s2⟩
 show (ev _ _ _ _ _).bind _ = _
 rw [e]
 show (if b = a then (ev _ _ _ _ _).bind _ else _) = _
 rw [if_pos (of_decide_eq_true k), e2]; rfl
theorem ev_call {x es ρ f vs r} {m m1 m2 m3 : M} (h : EvR I d x ρ m (.k (.ref f)) m1) (g : EvsR I d es ρ m1 vs m2) (c : CR I d f vs m2 r m3) : EvR I d (.call x es) ρ m r m3 := .mk fun σ s => by
 obtain ⟨σ1, e, s1⟩ := h.run σ s
 obtain ⟨σ2, e2, s2⟩ := g.run σ1 s1
 obtain ⟨σ3, e3, s3⟩ := c.run σ2 s2
 refine ⟨σ3, ?_, s3⟩
 show (ev _ _ _ _ _).bind _ = _
 rw [e]
 show (evs _ _ _ _ _).bind _ = _
 rw [e2]; exact e3
theorem ev_meth {x es ρ w n f vs r} {m m1 m2 m3 : M} (h : EvR I d x ρ m w m1) (t : MT I m1 w n f) (g : EvsR I d es ρ m1 vs m2) (c : CR I d f (w :: vs) m2 r m3) : EvR I d (.meth x n es) ρ m r m3 := .mk fun σ s => by
 obtain ⟨σ1, e, s1⟩ := h.run σ s
 obtain ⟨σ2, e2, s2⟩ := g.run σ1 s1
 obtain ⟨σ3, e3, s3⟩ := c.run σ2 s2
 obtain ⟨a, C, q, fs, rfl, t1, t2, t3, t4⟩ := t.run σ1 s1
 refine ⟨σ3, ?_, s3⟩
 show (ev _ _ _ _ _).bind _ = _
 rw [e]
 show (asInst (σ1.ob a)).bind _ = _
 rw [t1]
 show (asNs (σ1.ob q)).bind _ = _
 rw [t2]
 show (tab.meth C n).bind _ = _
 rw [t3]
 show (if (fget n fs).isNone = true then (evs _ _ _ _ _).bind _ else none) = _
 rw [t4, e2]; exact e3
theorem ev_app {x y ρ w v xs} {m m1 m2 m3 : M} (h : EvR I d x ρ m w m1) (l1 : LS I m1 w xs) (g : EvR I d y ρ m1 v m2) (l : LS I m2 w xs) (k : xs.length < LIM) (u : UL I m2 w (xs ++ [v]) m3) : EvR I d (.app x y) ρ m .none m3 := .mk fun σ s => by
 obtain ⟨σ1, e, s1⟩ := h.run σ s
 obtain ⟨σ2, e2, s2⟩ := g.run σ1 s1
 obtain ⟨a, rfl, hl⟩ := l.run σ2 s2
 obtain ⟨a', q, hl1⟩ := l1.run σ1 s1
 cases q
 refine ⟨_, ?_, u.run σ2 s2 a rfl⟩
 show (ev _ _ _ _ _).bind _ = _
 rw [e]
 show (asList (σ1.ob a)).bind _ = _
 rw [hl1]
 show (ev _ _ _ _ _).bind _ = _
 rw [e2]
 show (asList (σ2.ob a)).bind _ = _
 rw [hl]
 exact if_pos k
structure GD (I : M → St → Prop) (m : M) (w k dv v : AV) : Prop where
 run : ∀ σ, I m σ → ∃ a, w = .ref a ∧ isDO (σ.ob a) = true ∧ getO (σ.ob a) k dv = some v
structure DO (I : M → St → Prop) (m : M) (w : AV) : Prop where
 run : ∀ σ, I m σ → ∃ a, w = .ref a ∧ isDO (σ.ob a) = true
theorem ev_dget {x y ρ w k v} {m m1 m2 : M} (h : EvR I d x ρ m w m1) (o : DO I m1 w) (g : EvR I d y ρ m1 k m2) (l : GD I m2 w k .none v) : EvR I d (.dget x y) ρ m v m2 := .mk fun σ s => by
 obtain ⟨σ1, e, s1⟩ := h.run σ s
 obtain ⟨σ2, e2, s2⟩ := g.run σ1 s1
 obtain ⟨a, rfl, hd⟩ := o.run σ1 s1
 obtain ⟨a', q, _, hg⟩ := l.run σ2 s2
 cases q
 refine ⟨σ2, ?_, s2⟩
 show (ev _ _ _ _ _).bind _ = _
 rw [e]
 show (if isDO (σ1.ob a) = true then some a else none).bind _ = _
 rw [if_pos hd]
 show (ev _ _ _ _ _).bind _ = _
 rw [e2]
 show (getO (σ2.ob a) k .none).bind _ = _
 rw [hg]; rfl
theorem ev_dgetd {x y z ρ w k dv v} {m m1 m2 m3 : M} (h : EvR I d x ρ m w m1) (o : DO I m1 w) (g : EvR I d y ρ m1 k m2) (g2 : EvR I d z ρ m2 dv m3) (l : GD I m3 w k dv v) : EvR I d (.dgetd x y z) ρ m v m3 := .mk fun σ s => by
 obtain ⟨σ1, e, s1⟩ := h.run σ s
 obtain ⟨σ2, e2, s2⟩ := g.run σ1 s1
 obtain ⟨σ3, e3, s3⟩ := g2.run σ2 s2
 obtain ⟨a, rfl, hd⟩ := o.run σ1 s1
 obtain ⟨a', q, _, hg⟩ := l.run σ3 s3
 cases q
 refine ⟨σ3, ?_, s3⟩
 show (ev _ _ _ _ _).bind _ = _
 rw [e]
 show (if isDO (σ1.ob a) = true then some a else none).bind _ = _
 rw [if_pos hd]
 show (ev _ _ _ _ _).bind _ = _
 rw [e2]
 show (ev _ _ _ _ _).bind _ = _
 rw [e3]
 show (getO (σ3.ob a) k dv).bind _ = _
 rw [hg]; rfl
theorem exs_eq {s r ρ σ} : exs tab (cfN tab d) (s :: r) ρ σ = (ex tab (cfN tab d) s ρ σ).bind fun q => match q.1 with
  | .next => exs tab (cfN tab d) r q.2.1 q.2.2
  | .ret v => some (.ret v, q.2.1, q.2.2) := rfl
theorem ex_nil {ρ} {m : M} : ExR I d [] ρ m .next ρ m := .mk fun σ s => ⟨σ, rfl, s⟩
theorem exs_next {s r ρ ρ1 σ σ1} (h : ex tab (cfN tab d) s ρ σ = some (.next, ρ1, σ1)) : exs tab (cfN tab d) (s :: r) ρ σ = exs tab (cfN tab d) r ρ1 σ1 := by rw [exs_eq, h]; rfl
theorem exs_ret {s r ρ ρ1 σ σ1 v} (h : ex tab (cfN tab d) s ρ σ = some (.ret v, ρ1, σ1)) : exs tab (cfN tab d) (s :: r) ρ σ = some (.ret v, ρ1, σ1) := by rw [exs_eq, h]; rfl
theorem exs_one {s ρ σ q} (h : ex tab (cfN tab d) s ρ σ = some q) : exs tab (cfN tab d) [s] ρ σ = some q := by
 obtain ⟨f, ρ1, σ1⟩ := q
 cases f with
 | next => rw [exs_next h]; rfl
 | ret v => rw [exs_ret h]
theorem ex_one {s ρ σ q} (h : exs tab (cfN tab d) [s] ρ σ = some q) : ex tab (cfN tab d) s ρ σ = some q := by
 rw [exs_eq] at h
 obtain ⟨⟨f, ρ1, σ1⟩, e, h⟩ := bind_inv h
 cases f with
 | next => exact e.trans h
 | ret v => exact e.trans h
theorem ex_then {s r ρ f ρ1 ρ' } {m m1 m' : M} (h : ExR I d [s] ρ m .next ρ1 m1) (g : ExR I d r ρ1 m1 f ρ' m') : ExR I d (s :: r) ρ m f ρ' m' := .mk fun σ hs => by
 obtain ⟨σ1, e, s1⟩ := h.run σ hs
 obtain ⟨σ2, e2, s2⟩ := g.run σ1 s1
 exact ⟨σ2, by rw [exs_next (ex_one e)]; exact e2, s2⟩
theorem ex_asg {i x r ρ v f ρ'} {m m1 m' : M} (h : EvR I d x ρ m v m1) (g : ExR I d r (setL ρ i v) m1 f ρ' m') : ExR I d (.asg i x :: r) ρ m f ρ' m' := .mk fun σ s => by
 obtain ⟨σ1, e, s1⟩ := h.run σ s
 obtain ⟨σ2, e2, s2⟩ := g.run σ1 s1
 refine ⟨σ2, ?_, s2⟩
 rw [exs_next (show ex _ _ _ _ _ = some (.next, setL ρ i v, σ1) from by show (ev _ _ _ _ _).bind _ = _; rw [e]; rfl)]
 exact e2
theorem ex_setA {o n x r ρ w v f ρ'} {m m1 m2 m3 m' : M} (h : EvR I d x ρ m v m1) (h2 : EvR I d o ρ m1 w m2) (u : SF I m2 w n v m3) (g : ExR I d r ρ m3 f ρ' m') : ExR I d (.setA o n x :: r) ρ m f ρ' m' := .mk fun σ s => by
 obtain ⟨σ1, e, s1⟩ := h.run σ s
 obtain ⟨σ2, e2, s2⟩ := h2.run σ1 s1
 obtain ⟨σ3, e3, s3⟩ := u.run σ2 s2
 obtain ⟨σ4, e4, s4⟩ := g.run σ3 s3
 refine ⟨σ4, ?_, s4⟩
 rw [exs_next (show ex _ _ _ _ _ = some (.next, ρ, σ3) from by
  show (ev _ _ _ _ _).bind _ = _
  rw [e]
  show (ev _ _ _ _ _).bind _ = _
  rw [e2]
  show (setF _ _ _ _ _).bind _ = _
  rw [e3]; rfl)]
 exact e4
theorem ex_setS {o k x r ρ w v i xs f ρ'} {m m1 m2 m3 m4 m' : M} (h : EvR I d x ρ m v m1) (h2 : EvR I d o ρ m1 w m2) (h3 : EvR I d k ρ m2 (.int i) m3) (l : LS I m3 w xs) (k1 : 0 ≤ i) (k2 : i < xs.length) (u : UL I m3 w (xs.set i.toNat v) m4) (g : ExR I d r ρ m4 f ρ' m') : ExR I d (.setS o k x :: r) ρ m f ρ' m' := .mk fun σ s => by
 obtain ⟨σ1, e, s1⟩ := h.run σ s
 obtain ⟨σ2, e2, s2⟩ := h2.run σ1 s1
 obtain ⟨σ3, e3, s3⟩ := h3.run σ2 s2
 obtain ⟨a, rfl, hl⟩ := l.run σ3 s3
 obtain ⟨σ4, e4, s4⟩ := g.run _ (u.run σ3 s3 a rfl)
 refine ⟨σ4, ?_, s4⟩
 rw [exs_next (show ex _ _ _ _ _ = some (.next, ρ, σ3.set a (.list (xs.set i.toNat v))) from by
  show (ev _ _ _ _ _).bind _ = _
  rw [e]
  show (ev _ _ _ _ _).bind _ = _
  rw [e2]
  show (ev _ _ _ _ _).bind _ = _
  rw [e3]
  show ((putO (σ3.ob a) _ _).bind _).bind _ = _
  rw [hl]
  show (((at? i xs.length).bind _).bind _).bind _ = _
  rw [at?_ok k1 k2]; rfl)]
 exact e4
theorem ex_augL {i op x r ρ a b c f ρ'} {m m1 m' : M} (hl : ρ[i]? = some (some (.int a))) (h : EvR I d x ρ m (.int b) m1) (k : binI op a b = some c) (g : ExR I d r (setL ρ i (.int c)) m1 f ρ' m') : ExR I d (.augL i op x :: r) ρ m f ρ' m' := .mk fun σ s => by
 obtain ⟨σ1, e, s1⟩ := h.run σ s
 obtain ⟨σ2, e2, s2⟩ := g.run σ1 s1
 refine ⟨σ2, ?_, s2⟩
 rw [exs_next (show ex _ _ _ _ _ = some (.next, setL ρ i (.int c), σ1) from by
  show (ρ[i]?).bind _ = _
  rw [hl]
  show (ev _ _ _ _ _).bind _ = _
  rw [e]
  show (binI op a b).bind _ = _
  rw [k]; rfl)]
 exact e2
theorem ex_augA {o n op x r ρ w a b c f ρ'} {m m1 m2 m3 m' : M} (h : EvR I d o ρ m w m1) (gf : GF I m1 w n (.int a)) (h2 : EvR I d x ρ m1 (.int b) m2) (k : binI op a b = some c) (u : SF I m2 w n (.int c) m3) (g : ExR I d r ρ m3 f ρ' m') : ExR I d (.augA o n op x :: r) ρ m f ρ' m' := .mk fun σ s => by
 obtain ⟨σ1, e, s1⟩ := h.run σ s
 obtain ⟨σ2, e2, s2⟩ := h2.run σ1 s1
 obtain ⟨σ3, e3, s3⟩ := u.run σ2 s2
 obtain ⟨σ4, e4, s4⟩ := g.run σ3 s3
 refine ⟨σ4, ?_, s4⟩
 rw [exs_next (show ex _ _ _ _ _ = some (.next, ρ, σ3) from by
  show (ev _ _ _ _ _).bind _ = _
  rw [e]
  show (getF _ _ _ _).bind _ = _
  rw [gf.run σ1 s1]
  show (ev _ _ _ _ _).bind _ = _
  rw [e2]
  show (binI op a b).bind _ = _
  rw [k]
  show (setF _ _ _ _ _).bind _ = _
  rw [e3]; rfl)]
 exact e4
theorem ex_expr {x r ρ v f ρ'} {m m1 m' : M} (h : EvR I d x ρ m v m1) (k : isUnit v = true) (g : ExR I d r ρ m1 f ρ' m') : ExR I d (.expr x :: r) ρ m f ρ' m' := .mk fun σ s => by
 obtain ⟨σ1, e, s1⟩ := h.run σ s
 obtain ⟨σ2, e2, s2⟩ := g.run σ1 s1
 refine ⟨σ2, ?_, s2⟩
 rw [exs_next (show ex _ _ _ _ _ = some (.next, ρ, σ1) from by
  show (ev _ _ _ _ _).bind _ = _
  rw [e]
  exact if_pos k)]
 exact e2
theorem ex_ret {x r ρ v} {m m1 : M} (h : EvR I d x ρ m v m1) : ExR I d (.ret x :: r) ρ m (.ret v) ρ m1 := .mk fun σ s => by
 obtain ⟨σ1, e, s1⟩ := h.run σ s
 exact ⟨σ1, exs_ret (by show (ev _ _ _ _ _).bind _ = _; rw [e]; rfl), s1⟩
theorem ex_retN {r ρ} {m : M} : ExR I d (.retN :: r) ρ m (.ret .none) ρ m := .mk fun σ s => ⟨σ, exs_ret rfl, s⟩
theorem exs_app {a b ρ σ} : exs tab (cfN tab d) (a ++ b) ρ σ = (exs tab (cfN tab d) a ρ σ).bind fun q => match q.1 with
  | .next => exs tab (cfN tab d) b q.2.1 q.2.2
  | .ret v => some (.ret v, q.2.1, q.2.2) := by
 induction a generalizing ρ σ with
 | nil => rfl
 | cons s a ih =>
  show exs _ _ (s :: (a ++ b)) _ _ = _
  rw [exs_eq, exs_eq]
  cases ex tab (cfN tab d) s ρ σ with
  | none => rfl
  | some q =>
   obtain ⟨f, ρ1, σ1⟩ := q
   cases f with
   | next => exact ih
   | ret v => rfl
theorem ex_iteT {c a b r ρ f ρ' t} {m m1 m' : M} (h : EvR I d c ρ m (.bool t) m1) (k : t = true) (g : ExR I d (a ++ r) ρ m1 f ρ' m') : ExR I d (.ite c a b :: r) ρ m f ρ' m' := .mk fun σ s => by
 obtain ⟨σ1, e, s1⟩ := h.run σ s
 obtain ⟨σ2, e2, s2⟩ := g.run σ1 s1
 refine ⟨σ2, ?_, s2⟩
 subst k
 rw [exs_eq]
 show ((ev _ _ _ _ _).bind _).bind _ = _
 rw [e]
 rw [exs_app] at e2
 exact e2
theorem ex_iteF {c a b r ρ f ρ' t} {m m1 m' : M} (h : EvR I d c ρ m (.bool t) m1) (k : t = false) (g : ExR I d (b ++ r) ρ m1 f ρ' m') : ExR I d (.ite c a b :: r) ρ m f ρ' m' := .mk fun σ s => by
 obtain ⟨σ1, e, s1⟩ := h.run σ s
 obtain ⟨σ2, e2, s2⟩ := g.run σ1 s1
 refine ⟨σ2, ?_, s2⟩
 subst k
 rw [exs_eq]
 show ((ev _ _ _ _ _).bind _).bind _ = _
 rw [e]
 rw [exs_app] at e2
 exact e2
theorem whl_eq {c b ρ σ} : ex tab (cfN tab d) (.whl c b) ρ σ = (ev tab (cfN tab d) c ρ σ).bind fun q => (asBool q.1).bind fun t => cond t ((exs tab (cfN tab d) b ρ q.2).bind fun q => match q.1 with
  | .next => ex tab (cfN tab d) (.whl c b) q.2.1 q.2.2
  | .ret v => some (.ret v, q.2.1, q.2.2)) (some (.next, ρ, q.2)) := by
 show loopF _ _ = _
 rw [loopF_unfold]
 cases h : ev tab (cfN tab d) c ρ σ with
 | none => simp only [h]; rfl
 | some q =>
  simp only [h]
  cases h2 : asBool q.1 with
  | none => simp only [Option.bind_some, h2]; rfl
  | some t =>
   simp only [Option.bind_some, h2]
   cases t with
   | false => rfl
   | true =>
    simp only [cond_true]
    cases h3 : exs tab (cfN tab d) b ρ q.2 with
    | none => rfl
    | some z =>
     obtain ⟨f, ρ1, σ1⟩ := z
     cases f with
     | next => rfl
     | ret v => rfl
theorem ex_whlF {c b r ρ f ρ' t} {m m1 m' : M} (h : EvR I d c ρ m (.bool t) m1) (k : t = false) (g : ExR I d r ρ m1 f ρ' m') : ExR I d (.whl c b :: r) ρ m f ρ' m' := .mk fun σ s => by
 obtain ⟨σ1, e, s1⟩ := h.run σ s
 obtain ⟨σ2, e2, s2⟩ := g.run σ1 s1
 refine ⟨σ2, ?_, s2⟩
 subst k
 rw [exs_next (show ex _ _ _ _ _ = some (.next, ρ, σ1) from by rw [whl_eq, e]; rfl)]
 exact e2
theorem ex_whlT {c b r ρ ρ1 f ρ' t} {m m1 m2 m' : M} (h : EvR I d c ρ m (.bool t) m1) (k : t = true) (g : ExR I d b ρ m1 .next ρ1 m2) (g2 : ExR I d (.whl c b :: r) ρ1 m2 f ρ' m') : ExR I d (.whl c b :: r) ρ m f ρ' m' := .mk fun σ s => by
 obtain ⟨σ1, e, s1⟩ := h.run σ s
 obtain ⟨σ2, e2, s2⟩ := g.run σ1 s1
 obtain ⟨σ3, e3, s3⟩ := g2.run σ2 s2
 refine ⟨σ3, ?_, s3⟩
 subst k
 rw [exs_eq] at e3 ⊢
 rw [whl_eq, e]
 show ((exs _ _ _ _ _).bind _).bind _ = _
 rw [e2]; exact e3
theorem ex_whlR {c b r ρ ρ1 v t} {m m1 m2 : M} (h : EvR I d c ρ m (.bool t) m1) (k : t = true) (g : ExR I d b ρ m1 (.ret v) ρ1 m2) : ExR I d (.whl c b :: r) ρ m (.ret v) ρ1 m2 := .mk fun σ s => by
 obtain ⟨σ1, e, s1⟩ := h.run σ s
 obtain ⟨σ2, e2, s2⟩ := g.run σ1 s1
 refine ⟨σ2, ?_, s2⟩
 subst k
 rw [exs_ret (ρ1 := ρ1) (σ1 := σ2) (v := v)]
 rw [whl_eq, e]
 show (exs _ _ _ _ _).bind _ = _
 rw [e2]; rfl
structure ForR (I : M → St → Prop) (d : Nat) (i : Nat) (b : List Sx) (k h : Int) (ρ : Lc) (m : M) (f : Fl) (ρ' : Lc) (m' : M) : Prop where
 run : ∀ σ, I m σ → ∃ σ', loopF (fun (p : Int × Lc × St) => if p.1 < h then (exs tab (cfN tab d) b (setL p.2.1 i (.int p.1)) p.2.2).map (turnTo fun ρ σ => (p.1 + 1, ρ, σ)) else some (.inr (.next, p.2.1, p.2.2))) (k, ρ, σ) = some (f, ρ', σ') ∧ I m' σ'
theorem for_end {i b k h ρ} {m : M} (hk : h ≤ k) : ForR I d i b k h ρ m .next ρ m := .mk fun σ s => by
 refine ⟨σ, ?_, s⟩
 rw [loopF_unfold]
 dsimp only
 rw [if_neg (Int.not_lt.mpr hk)]
theorem for_go {i b k h ρ ρ1 f ρ'} {m m1 m' : M} (hk : k < h) (g : ExR I d b (setL ρ i (.int k)) m .next ρ1 m1) (g2 : ForR I d i b (k + 1) h ρ1 m1 f ρ' m') : ForR I d i b k h ρ m f ρ' m' := .mk fun σ s => by
 obtain ⟨σ1, e, s1⟩ := g.run σ s
 obtain ⟨σ2, e2, s2⟩ := g2.run σ1 s1
 refine ⟨σ2, ?_, s2⟩
 rw [loopF_unfold]
 dsimp only
 rw [if_pos hk, e]
 exact e2
theorem ex_forR {i x b r ρ ρ1 h f ρ'} {m m1 m2 m' : M} (g : EvR I d x ρ m (.int h) m1) (k : rng h = true) (g2 : ForR I d i b 0 h ρ m1 .next ρ1 m2) (g3 : ExR I d r ρ1 m2 f ρ' m') : ExR I d (.forR i x b :: r) ρ m f ρ' m' := .mk fun σ s => by
 obtain ⟨σ1, e, s1⟩ := g.run σ s
 obtain ⟨σ2, e2, s2⟩ := g2.run σ1 s1
 obtain ⟨σ3, e3, s3⟩ := g3.run σ2 s2
 refine ⟨σ3, ?_, s3⟩
 rw [exs_next (show ex _ _ _ _ _ = some (.next, ρ1, σ2) from by
  show (ev _ _ _ _ _).bind _ = _
  rw [e]
  show (if rng h = true then _ else _) = _
  rw [if_pos k]; exact e2)]
 exact e3
structure ForL (I : M → St → Prop) (d : Nat) (i : Nat) (b : List Sx) (w : AV) (k : Nat) (ρ : Lc) (m : M) (f : Fl) (ρ' : Lc) (m' : M) : Prop where
 run : ∀ σ, I m σ → ∃ σ', loopF (fun (p : Nat × Lc × St) => (listA w p.2.2).bind fun xs => match xs[p.1]? with
   | some x => (exs tab (cfN tab d) b (setL p.2.1 i x) p.2.2).map (turnTo fun ρ σ => (p.1 + 1, ρ, σ))
   | Option.none => some (.inr (.next, p.2.1, p.2.2))) (k, ρ, σ) = some (f, ρ', σ') ∧ I m' σ'
theorem forl_end {i b w xs k ρ} {m : M} (l : LS I m w xs) (hk : xs[k]? = none) : ForL I d i b w k ρ m .next ρ m := .mk fun σ s => by
 refine ⟨σ, ?_, s⟩
 obtain ⟨a, rfl, hl⟩ := l.run σ s
 rw [loopF_unfold]
 dsimp only
 have : listA (.ref a) σ = some xs := by show asList (σ.ob a) = _; rw [hl]; rfl
 rw [this]
 simp only [Option.bind_some, hk]
theorem forl_go {i b w xs k x ρ ρ1 f ρ'} {m m1 m' : M} (l : LS I m w xs) (hk : xs[k]? = some x) (g : ExR I d b (setL ρ i x) m .next ρ1 m1) (g2 : ForL I d i b w (k + 1) ρ1 m1 f ρ' m') : ForL I d i b w k ρ m f ρ' m' := .mk fun σ s => by
 obtain ⟨σ1, e, s1⟩ := g.run σ s
 obtain ⟨σ2, e2, s2⟩ := g2.run σ1 s1
 refine ⟨σ2, ?_, s2⟩
 obtain ⟨a, rfl, hl⟩ := l.run σ s
 rw [loopF_unfold]
 dsimp only
 have : listA (.ref a) σ = some xs := by show asList (σ.ob a) = _; rw [hl]; rfl
 rw [this]
 simp only [Option.bind_some, hk]
 rw [e]
 exact e2
theorem ex_forL {i x b w r ρ ρ1 f ρ'} {m m1 m2 m' : M} (g : EvR I d x ρ m w m1) (g2 : ForL I d i b w 0 ρ m1 .next ρ1 m2) (g3 : ExR I d r ρ1 m2 f ρ' m') : ExR I d (.forL i x b :: r) ρ m f ρ' m' := .mk fun σ s => by
 obtain ⟨σ1, e, s1⟩ := g.run σ s
 obtain ⟨σ2, e2, s2⟩ := g2.run σ1 s1
 obtain ⟨σ3, e3, s3⟩ := g3.run σ2 s2
 refine ⟨σ3, ?_, s3⟩
 rw [exs_next (show ex _ _ _ _ _ = some (.next, ρ1, σ2) from by
  show (ev _ _ _ _ _).bind _ = _
  rw [e]; exact e2)]
 exact e3
theorem c_fn {f F vs ρ r ρ' fl} {m m' : M} (hf : tab.fn f = some F) (hb : bindA F vs = some ρ) (g : ExR I d F.body ρ m fl ρ' m') (hr : flV fl = r) : CR I (d + 1) f vs m r m' := .mk fun σ s => by
 obtain ⟨σ1, e, s1⟩ := g.run σ s
 refine ⟨σ1, ?_, s1⟩
 show (match tab.fn f with | some F => _ | Option.none => _) = _
 rw [hf]
 show (bindA F vs).bind _ = _
 rw [hb]
 show (exs _ _ _ _ _).bind _ = _
 rw [e, ← hr]; rfl
end
end Mine
end
section
namespace Mine
structure Mc where
 heap : List AV
 stack : List AV
 trail : List AV
 x : List AV
 hb : Int
 bb : Int
 p : Int
 cp : Int
 e : Int
 b : Int
 b0 : Int
 steps : Int
 halted : Bool
 failed : Bool
structure En where
 em : Nat
 codeA : Nat
 code : List AV
 doorA : Nat
 doors : List (Int × AV)
 max : Int
 s0 : St
noncomputable abbrev void : AV := c2 5 0
noncomputable abbrev En.me (E : En) : AV := .ref E.em
noncomputable abbrev En.store (E : En) : AV := .ref (E.em + 12)
noncomputable def tblM : List (Nat × AV) := [(19, .k (.ref 593)), (20, .k (.ref 600)), (21, .k (.ref 607)), (22, .k (.ref 614)), (23, .k (.ref 621)), (24, .k (.ref 628)), (25, .k (.ref 635)), (26, .k (.ref 642)), (27, .k (.ref 649)), (28, .k (.ref 656)), (30, .k (.ref 670)), (31, .k (.ref 677)), (32, .k (.ref 684)), (33, .k (.ref 691)), (34, .k (.ref 698)), (35, .k (.ref 705)), (36, .k (.ref 712)), (37, .k (.ref 719)), (38, .k (.ref 726)), (39, .k (.ref 733)), (40, .k (.ref 740)), (41, .k (.ref 747))]
noncomputable def tblC : List (Nat × AV) := [(154, .k (.ref 761)), (155, .k (.ref 768)), (156, .k (.ref 775)), (157, .k (.ref 782)), (158, .k (.ref 789)), (159, .k (.ref 796)), (160, .k (.ref 803)), (79, .k (.ref 810)), (161, .k (.ref 817)), (162, .k (.ref 824)), (163, .k (.ref 831)), (164, .k (.ref 838)), (165, .k (.ref 845)), (166, .k (.ref 852)), (167, .k (.ref 859)), (168, .k (.ref 866)), (169, .k (.ref 873))]
noncomputable def tbl : List (Nat × AV) := tblM ++ tblC
noncomputable def emF (E : En) (m : Mc) : List (Nat × AV) := [(132, .none), (141, .ref E.codeA), (133, .int 100000), (142, .bool true), (143, .int 4096), (126, .ref (E.em + 12)), (144, .ref (E.em + 17)), (128, .int m.p), (127, .int m.cp), (145, .int m.e), (146, .int m.b), (147, .int m.b0), (148, .str 13), (125, .int 0), (149, void), (150, .ref (E.em + 18)), (151, .ref (E.em + 19)), (152, .bool false), (170, .ref E.doorA), (171, .int E.max), (172, .ref (E.em + 10)), (131, .int m.steps), (129, .bool m.halted), (173, .bool m.failed)]
noncomputable def stF (E : En) (m : Mc) : List (Nat × AV) := [(132, .none), (133, .int 100000), (134, .ref (E.em + 14)), (135, .ref (E.em + 15)), (136, .ref (E.em + 16)), (137, .int m.hb), (138, .int m.bb)]
structure Lay (E : En) (m : Mc) (σ : St) : Prop where
 a0 : σ.ob E.em = .inst 947 (E.em + 1)
 a1 : σ.ob (E.em + 1) = .ns (emF E m)
 a10 : σ.ob (E.em + 10) = .sdict tbl
 a12 : σ.ob (E.em + 12) = .inst 289 (E.em + 13)
 a13 : σ.ob (E.em + 13) = .ns (stF E m)
 a14 : σ.ob (E.em + 14) = .list m.heap
 a15 : σ.ob (E.em + 15) = .list m.stack
 a16 : σ.ob (E.em + 16) = .list m.trail
 a17 : σ.ob (E.em + 17) = .list m.x
structure En.Ok (E : En) : Prop where
 code : E.s0.ob E.codeA = .list E.code
 door : E.s0.ob E.doorA = .idict E.doors
 cl : E.codeA < E.em
 dl : E.doorA < E.em
 nx : E.em + 20 ≤ E.s0.nx
structure W (E : En) (m : Mc) (σ : St) : Prop where
 lay : Lay E m σ
 le : E.s0.nx ≤ σ.nx
 keep : ∀ a, a < E.s0.nx → (a < E.em ∨ E.em + 20 ≤ a) → σ.ob a = E.s0.ob a
theorem set_self (σ : St) (a : Nat) (o : AObj) : (σ.set a o).ob a = o := if_pos rfl
theorem set_ne {σ : St} {a b : Nat} {o : AObj} (h : b ≠ a) : (σ.set a o).ob b = σ.ob b := if_neg h
theorem new_ne {σ : St} {b : Nat} {o : AObj} (h : b ≠ σ.nx) : (σ.new o).ob b = σ.ob b := if_neg h
theorem new_self {σ : St} {o : AObj} : (σ.new o).ob σ.nx = o := if_pos rfl
theorem plus_ne (e : Nat) {i j : Nat} (h : (i == j) = false) : e + i ≠ e + j := fun q => by
 rw [Nat.add_left_cancel q] at h
 rw [beq_self_eq_true] at h; cases h
theorem plus_ne0 (e : Nat) {j : Nat} (h : (0 == j) = false) : e ≠ e + j := plus_ne e (i := 0) h
section
variable {E : En} {m m' : Mc}
theorem W.keepset {σ : St} (w : W E m σ) (i : Nat) (hi : i < 20) (o : AObj) (l : Lay E m' (σ.set (E.em + i) o)) : W E m' (σ.set (E.em + i) o) := by
 refine ⟨l, w.le, fun a h1 h2 => ?_⟩
 rw [set_ne (by lia)]
 exact w.keep a h1 h2
theorem Lay.emu {σ : St} (l : Lay E m σ) (h : stF E m = stF E m' ∧ m.heap = m'.heap ∧ m.stack = m'.stack ∧ m.trail = m'.trail ∧ m.x = m'.x) : Lay E m' (σ.set (E.em + 1) (.ns (emF E m'))) := by
 obtain ⟨h1, h2, h3, h4, h5⟩ := h
 have n : ∀ {j : Nat}, (j == 1) = false → (σ.set (E.em + 1) (.ns (emF E m'))).ob (E.em + j) = σ.ob (E.em + j) := fun h => set_ne (plus_ne _ h)
 exact ⟨(set_ne (plus_ne0 _ rfl)).trans l.a0, set_self .., (n rfl).trans l.a10, (n rfl).trans l.a12, (n rfl).trans (by rw [← h1]; exact l.a13), (n rfl).trans (by rw [← h2]; exact l.a14), (n rfl).trans (by rw [← h3]; exact l.a15), (n rfl).trans (by rw [← h4]; exact l.a16), (n rfl).trans (by rw [← h5]; exact l.a17)⟩
theorem getF_of {T : Tab} {σ : St} {a C c f : Nat} {fs : List (Nat × AV)} {v : AV} (h1 : σ.ob a = .inst C c) (h2 : σ.ob c = .ns fs) (h3 : T.fld C f = true) (h4 : fget f fs = some v) : getF T σ (.ref a) f = some v := by
 show (asInst (σ.ob a)).bind _ = _
 rw [h1]
 show (asNs (σ.ob c)).bind _ = _
 rw [h2]
 show (if T.fld C f = true then _ else _) = _
 rw [if_pos h3]; exact h4
theorem setF_of {T : Tab} {σ : St} {a C c f : Nat} {fs fs' : List (Nat × AV)} {v : AV} (h1 : σ.ob a = .inst C c) (h2 : σ.ob c = .ns fs) (h3 : T.fld C f = true) (h4 : fs.length < 900) (h5 : fput f v fs = fs') : setF T σ (.ref a) f v = some (σ.set c (.ns fs')) := by
 show (asInst (σ.ob a)).bind _ = _
 rw [h1]
 show (asNs (σ.ob c)).bind _ = _
 rw [h2]
 show (if T.fld C f = true ∧ _ then _ else _) = _
 rw [if_pos ⟨h3, h4⟩, ← h5]
theorem gf_em {f : Nat} {v : AV} (h : fget f (emF E m) = some v) (k : tab.fld 947 f = true) : GF (W E) m (.ref E.em) f v := .mk fun σ s => getF_of s.lay.a0 s.lay.a1 k h
theorem gf_st {f : Nat} {v : AV} (h : fget f (stF E m) = some v) (k : tab.fld 289 f = true) : GF (W E) m (.ref (E.em + 12)) f v := .mk fun σ s => getF_of s.lay.a12 s.lay.a13 k h
theorem sf_em0 {f : Nat} {v : AV} (h : fput f v (emF E m) = emF E m' ∧ stF E m = stF E m' ∧ m.heap = m'.heap ∧ m.stack = m'.stack ∧ m.trail = m'.trail ∧ m.x = m'.x) (k : tab.fld 947 f = true) : SF (W E) m (.ref E.em) f v m' := .mk fun σ s =>
 ⟨_, setF_of s.lay.a0 s.lay.a1 k (show 24 < 900 by decide) h.1, s.keepset 1 (by decide) _ (s.lay.emu h.2)⟩
theorem sf_p {i : Int} : SF (W E) m (.ref E.em) 128 (.int i) { m with p := i } := sf_em0 ⟨rfl, rfl, rfl, rfl, rfl, rfl⟩ rfl
theorem sf_cp {i : Int} : SF (W E) m (.ref E.em) 127 (.int i) { m with cp := i } := sf_em0 ⟨rfl, rfl, rfl, rfl, rfl, rfl⟩ rfl
theorem sf_b0 {i : Int} : SF (W E) m (.ref E.em) 147 (.int i) { m with b0 := i } := sf_em0 ⟨rfl, rfl, rfl, rfl, rfl, rfl⟩ rfl
theorem sf_steps {i : Int} : SF (W E) m (.ref E.em) 131 (.int i) { m with steps := i } := sf_em0 ⟨rfl, rfl, rfl, rfl, rfl, rfl⟩ rfl
theorem sf_halted {i : Bool} : SF (W E) m (.ref E.em) 129 (.bool i) { m with halted := i } := sf_em0 ⟨rfl, rfl, rfl, rfl, rfl, rfl⟩ rfl
theorem sf_failed {i : Bool} : SF (W E) m (.ref E.em) 173 (.bool i) { m with failed := i } := sf_em0 ⟨rfl, rfl, rfl, rfl, rfl, rfl⟩ rfl
theorem ls_heap : LS (W E) m (.ref (E.em + 14)) m.heap := .mk fun σ s => ⟨_, rfl, s.lay.a14⟩
theorem ls_stack : LS (W E) m (.ref (E.em + 15)) m.stack := .mk fun σ s => ⟨_, rfl, s.lay.a15⟩
theorem ls_x : LS (W E) m (.ref (E.em + 17)) m.x := .mk fun σ s => ⟨_, rfl, s.lay.a17⟩
theorem ls_old {a : Nat} {xs : List AV} (h : E.s0.ob a = .list xs) (h1 : a < E.s0.nx) (h2 : a < E.em ∨ E.em + 20 ≤ a) : LS (W E) m (.ref a) xs := .mk fun σ s => ⟨_, rfl, (s.keep a h1 h2).trans h⟩
theorem ls_code (K : E.Ok) : LS (W E) m (.ref E.codeA) E.code := ls_old K.code (Nat.lt_of_lt_of_le K.cl (Nat.le_trans (Nat.le_add_right ..) K.nx)) (.inl K.cl)
theorem ul_heap {xs : List AV} : UL (W E) m (.ref (E.em + 14)) xs { m with heap := xs } := .mk fun σ s a q => by
 cases q
 have n : ∀ {j : Nat}, (j == 14) = false → (σ.set (E.em + 14) (.list xs)).ob (E.em + j) = σ.ob (E.em + j) := fun h => set_ne (plus_ne _ h)
 have l := s.lay
 exact s.keepset 14 (by decide) _ ⟨(set_ne (plus_ne0 _ rfl)).trans l.a0, (n rfl).trans l.a1, (n rfl).trans l.a10, (n rfl).trans l.a12, (n rfl).trans l.a13, set_self .., (n rfl).trans l.a15, (n rfl).trans l.a16, (n rfl).trans l.a17⟩
theorem ul_x {xs : List AV} : UL (W E) m (.ref (E.em + 17)) xs { m with x := xs } := .mk fun σ s a q => by
 cases q
 have n : ∀ {j : Nat}, (j == 17) = false → (σ.set (E.em + 17) (.list xs)).ob (E.em + j) = σ.ob (E.em + j) := fun h => set_ne (plus_ne _ h)
 have l := s.lay
 exact s.keepset 17 (by decide) _ ⟨(set_ne (plus_ne0 _ rfl)).trans l.a0, (n rfl).trans l.a1, (n rfl).trans l.a10, (n rfl).trans l.a12, (n rfl).trans l.a13, (n rfl).trans l.a14, (n rfl).trans l.a15, (n rfl).trans l.a16, set_self ..⟩
theorem mt_em {n f : Nat} (h1 : tab.meth 947 n = some f) (h2 : fget n (emF E m) = none) : MT (W E) m (.ref E.em) n f := .mk fun σ s => ⟨_, _, _, _, rfl, s.lay.a0, s.lay.a1, h1, h2⟩
theorem mt_st {n f : Nat} (h1 : tab.meth 289 n = some f) (h2 : fget n (stF E m) = none) : MT (W E) m (.ref (E.em + 12)) n f := .mk fun σ s => ⟨_, _, _, _, rfl, s.lay.a12, s.lay.a13, h1, h2⟩
theorem sd_tbl {n : Nat} {v : AV} (h : fget n tbl = some v) : SD (W E) m (.ref (E.em + 10)) n v := .mk fun σ s => ⟨_, _, rfl, s.lay.a10, h⟩
theorem gd_door (K : E.Ok) {k : Int} : GD (W E) m (.ref E.doorA) (.int k) .none ((dgetI k E.doors).getD .none) := .mk fun σ s => by
 have e : σ.ob E.doorA = .idict E.doors := (s.keep _ (Nat.lt_of_lt_of_le K.dl (Nat.le_trans (Nat.le_add_right ..) K.nx)) (.inl K.dl)).trans K.door
 exact ⟨_, rfl, by rw [e]; rfl, by rw [e]; rfl⟩
theorem do_door (K : E.Ok) : DO (W E) m (.ref E.doorA) := .mk fun σ s => by
 have e : σ.ob E.doorA = .idict E.doors := (s.keep _ (Nat.lt_of_lt_of_le K.dl (Nat.le_trans (Nat.le_add_right ..) K.nx)) (.inl K.dl)).trans K.door
 exact ⟨_, rfl, by rw [e]; rfl⟩
noncomputable def En.at (E : En) (σ : St) : En := { E with s0 := σ }
end
end Mine
end
section
namespace Mine
section
variable {M : Type} {I : M → St → Prop} {d : Nat}
structure SUB (I : M → St → Prop) (m : M) (w k v : AV) : Prop where
 run : ∀ σ, I m σ → subA w k σ = some v
noncomputable abbrev itm (xs : List AV) (i : Int) : Option AV := (at? i xs.length).bind fun j => xs[j]?
theorem sub_tup {m : M} {xs i v} (k : itm xs i = some v) : SUB I m (.tup xs) (.int i) v := .mk fun _ _ => k
theorem sub_ls {m : M} {w xs i v} (l : LS I m w xs) (k : itm xs i = some v) : SUB I m w (.int i) v := .mk fun σ s => by
 obtain ⟨a, rfl, h⟩ := l.run σ s
 show subO (σ.ob a) _ = _
 rw [h]; exact k
theorem sub_sd {m : M} {w n v} (l : SD I m w n v) : SUB I m w (.str n) v := .mk fun σ s => by
 obtain ⟨a, fs, rfl, h, k⟩ := l.run σ s
 show subO (σ.ob a) _ = _
 rw [h]; exact k
theorem ev_subG {x y ρ w k v} {m m1 m2 : M} (h : EvR I d x ρ m w m1) (g : EvR I d y ρ m1 k m2) (l : SUB I m2 w k v) : EvR I d (.sub x y) ρ m v m2 := .mk fun σ s => by
 obtain ⟨σ1, e, s1⟩ := h.run σ s
 obtain ⟨σ2, e2, s2⟩ := g.run σ1 s1
 refine ⟨σ2, ?_, s2⟩
 show (ev _ _ _ _ _).bind _ = _
 rw [e]
 show (ev _ _ _ _ _).bind _ = _
 rw [e2]
 show (subA _ _ _).bind _ = _
 rw [l.run σ2 s2]; rfl
structure CMP (op : Cop) (v w : AV) (b : Bool) : Prop where
 run : ∀ σ, cmpA op v w σ = some b
theorem cmp_i {op a b} : CMP op (.int a) (.int b) (cmpI op a b) := .mk fun _ => rfl
theorem cmp_s {a b} : CMP .eq (.str a) (.str b) (decide (a = b)) := .mk fun _ => rfl
theorem cmp_t {a b a' b'} : CMP .eq (c2 a b) (c2 a' b') (decide ([a, b] = [a', b'])) := .mk fun _ => rfl
theorem ev_cmpG {op x y ρ v w b} {m m1 m2 : M} (h : EvR I d x ρ m v m1) (g : EvR I d y ρ m1 w m2) (k : CMP op v w b) : EvR I d (.cmp op x y) ρ m (.bool b) m2 := .mk fun σ s => by
 obtain ⟨σ1, e, s1⟩ := h.run σ s
 obtain ⟨σ2, e2, s2⟩ := g.run σ1 s1
 refine ⟨σ2, ?_, s2⟩
 show (ev _ _ _ _ _).bind _ = _
 rw [e]
 show (ev _ _ _ _ _).bind _ = _
 rw [e2]
 show (cmpA _ _ _ _).bind _ = _
 rw [k.run]; rfl
theorem ex_ite {c a b r ρ f ρ' t t'} {m m1 m' : M} (h : EvR I d c ρ m (.bool t) m1) (k : t = t') (g : ExR I d (cond t' a b ++ r) ρ m1 f ρ' m') : ExR I d (.ite c a b :: r) ρ m f ρ' m' := by
 cases t' with
 | true => exact ex_iteT h k g
 | false => exact ex_iteF h k g
theorem c_ret {f vs r} {F : FnIR} (ρ : Lc) {ρ'} {m m' : M} (hf : tab.fn f = some F) (hb : bindA F vs = some ρ) (g : ExR I d F.body ρ m (.ret r) ρ' m') : CR I (d + 1) f vs m r m' := c_fn hf hb g rfl
theorem c_next {f vs} {F : FnIR} (ρ : Lc) {ρ'} {m m' : M} (hf : tab.fn f = some F) (hb : bindA F vs = some ρ) (g : ExR I d F.body ρ m .next ρ' m') : CR I (d + 1) f vs m .none m' := c_fn hf hb g rfl
theorem ev_bopT {x y ρ t} {m m1 : M} (h : EvR I d x ρ m (.bool t) m1) (k : t = true) : EvR I d (.bop false [x, y]) ρ m (.bool true) m1 := by
 subst k; exact ev_bop1 h rfl
theorem ev_bopF {x y ρ t c} {m m1 m2 : M} (h : EvR I d x ρ m (.bool t) m1) (k : t = false) (g : EvR I d y ρ m1 (.bool c) m2) : EvR I d (.bop false [x, y]) ρ m (.bool c) m2 := by
 subst k; exact ev_bop2 h rfl g
theorem itm_get {xs : List AV} {i : Int} {v : AV} (h0 : 0 ≤ i) (h : xs[i.toNat]? = some v) : itm xs i = some v := by
 have := (List.getElem?_eq_some_iff.mp h).1
 show (at? i xs.length).bind _ = _
 rw [at?_ok h0 (by lia)]; exact h
end
section
variable {E : En} {m : Mc}
theorem gd_doorS (K : E.Ok) {k : Int} {v : AV} (h : dgetI k E.doors = some v) : GD (W E) m (.ref E.doorA) (.int k) .none v := by
 have := gd_door (m := m) K (k := k)
 rw [h] at this; exact this
theorem old_at {a : Nat} {σ : St} (K : E.Ok) (h : a < E.em) (s : W E m σ) : σ.ob a = E.s0.ob a := s.keep _ (Nat.lt_of_lt_of_le h (Nat.le_trans (Nat.le_add_right ..) K.nx)) (.inl h)
theorem do_old {a : Nat} (K : E.Ok) (h : a < E.em) (k : isDO (E.s0.ob a) = true) : DO (W E) m (.ref a) := .mk fun σ s => ⟨a, rfl, by rw [old_at K h s]; exact k⟩
theorem gd_old {a : Nat} {k dv v : AV} (K : E.Ok) (h : a < E.em) (h2 : isDO (E.s0.ob a) = true) (h3 : getO (E.s0.ob a) k dv = some v) : GD (W E) m (.ref a) k dv v := .mk fun σ s => ⟨a, rfl, by rw [old_at K h s]; exact h2, by rw [old_at K h s]; exact h3⟩
end
end Mine
end
set_option hygiene false in
local macro_rules | `(tactic| trivial) => `(tactic| first
 | exact Mine.ev_loc rfl
 | exact Mine.ev_lit
 | exact Mine.evs_nil
 | exact Mine.ex_nil
 | exact Mine.ex_retN
 | exact Mine.gf_em rfl rfl
 | exact Mine.gf_st rfl rfl
 | exact Mine.ls_heap | exact Mine.ls_stack | exact Mine.ls_trail | exact Mine.ls_x
 | exact Mine.ul_heap | exact Mine.ul_stack | exact Mine.ul_trail | exact Mine.ul_x
 | exact Mine.sf_p | exact Mine.sf_cp | exact Mine.sf_e | exact Mine.sf_b | exact Mine.sf_b0 | exact Mine.sf_steps | exact Mine.sf_halted | exact Mine.sf_failed | exact Mine.sf_hb | exact Mine.sf_bb
 | exact Mine.mt_em rfl rfl | exact Mine.mt_st rfl rfl
 | exact Mine.cmp_i | exact Mine.cmp_s | exact Mine.cmp_t
 | apply Mine.evs_cons
 | apply Mine.ev_attr
 | apply Mine.ev_tup
 | apply Mine.ev_subG
 | apply Mine.ev_bin
 | apply Mine.ev_cmpG
 | apply Mine.ev_not
 | apply Mine.ev_isN
 | apply Mine.ev_neg
 | apply Mine.ev_len
 | apply Mine.ev_call
 | apply Mine.ev_meth
 | apply Mine.ev_app
 | apply Mine.ex_asg
 | apply Mine.ex_setA
 | apply Mine.ex_setS
 | apply Mine.ex_augL
 | apply Mine.ex_augA
 | apply Mine.ex_expr
 | apply Mine.ex_ret
 | apply Mine.ex_ite
 | exact Mine.sub_tup rfl
 | (apply Mine.sub_ls; first | assumption | exact Mine.ls_heap | exact Mine.ls_stack | exact Mine.ls_trail | exact Mine.ls_x | exact Mine.ls_code (by assumption))
 | exact Mine.sub_sd (Mine.sd_tbl (by assumption))
 | (apply Mine.ev_bopT <;> (repeat' trivial); done)
 | apply Mine.ev_bopF
 | apply Mine.ev_dget
 | apply Mine.ev_dgetd
 | exact Mine.do_door (by assumption)
 | exact Mine.do_old (by assumption) (by assumption) (by assumption)
 | exact Mine.gd_doorS (by assumption) (by assumption)
 | exact Mine.gd_doorN (by assumption) (by assumption)
 | exact Mine.gd_old (by assumption) (by assumption) (by assumption) (by assumption)
 | assumption
 | exact decide_eq_true (by first | rfl | assumption)
 | exact decide_eq_false (by assumption)
 | exact (rfl : _ = true)
 | exact (rfl : _ = false)
 | rfl)
section
namespace Mine
section
variable {E : En} {m : Mc} {d : Nat}
theorem c_push {v : AV} (h : m.heap.length < 100000) : CR (W E) (d + 1) 117 [E.store, v] m (.int m.heap.length) { m with heap := m.heap ++ [v] } := by
 have h1 : ¬ ((100000 : Int) ≤ m.heap.length) := by lia
 have h2 : m.heap.length < LIM := by show _ < 1000000; lia
 apply c_ret [some E.store, some v, none] (F := ir_Cells_push) rfl rfl
 repeat' trivial
theorem c_new_var (h : m.heap.length < 100000) : CR (W E) (d + 2) 124 [E.store] m (c2 0 m.heap.length) { m with heap := m.heap ++ [c2 0 m.heap.length] } := by
 apply c_ret [some E.store, none] (F := ir_Cells_new_var) rfl rfl
 repeat' (first | trivial | apply c_push)
theorem c_bindH {k : Nat} {v : AV} (h : k < m.heap.length) (hh : ¬ ((k : Int) < m.hb)) : CR (W E) (d + 1) 159 [E.store, c2 0 k, v] m .none { m with heap := m.heap.set k v } := by
 have h1 : (0 : Int) ≤ (k : Int) := by lia
 have h2 : (k : Int) < m.heap.length := by lia
 apply c_next [some E.store, some (c2 0 k), some v, none] (F := ir_Cells_bind) rfl rfl
 repeat' trivial
inductive Drf (h s : List AV) : AV → AV → Prop where
 | done {t k : Int} : ¬ t = 0 → ¬ t = 1 → Drf h s (c2 t k) (c2 t k)
 | selfH {k : Int} : itm h k = some (c2 0 k) → Drf h s (c2 0 k) (c2 0 k)
 | selfS {k : Int} : itm s k = some (c2 1 k) → Drf h s (c2 1 k) (c2 1 k)
 | goH {k t j : Int} {r : AV} : itm h k = some (c2 t j) → ¬ [t, j] = [0, k] → Drf h s (c2 t j) r → Drf h s (c2 0 k) r
 | goS {k t j : Int} {r : AV} : itm s k = some (c2 t j) → ¬ [t, j] = [1, k] → Drf h s (c2 t j) r → Drf h s (c2 1 k) r
theorem deref_loop {c r : AV} (h : Drf m.heap m.stack c r) : ∀ o2 o3, ∃ ρ', ExR (W E) d ir_Cells_deref.body [some E.store, some c, o2, o3] m (.ret r) ρ' m := by
 induction h with
 | done h0 h1 =>
  intro o2 o3
  apply Exists.intro
  apply ex_whlR ev_lit rfl
  repeat' trivial
 | selfH h0 =>
  intro o2 o3
  apply Exists.intro
  apply ex_whlR ev_lit rfl
  repeat' trivial
 | selfS h0 =>
  intro o2 o3
  apply Exists.intro
  apply ex_whlR ev_lit rfl
  repeat' trivial
 | goH h0 h1 _ ih =>
  intro o2 o3
  obtain ⟨ρ', h⟩ := ih (some (.int 0)) (some (c2 _ _))
  apply Exists.intro
  apply ex_whlT ev_lit rfl
  rotate_left
  exact h
  repeat' trivial
 | goS h0 h1 _ ih =>
  intro o2 o3
  obtain ⟨ρ', h⟩ := ih (some (.int 1)) (some (c2 _ _))
  apply Exists.intro
  apply ex_whlT ev_lit rfl
  rotate_left
  exact h
  repeat' trivial
theorem c_deref {c r : AV} (h : Drf m.heap m.stack c r) : CR (W E) (d + 1) 145 [E.store, c] m r m := by
 obtain ⟨ρ', h⟩ := deref_loop (d := d) h none none
 exact c_ret [some E.store, some c, none, none] (F := ir_Cells_deref) rfl rfl h
noncomputable def padX (n : Nat) (x : List AV) : List AV := x ++ List.replicate (n + 1 - x.length) void
noncomputable def putX (x : List AV) (n : Nat) (c : AV) : List AV := (padX n x).set n c
theorem padX_step {n : Nat} {x : List AV} (h : x.length ≤ n) : padX n (x ++ [void]) = padX n x := by
 unfold padX
 rw [List.append_assoc, List.length_append, List.length_singleton, show n + 1 - x.length = (n + 1 - (x.length + 1)) + 1 by lia, List.replicate_succ]; rfl
theorem set_x_loop {n : Nat} {c : AV} (hn : n < 1000) : ∀ (k : Nat) (m : Mc), n + 1 - m.x.length = k → ∃ ρ', ExR (W E) d ir_Areas_set_x.body [some E.me, some (.int n), some c] m .next ρ' { m with x := putX m.x n c }
 | 0, m, hk => by
  have h1 : ¬ ((m.x.length : Int) ≤ n) := by lia
  have h2 : (n : Int) < m.x.length := by lia
  have h3 : (0 : Int) ≤ n := by lia
  have e : putX m.x n c = m.x.set n c := by unfold putX padX; rw [hk]; simp
  rw [e]
  apply Exists.intro
  apply ex_whlF
  repeat' trivial
 | k + 1, m, hk => by
  have h1 : ((m.x.length : Int) ≤ n) := by lia
  have h2 : m.x.length < LIM := by show _ < 1000000; lia
  have e : putX (m.x ++ [void]) n c = putX m.x n c := by unfold putX; rw [padX_step (by lia)]
  obtain ⟨ρ', h⟩ := set_x_loop hn k { m with x := m.x ++ [void] } (by simp; lia)
  dsimp only at h
  rw [e] at h
  refine ⟨ρ', ?_⟩
  apply ex_whlT
  rotate_left 3
  exact h
  repeat' trivial
end
end Mine
end
section
namespace Mine
section
variable {E : En} {m : Mc} {d : Nat}
theorem c_set_x {n : Nat} {c : AV} (hn : n < 1000) : CR (W E) (d + 1) 404 [E.me, .int n, c] m .none { m with x := putX m.x n c } := by
 obtain ⟨ρ', h⟩ := set_x_loop (E := E) (d := d) (c := c) hn _ m rfl
 exact c_next [some E.me, some (.int n), some c] (F := ir_Areas_set_x) rfl rfl h
noncomputable def putXs (x : List AV) (n : Nat) : List AV → List AV
 | [] => x
 | c :: r => putXs (putX x (n + 1) c) (n + 1) r
theorem set_args_loop {a : Nat} {cs : List AV} (ha : E.s0.ob a = .list cs) (h1 : a < E.s0.nx) (h2 : a < E.em ∨ E.em + 20 ≤ a) (hl : cs.length < 900) : ∀ (r : List AV) (k : Nat) (m : Mc) (o : Option AV), cs.drop k = r →
  ∃ ρ', ForL (W E) (d + 1) 3 [.augL 2 .add (.lit (.int 1)), .expr (.meth (.loc 0) 97 [.loc 2, .loc 3])] (.ref a) k [some E.me, some (.ref a), some (.int k), o] m .next ρ' { m with x := putXs m.x k r }
 | [], k, m, o, hr => by
  refine ⟨_, forl_end (ls_old ha h1 h2) ?_⟩
  rw [List.getElem?_eq_none_iff]
  exact List.drop_eq_nil_iff.mp hr
 | c :: r, k, m, o, hr => by
  have hk : cs[k]? = some c := by rw [← List.head?_drop, hr]; rfl
  have hlt := (List.getElem?_eq_some_iff.mp hk).1
  have hr' : cs.drop (k + 1) = r := by rw [← List.tail_drop, hr]; rfl
  obtain ⟨ρ', h⟩ := set_args_loop ha h1 h2 hl r (k + 1) { m with x := putX m.x (k + 1) c } (some c) hr'
  refine ⟨ρ', forl_go (ls_old ha h1 h2) hk ?_ h⟩
  have c1 := @c_set_x E m d (k + 1) c (by lia)
  repeat' trivial
theorem c_set_args {a : Nat} {cs : List AV} (ha : E.s0.ob a = .list cs) (h1 : a < E.s0.nx) (h2 : a < E.em ∨ E.em + 20 ≤ a) (hl : cs.length < 900) : CR (W E) (d + 2) 411 [E.me, .ref a] m .none { m with x := putXs m.x 0 cs } := by
 obtain ⟨ρ', h⟩ := set_args_loop (d := d) ha h1 h2 hl _ 0 m none rfl
 apply c_next [some E.me, some (.ref a), none, none] (F := ir_Areas_set_arguments) rfl rfl
 apply ex_asg ev_lit
 apply ex_forL (ev_loc rfl) h
 exact ex_nil
noncomputable abbrev opX (n : Int) : AV := .tup [.str 144, .int n]
theorem c_readX {n : Int} {c : AV} (h : itm m.x n = some c) : CR (W E) (d + 1) 551 [E.me, opX n] m c m := by
 apply c_ret [some E.me, some (opX n)] (F := ir_read) rfl rfl
 repeat' trivial
theorem c_matchV {c v : AV} {k : Nat} (h : Drf m.heap m.stack c (c2 0 k)) (h1 : k < m.heap.length) (h2 : ¬ ((k : Int) < m.hb)) : CR (W E) (d + 2) 565 [E.me, c, v] m (.bool true) { m with heap := m.heap.set k v } := by
 have q1 := @c_deref E m d c _ h
 have q2 := @c_bindH E m d k v h1 h2
 apply c_ret [some E.me, some c, some v, none] (F := ir_match_constant) rfl rfl
 repeat' trivial
theorem c_getC {s : Nat} {v c r : AV} {n : Int} {m' : Mc} (h : itm m.x n = some c) (q : CR (W E) (d + 2) 565 [E.me, c, v] m r m') : CR (W E) (d + 3) f_get_constant [E.me, .tup [.str s, v, opX n]] m r m' := by
 have q1 := @c_readX E m (d + 1) n c h
 apply c_ret [some E.me, some (.tup [.str s, v, opX n])] (F := ir_get_constant) rfl rfl
 repeat' trivial
end
end Mine
end
section
namespace Mine
section
variable {E : En} {m : Mc} {d : Nat}
theorem c_proceed {i : AV} : CR (W E) (d + 1) f_do_proceed [E.me, i] m (.bool true) { m with p := m.cp } := by
 apply c_ret [some E.me, some i] (F := ir_do_proceed) rfl rfl
 repeat' trivial
theorem c_halt {i : AV} : CR (W E) (d + 1) f_do_halt [E.me, i] m (.bool true) { m with halted := true } := by
 apply c_ret [some E.me, some i] (F := ir_do_halt) rfl rfl
 repeat' trivial
theorem c_backN (h : m.b < 0) : CR (W E) (d + 1) f_Emulator_backtrack [E.me] m .none { m with failed := true, halted := true } := by
 apply c_fn (ρ := [some E.me]) (F := ir_Emulator_backtrack) (fl := .ret .none) rfl rfl
 rotate_left
 rfl
 repeat' trivial
theorem c_enter (K : E.Ok) {f p : Int} (h : dgetI f E.doors = some (.int p)) : CR (W E) (d + 1) f_Emulator_enter [E.me, .int f] m (.bool true) { m with b0 := m.b, p := p } := by
 apply c_ret [some E.me, some (.int f), none] (F := ir_Emulator_enter) rfl rfl
 repeat' trivial
theorem c_start (K : E.Ok) {a : Nat} {cs : List AV} {f p : Int} (ha : E.s0.ob a = .list cs) (h1 : a < E.s0.nx) (h2 : a < E.em ∨ E.em + 20 ≤ a) (hl : cs.length < 900) (h : dgetI f E.doors = some (.int p)) :
  CR (W E) (d + 3) f_Emulator_start_at [E.me, .int f, .ref a] m .none { m with x := putXs m.x 0 cs, cp := 1, halted := false, failed := false, b0 := m.b, p := p } := by
 apply c_next [some E.me, some (.int f), some (.ref a)] (F := ir_Emulator_start_at) rfl rfl
 repeat' (first | trivial | exact c_set_args ha h1 h2 hl | apply c_enter)
theorem c_stepT (K : E.Ok) {nm f : Nat} {r : List AV} {m' : Mc} (hs : ¬ E.max ≤ m.steps) (hi : itm E.code m.p = some (.tup (.str nm :: r))) (ht : fget nm tbl = some (.k (.ref f)))
  (hc : CR (W E) d f [E.me, .tup (.str nm :: r)] { m with steps := m.steps + 1, p := m.p + 1 } (.bool true) m') : CR (W E) (d + 1) f_Emulator_step [E.me] m .none m' := by
 have h0 : itm (.str nm :: r) 0 = some (.str nm) := by
  show (at? 0 _).bind _ = _
  rw [at?_ok (by decide) (by simp)]; rfl
 apply c_next [some E.me, none] (F := ir_Emulator_step) rfl rfl
 repeat' (first | trivial | exact sub_tup (by assumption))
theorem c_stepT2 (K : E.Ok) {nm f : Nat} {r h s t x : List AV} {hb bb p cp e b b0 st : Int} {ha fa : Bool} {m' : Mc} (hs : ¬ E.max ≤ st) (hi : itm E.code p = some (.tup (.str nm :: r))) (ht : fget nm tbl = some (.k (.ref f)))
  (hc : CR (W E) d f [E.me, .tup (.str nm :: r)] ⟨h, s, t, x, hb, bb, p + 1, cp, e, b, b0, st + 1, ha, fa⟩ (.bool true) m') : CR (W E) (d + 1) f_Emulator_step [E.me] ⟨h, s, t, x, hb, bb, p, cp, e, b, b0, st, ha, fa⟩ .none m' := c_stepT (m := ⟨h, s, t, x, hb, bb, p, cp, e, b, b0, st, ha, fa⟩) K hs hi ht hc
structure RunR (E : En) (d : Nat) (m m' : Mc) : Prop where
 run : ExR (W E) d [.whl (.not (.attr (.loc 0) 129)) [.expr (.meth (.loc 0) 121 [])]] [some E.me] m .next [some E.me] m'
theorem run_done (h : m.halted = true) : RunR E d m m := by
 have k : (!m.halted) = false := by rw [h]; rfl
 apply RunR.mk
 apply ex_whlF
 repeat' trivial
theorem run_step {m1 m' : Mc} (h : m.halted = false) (q : CR (W E) d f_Emulator_step [E.me] m .none m1) (g : RunR E d m1 m') : RunR E d m m' := by
 have k : (!m.halted) = true := by rw [h]; rfl
 apply RunR.mk
 apply ex_whlT
 case g2 => exact g.run
 repeat' trivial
theorem c_run {m' : Mc} (h : RunR E d m m') : CR (W E) (d + 1) f_Emulator_run [E.me] m (.bool !m'.failed) m' := by
 apply c_ret [some E.me] (F := ir_Emulator_run) rfl rfl
 apply ex_then
 exact h.run
 repeat' trivial
theorem c_redo {m1 m2 : Mc} (h : m.failed = false) (hb : CR (W E) (d + 1) f_Emulator_backtrack [E.me] { m with halted := false } .none m1) (hr : CR (W E) (d + 1) f_Emulator_run [E.me] m1 (.bool !m2.failed) m2) : CR (W E) (d + 2) f_Emulator_redo [E.me] m (.bool !m2.failed) m2 := by
 apply c_ret [some E.me] (F := ir_Emulator_redo) rfl rfl
 repeat' trivial
end
end Mine
end
section
namespace Mine
structure Kw where
 fs : List (Nat × AV)
 os : List AObj
structure KW (em : Nat) (s0 : St) (m : Kw) (σ : St) : Prop where
 nx : σ.nx = em + (2 + m.os.length)
 a0 : σ.ob em = .inst 947 (em + 1)
 a1 : σ.ob (em + 1) = .ns m.fs
 at' : ∀ i o, m.os[i]? = some o → σ.ob (em + (2 + i)) = o
 keep : ∀ a, a < em → σ.ob a = s0.ob a
section
variable {em : Nat} {s0 : St} {m : Kw} {d : Nat}
theorem kgf_em {f : Nat} {v : AV} (h : fget f m.fs = some v) (k : tab.fld 947 f = true) : GF (KW em s0) m (.ref em) f v := .mk fun σ s => getF_of s.a0 s.a1 k h
theorem kset_em {σ : St} {fs : List (Nat × AV)} (s : KW em s0 m σ) : KW em s0 { m with fs := fs } (σ.set (em + 1) (.ns fs)) :=
 ⟨s.nx, (set_ne (plus_ne0 em (j := 1) rfl)).trans s.a0, set_self .., fun i o h => (set_ne (fun q => by lia)).trans (s.at' i o h), fun a h => (set_ne (by lia)).trans (s.keep a h)⟩
theorem kset_o {σ : St} {j : Nat} {o : AObj} (s : KW em s0 m σ) : KW em s0 { m with os := m.os.set j o } (σ.set (em + (2 + j)) o) := by
 refine ⟨by rw [List.length_set]; exact s.nx, (set_ne (by lia)).trans s.a0, (set_ne (by lia)).trans s.a1, fun i o' h => ?_, fun a h => (set_ne (by lia)).trans (s.keep a h)⟩
 by_cases e : i = j
 ·subst e
  obtain ⟨h1, h2⟩ := List.getElem?_eq_some_iff.mp h
  rw [set_self, ← h2, List.getElem_set_self]
 ·rw [List.getElem?_set_ne (Ne.symm e)] at h
  exact (set_ne (by lia)).trans (s.at' i o' h)
theorem knew {σ : St} {o : AObj} (s : KW em s0 m σ) : KW em s0 { m with os := m.os ++ [o] } (σ.new o) := by
 have hn := s.nx
 refine ⟨by rw [List.length_append]; show σ.nx + 1 = _; rw [hn]; rfl, (new_ne (by lia)).trans s.a0, (new_ne (by lia)).trans s.a1, fun i o' h => ?_, fun a h => (new_ne (by lia)).trans (s.keep a h)⟩
 obtain ⟨h1, h2⟩ := List.getElem?_eq_some_iff.mp h
 rw [List.length_append, List.length_singleton] at h1
 by_cases e : i < m.os.length
 ·rw [List.getElem?_append_left e] at h
  exact (new_ne (by lia)).trans (s.at' i o' h)
 ·obtain rfl : i = m.os.length := by lia
  rw [← hn, new_self, ← h2, List.getElem_concat_length rfl]
theorem ksf_em {f : Nat} {v : AV} {fs : List (Nat × AV)} {os : List AObj} (k : tab.fld 947 f = true) (hl : Nat.blt fs.length 900 = true) : SF (KW em s0) ⟨fs, os⟩ (.ref em) f v ⟨fput f v fs, os⟩ := .mk fun σ s =>
 ⟨_, setF_of s.a0 s.a1 k (Nat.blt_eq.mp hl) rfl, kset_em s⟩
theorem ksf_o {i j C f : Nat} {v : AV} {fs gs : List (Nat × AV)} {os : List AObj} (h1 : os[i]? = some (.inst C (em + (2 + j)))) (h2 : os[j]? = some (.ns fs)) (k : tab.fld C f = true) (hl : Nat.blt fs.length 900 = true) : SF (KW em s0) ⟨gs, os⟩ (.ref (em + (2 + i))) f v ⟨gs, os.set j (.ns (fput f v fs))⟩ := .mk fun σ s =>
 ⟨_, setF_of (s.at' i _ h1) (s.at' j _ h2) k (Nat.blt_eq.mp hl) rfl, kset_o s⟩
theorem ksf_em' {f : Nat} {v : AV} {fs fs' : List (Nat × AV)} {os os' : List AObj} (k : tab.fld 947 f = true) (hl : Nat.blt fs.length 900 = true) (e : fput f v fs = fs') (e2 : os = os') : SF (KW em s0) ⟨fs, os⟩ (.ref em) f v ⟨fs', os'⟩ := by
 subst e e2; exact ksf_em k hl
theorem ksf_o' {i j C f : Nat} {v : AV} {fs gs gs' : List (Nat × AV)} {os os' : List AObj} (h1 : os[i]? = some (.inst C (em + (2 + j)))) (h2 : os[j]? = some (.ns fs)) (k : tab.fld C f = true) (hl : Nat.blt fs.length 900 = true) (e : os.set j (.ns (fput f v fs)) = os') (e2 : gs = gs') :
  SF (KW em s0) ⟨gs, os⟩ (.ref (em + (2 + i))) f v ⟨gs', os'⟩ := by
 subst e e2; exact ksf_o h1 h2 k hl
theorem kmt_em {n f : Nat} (h1 : tab.meth 947 n = some f) (h2 : fget n m.fs = none) : MT (KW em s0) m (.ref em) n f := .mk fun σ s => ⟨_, _, _, _, rfl, s.a0, s.a1, h1, h2⟩
theorem ev_lstK {es ρ vs} {fs : List (Nat × AV)} {os : List AObj} (h : EvsR (KW em s0) d es ρ m vs ⟨fs, os⟩) : EvR (KW em s0) d (.lst es) ρ m (.ref (em + (2 + os.length))) ⟨fs, os ++ [.list vs]⟩ := .mk fun σ s => by
 obtain ⟨σ1, e, s1⟩ := h.run σ s
 refine ⟨σ1.new (.list vs), ?_, knew s1⟩
 show (evs _ _ _ _ _).bind _ = _
 rw [e, ← s1.nx]; rfl
theorem ev_edictK {ρ} {fs : List (Nat × AV)} {os : List AObj} : EvR (KW em s0) d .edict ρ ⟨fs, os⟩ (.ref (em + (2 + os.length))) ⟨fs, os ++ [.edict]⟩ := .mk fun σ s => by
 refine ⟨σ.new .edict, ?_, knew s⟩
 rw [← s.nx]; rfl
theorem cr_class {c g : Nat} {vs : List AV} {m' : Kw} {fs : List (Nat × AV)} {os : List AObj} (h1 : tab.fn c = none) (h2 : tab.init c = some g)
  (h : CR (KW em s0) d g (.ref (em + (2 + os.length)) :: vs) ⟨fs, os ++ [.inst c (em + (2 + (os.length + 1)))] ++ [.ns []]⟩ .none m') : CR (KW em s0) (d + 1) c vs ⟨fs, os⟩ (.ref (em + (2 + os.length))) m' := .mk fun σ s => by
 have hn := s.nx
 have s2 := knew (o := .ns []) (knew (o := .inst c (em + (2 + (os.length + 1)))) s)
 obtain ⟨σ1, e, s1⟩ := h.run _ s2
 refine ⟨σ1, ?_, s1⟩
 show (match tab.fn c with | some F => _ | Option.none => _) = _
 rw [h1]
 show (match tab.init c with | some F => _ | Option.none => _) = _
 rw [h2]
 show (cfN tab d (.k (.ref g)) (.ref σ.nx :: vs) (mkI c σ)).bind _ = _
 rw [show mkI c σ = (σ.new (.inst c (em + (2 + (os.length + 1))))).new (.ns []) from by rw [show em + (2 + (os.length + 1)) = σ.nx + 1 from by rw [hn]; rfl]; rfl]
 rw [show σ.nx = em + (2 + os.length) from hn, e]; rfl
theorem cr_prim {a : Nat} {kvs : List (Nat × AV)} {fs : List (Nat × AV)} {os : List AObj} (h1 : tab.fn a = none) (h2 : tab.init a = none) (h3 : tab.prim a = some kvs) : CR (KW em s0) (d + 1) a [] ⟨fs, os⟩ (.ref (em + (2 + os.length))) ⟨fs, os ++ [.sdict kvs]⟩ := .mk fun σ s => by
 refine ⟨σ.new (.sdict kvs), ?_, knew s⟩
 show (match tab.fn a with | some F => _ | Option.none => _) = _
 rw [h1]
 show (match tab.init a with | some F => _ | Option.none => _) = _
 rw [h2]
 show (tab.prim a).bind _ = _
 rw [h3, ← s.nx]; rfl
end
end Mine
set_option hygiene false in
local macro_rules | `(tactic| trivial) => `(tactic| first
 | exact Mine.kgf_em rfl rfl
 | exact Mine.kgf_o rfl rfl rfl rfl
 | exact Mine.ksf_em' rfl rfl rfl rfl
 | exact Mine.ksf_o' rfl rfl rfl rfl rfl rfl
 | exact Mine.kmt_em rfl rfl
 | exact Mine.ev_edictK
 | apply Mine.ev_lstK)
namespace Mine
section
variable {em cA dA : Nat} {mx : Int} {s0 : St} {d : Nat}
noncomputable abbrev rf (em i : Nat) : AV := .ref (em + (2 + i))
theorem k_cells1 : CR (KW em s0) (d + 1) 110 [rf em 0, .none, .int 100000] ⟨[(132, .none), (141, .ref cA), (133, .int 100000), (142, .bool true), (143, .int 4096)], [.inst 289 (em + (2 + 1)), .ns []]⟩ .none ⟨[(132, .none), (141, .ref cA), (133, .int 100000), (142, .bool true), (143, .int 4096)], [.inst 289 (em + (2 + 1)), .ns [(132, .none), (133, .int 100000), (134, rf em 2), (135, rf em 3), (136, rf em 4), (137, .int 0), (138, .int 0)], .list [], .list [], .list []]⟩ := by
 apply c_next [some (rf em 0), some .none, some (.int 100000)] (F := ir_Cells__init) rfl rfl
 apply ex_setA (m3 := ⟨[(132, .none), (141, .ref cA), (133, .int 100000), (142, .bool true), (143, .int 4096)], [.inst 289 (em + (2 + 1)), .ns [(132, .none)]]⟩)
 ·repeat' trivial
 ·repeat' trivial
 ·repeat' trivial
 apply ex_setA (m3 := ⟨[(132, .none), (141, .ref cA), (133, .int 100000), (142, .bool true), (143, .int 4096)], [.inst 289 (em + (2 + 1)), .ns [(132, .none), (133, .int 100000)]]⟩)
 ·repeat' trivial
 ·repeat' trivial
 ·repeat' trivial
 apply ex_setA (m3 := ⟨[(132, .none), (141, .ref cA), (133, .int 100000), (142, .bool true), (143, .int 4096)], [.inst 289 (em + (2 + 1)), .ns [(132, .none), (133, .int 100000), (134, rf em 2)], .list []]⟩)
 ·repeat' trivial
 ·repeat' trivial
 ·repeat' trivial
 apply ex_setA (m3 := ⟨[(132, .none), (141, .ref cA), (133, .int 100000), (142, .bool true), (143, .int 4096)], [.inst 289 (em + (2 + 1)), .ns [(132, .none), (133, .int 100000), (134, rf em 2), (135, rf em 3)], .list [], .list []]⟩)
 ·repeat' trivial
 ·repeat' trivial
 ·repeat' trivial
 apply ex_setA (m3 := ⟨[(132, .none), (141, .ref cA), (133, .int 100000), (142, .bool true), (143, .int 4096)], [.inst 289 (em + (2 + 1)), .ns [(132, .none), (133, .int 100000), (134, rf em 2), (135, rf em 3), (136, rf em 4)], .list [], .list [], .list []]⟩)
 ·repeat' trivial
 ·repeat' trivial
 ·repeat' trivial
 apply ex_setA (m3 := ⟨[(132, .none), (141, .ref cA), (133, .int 100000), (142, .bool true), (143, .int 4096)], [.inst 289 (em + (2 + 1)), .ns [(132, .none), (133, .int 100000), (134, rf em 2), (135, rf em 3), (136, rf em 4), (137, .int 0)], .list [], .list [], .list []]⟩)
 ·repeat' trivial
 ·repeat' trivial
 ·repeat' trivial
 apply ex_setA (m3 := ⟨[(132, .none), (141, .ref cA), (133, .int 100000), (142, .bool true), (143, .int 4096)], [.inst 289 (em + (2 + 1)), .ns [(132, .none), (133, .int 100000), (134, rf em 2), (135, rf em 3), (136, rf em 4), (137, .int 0), (138, .int 0)], .list [], .list [], .list []]⟩)
 ·repeat' trivial
 ·repeat' trivial
 ·repeat' trivial
 exact ex_nil
theorem k_reset1 : CR (KW em s0) (d + 3) 397 [.ref em] ⟨[(132, .none), (141, .ref cA), (133, .int 100000), (142, .bool true), (143, .int 4096)], []⟩ .none ⟨[(132, .none), (141, .ref cA), (133, .int 100000), (142, .bool true), (143, .int 4096), (126, rf em 0), (144, rf em 5), (128, .int 0), (127, .int 0), (145, .int (-1)), (146, .int (-1)), (147, .int (-1)), (148, .str 13), (125, .int 0), (149, void), (150, rf em 6), (151, rf em 7), (152, .bool false)], [.inst 289 (em + (2 + 1)), .ns [(132, .none), (133, .int 100000), (134, rf em 2), (135, rf em 3), (136, rf em 4), (137, .int 0), (138, .int 0)], .list [], .list [], .list [], .list [void], .list [], .edict]⟩ := by
 apply c_next [some (.ref em)] (F := ir_Areas_reset) rfl rfl
 apply ex_setA (m3 := ⟨[(132, .none), (141, .ref cA), (133, .int 100000), (142, .bool true), (143, .int 4096), (126, rf em 0)], [.inst 289 (em + (2 + 1)), .ns [(132, .none), (133, .int 100000), (134, rf em 2), (135, rf em 3), (136, rf em 4), (137, .int 0), (138, .int 0)], .list [], .list [], .list []]⟩)
 ·repeat' (first | trivial | apply cr_class rfl rfl | exact k_cells1)
 ·repeat' trivial
 ·repeat' trivial
 apply ex_setA (m3 := ⟨[(132, .none), (141, .ref cA), (133, .int 100000), (142, .bool true), (143, .int 4096), (126, rf em 0), (144, rf em 5)], [.inst 289 (em + (2 + 1)), .ns [(132, .none), (133, .int 100000), (134, rf em 2), (135, rf em 3), (136, rf em 4), (137, .int 0), (138, .int 0)], .list [], .list [], .list [], .list [void]]⟩)
 ·repeat' trivial
 ·repeat' trivial
 ·repeat' trivial
 apply ex_setA (m3 := ⟨[(132, .none), (141, .ref cA), (133, .int 100000), (142, .bool true), (143, .int 4096), (126, rf em 0), (144, rf em 5), (128, .int 0)], [.inst 289 (em + (2 + 1)), .ns [(132, .none), (133, .int 100000), (134, rf em 2), (135, rf em 3), (136, rf em 4), (137, .int 0), (138, .int 0)], .list [], .list [], .list [], .list [void]]⟩)
 ·repeat' trivial
 ·repeat' trivial
 ·repeat' trivial
 apply ex_setA (m3 := ⟨[(132, .none), (141, .ref cA), (133, .int 100000), (142, .bool true), (143, .int 4096), (126, rf em 0), (144, rf em 5), (128, .int 0), (127, .int 0)], [.inst 289 (em + (2 + 1)), .ns [(132, .none), (133, .int 100000), (134, rf em 2), (135, rf em 3), (136, rf em 4), (137, .int 0), (138, .int 0)], .list [], .list [], .list [], .list [void]]⟩)
 ·repeat' trivial
 ·repeat' trivial
 ·repeat' trivial
 apply ex_setA (m3 := ⟨[(132, .none), (141, .ref cA), (133, .int 100000), (142, .bool true), (143, .int 4096), (126, rf em 0), (144, rf em 5), (128, .int 0), (127, .int 0), (145, .int (-1))], [.inst 289 (em + (2 + 1)), .ns [(132, .none), (133, .int 100000), (134, rf em 2), (135, rf em 3), (136, rf em 4), (137, .int 0), (138, .int 0)], .list [], .list [], .list [], .list [void]]⟩)
 ·repeat' trivial
 ·repeat' trivial
 ·repeat' trivial
 apply ex_setA (m3 := ⟨[(132, .none), (141, .ref cA), (133, .int 100000), (142, .bool true), (143, .int 4096), (126, rf em 0), (144, rf em 5), (128, .int 0), (127, .int 0), (145, .int (-1)), (146, .int (-1))], [.inst 289 (em + (2 + 1)), .ns [(132, .none), (133, .int 100000), (134, rf em 2), (135, rf em 3), (136, rf em 4), (137, .int 0), (138, .int 0)], .list [], .list [], .list [], .list [void]]⟩)
 ·repeat' trivial
 ·repeat' trivial
 ·repeat' trivial
 apply ex_setA (m3 := ⟨[(132, .none), (141, .ref cA), (133, .int 100000), (142, .bool true), (143, .int 4096), (126, rf em 0), (144, rf em 5), (128, .int 0), (127, .int 0), (145, .int (-1)), (146, .int (-1)), (147, .int (-1))], [.inst 289 (em + (2 + 1)), .ns [(132, .none), (133, .int 100000), (134, rf em 2), (135, rf em 3), (136, rf em 4), (137, .int 0), (138, .int 0)], .list [], .list [], .list [], .list [void]]⟩)
 ·repeat' trivial
 ·repeat' trivial
 ·repeat' trivial
 apply ex_setA (m3 := ⟨[(132, .none), (141, .ref cA), (133, .int 100000), (142, .bool true), (143, .int 4096), (126, rf em 0), (144, rf em 5), (128, .int 0), (127, .int 0), (145, .int (-1)), (146, .int (-1)), (147, .int (-1)), (148, .str 13)], [.inst 289 (em + (2 + 1)), .ns [(132, .none), (133, .int 100000), (134, rf em 2), (135, rf em 3), (136, rf em 4), (137, .int 0), (138, .int 0)], .list [], .list [], .list [], .list [void]]⟩)
 ·repeat' trivial
 ·repeat' trivial
 ·repeat' trivial
 apply ex_setA (m3 := ⟨[(132, .none), (141, .ref cA), (133, .int 100000), (142, .bool true), (143, .int 4096), (126, rf em 0), (144, rf em 5), (128, .int 0), (127, .int 0), (145, .int (-1)), (146, .int (-1)), (147, .int (-1)), (148, .str 13), (125, .int 0)], [.inst 289 (em + (2 + 1)), .ns [(132, .none), (133, .int 100000), (134, rf em 2), (135, rf em 3), (136, rf em 4), (137, .int 0), (138, .int 0)], .list [], .list [], .list [], .list [void]]⟩)
 ·repeat' trivial
 ·repeat' trivial
 ·repeat' trivial
 apply ex_setA (m3 := ⟨[(132, .none), (141, .ref cA), (133, .int 100000), (142, .bool true), (143, .int 4096), (126, rf em 0), (144, rf em 5), (128, .int 0), (127, .int 0), (145, .int (-1)), (146, .int (-1)), (147, .int (-1)), (148, .str 13), (125, .int 0), (149, void)], [.inst 289 (em + (2 + 1)), .ns [(132, .none), (133, .int 100000), (134, rf em 2), (135, rf em 3), (136, rf em 4), (137, .int 0), (138, .int 0)], .list [], .list [], .list [], .list [void]]⟩)
 ·repeat' trivial
 ·repeat' trivial
 ·repeat' trivial
 apply ex_setA (m3 := ⟨[(132, .none), (141, .ref cA), (133, .int 100000), (142, .bool true), (143, .int 4096), (126, rf em 0), (144, rf em 5), (128, .int 0), (127, .int 0), (145, .int (-1)), (146, .int (-1)), (147, .int (-1)), (148, .str 13), (125, .int 0), (149, void), (150, rf em 6)], [.inst 289 (em + (2 + 1)), .ns [(132, .none), (133, .int 100000), (134, rf em 2), (135, rf em 3), (136, rf em 4), (137, .int 0), (138, .int 0)], .list [], .list [], .list [], .list [void], .list []]⟩)
 ·repeat' trivial
 ·repeat' trivial
 ·repeat' trivial
 apply ex_setA (m3 := ⟨[(132, .none), (141, .ref cA), (133, .int 100000), (142, .bool true), (143, .int 4096), (126, rf em 0), (144, rf em 5), (128, .int 0), (127, .int 0), (145, .int (-1)), (146, .int (-1)), (147, .int (-1)), (148, .str 13), (125, .int 0), (149, void), (150, rf em 6), (151, rf em 7)], [.inst 289 (em + (2 + 1)), .ns [(132, .none), (133, .int 100000), (134, rf em 2), (135, rf em 3), (136, rf em 4), (137, .int 0), (138, .int 0)], .list [], .list [], .list [], .list [void], .list [], .edict]⟩)
 ·repeat' trivial
 ·repeat' trivial
 ·repeat' trivial
 apply ex_setA (m3 := ⟨[(132, .none), (141, .ref cA), (133, .int 100000), (142, .bool true), (143, .int 4096), (126, rf em 0), (144, rf em 5), (128, .int 0), (127, .int 0), (145, .int (-1)), (146, .int (-1)), (147, .int (-1)), (148, .str 13), (125, .int 0), (149, void), (150, rf em 6), (151, rf em 7), (152, .bool false)], [.inst 289 (em + (2 + 1)), .ns [(132, .none), (133, .int 100000), (134, rf em 2), (135, rf em 3), (136, rf em 4), (137, .int 0), (138, .int 0)], .list [], .list [], .list [], .list [void], .list [], .edict]⟩)
 ·repeat' trivial
 ·repeat' trivial
 ·repeat' trivial
 exact ex_nil
theorem k_areas : CR (KW em s0) (d + 4) 390 [.ref em, .none, .ref cA, .int 100000, .bool true, .int 4096] ⟨[], []⟩ .none ⟨[(132, .none), (141, .ref cA), (133, .int 100000), (142, .bool true), (143, .int 4096), (126, rf em 0), (144, rf em 5), (128, .int 0), (127, .int 0), (145, .int (-1)), (146, .int (-1)), (147, .int (-1)), (148, .str 13), (125, .int 0), (149, void), (150, rf em 6), (151, rf em 7), (152, .bool false)], [.inst 289 (em + (2 + 1)), .ns [(132, .none), (133, .int 100000), (134, rf em 2), (135, rf em 3), (136, rf em 4), (137, .int 0), (138, .int 0)], .list [], .list [], .list [], .list [void], .list [], .edict]⟩ := by
 apply c_next [some (.ref em), some .none, some (.ref cA), some (.int 100000), some (.bool true), some (.int 4096)] (F := ir_Areas__init) rfl rfl
 apply ex_setA (m3 := ⟨[(132, .none)], []⟩)
 ·repeat' trivial
 ·repeat' trivial
 ·repeat' trivial
 apply ex_setA (m3 := ⟨[(132, .none), (141, .ref cA)], []⟩)
 ·repeat' trivial
 ·repeat' trivial
 ·repeat' trivial
 apply ex_setA (m3 := ⟨[(132, .none), (141, .ref cA), (133, .int 100000)], []⟩)
 ·repeat' trivial
 ·repeat' trivial
 ·repeat' trivial
 apply ex_setA (m3 := ⟨[(132, .none), (141, .ref cA), (133, .int 100000), (142, .bool true)], []⟩)
 ·repeat' trivial
 ·repeat' trivial
 ·repeat' trivial
 apply ex_setA (m3 := ⟨[(132, .none), (141, .ref cA), (133, .int 100000), (142, .bool true), (143, .int 4096)], []⟩)
 ·repeat' trivial
 ·repeat' trivial
 ·repeat' trivial
 repeat' (first | trivial | exact k_reset1)
theorem k_cells2 : CR (KW em s0) (d + 1) 110 [rf em 10, .none, .int 100000] ⟨[(132, .none), (141, .ref cA), (133, .int 100000), (142, .bool true), (143, .int 4096), (126, rf em 0), (144, rf em 5), (128, .int 0), (127, .int 0), (145, .int (-1)), (146, .int (-1)), (147, .int (-1)), (148, .str 13), (125, .int 0), (149, void), (150, rf em 6), (151, rf em 7), (152, .bool false), (170, .ref dA), (171, .int mx), (172, rf em 8)], [.inst 289 (em + (2 + 1)), .ns [(132, .none), (133, .int 100000), (134, rf em 2), (135, rf em 3), (136, rf em 4), (137, .int 0), (138, .int 0)], .list [], .list [], .list [], .list [void], .list [], .edict, .sdict tbl, .sdict tblC, .inst 289 (em + (2 + 11)), .ns []]⟩ .none ⟨[(132, .none), (141, .ref cA), (133, .int 100000), (142, .bool true), (143, .int 4096), (126, rf em 0), (144, rf em 5), (128, .int 0), (127, .int 0), (145, .int (-1)), (146, .int (-1)), (147, .int (-1)), (148, .str 13), (125, .int 0), (149, void), (150, rf em 6), (151, rf em 7), (152, .bool false), (170, .ref dA), (171, .int mx), (172, rf em 8)], [.inst 289 (em + (2 + 1)), .ns [(132, .none), (133, .int 100000), (134, rf em 2), (135, rf em 3), (136, rf em 4), (137, .int 0), (138, .int 0)], .list [], .list [], .list [], .list [void], .list [], .edict, .sdict tbl, .sdict tblC, .inst 289 (em + (2 + 11)), .ns [(132, .none), (133, .int 100000), (134, rf em 12), (135, rf em 13), (136, rf em 14), (137, .int 0), (138, .int 0)], .list [], .list [], .list []]⟩ := by
 apply c_next [some (rf em 10), some .none, some (.int 100000)] (F := ir_Cells__init) rfl rfl
 apply ex_setA (m3 := ⟨[(132, .none), (141, .ref cA), (133, .int 100000), (142, .bool true), (143, .int 4096), (126, rf em 0), (144, rf em 5), (128, .int 0), (127, .int 0), (145, .int (-1)), (146, .int (-1)), (147, .int (-1)), (148, .str 13), (125, .int 0), (149, void), (150, rf em 6), (151, rf em 7), (152, .bool false), (170, .ref dA), (171, .int mx), (172, rf em 8)], [.inst 289 (em + (2 + 1)), .ns [(132, .none), (133, .int 100000), (134, rf em 2), (135, rf em 3), (136, rf em 4), (137, .int 0), (138, .int 0)], .list [], .list [], .list [], .list [void], .list [], .edict, .sdict tbl, .sdict tblC, .inst 289 (em + (2 + 11)), .ns [(132, .none)]]⟩)
 ·repeat' trivial
 ·repeat' trivial
 ·repeat' trivial
 apply ex_setA (m3 := ⟨[(132, .none), (141, .ref cA), (133, .int 100000), (142, .bool true), (143, .int 4096), (126, rf em 0), (144, rf em 5), (128, .int 0), (127, .int 0), (145, .int (-1)), (146, .int (-1)), (147, .int (-1)), (148, .str 13), (125, .int 0), (149, void), (150, rf em 6), (151, rf em 7), (152, .bool false), (170, .ref dA), (171, .int mx), (172, rf em 8)], [.inst 289 (em + (2 + 1)), .ns [(132, .none), (133, .int 100000), (134, rf em 2), (135, rf em 3), (136, rf em 4), (137, .int 0), (138, .int 0)], .list [], .list [], .list [], .list [void], .list [], .edict, .sdict tbl, .sdict tblC, .inst 289 (em + (2 + 11)), .ns [(132, .none), (133, .int 100000)]]⟩)
 ·repeat' trivial
 ·repeat' trivial
 ·repeat' trivial
 apply ex_setA (m3 := ⟨[(132, .none), (141, .ref cA), (133, .int 100000), (142, .bool true), (143, .int 4096), (126, rf em 0), (144, rf em 5), (128, .int 0), (127, .int 0), (145, .int (-1)), (146, .int (-1)), (147, .int (-1)), (148, .str 13), (125, .int 0), (149, void), (150, rf em 6), (151, rf em 7), (152, .bool false), (170, .ref dA), (171, .int mx), (172, rf em 8)], [.inst 289 (em + (2 + 1)), .ns [(132, .none), (133, .int 100000), (134, rf em 2), (135, rf em 3), (136, rf em 4), (137, .int 0), (138, .int 0)], .list [], .list [], .list [], .list [void], .list [], .edict, .sdict tbl, .sdict tblC, .inst 289 (em + (2 + 11)), .ns [(132, .none), (133, .int 100000), (134, rf em 12)], .list []]⟩)
 ·repeat' trivial
 ·repeat' trivial
 ·repeat' trivial
 apply ex_setA (m3 := ⟨[(132, .none), (141, .ref cA), (133, .int 100000), (142, .bool true), (143, .int 4096), (126, rf em 0), (144, rf em 5), (128, .int 0), (127, .int 0), (145, .int (-1)), (146, .int (-1)), (147, .int (-1)), (148, .str 13), (125, .int 0), (149, void), (150, rf em 6), (151, rf em 7), (152, .bool false), (170, .ref dA), (171, .int mx), (172, rf em 8)], [.inst 289 (em + (2 + 1)), .ns [(132, .none), (133, .int 100000), (134, rf em 2), (135, rf em 3), (136, rf em 4), (137, .int 0), (138, .int 0)], .list [], .list [], .list [], .list [void], .list [], .edict, .sdict tbl, .sdict tblC, .inst 289 (em + (2 + 11)), .ns [(132, .none), (133, .int 100000), (134, rf em 12), (135, rf em 13)], .list [], .list []]⟩)
 ·repeat' trivial
 ·repeat' trivial
 ·repeat' trivial
 apply ex_setA (m3 := ⟨[(132, .none), (141, .ref cA), (133, .int 100000), (142, .bool true), (143, .int 4096), (126, rf em 0), (144, rf em 5), (128, .int 0), (127, .int 0), (145, .int (-1)), (146, .int (-1)), (147, .int (-1)), (148, .str 13), (125, .int 0), (149, void), (150, rf em 6), (151, rf em 7), (152, .bool false), (170, .ref dA), (171, .int mx), (172, rf em 8)], [.inst 289 (em + (2 + 1)), .ns [(132, .none), (133, .int 100000), (134, rf em 2), (135, rf em 3), (136, rf em 4), (137, .int 0), (138, .int 0)], .list [], .list [], .list [], .list [void], .list [], .edict, .sdict tbl, .sdict tblC, .inst 289 (em + (2 + 11)), .ns [(132, .none), (133, .int 100000), (134, rf em 12), (135, rf em 13), (136, rf em 14)], .list [], .list [], .list []]⟩)
 ·repeat' trivial
 ·repeat' trivial
 ·repeat' trivial
 apply ex_setA (m3 := ⟨[(132, .none), (141, .ref cA), (133, .int 100000), (142, .bool true), (143, .int 4096), (126, rf em 0), (144, rf em 5), (128, .int 0), (127, .int 0), (145, .int (-1)), (146, .int (-1)), (147, .int (-1)), (148, .str 13), (125, .int 0), (149, void), (150, rf em 6), (151, rf em 7), (152, .bool false), (170, .ref dA), (171, .int mx), (172, rf em 8)], [.inst 289 (em + (2 + 1)), .ns [(132, .none), (133, .int 100000), (134, rf em 2), (135, rf em 3), (136, rf em 4), (137, .int 0), (138, .int 0)], .list [], .list [], .list [], .list [void], .list [], .edict, .sdict tbl, .sdict tblC, .inst 289 (em + (2 + 11)), .ns [(132, .none), (133, .int 100000), (134, rf em 12), (135, rf em 13), (136, rf em 14), (137, .int 0)], .list [], .list [], .list []]⟩)
 ·repeat' trivial
 ·repeat' trivial
 ·repeat' trivial
 apply ex_setA (m3 := ⟨[(132, .none), (141, .ref cA), (133, .int 100000), (142, .bool true), (143, .int 4096), (126, rf em 0), (144, rf em 5), (128, .int 0), (127, .int 0), (145, .int (-1)), (146, .int (-1)), (147, .int (-1)), (148, .str 13), (125, .int 0), (149, void), (150, rf em 6), (151, rf em 7), (152, .bool false), (170, .ref dA), (171, .int mx), (172, rf em 8)], [.inst 289 (em + (2 + 1)), .ns [(132, .none), (133, .int 100000), (134, rf em 2), (135, rf em 3), (136, rf em 4), (137, .int 0), (138, .int 0)], .list [], .list [], .list [], .list [void], .list [], .edict, .sdict tbl, .sdict tblC, .inst 289 (em + (2 + 11)), .ns [(132, .none), (133, .int 100000), (134, rf em 12), (135, rf em 13), (136, rf em 14), (137, .int 0), (138, .int 0)], .list [], .list [], .list []]⟩)
 ·repeat' trivial
 ·repeat' trivial
 ·repeat' trivial
 exact ex_nil
theorem k_reset2 : CR (KW em s0) (d + 3) 397 [.ref em] ⟨[(132, .none), (141, .ref cA), (133, .int 100000), (142, .bool true), (143, .int 4096), (126, rf em 0), (144, rf em 5), (128, .int 0), (127, .int 0), (145, .int (-1)), (146, .int (-1)), (147, .int (-1)), (148, .str 13), (125, .int 0), (149, void), (150, rf em 6), (151, rf em 7), (152, .bool false), (170, .ref dA), (171, .int mx), (172, rf em 8)], [.inst 289 (em + (2 + 1)), .ns [(132, .none), (133, .int 100000), (134, rf em 2), (135, rf em 3), (136, rf em 4), (137, .int 0), (138, .int 0)], .list [], .list [], .list [], .list [void], .list [], .edict, .sdict tbl, .sdict tblC]⟩ .none ⟨[(132, .none), (141, .ref cA), (133, .int 100000), (142, .bool true), (143, .int 4096), (126, rf em 10), (144, rf em 15), (128, .int 0), (127, .int 0), (145, .int (-1)), (146, .int (-1)), (147, .int (-1)), (148, .str 13), (125, .int 0), (149, void), (150, rf em 16), (151, rf em 17), (152, .bool false), (170, .ref dA), (171, .int mx), (172, rf em 8)], [.inst 289 (em + (2 + 1)), .ns [(132, .none), (133, .int 100000), (134, rf em 2), (135, rf em 3), (136, rf em 4), (137, .int 0), (138, .int 0)], .list [], .list [], .list [], .list [void], .list [], .edict, .sdict tbl, .sdict tblC, .inst 289 (em + (2 + 11)), .ns [(132, .none), (133, .int 100000), (134, rf em 12), (135, rf em 13), (136, rf em 14), (137, .int 0), (138, .int 0)], .list [], .list [], .list [], .list [void], .list [], .edict]⟩ := by
 apply c_next [some (.ref em)] (F := ir_Areas_reset) rfl rfl
 apply ex_setA (m3 := ⟨[(132, .none), (141, .ref cA), (133, .int 100000), (142, .bool true), (143, .int 4096), (126, rf em 10), (144, rf em 5), (128, .int 0), (127, .int 0), (145, .int (-1)), (146, .int (-1)), (147, .int (-1)), (148, .str 13), (125, .int 0), (149, void), (150, rf em 6), (151, rf em 7), (152, .bool false), (170, .ref dA), (171, .int mx), (172, rf em 8)], [.inst 289 (em + (2 + 1)), .ns [(132, .none), (133, .int 100000), (134, rf em 2), (135, rf em 3), (136, rf em 4), (137, .int 0), (138, .int 0)], .list [], .list [], .list [], .list [void], .list [], .edict, .sdict tbl, .sdict tblC, .inst 289 (em + (2 + 11)), .ns [(132, .none), (133, .int 100000), (134, rf em 12), (135, rf em 13), (136, rf em 14), (137, .int 0), (138, .int 0)], .list [], .list [], .list []]⟩)
 ·repeat' (first | trivial | apply cr_class rfl rfl | exact k_cells2)
 ·repeat' trivial
 ·repeat' trivial
 apply ex_setA (m3 := ⟨[(132, .none), (141, .ref cA), (133, .int 100000), (142, .bool true), (143, .int 4096), (126, rf em 10), (144, rf em 15), (128, .int 0), (127, .int 0), (145, .int (-1)), (146, .int (-1)), (147, .int (-1)), (148, .str 13), (125, .int 0), (149, void), (150, rf em 6), (151, rf em 7), (152, .bool false), (170, .ref dA), (171, .int mx), (172, rf em 8)], [.inst 289 (em + (2 + 1)), .ns [(132, .none), (133, .int 100000), (134, rf em 2), (135, rf em 3), (136, rf em 4), (137, .int 0), (138, .int 0)], .list [], .list [], .list [], .list [void], .list [], .edict, .sdict tbl, .sdict tblC, .inst 289 (em + (2 + 11)), .ns [(132, .none), (133, .int 100000), (134, rf em 12), (135, rf em 13), (136, rf em 14), (137, .int 0), (138, .int 0)], .list [], .list [], .list [], .list [void]]⟩)
 ·repeat' trivial
 ·repeat' trivial
 ·repeat' trivial
 apply ex_setA (m3 := ⟨[(132, .none), (141, .ref cA), (133, .int 100000), (142, .bool true), (143, .int 4096), (126, rf em 10), (144, rf em 15), (128, .int 0), (127, .int 0), (145, .int (-1)), (146, .int (-1)), (147, .int (-1)), (148, .str 13), (125, .int 0), (149, void), (150, rf em 6), (151, rf em 7), (152, .bool false), (170, .ref dA), (171, .int mx), (172, rf em 8)], [.inst 289 (em + (2 + 1)), .ns [(132, .none), (133, .int 100000), (134, rf em 2), (135, rf em 3), (136, rf em 4), (137, .int 0), (138, .int 0)], .list [], .list [], .list [], .list [void], .list [], .edict, .sdict tbl, .sdict tblC, .inst 289 (em + (2 + 11)), .ns [(132, .none), (133, .int 100000), (134, rf em 12), (135, rf em 13), (136, rf em 14), (137, .int 0), (138, .int 0)], .list [], .list [], .list [], .list [void]]⟩)
 ·repeat' trivial
 ·repeat' trivial
 ·repeat' trivial
 apply ex_setA (m3 := ⟨[(132, .none), (141, .ref cA), (133, .int 100000), (142, .bool true), (143, .int 4096), (126, rf em 10), (144, rf em 15), (128, .int 0), (127, .int 0), (145, .int (-1)), (146, .int (-1)), (147, .int (-1)), (148, .str 13), (125, .int 0), (149, void), (150, rf em 6), (151, rf em 7), (152, .bool false), (170, .ref dA), (171, .int mx), (172, rf em 8)], [.inst 289 (em + (2 + 1)), .ns [(132, .none), (133, .int 100000), (134, rf em 2), (135, rf em 3), (136, rf em 4), (137, .int 0), (138, .int 0)], .list [], .list [], .list [], .list [void], .list [], .edict, .sdict tbl, .sdict tblC, .inst 289 (em + (2 + 11)), .ns [(132, .none), (133, .int 100000), (134, rf em 12), (135, rf em 13), (136, rf em 14), (137, .int 0), (138, .int 0)], .list [], .list [], .list [], .list [void]]⟩)
 ·repeat' trivial
 ·repeat' trivial
 ·repeat' trivial
 apply ex_setA (m3 := ⟨[(132, .none), (141, .ref cA), (133, .int 100000), (142, .bool true), (143, .int 4096), (126, rf em 10), (144, rf em 15), (128, .int 0), (127, .int 0), (145, .int (-1)), (146, .int (-1)), (147, .int (-1)), (148, .str 13), (125, .int 0), (149, void), (150, rf em 6), (151, rf em 7), (152, .bool false), (170, .ref dA), (171, .int mx), (172, rf em 8)], [.inst 289 (em + (2 + 1)), .ns [(132, .none), (133, .int 100000), (134, rf em 2), (135, rf em 3), (136, rf em 4), (137, .int 0), (138, .int 0)], .list [], .list [], .list [], .list [void], .list [], .edict, .sdict tbl, .sdict tblC, .inst 289 (em + (2 + 11)), .ns [(132, .none), (133, .int 100000), (134, rf em 12), (135, rf em 13), (136, rf em 14), (137, .int 0), (138, .int 0)], .list [], .list [], .list [], .list [void]]⟩)
 ·repeat' trivial
 ·repeat' trivial
 ·repeat' trivial
 apply ex_setA (m3 := ⟨[(132, .none), (141, .ref cA), (133, .int 100000), (142, .bool true), (143, .int 4096), (126, rf em 10), (144, rf em 15), (128, .int 0), (127, .int 0), (145, .int (-1)), (146, .int (-1)), (147, .int (-1)), (148, .str 13), (125, .int 0), (149, void), (150, rf em 6), (151, rf em 7), (152, .bool false), (170, .ref dA), (171, .int mx), (172, rf em 8)], [.inst 289 (em + (2 + 1)), .ns [(132, .none), (133, .int 100000), (134, rf em 2), (135, rf em 3), (136, rf em 4), (137, .int 0), (138, .int 0)], .list [], .list [], .list [], .list [void], .list [], .edict, .sdict tbl, .sdict tblC, .inst 289 (em + (2 + 11)), .ns [(132, .none), (133, .int 100000), (134, rf em 12), (135, rf em 13), (136, rf em 14), (137, .int 0), (138, .int 0)], .list [], .list [], .list [], .list [void]]⟩)
 ·repeat' trivial
 ·repeat' trivial
 ·repeat' trivial
 apply ex_setA (m3 := ⟨[(132, .none), (141, .ref cA), (133, .int 100000), (142, .bool true), (143, .int 4096), (126, rf em 10), (144, rf em 15), (128, .int 0), (127, .int 0), (145, .int (-1)), (146, .int (-1)), (147, .int (-1)), (148, .str 13), (125, .int 0), (149, void), (150, rf em 6), (151, rf em 7), (152, .bool false), (170, .ref dA), (171, .int mx), (172, rf em 8)], [.inst 289 (em + (2 + 1)), .ns [(132, .none), (133, .int 100000), (134, rf em 2), (135, rf em 3), (136, rf em 4), (137, .int 0), (138, .int 0)], .list [], .list [], .list [], .list [void], .list [], .edict, .sdict tbl, .sdict tblC, .inst 289 (em + (2 + 11)), .ns [(132, .none), (133, .int 100000), (134, rf em 12), (135, rf em 13), (136, rf em 14), (137, .int 0), (138, .int 0)], .list [], .list [], .list [], .list [void]]⟩)
 ·repeat' trivial
 ·repeat' trivial
 ·repeat' trivial
 apply ex_setA (m3 := ⟨[(132, .none), (141, .ref cA), (133, .int 100000), (142, .bool true), (143, .int 4096), (126, rf em 10), (144, rf em 15), (128, .int 0), (127, .int 0), (145, .int (-1)), (146, .int (-1)), (147, .int (-1)), (148, .str 13), (125, .int 0), (149, void), (150, rf em 6), (151, rf em 7), (152, .bool false), (170, .ref dA), (171, .int mx), (172, rf em 8)], [.inst 289 (em + (2 + 1)), .ns [(132, .none), (133, .int 100000), (134, rf em 2), (135, rf em 3), (136, rf em 4), (137, .int 0), (138, .int 0)], .list [], .list [], .list [], .list [void], .list [], .edict, .sdict tbl, .sdict tblC, .inst 289 (em + (2 + 11)), .ns [(132, .none), (133, .int 100000), (134, rf em 12), (135, rf em 13), (136, rf em 14), (137, .int 0), (138, .int 0)], .list [], .list [], .list [], .list [void]]⟩)
 ·repeat' trivial
 ·repeat' trivial
 ·repeat' trivial
 apply ex_setA (m3 := ⟨[(132, .none), (141, .ref cA), (133, .int 100000), (142, .bool true), (143, .int 4096), (126, rf em 10), (144, rf em 15), (128, .int 0), (127, .int 0), (145, .int (-1)), (146, .int (-1)), (147, .int (-1)), (148, .str 13), (125, .int 0), (149, void), (150, rf em 6), (151, rf em 7), (152, .bool false), (170, .ref dA), (171, .int mx), (172, rf em 8)], [.inst 289 (em + (2 + 1)), .ns [(132, .none), (133, .int 100000), (134, rf em 2), (135, rf em 3), (136, rf em 4), (137, .int 0), (138, .int 0)], .list [], .list [], .list [], .list [void], .list [], .edict, .sdict tbl, .sdict tblC, .inst 289 (em + (2 + 11)), .ns [(132, .none), (133, .int 100000), (134, rf em 12), (135, rf em 13), (136, rf em 14), (137, .int 0), (138, .int 0)], .list [], .list [], .list [], .list [void]]⟩)
 ·repeat' trivial
 ·repeat' trivial
 ·repeat' trivial
 apply ex_setA (m3 := ⟨[(132, .none), (141, .ref cA), (133, .int 100000), (142, .bool true), (143, .int 4096), (126, rf em 10), (144, rf em 15), (128, .int 0), (127, .int 0), (145, .int (-1)), (146, .int (-1)), (147, .int (-1)), (148, .str 13), (125, .int 0), (149, void), (150, rf em 6), (151, rf em 7), (152, .bool false), (170, .ref dA), (171, .int mx), (172, rf em 8)], [.inst 289 (em + (2 + 1)), .ns [(132, .none), (133, .int 100000), (134, rf em 2), (135, rf em 3), (136, rf em 4), (137, .int 0), (138, .int 0)], .list [], .list [], .list [], .list [void], .list [], .edict, .sdict tbl, .sdict tblC, .inst 289 (em + (2 + 11)), .ns [(132, .none), (133, .int 100000), (134, rf em 12), (135, rf em 13), (136, rf em 14), (137, .int 0), (138, .int 0)], .list [], .list [], .list [], .list [void]]⟩)
 ·repeat' trivial
 ·repeat' trivial
 ·repeat' trivial
 apply ex_setA (m3 := ⟨[(132, .none), (141, .ref cA), (133, .int 100000), (142, .bool true), (143, .int 4096), (126, rf em 10), (144, rf em 15), (128, .int 0), (127, .int 0), (145, .int (-1)), (146, .int (-1)), (147, .int (-1)), (148, .str 13), (125, .int 0), (149, void), (150, rf em 16), (151, rf em 7), (152, .bool false), (170, .ref dA), (171, .int mx), (172, rf em 8)], [.inst 289 (em + (2 + 1)), .ns [(132, .none), (133, .int 100000), (134, rf em 2), (135, rf em 3), (136, rf em 4), (137, .int 0), (138, .int 0)], .list [], .list [], .list [], .list [void], .list [], .edict, .sdict tbl, .sdict tblC, .inst 289 (em + (2 + 11)), .ns [(132, .none), (133, .int 100000), (134, rf em 12), (135, rf em 13), (136, rf em 14), (137, .int 0), (138, .int 0)], .list [], .list [], .list [], .list [void], .list []]⟩)
 ·repeat' trivial
 ·repeat' trivial
 ·repeat' trivial
 apply ex_setA (m3 := ⟨[(132, .none), (141, .ref cA), (133, .int 100000), (142, .bool true), (143, .int 4096), (126, rf em 10), (144, rf em 15), (128, .int 0), (127, .int 0), (145, .int (-1)), (146, .int (-1)), (147, .int (-1)), (148, .str 13), (125, .int 0), (149, void), (150, rf em 16), (151, rf em 17), (152, .bool false), (170, .ref dA), (171, .int mx), (172, rf em 8)], [.inst 289 (em + (2 + 1)), .ns [(132, .none), (133, .int 100000), (134, rf em 2), (135, rf em 3), (136, rf em 4), (137, .int 0), (138, .int 0)], .list [], .list [], .list [], .list [void], .list [], .edict, .sdict tbl, .sdict tblC, .inst 289 (em + (2 + 11)), .ns [(132, .none), (133, .int 100000), (134, rf em 12), (135, rf em 13), (136, rf em 14), (137, .int 0), (138, .int 0)], .list [], .list [], .list [], .list [void], .list [], .edict]⟩)
 ·repeat' trivial
 ·repeat' trivial
 ·repeat' trivial
 apply ex_setA (m3 := ⟨[(132, .none), (141, .ref cA), (133, .int 100000), (142, .bool true), (143, .int 4096), (126, rf em 10), (144, rf em 15), (128, .int 0), (127, .int 0), (145, .int (-1)), (146, .int (-1)), (147, .int (-1)), (148, .str 13), (125, .int 0), (149, void), (150, rf em 16), (151, rf em 17), (152, .bool false), (170, .ref dA), (171, .int mx), (172, rf em 8)], [.inst 289 (em + (2 + 1)), .ns [(132, .none), (133, .int 100000), (134, rf em 2), (135, rf em 3), (136, rf em 4), (137, .int 0), (138, .int 0)], .list [], .list [], .list [], .list [void], .list [], .edict, .sdict tbl, .sdict tblC, .inst 289 (em + (2 + 11)), .ns [(132, .none), (133, .int 100000), (134, rf em 12), (135, rf em 13), (136, rf em 14), (137, .int 0), (138, .int 0)], .list [], .list [], .list [], .list [void], .list [], .edict]⟩)
 ·repeat' trivial
 ·repeat' trivial
 ·repeat' trivial
 exact ex_nil
noncomputable def m0 : Mc := ⟨[], [], [], [void], 0, 0, 1, 1, -1, -1, -1, 0, true, true⟩
noncomputable def os2 (em : Nat) : List AObj := [.inst 289 (em + (2 + 1)), .ns [(132, .none), (133, .int 100000), (134, rf em 2), (135, rf em 3), (136, rf em 4), (137, .int 0), (138, .int 0)], .list [], .list [], .list [], .list [void], .list [], .edict, .sdict tbl, .sdict tblC, .inst 289 (em + (2 + 11)), .ns [(132, .none), (133, .int 100000), (134, rf em 12), (135, rf em 13), (136, rf em 14), (137, .int 0), (138, .int 0)], .list [], .list [], .list [], .list [void], .list [], .edict]
theorem k_clear {E : En} (h1 : E.em = em) (h2 : E.codeA = cA) (h3 : E.doorA = dA) (h4 : E.max = mx) : CR (KW em s0) (d + 4) 902 [.ref em] ⟨[(132, .none), (141, .ref cA), (133, .int 100000), (142, .bool true), (143, .int 4096), (126, rf em 0), (144, rf em 5), (128, .int 0), (127, .int 0), (145, .int (-1)), (146, .int (-1)), (147, .int (-1)), (148, .str 13), (125, .int 0), (149, void), (150, rf em 6), (151, rf em 7), (152, .bool false), (170, .ref dA), (171, .int mx), (172, rf em 8)], [.inst 289 (em + (2 + 1)), .ns [(132, .none), (133, .int 100000), (134, rf em 2), (135, rf em 3), (136, rf em 4), (137, .int 0), (138, .int 0)], .list [], .list [], .list [], .list [void], .list [], .edict, .sdict tbl, .sdict tblC]⟩ .none ⟨emF E m0, os2 em⟩ := by
 subst h1 h2 h3 h4
 apply c_next [some (.ref E.em)] (F := ir_Emulator_clear) rfl rfl
 apply ex_expr
 ·repeat' (first | trivial | exact k_reset2)
 ·rfl
 apply ex_setA (m3 := ⟨[(132, .none), (141, .ref E.codeA), (133, .int 100000), (142, .bool true), (143, .int 4096), (126, rf E.em 10), (144, rf E.em 15), (128, .int 1), (127, .int 0), (145, .int (-1)), (146, .int (-1)), (147, .int (-1)), (148, .str 13), (125, .int 0), (149, void), (150, rf E.em 16), (151, rf E.em 17), (152, .bool false), (170, .ref E.doorA), (171, .int E.max), (172, rf E.em 8)], [.inst 289 (E.em + (2 + 1)), .ns [(132, .none), (133, .int 100000), (134, rf E.em 2), (135, rf E.em 3), (136, rf E.em 4), (137, .int 0), (138, .int 0)], .list [], .list [], .list [], .list [void], .list [], .edict, .sdict tbl, .sdict tblC, .inst 289 (E.em + (2 + 11)), .ns [(132, .none), (133, .int 100000), (134, rf E.em 12), (135, rf E.em 13), (136, rf E.em 14), (137, .int 0), (138, .int 0)], .list [], .list [], .list [], .list [void], .list [], .edict]⟩)
 ·repeat' trivial
 ·repeat' trivial
 ·repeat' trivial
 apply ex_setA (m3 := ⟨[(132, .none), (141, .ref E.codeA), (133, .int 100000), (142, .bool true), (143, .int 4096), (126, rf E.em 10), (144, rf E.em 15), (128, .int 1), (127, .int 1), (145, .int (-1)), (146, .int (-1)), (147, .int (-1)), (148, .str 13), (125, .int 0), (149, void), (150, rf E.em 16), (151, rf E.em 17), (152, .bool false), (170, .ref E.doorA), (171, .int E.max), (172, rf E.em 8)], [.inst 289 (E.em + (2 + 1)), .ns [(132, .none), (133, .int 100000), (134, rf E.em 2), (135, rf E.em 3), (136, rf E.em 4), (137, .int 0), (138, .int 0)], .list [], .list [], .list [], .list [void], .list [], .edict, .sdict tbl, .sdict tblC, .inst 289 (E.em + (2 + 11)), .ns [(132, .none), (133, .int 100000), (134, rf E.em 12), (135, rf E.em 13), (136, rf E.em 14), (137, .int 0), (138, .int 0)], .list [], .list [], .list [], .list [void], .list [], .edict]⟩)
 ·repeat' trivial
 ·repeat' trivial
 ·repeat' trivial
 apply ex_setA (m3 := ⟨[(132, .none), (141, .ref E.codeA), (133, .int 100000), (142, .bool true), (143, .int 4096), (126, rf E.em 10), (144, rf E.em 15), (128, .int 1), (127, .int 1), (145, .int (-1)), (146, .int (-1)), (147, .int (-1)), (148, .str 13), (125, .int 0), (149, void), (150, rf E.em 16), (151, rf E.em 17), (152, .bool false), (170, .ref E.doorA), (171, .int E.max), (172, rf E.em 8), (131, .int 0)], [.inst 289 (E.em + (2 + 1)), .ns [(132, .none), (133, .int 100000), (134, rf E.em 2), (135, rf E.em 3), (136, rf E.em 4), (137, .int 0), (138, .int 0)], .list [], .list [], .list [], .list [void], .list [], .edict, .sdict tbl, .sdict tblC, .inst 289 (E.em + (2 + 11)), .ns [(132, .none), (133, .int 100000), (134, rf E.em 12), (135, rf E.em 13), (136, rf E.em 14), (137, .int 0), (138, .int 0)], .list [], .list [], .list [], .list [void], .list [], .edict]⟩)
 ·repeat' trivial
 ·repeat' trivial
 ·repeat' trivial
 apply ex_setA (m3 := ⟨[(132, .none), (141, .ref E.codeA), (133, .int 100000), (142, .bool true), (143, .int 4096), (126, rf E.em 10), (144, rf E.em 15), (128, .int 1), (127, .int 1), (145, .int (-1)), (146, .int (-1)), (147, .int (-1)), (148, .str 13), (125, .int 0), (149, void), (150, rf E.em 16), (151, rf E.em 17), (152, .bool false), (170, .ref E.doorA), (171, .int E.max), (172, rf E.em 8), (131, .int 0), (129, .bool true)], [.inst 289 (E.em + (2 + 1)), .ns [(132, .none), (133, .int 100000), (134, rf E.em 2), (135, rf E.em 3), (136, rf E.em 4), (137, .int 0), (138, .int 0)], .list [], .list [], .list [], .list [void], .list [], .edict, .sdict tbl, .sdict tblC, .inst 289 (E.em + (2 + 11)), .ns [(132, .none), (133, .int 100000), (134, rf E.em 12), (135, rf E.em 13), (136, rf E.em 14), (137, .int 0), (138, .int 0)], .list [], .list [], .list [], .list [void], .list [], .edict]⟩)
 ·repeat' trivial
 ·repeat' trivial
 ·repeat' trivial
 apply ex_setA (m3 := ⟨[(132, .none), (141, .ref E.codeA), (133, .int 100000), (142, .bool true), (143, .int 4096), (126, rf E.em 10), (144, rf E.em 15), (128, .int 1), (127, .int 1), (145, .int (-1)), (146, .int (-1)), (147, .int (-1)), (148, .str 13), (125, .int 0), (149, void), (150, rf E.em 16), (151, rf E.em 17), (152, .bool false), (170, .ref E.doorA), (171, .int E.max), (172, rf E.em 8), (131, .int 0), (129, .bool true), (173, .bool true)], [.inst 289 (E.em + (2 + 1)), .ns [(132, .none), (133, .int 100000), (134, rf E.em 2), (135, rf E.em 3), (136, rf E.em 4), (137, .int 0), (138, .int 0)], .list [], .list [], .list [], .list [void], .list [], .edict, .sdict tbl, .sdict tblC, .inst 289 (E.em + (2 + 11)), .ns [(132, .none), (133, .int 100000), (134, rf E.em 12), (135, rf E.em 13), (136, rf E.em 14), (137, .int 0), (138, .int 0)], .list [], .list [], .list [], .list [void], .list [], .edict]⟩)
 ·repeat' trivial
 ·repeat' trivial
 ·repeat' trivial
 exact ex_nil
end
end Mine
namespace Mine
section
variable {em cA dA : Nat} {mx : Int} {s0 : St} {d : Nat}
theorem ev_cmeth {M : Type} {I : M → St → Prop} {C n : Nat} {es ρ f vs r} {m m2 m3 : M} (t : tab.cmeth C n = some f) (g : EvsR I d es ρ m vs m2) (c : CR I d f vs m2 r m3) : EvR I d (.meth (.lit (.k (.ref C))) n es) ρ m r m3 := .mk fun σ s => by
 obtain ⟨σ2, e2, s2⟩ := g.run σ s
 obtain ⟨σ3, e3, s3⟩ := c.run σ2 s2
 refine ⟨σ3, ?_, s3⟩
 show (tab.cmeth C n).bind _ = _
 rw [t]
 show (evs _ _ _ _ _).bind _ = _
 rw [e2]; exact e3
noncomputable def fill (t : List (Nat × AV)) (l : List (Nat × AV)) : List (Nat × AV) := l.foldl (fun t p => fput p.1 p.2 t) t
noncomputable def lk (p : Nat × AV) : Bool := decide ((fget p.1 tblC).bind asKR = asKR p.2) && (asKR p.2).isSome
theorem tblC_ok : tblC.all lk = true := by decide +kernel
theorem tblC_get {p : Nat × AV} (h : p ∈ tblC) : fget p.1 tblC = some p.2 := by
 obtain ⟨h1, h2⟩ := and_inv (List.all_eq_true.mp tblC_ok p h)
 obtain ⟨a, ha⟩ := some_of h2
 have e := (of_decide_eq_true h1).trans ha
 obtain ⟨v, hv, hk⟩ := bind_inv e
 rw [hv, asKR_inv ha, asKR_inv hk]
noncomputable abbrev rho (em cA dA : Nat) (mx : Int) (o : Option AV) : Lc := [some (.ref em), some .none, some (.ref cA), some (.ref dA), some (.int mx), some (.int 100000), some (.bool true), some (.int 4096), some (rf em 9), o]
noncomputable def lastO (o : Option AV) : List (Nat × AV) → Option AV
 | [] => o
 | p :: r => lastO (some (.str p.1)) r
theorem fork_loop {fs : List (Nat × AV)} {os : List AObj} (h172 : fget 172 fs = some (rf em 8)) (ho : os.length = 8) (v0 : Nat) :
  ∀ (r : List (Nat × AV)) (k : Nat) (t : List (Nat × AV)) (σ : St) (o : Option AV), tblC.drop k = r → t.length + r.length < 800 → KW em s0 ⟨fs, os ++ [.sdict t, .sdict tblC]⟩ σ → σ.ver (em + (2 + 9)) = v0 →
  ∃ σ', loopF (fun (p : Nat × Lc × St) => if p.2.2.ver (em + (2 + 9)) = v0 then (match tblC[p.1]? with
      | some x => (exs tab (cfN tab d) [.setS (.attr (.loc 0) 172) (.loc 9) (.sub (.loc 8) (.loc 9))] (setL p.2.1 9 (.str x.1)) p.2.2).map (turnTo fun ρ σ => (p.1 + 1, ρ, σ))
      | Option.none => some (.inr (.next, p.2.1, p.2.2))) else Option.none) (k, rho em cA dA mx o, σ) = some (.next, rho em cA dA mx (lastO o r), σ') ∧ KW em s0 ⟨fs, os ++ [.sdict (fill t r), .sdict tblC]⟩ σ'
 | [], k, t, σ, o, hr, hl, s, hv => by
  refine ⟨σ, ?_, s⟩
  rw [loopF_unfold]
  dsimp only
  rw [if_pos hv]
  have : tblC[k]? = none := List.getElem?_eq_none (List.drop_eq_nil_iff.mp hr)
  rw [this]; rfl
 | p :: r, k, t, σ, o, hr, hl, s, hv => by
  have hk : tblC[k]? = some p := by rw [← List.head?_drop, hr]; rfl
  have hr' : tblC.drop (k + 1) = r := by rw [← List.tail_drop, hr]; rfl
  have hg := tblC_get (List.mem_of_getElem? hk)
  have h8 : σ.ob (em + (2 + 8)) = .sdict t := s.at' 8 _ (by rw [List.getElem?_append_right (by lia), ho]; rfl)
  have h9 : σ.ob (em + (2 + 9)) = .sdict tblC := s.at' 9 _ (by rw [List.getElem?_append_right (by lia), ho]; rfl)
  have s' := kset_o (j := 8) (o := .sdict (fput p.1 p.2 t)) s
  have e8 : (os ++ [AObj.sdict t, .sdict tblC]).set 8 (.sdict (fput p.1 p.2 t)) = os ++ [.sdict (fput p.1 p.2 t), .sdict tblC] := by
   rw [List.set_append_right 8 _ (by lia), ho]; rfl
  dsimp only at s'
  rw [e8] at s'
  have hlen := fput_length p.1 p.2 t
  rw [List.length_cons] at hl
  obtain ⟨σ', hloop, hs⟩ := fork_loop h172 ho v0 r (k + 1) _ _ (some (.str p.1)) hr' (by lia) s' (by show (if em + (2 + 9) = em + (2 + 8) then _ else _) = _; rw [if_neg (by lia)]; exact hv)
  refine ⟨σ', ?_, hs⟩
  rw [loopF_unfold]
  dsimp only
  rw [if_pos hv, hk]
  have hx : ex tab (cfN tab d) (.setS (.attr (.loc 0) 172) (.loc 9) (.sub (.loc 8) (.loc 9))) (rho em cA dA mx (some (.str p.1))) σ = some (.next, rho em cA dA mx (some (.str p.1)), σ.set (em + (2 + 8)) (.sdict (fput p.1 p.2 t))) := by
   show ((subA (rf em 9) (.str p.1) σ).bind _).bind _ = _
   show ((subO (σ.ob (em + (2 + 9))) _).bind _).bind _ = _
   rw [h9]
   show ((fget p.1 tblC).bind _).bind _ = _
   rw [hg]
   show ((getF tab σ (.ref em) 172).bind _).bind _ = _
   rw [getF_of s.a0 s.a1 rfl h172]
   show ((putO (σ.ob (em + (2 + 8))) _ _).bind _).bind _ = _
   rw [h8]
   show ((if t.length < 900 then _ else _ : Option AObj).bind _).bind _ = _
   rw [if_pos (by lia)]; rfl
  dsimp only
  rw [show setL (rho em cA dA mx o) 9 (.str p.1) = rho em cA dA mx (some (.str p.1)) from rfl, exs_one hx]
  exact hloop
theorem fill_tbl : fill tblM tblC = tbl := by rfl
theorem k_fork {f : Fl} {r : List Sx} {ρ'' : Lc} {m' : Kw} {o : Option AV} {fs : List (Nat × AV)} {os : List AObj} (h172 : fget 172 fs = some (rf em 8)) (ho : os.length = 8)
  (g : ExR (KW em s0) d r (rho em cA dA mx (lastO o tblC)) ⟨fs, os ++ [.sdict tbl, .sdict tblC]⟩ f ρ'' m') :
  ExR (KW em s0) d (.forK 9 (.loc 8) [.setS (.attr (.loc 0) 172) (.loc 9) (.sub (.loc 8) (.loc 9))] :: r) (rho em cA dA mx o) ⟨fs, os ++ [.sdict tblM, .sdict tblC]⟩ f ρ'' m' := .mk fun σ s => by
 have h9 : σ.ob (em + (2 + 9)) = .sdict tblC := s.at' 9 _ (by rw [List.getElem?_append_right (by lia), ho]; rfl)
 obtain ⟨σ', hl, hs⟩ := fork_loop (d := d) h172 ho (σ.ver (em + (2 + 9))) tblC 0 tblM σ o rfl (by decide) s rfl
 rw [fill_tbl] at hs
 obtain ⟨σ2, e2, s2⟩ := g.run σ' hs
 refine ⟨σ2, ?_, s2⟩
 rw [exs_next (ρ1 := rho em cA dA mx (lastO o tblC)) (σ1 := σ')]
 ·exact e2
 ·show ((asSd (σ.ob (em + (2 + 9)))).bind _) = _
  rw [h9]
  exact hl
theorem k_init {E : En} (h1 : E.em = em) (h2 : E.codeA = cA) (h3 : E.doorA = dA) (h4 : E.max = mx) : CR (KW em s0) (d + 6) 895 [.ref em, .none, .ref cA, .ref dA, .int mx] ⟨[], []⟩ .none ⟨emF E m0, os2 em⟩ := by
 apply c_next [some (.ref em), some .none, some (.ref cA), some (.ref dA), some (.int mx), some (.int 100000), some (.bool true), some (.int 4096), none, none] (F := ir_Emulator__init) rfl rfl
 apply ex_expr
 ·apply ev_cmeth rfl
  ·repeat' trivial
  ·exact k_areas (d := d + 1)
 ·rfl
 apply ex_setA (m3 := ⟨[(132, .none), (141, .ref cA), (133, .int 100000), (142, .bool true), (143, .int 4096), (126, rf em 0), (144, rf em 5), (128, .int 0), (127, .int 0), (145, .int (-1)), (146, .int (-1)), (147, .int (-1)), (148, .str 13), (125, .int 0), (149, void), (150, rf em 6), (151, rf em 7), (152, .bool false), (170, .ref dA)], [.inst 289 (em + (2 + 1)), .ns [(132, .none), (133, .int 100000), (134, rf em 2), (135, rf em 3), (136, rf em 4), (137, .int 0), (138, .int 0)], .list [], .list [], .list [], .list [void], .list [], .edict]⟩)
 ·repeat' trivial
 ·repeat' trivial
 ·repeat' trivial
 apply ex_setA (m3 := ⟨[(132, .none), (141, .ref cA), (133, .int 100000), (142, .bool true), (143, .int 4096), (126, rf em 0), (144, rf em 5), (128, .int 0), (127, .int 0), (145, .int (-1)), (146, .int (-1)), (147, .int (-1)), (148, .str 13), (125, .int 0), (149, void), (150, rf em 6), (151, rf em 7), (152, .bool false), (170, .ref dA), (171, .int mx)], [.inst 289 (em + (2 + 1)), .ns [(132, .none), (133, .int 100000), (134, rf em 2), (135, rf em 3), (136, rf em 4), (137, .int 0), (138, .int 0)], .list [], .list [], .list [], .list [void], .list [], .edict]⟩)
 ·repeat' trivial
 ·repeat' trivial
 ·repeat' trivial
 apply ex_setA (m3 := ⟨[(132, .none), (141, .ref cA), (133, .int 100000), (142, .bool true), (143, .int 4096), (126, rf em 0), (144, rf em 5), (128, .int 0), (127, .int 0), (145, .int (-1)), (146, .int (-1)), (147, .int (-1)), (148, .str 13), (125, .int 0), (149, void), (150, rf em 6), (151, rf em 7), (152, .bool false), (170, .ref dA), (171, .int mx), (172, rf em 8)], [.inst 289 (em + (2 + 1)), .ns [(132, .none), (133, .int 100000), (134, rf em 2), (135, rf em 3), (136, rf em 4), (137, .int 0), (138, .int 0)], .list [], .list [], .list [], .list [void], .list [], .edict, .sdict tblM]⟩)
 ·repeat' (first | trivial | apply cr_prim rfl rfl rfl)
 ·repeat' trivial
 ·repeat' trivial
 apply ex_asg (m1 := ⟨[(132, .none), (141, .ref cA), (133, .int 100000), (142, .bool true), (143, .int 4096), (126, rf em 0), (144, rf em 5), (128, .int 0), (127, .int 0), (145, .int (-1)), (146, .int (-1)), (147, .int (-1)), (148, .str 13), (125, .int 0), (149, void), (150, rf em 6), (151, rf em 7), (152, .bool false), (170, .ref dA), (171, .int mx), (172, rf em 8)], [.inst 289 (em + (2 + 1)), .ns [(132, .none), (133, .int 100000), (134, rf em 2), (135, rf em 3), (136, rf em 4), (137, .int 0), (138, .int 0)], .list [], .list [], .list [], .list [void], .list [], .edict, .sdict tblM, .sdict tblC]⟩)
 ·apply ev_call
  ·trivial
  ·trivial
  ·exact cr_prim (kvs := tblC) rfl rfl rfl
 apply k_fork (os := [.inst 289 (em + (2 + 1)), .ns [(132, .none), (133, .int 100000), (134, rf em 2), (135, rf em 3), (136, rf em 4), (137, .int 0), (138, .int 0)], .list [], .list [], .list [], .list [void], .list [], .edict]) rfl rfl
 apply ex_expr
 ·repeat' (first | trivial | exact k_clear (d := d + 1) h1 h2 h3 h4)
 ·rfl
 exact ex_nil
theorem cr_emu {code : List AV} {doors : List (Int × AV)} {σ : St} (hc : σ.ob cA = .list code) (hd : σ.ob dA = .idict doors) (h1 : cA < σ.nx) (h2 : dA < σ.nx) :
  ∃ σ', cfN tab (d + 7) (.k (.ref 947)) [.none, .ref cA, .ref dA, .int mx] σ = some (.ref σ.nx, σ') ∧ W ⟨σ.nx, cA, code, dA, doors, mx, σ'⟩ m0 σ' ∧ En.Ok ⟨σ.nx, cA, code, dA, doors, mx, σ'⟩ ∧ σ'.nx = σ.nx + 20 ∧ ∀ a, a < σ.nx → σ'.ob a = σ.ob a := by
 have s0 : KW σ.nx σ ⟨[], []⟩ (mkI 947 σ) := by
  refine ⟨rfl, (new_ne (σ := σ.new _) (by show σ.nx ≠ σ.nx + 1; lia)).trans new_self, new_self (σ := σ.new _), fun i o h => (nomatch h), fun a h => (new_ne (σ := σ.new _) (by show a ≠ σ.nx + 1; lia)).trans (new_ne (by lia))⟩
 obtain ⟨σ', e, s⟩ := (k_init (em := σ.nx) (cA := cA) (dA := dA) (mx := mx) (s0 := σ) (d := d) (E := ⟨σ.nx, cA, code, dA, doors, mx, σ⟩) rfl rfl rfl rfl).run _ s0
 have hn : σ'.nx = σ.nx + 20 := s.nx
 refine ⟨σ', ?_, ⟨⟨s.a0, s.a1, s.at' 8 _ rfl, s.at' 10 _ rfl, s.at' 11 _ rfl, s.at' 12 _ rfl, s.at' 13 _ rfl, s.at' 14 _ rfl, s.at' 15 _ rfl⟩, Nat.le_refl _, fun _ _ _ => rfl⟩, ⟨(s.keep _ h1).trans hc, (s.keep _ h2).trans hd, h1, h2, Nat.le_of_eq hn.symm⟩, hn, s.keep⟩
 show (cfN tab (d + 6) (.k (.ref 895)) _ (mkI 947 σ)).bind _ = _
 rw [e]; rfl
end
end Mine
end
section
namespace Mine
noncomputable def take (xs : List Int) (a k : Int) : Int := if xs = [] then 0 else Int.fmod (Int.fdiv ((xs.getD (Int.fmod a xs.length).toNat 0).natAbs : Int) (7 ^ (Int.fdiv a xs.length).toNat)) k
theorem take_range (xs : List Int) (a : Int) {k : Int} (hk : 0 < k) : 0 ≤ take xs a k ∧ take xs a k < k := by
 unfold take
 split
 ·exact ⟨Int.le_refl _, hk⟩
 ·exact ⟨Int.fmod_nonneg_of_pos _ hk, Int.fmod_lt_of_pos _ hk⟩
theorem flat_ints : ∀ xs : List Int, flat (xs.map AV.int) = true
 | [] => rfl
 | x :: r => flat_ints r
section
variable {d : Nat}
noncomputable def At (σ0 : St) : Unit → St → Prop := fun _ σ => σ = σ0
theorem ls_At {σ0 : St} {a : Nat} {xs : List AV} (h : σ0.ob a = .list xs) : LS (At σ0) () (.ref a) xs := .mk fun σ s => ⟨a, rfl, by rw [s]; exact h⟩
theorem ev_abs {M : Type} {I : M → St → Prop} {x ρ i} {m m1 : M} (h : EvR I d x ρ m (.int i) m1) : EvR I d (.abs x) ρ m (.int (i.natAbs : Int)) m1 := .mk fun σ s => by
 obtain ⟨σ1, e, s1⟩ := h.run σ s
 refine ⟨σ1, ?_, s1⟩
 show (ev _ _ _ _ _).bind _ = _
 rw [e]; rfl
theorem fdiv_lt {a n : Int} (h0 : 0 ≤ a) (hb : a < 64) (hn : 0 < n) : 0 ≤ Int.fdiv a n ∧ Int.fdiv a n < 64 := by
 rw [Int.fdiv_eq_ediv_of_nonneg _ (Int.le_of_lt hn)]
 exact ⟨Int.ediv_nonneg h0 (Int.le_of_lt hn), Int.lt_of_le_of_lt (Int.ediv_le_self _ h0) hb⟩
noncomputable abbrev takeEx : Ex := .bin .mod (.bin .fdiv (.abs (.sub (.loc 2) (.bin .mod (.loc 3) (.len (.loc 2))))) (.bin .pow (.lit (.int 7)) (.bin .fdiv (.loc 3) (.len (.loc 2))))) (.loc 1)
theorem take_run {aS aR : Nat} {xs : List Int} {a k : Int} {σ : St} (h1 : σ.ob aS = .list [.ref aR, .int a]) (h2 : σ.ob aR = .list (xs.map .int)) (hne : aS ≠ aR) (hS : aS < σ.nx) (hR : aR < σ.nx) (ha : 0 ≤ a) (hb : a < 64) (hk : k ≠ 0) :
  cfN tab (d + 1) (.k (.ref f_law_take)) [.ref aS, .int k] σ = some (.int (take xs a k), (σ.set aS (.list [.ref aR, .int (a + 1)])).new (.list [])) := by
 have eR : (σ.set aS (.list [.ref aR, .int (a + 1)])).ob aR = .list (xs.map .int) := (set_ne (Ne.symm hne)).trans h2
 have eR2 : ((σ.set aS (.list [.ref aR, .int (a + 1)])).new (.list [])).ob aR = .list (xs.map .int) := (new_ne (σ := σ.set _ _) (Nat.ne_of_lt hR)).trans eR
 have eN : ((σ.set aS (.list [.ref aR, .int (a + 1)])).new (.list [])).ob σ.nx = .list [] := new_self (σ := σ.set _ _)
 have x1 : ex tab (cfN tab d) (.asg2 2 3 (.loc 0)) [some (.ref aS), some (.int k), none, none] σ = some (.next, [some (.ref aS), some (.int k), some (.ref aR), some (.int a)], σ) := by
  show ((asList (σ.ob aS)).bind pair?).bind _ = _
  rw [h1]; rfl
 have x2 : ex tab (cfN tab d) (.setS (.loc 0) (.lit (.int 1)) (.bin .add (.loc 3) (.lit (.int 1)))) [some (.ref aS), some (.int k), some (.ref aR), some (.int a)] σ = some (.next, [some (.ref aS), some (.int k), some (.ref aR), some (.int a)], σ.set aS (.list [.ref aR, .int (a + 1)])) := by
  show ((putO (σ.ob aS) _ _).bind _).bind _ = _
  rw [h1]; rfl
 show (exs tab (cfN tab d) ir_law_take.body [some (.ref aS), some (.int k), none, none] σ).bind _ = _
 show (exs tab (cfN tab d) (_ :: _ :: _ :: _) _ σ).bind _ = _
 rw [exs_next x1, exs_next x2]
 have xc : ev tab (cfN tab d) (.cmp .eq (.loc 2) (.lst [])) [some (.ref aS), some (.int k), some (.ref aR), some (.int a)] (σ.set aS (.list [.ref aR, .int (a + 1)])) = some (.bool xs.isEmpty, (σ.set aS (.list [.ref aR, .int (a + 1)])).new (.list [])) := by
  show (cmpA .eq (.ref aR) (.ref σ.nx) ((σ.set aS (.list [.ref aR, .int (a + 1)])).new (.list []))).bind _ = _
  show ((asList (((σ.set aS (.list [.ref aR, .int (a + 1)])).new (.list [])).ob aR)).bind _).bind _ = _
  rw [eR2]
  show ((asList (((σ.set aS (.list [.ref aR, .int (a + 1)])).new (.list [])).ob σ.nx)).bind _).bind _ = _
  rw [eN]
  show (if ([] : List AV) = [] ∧ flat (xs.map AV.int) = true then _ else _ : Option Bool).bind _ = _
  rw [if_pos ⟨rfl, flat_ints xs⟩]
  cases xs <;> rfl
 generalize hσ : (σ.set aS (.list [.ref aR, .int (a + 1)])).new (.list []) = σ2 at *
 rw [exs_eq]
 show (((ev _ _ _ _ _).bind _).bind _).bind _ = _
 rw [xc]
 cases xs with
 | nil => rfl
 | cons x0 r =>
  generalize hxs : x0 :: r = ys at *
  have hn : (0 : Int) < ys.length := by rw [← hxs, List.length_cons]; lia
  have hy : ys ≠ [] := by rw [← hxs]; simp
  have hem : ys.isEmpty = false := by rw [← hxs]; rfl
  rw [hem]
  have hL := ls_At (σ0 := σ2) eR2
  have hm : 0 ≤ Int.fmod a ys.length ∧ Int.fmod a ys.length < ys.length := ⟨Int.fmod_nonneg_of_pos _ hn, Int.fmod_lt_of_pos _ hn⟩
  obtain ⟨q1, q2⟩ := fdiv_lt ha hb hn
  have hi : itm (ys.map AV.int) (Int.fmod a ys.length) = some (.int (ys.getD (Int.fmod a ys.length).toNat 0)) := by
   refine itm_get hm.1 ?_
   rw [List.getElem?_map, List.getD_eq_getElem?_getD]
   have : (Int.fmod a ys.length).toNat < ys.length := by lia
   rw [List.getElem?_eq_getElem this]; rfl
  have b1 : binI .mod a ((ys.map AV.int).length : Int) = some (Int.fmod a ys.length) := by rw [List.length_map]; exact if_pos (by lia)
  have b2 : binI .fdiv a ((ys.map AV.int).length : Int) = some (Int.fdiv a ys.length) := by rw [List.length_map]; exact if_pos (by lia)
  have b3 : binI .pow 7 (Int.fdiv a ys.length) = some (7 ^ (Int.fdiv a ys.length).toNat) := if_pos ⟨rfl, q1, q2⟩
  have hp : (7 : Int) ^ (Int.fdiv a ys.length).toNat ≠ 0 := Int.ne_of_gt (Int.pow_pos (by decide))
  have b4 : binI .fdiv ((ys.getD (Int.fmod a ys.length).toNat 0).natAbs : Int) (7 ^ (Int.fdiv a ys.length).toNat) = some (Int.fdiv ((ys.getD (Int.fmod a ys.length).toNat 0).natAbs : Int) (7 ^ (Int.fdiv a ys.length).toNat)) := if_pos hp
  have b5 : binI .mod (Int.fdiv ((ys.getD (Int.fmod a ys.length).toNat 0).natAbs : Int) (7 ^ (Int.fdiv a ys.length).toNat)) k = some (take ys a k) := by
   unfold take
   rw [if_neg hy]; exact if_pos hk
  have R : EvR (At σ2) d takeEx [some (.ref aS), some (.int k), some (.ref aR), some (.int a)] () (.int (take ys a k)) () := by
   repeat' (first | trivial | apply ev_abs | exact b1 | exact b2 | exact b3 | exact b4 | exact b5)
  obtain ⟨σ3, e3, s3⟩ := R.run σ2 rfl
  have s3 : σ3 = σ2 := s3
  subst s3
  have x3 : exs tab (cfN tab d) [.ret takeEx] [some (.ref aS), some (.int k), some (.ref aR), some (.int a)] σ3 = some (.ret (.int (take ys a k)), [some (.ref aS), some (.int k), some (.ref aR), some (.int a)], σ3) :=
   exs_ret (by show (ev _ _ _ _ _).bind _ = _; rw [e3]; rfl)
  show (exs tab (cfN tab d) [.ret takeEx] _ σ3).bind _ = _
  rw [x3]; rfl
end
end Mine
end
section
namespace Mine
section
variable {d : Nat}
structure PX (L : Nat → Option (List AV)) (os : List AObj) (σ : St) : Prop where
 nx : σ.nx = os.length
 at' : ∀ i o, os[i]? = some o → σ.ob i = o
 lst : σ.lst = L
theorem pnew {L} {os : List AObj} {σ : St} {o : AObj} (s : PX L os σ) : PX L (os ++ [o]) (σ.new o) := by
 refine ⟨by rw [List.length_append]; show σ.nx + 1 = _; rw [s.nx]; rfl, fun i o' h => ?_, s.lst⟩
 obtain ⟨h1, h2⟩ := List.getElem?_eq_some_iff.mp h
 rw [List.length_append, List.length_singleton] at h1
 by_cases e : i < os.length
 ·rw [List.getElem?_append_left e] at h
  exact (new_ne (by rw [s.nx]; lia)).trans (s.at' i o' h)
 ·obtain rfl : i = os.length := by lia
  rw [← s.nx, new_self, ← h2, List.getElem_concat_length rfl]
theorem ev_lstP {L es ρ vs} {os os1 : List AObj} (h : EvsR (PX L) d es ρ os vs os1) : EvR (PX L) d (.lst es) ρ os (.ref os1.length) (os1 ++ [.list vs]) := .mk fun σ s => by
 obtain ⟨σ1, e, s1⟩ := h.run σ s
 refine ⟨σ1.new (.list vs), ?_, pnew s1⟩
 show (evs _ _ _ _ _).bind _ = _
 rw [e, ← s1.nx]; rfl
theorem ev_edictP {L ρ} {os : List AObj} : EvR (PX L) d .edict ρ os (.ref os.length) (os ++ [.edict]) := .mk fun σ s => by
 refine ⟨σ.new .edict, ?_, pnew s⟩
 rw [← s.nx]; rfl
theorem ev_slcP {L i ρ a xs} {n : Int} {os : List AObj} (h : ρ[i]? = some (some (.k (.ref a)))) (h2 : L a = some xs) (hn : 0 ≤ n) : EvR (PX L) d (.slcL (.loc i) (.lit (.int n))) ρ os (.ref os.length) (os ++ [.list (xs.take n.toNat)]) := .mk fun σ s => by
 refine ⟨σ.new (.list (xs.take n.toNat)), ?_, pnew s⟩
 show ((ρ[i]?).bind _).bind _ = _
 rw [h]
 show (σ.lst a).bind _ = _
 rw [s.lst, h2]
 show (if 0 ≤ n then _ else _) = _
 rw [if_pos hn, ← s.nx]
theorem ls_P {L i xs} {os : List AObj} (h : os[i]? = some (.list xs)) : LS (PX L) os (.ref i) xs := .mk fun σ s => ⟨i, rfl, s.at' i _ h⟩
theorem ul_P {L i xs} {os os' : List AObj} (h : os.set i (.list xs) = os') : UL (PX L) os (.ref i) xs os' := .mk fun σ s a q => by
 cases q
 subst h
 refine ⟨by rw [List.length_set]; exact s.nx, fun j o h => ?_, s.lst⟩
 by_cases e : j = i
 ·subst e
  obtain ⟨h1, h2⟩ := List.getElem?_eq_some_iff.mp h
  rw [set_self, ← h2, List.getElem_set_self]
 ·rw [List.getElem?_set_ne (Ne.symm e)] at h
  exact (set_ne e).trans (s.at' j o h)
structure Gw where
 os : List AObj
 os2 : List AObj
structure GW (n : Nat) (g : Gw) (σ : St) : Prop where
 le : g.os.length ≤ n
 le2 : n + g.os2.length ≤ σ.nx
 at1 : ∀ i o, g.os[i]? = some o → σ.ob i = o
 at2 : ∀ i o, g.os2[i]? = some o → σ.ob (n + i) = o
theorem GW.new {n : Nat} {g : Gw} {σ : St} (s : GW n g σ) (o : AObj) : GW n g (σ.new o) := by
 have h1 := s.le; have h2 := s.le2
 refine ⟨h1, Nat.le_succ_of_le h2, fun i o' h => ?_, fun i o' h => ?_⟩
 ·have := (List.getElem?_eq_some_iff.mp h).1
  exact (new_ne (by lia)).trans (s.at1 i o' h)
 ·have := (List.getElem?_eq_some_iff.mp h).1
  exact (new_ne (by lia)).trans (s.at2 i o' h)
theorem GW.set1 {n i : Nat} {os os2 : List AObj} {σ : St} (s : GW n ⟨os, os2⟩ σ) (hi : i < os.length) (o : AObj) : GW n ⟨os.set i o, os2⟩ (σ.set i o) := by
 have h1 : os.length ≤ n := s.le
 refine ⟨by simp only [List.length_set]; exact h1, s.le2, fun j o' h => ?_, fun j o' h => (set_ne (by lia)).trans (s.at2 j o' h)⟩
 by_cases e : j = i
 ·subst e
  obtain ⟨h1, h2⟩ := List.getElem?_eq_some_iff.mp h
  rw [set_self, ← h2, List.getElem_set_self]
 ·rw [List.getElem?_set_ne (Ne.symm e)] at h
  exact (set_ne e).trans (s.at1 j o' h)
theorem GW.set2 {n i : Nat} {os os2 : List AObj} {σ : St} (s : GW n ⟨os, os2⟩ σ) (o : AObj) : GW n ⟨os, os2.set i o⟩ (σ.set (n + i) o) := by
 have h1 : os.length ≤ n := s.le
 refine ⟨h1, by simp only [List.length_set]; exact s.le2, fun j o' h => ?_, fun j o' h => ?_⟩
 ·have := (List.getElem?_eq_some_iff.mp h).1
  simp only at this
  exact (set_ne (by lia)).trans (s.at1 j o' h)
 ·by_cases e : j = i
  ·subst e
   obtain ⟨h1, h2⟩ := List.getElem?_eq_some_iff.mp h
   rw [set_self, ← h2, List.getElem_set_self]
  ·rw [List.getElem?_set_ne (Ne.symm e)] at h
   exact (set_ne (by lia)).trans (s.at2 j o' h)
noncomputable abbrev row (xs : List Int) : AObj := .list (xs.map AV.int)
noncomputable abbrev stO (a : Int) : AObj := .list [.ref 0, .int a]
theorem GW.take {n : Nat} {xs : List Int} {a k : Int} {r os2 : List AObj} {σ : St} (s : GW n ⟨row xs :: stO a :: r, os2⟩ σ) (ha : 0 ≤ a) (hb : a < 64) (hk : k ≠ 0) :
  cfN tab (d + 1) (.k (.ref f_law_take)) [.ref 1, .int k] σ = some (.int (take xs a k), (σ.set 1 (stO (a + 1))).new (.list [])) ∧ GW n ⟨row xs :: stO (a + 1) :: r, os2⟩ ((σ.set 1 (stO (a + 1))).new (.list [])) := by
 have h1 := s.le; have h2 := s.le2
 simp only [List.length_cons] at h1 h2
 exact ⟨take_run (s.at1 1 _ rfl) (s.at1 0 _ rfl) (by decide) (by lia) (by lia) ha hb hk, (s.set1 (i := 1) (by simp only [List.length_cons]; lia) _).new _⟩
theorem c_takeG {n : Nat} {xs : List Int} {a k : Int} {r os2 : List AObj} (ha : 0 ≤ a) (hb : a < 64) (hk : k ≠ 0) : CR (GW n) (d + 1) 956 [.ref 1, .int k] ⟨row xs :: stO a :: r, os2⟩ (.int (take xs a k)) ⟨row xs :: stO (a + 1) :: r, os2⟩ := .mk fun σ s =>
 ⟨_, s.take ha hb hk⟩
theorem ls_G1 {n i xs} {g : Gw} (h : g.os[i]? = some (.list xs)) : LS (GW n) g (.ref i) xs := .mk fun σ s => ⟨i, rfl, s.at1 i _ h⟩
theorem ul_G1 {n i xs} {os os' os2 : List AObj} (hi : Nat.blt i os.length = true) (h : os.set i (.list xs) = os') : UL (GW n) ⟨os, os2⟩ (.ref i) xs ⟨os', os2⟩ := .mk fun σ s a q => by
 cases q
 subst h
 exact s.set1 (Nat.blt_eq.mp hi) _
theorem ev_pick {n i : Nat} {xs : List Int} {a : Int} {r os2 : List AObj} {ρ u v} (hl : ρ[i]? = some (some (.ref 1))) (ha : 0 ≤ a) (hb : a < 64) :
  EvR (GW n) (d + 1) (.sub (.lst [.lit u, .lit v]) (.call (.lit (.k (.ref 956))) [.loc i, .lit (.int 2)])) ρ ⟨row xs :: stO a :: r, os2⟩ (if take xs a 2 = 0 then u else v) ⟨row xs :: stO (a + 1) :: r, os2⟩ := .mk fun σ s => by
 have h1 := s.le; have h2 := s.le2
 simp only [List.length_cons] at h1 h2
 obtain ⟨e, s2⟩ := (s.new (.list [u, v])).take (d := d) (k := 2) ha hb (by decide)
 refine ⟨_, ?_, s2⟩
 have ec : ev tab (cfN tab (d + 1)) (.call (.lit (.k (.ref 956))) [.loc i, .lit (.int 2)]) ρ (σ.new (.list [u, v])) = some (.int (take xs a 2), ((σ.new (.list [u, v])).set 1 (stO (a + 1))).new (.list [])) := by
  show (((ρ[i]?).bind _).bind _).bind _ = _
  rw [hl]
  exact e
 show (ev _ _ _ _ (σ.new (.list [u, v]))).bind _ = _
 rw [ec]
 have e2 : (((σ.new (.list [u, v])).set 1 (stO (a + 1))).new (.list [])).ob σ.nx = .list [u, v] := (new_ne (σ := (σ.new _).set _ _) (by show σ.nx ≠ σ.nx + 1; lia)).trans ((set_ne (σ := σ.new _) (by lia)).trans new_self)
 show (subO ((((σ.new (.list [u, v])).set 1 (stO (a + 1))).new (.list [])).ob σ.nx) _).bind _ = _
 rw [e2]
 obtain ⟨q1, q2⟩ := take_range xs a (k := 2) (by decide)
 generalize take xs a 2 = t at *
 have : t = 0 ∨ t = 1 := by lia
 rcases this with rfl | rfl <;> rfl
structure PUT {M : Type} (I : M → St → Prop) (m : M) (w k v : AV) (m' : M) : Prop where
 run : ∀ σ, I m σ → ∃ σ', setS w k v σ = some σ' ∧ I m' σ'
theorem ex_setSP {M : Type} {I : M → St → Prop} {o k x r ρ w v kv f ρ'} {m m1 m2 m3 m4 m' : M} (h : EvR I d x ρ m v m1) (h2 : EvR I d o ρ m1 w m2) (h3 : EvR I d k ρ m2 kv m3) (u : PUT I m3 w kv v m4) (g : ExR I d r ρ m4 f ρ' m') : ExR I d (.setS o k x :: r) ρ m f ρ' m' := .mk fun σ s => by
 obtain ⟨σ1, e, s1⟩ := h.run σ s
 obtain ⟨σ2, e2, s2⟩ := h2.run σ1 s1
 obtain ⟨σ3, e3, s3⟩ := h3.run σ2 s2
 obtain ⟨σ4, e4, s4⟩ := u.run σ3 s3
 obtain ⟨σ5, e5, s5⟩ := g.run _ s4
 refine ⟨σ5, ?_, s5⟩
 rw [exs_next (show ex _ _ _ _ _ = some (.next, ρ, σ4) from by
  show (ev _ _ _ _ _).bind _ = _
  rw [e]
  show (ev _ _ _ _ _).bind _ = _
  rw [e2]
  show (ev _ _ _ _ _).bind _ = _
  rw [e3]
  show (setS _ _ _ _).bind _ = _
  rw [e4]; rfl)]
 exact e5
theorem put_G1 {n i : Nat} {o o' : AObj} {k v : AV} {os os' os2 : List AObj} (h : os[i]? = some o) (h2 : putO o k v = some o') (h3 : os.set i o' = os') : PUT (GW n) ⟨os, os2⟩ (.ref i) k v ⟨os', os2⟩ := .mk fun σ s => by
 refine ⟨_, ?_, by subst h3; exact s.set1 (List.getElem?_eq_some_iff.mp h).1 o'⟩
 show (putO (σ.ob i) k v).bind _ = _
 rw [s.at1 i _ h, h2]; rfl
theorem put_G2 {n i : Nat} {o o' : AObj} {k v : AV} {os os' os2 : List AObj} (h : os2[i]? = some o) (h2 : putO o k v = some o') (h3 : os2.set i o' = os') : PUT (GW n) ⟨os, os2⟩ (.ref (n + i)) k v ⟨os, os'⟩ := .mk fun σ s => by
 refine ⟨_, ?_, by subst h3; exact s.set2 o'⟩
 show (putO (σ.ob (n + i)) k v).bind _ = _
 rw [s.at2 i _ h, h2]; rfl
noncomputable def tdO : List (List Int × AV) → AObj
 | [] => .edict
 | l => .tdict l
noncomputable def idO : List (Int × AV) → AObj
 | [] => .edict
 | l => .idict l
theorem dputT_ne {k v l} : dputT k v l ≠ [] := by
 cases l with
 | nil => exact fun h => nomatch h
 | cons p r => unfold dputT; split <;> exact fun h => nomatch h
theorem dputI_ne {k v l} : dputI k v l ≠ [] := by
 cases l with
 | nil => exact fun h => nomatch h
 | cons p r => unfold dputI; split <;> exact fun h => nomatch h
theorem tdO_ne {l : List (List Int × AV)} (h : l ≠ []) : tdO l = .tdict l := by
 cases l with
 | nil => exact absurd rfl h
 | cons => rfl
theorem idO_ne {l : List (Int × AV)} (h : l ≠ []) : idO l = .idict l := by
 cases l with
 | nil => exact absurd rfl h
 | cons => rfl
theorem put_td {t f : Int} {v : AV} {l : List (List Int × AV)} (h : l.length < 900) : putO (tdO l) (c2 t f) v = some (tdO (dputT [t, f] v l)) := by
 rw [tdO_ne dputT_ne]
 cases l with
 | nil => rfl
 | cons p r => exact if_pos h
theorem put_id {k : Int} {v : AV} {l : List (Int × AV)} (h : l.length < 900) : putO (idO l) (.int k) v = some (idO (dputI k v l)) := by
 rw [idO_ne dputI_ne]
 cases l with
 | nil => rfl
 | cons p r => exact if_pos h
theorem get_td {t f : Int} {dv : AV} (l : List (List Int × AV)) : getO (tdO l) (c2 t f) dv = some ((dgetT [t, f] l).getD dv) := by
 cases l <;> rfl
theorem get_id {k : Int} {dv : AV} (l : List (Int × AV)) : getO (idO l) (.int k) dv = some ((dgetI k l).getD dv) := by
 cases l <;> rfl
theorem isD_td (l : List (List Int × AV)) : isDO (tdO l) = true := by cases l <;> rfl
theorem isD_id (l : List (Int × AV)) : isDO (idO l) = true := by cases l <;> rfl
noncomputable def dputG' {K : Type} [DecidableEq K] (k : K) (v : Int) : List (K × Int) → List (K × Int)
 | [] => [(k, v)]
 | (g, u) :: r => if g = k then (g, v) :: r else (g, u) :: dputG' k v r
noncomputable def dgetG' {K : Type} [DecidableEq K] (k : K) : List (K × Int) → Option Int
 | [] => none
 | (g, u) :: r => if g = k then some u else dgetG' k r
noncomputable abbrev mp {K : Type} (f : Int → AV) (l : List (K × Int)) : List (K × AV) := l.map fun p => (p.1, f p.2)
theorem dputT_mp (f : Int → AV) (k : List Int) (v : Int) : ∀ l, dputT k (f v) (mp f l) = mp f (dputG' k v l)
 | [] => rfl
 | (g, u) :: r => by
  by_cases h : g = k
  ·simp [dputT, dputG', mp, h]
  ·have := dputT_mp f k v r
   simp [dputT, dputG', mp, h] at this ⊢; exact this
theorem dputI_mp (f : Int → AV) (k : Int) (v : Int) : ∀ l, dputI k (f v) (mp f l) = mp f (dputG' k v l)
 | [] => rfl
 | (g, u) :: r => by
  by_cases h : g = k
  ·simp [dputI, dputG', mp, h]
  ·have := dputI_mp f k v r
   simp [dputI, dputG', mp, h] at this ⊢; exact this
theorem dgetT_mp (f : Int → AV) (k : List Int) : ∀ l, dgetT k (mp f l) = (dgetG' k l).map f
 | [] => rfl
 | (g, u) :: r => by
  by_cases h : g = k
  ·simp [dgetT, dgetG', mp, h]
  ·have := dgetT_mp f k r
   simp [dgetT, dgetG', mp, h] at this ⊢; exact this
theorem dgetI_mp (f : Int → AV) (k : Int) : ∀ l, dgetI k (mp f l) = (dgetG' k l).map f
 | [] => rfl
 | (g, u) :: r => by
  by_cases h : g = k
  ·simp [dgetI, dgetG', mp, h]
  ·have := dgetI_mp f k r
   simp [dgetI, dgetG', mp, h] at this ⊢; exact this
theorem dput_len {K : Type} [DecidableEq K] (k : K) (v : Int) : ∀ l : List (K × Int), (dputG' k v l).length ≤ l.length + 1
 | [] => Nat.le_refl _
 | (g, u) :: r => by
  have := dput_len k v r
  unfold dputG'
  split
  ·exact Nat.le_succ _
  ·exact Nat.succ_le_succ this
theorem dput_all {K : Type} [DecidableEq K] {P : Int → Prop} (k : K) {v : Int} (hv : P v) : ∀ {l : List (K × Int)}, (∀ p ∈ l, P p.2) → ∀ p ∈ dputG' k v l, P p.2
 | [], _, p, hp => by
  cases List.mem_singleton.mp hp; exact hv
 | (g, u) :: r, h, p, hp => by
  unfold dputG' at hp
  split at hp
  ·rcases List.mem_cons.mp hp with rfl | hp
   ·exact hv
   ·exact h p (List.mem_cons_of_mem _ hp)
  ·rcases List.mem_cons.mp hp with rfl | hp
   ·exact h _ List.mem_cons_self
   ·exact dput_all k hv (fun p hp => h p (List.mem_cons_of_mem _ hp)) p hp
theorem dget_all {K : Type} [DecidableEq K] {P : Int → Prop} (k : K) {v : Int} : ∀ {l : List (K × Int)}, (∀ p ∈ l, P p.2) → dgetG' k l = some v → P v
 | [], _, h => nomatch h
 | (g, u) :: r, h, e => by
  unfold dgetG' at e
  split at e
  ·cases e; exact h _ List.mem_cons_self
  ·exact dget_all k (fun p hp => h p (List.mem_cons_of_mem _ hp)) e
end
end Mine
end
section
namespace Mine
section
variable {d : Nat}
theorem ExR.seg {M : Type} {I : M → St → Prop} {ss : List Sx} {ρ ρ' : Lc} {m m' : M} {σ : St} (h : ExR I d ss ρ m .next ρ' m') (s : I m σ) (rest : List Sx) : ∃ σ', exs tab (cfN tab d) (ss ++ rest) ρ σ = exs tab (cfN tab d) rest ρ' σ' ∧ I m' σ' := by
 obtain ⟨σ', e, s'⟩ := h.run σ s
 exact ⟨σ', by rw [exs_app, e]; rfl, s'⟩
noncomputable abbrev aFail : AV := .tup [.str 162]
noncomputable abbrev aHalt : AV := .tup [.str 163]
theorem seg1 {L : Nat → Option (List AV)} {a : Nat} {xs : List AV} (hL : L a = some xs) :
  ExR (PX L) d (ir_law.body.take 8) (some (.k (.ref a)) :: List.replicate 18 none) [] .next
   [some (.k (.ref a)), some (.ref 1), some (.ref 2), some (.int 0), some (.int 2), some (.int 5), some (.ref 3), some (.ref 4), none, none, none, none, none, none, none, none, none, none, none]
   [.list (xs.take 40), stO 0, .list [aFail, aHalt], .edict, .edict] := by
 repeat' (first | trivial | exact ls_P rfl | exact ul_P rfl | exact ev_slcP rfl hL (by decide) | apply ev_lstP | exact ev_edictP | apply ex_forR | apply for_go (by decide) | apply for_end (by decide))
theorem ev_pickI {n i : Nat} {xs : List Int} {a : Int} {r os2 : List AObj} {ρ} {u v : Int} (hl : ρ[i]? = some (some (.ref 1))) (ha : 0 ≤ a) (hb : a < 64) :
  EvR (GW n) (d + 1) (.sub (.lst [.lit (.int u), .lit (.int v)]) (.call (.lit (.k (.ref 956))) [.loc i, .lit (.int 2)])) ρ ⟨row xs :: stO a :: r, os2⟩ (.int (if take xs a 2 = 0 then u else v)) ⟨row xs :: stO (a + 1) :: r, os2⟩ := by
 rw [show AV.int (if take xs a 2 = 0 then u else v) = if take xs a 2 = 0 then AV.int u else .int v from by split <;> rfl]
 exact ev_pick hl ha hb
noncomputable abbrev vb (v : Int) : AV := .int (5 + 2 * v)
noncomputable abbrev vt (v : Int) : AV := .int v
noncomputable abbrev rho1 (K : AV) (o3 o11 : Option AV) : Lc := [some K, some (.ref 1), some (.ref 2), o3, some (.int 2), some (.int 5), some (.ref 3), some (.ref 4), none, none, none, o11, none, none, none, none, none, none, none]
noncomputable abbrev g1 (xs : List Int) (a : Int) (code : AObj) (kv : List (List Int × Int)) : Gw := ⟨[row xs, stO a, code, tdO (mp vb kv), tdO (mp vt kv)], []⟩
noncomputable abbrev body1 : List Sx := [.asg 11 (.tup [(.sub (.lst [(.lit (.int (5))), (.lit (.int (4)))]) (.call (.lit (.k (.ref 956))) [(.loc 1), (.lit (.int 2))])), (.call (.lit (.k (.ref 956))) [(.loc 1), (.lit (.int 4))])]), .setS (.loc 6) (.loc 11) (.bin .add (.loc 5) (.bin .mul (.lit (.int 2)) (.bin .add (.lit (.int 10)) (.loc 3)))), .setS (.loc 7) (.loc 11) (.bin .add (.lit (.int 10)) (.loc 3))]
theorem turn1 {n : Nat} {xs : List Int} {a t : Int} {K : AV} {code : AObj} {kv : List (List Int × Int)} {o11 : Option AV} (ha : 0 ≤ a) (hb : a < 62) (hl : kv.length < 900) :
  ExR (GW n) (d + 1) body1 (rho1 K (some (.int t)) o11) (g1 xs a code kv) .next (rho1 K (some (.int t)) (some (c2 (if take xs a 2 = 0 then 5 else 4) (take xs (a + 1) 4)))) (g1 xs (a + 1 + 1) code (dputG' [if take xs a 2 = 0 then 5 else 4, take xs (a + 1) 4] (10 + t) kv)) := by
 have h1 : 0 ≤ a + 1 := by omega
 have h2 : a + 1 < 64 := by omega
 have h3 : a < 64 := by omega
 have p1 : putO (tdO (mp vb kv)) (c2 (if take xs a 2 = 0 then 5 else 4) (take xs (a + 1) 4)) (.int (5 + 2 * (10 + t))) = some (tdO (mp vb (dputG' [if take xs a 2 = 0 then 5 else 4, take xs (a + 1) 4] (10 + t) kv))) := by
  rw [← dputT_mp]; exact put_td (by rw [List.length_map]; exact hl)
 have p2 : putO (tdO (mp vt kv)) (c2 (if take xs a 2 = 0 then 5 else 4) (take xs (a + 1) 4)) (.int (10 + t)) = some (tdO (mp vt (dputG' [if take xs a 2 = 0 then 5 else 4, take xs (a + 1) 4] (10 + t) kv))) := by
  rw [← dputT_mp]; exact put_td (by rw [List.length_map]; exact hl)
 apply ex_asg
 ·apply ev_tup
  apply evs_cons
  ·exact ev_pickI rfl ha h3
  ·apply evs_cons
   ·apply ev_call
    ·trivial
    ·repeat' trivial
    ·exact c_takeG h1 h2 (by decide)
   ·exact evs_nil
 apply ex_setSP
 ·repeat' trivial
 ·repeat' trivial
 ·repeat' trivial
 ·exact put_G1 rfl p1 rfl
 apply ex_setSP
 ·repeat' trivial
 ·repeat' trivial
 ·repeat' trivial
 ·exact put_G1 rfl p2 rfl
 exact ex_nil
theorem loop1 {n : Nat} {xs : List Int} {K : AV} {code : AObj} {h : Int} (hh : h ≤ 4) : ∀ (k : Nat) (t a : Int) (kv : List (List Int × Int)) (o3 o11 : Option AV), (h - t).toNat = k → 0 ≤ t → 0 ≤ a → a ≤ 1 + 2 * t → (t ≤ 4) → kv.length ≤ 10 + t → (∀ p ∈ kv, 10 ≤ p.2 ∧ p.2 < 14) →
  ∃ a' kv' o3' o11', ForR (GW n) (d + 1) 3 body1 t h (rho1 K o3 o11) (g1 xs a code kv) .next (rho1 K o3' o11') (g1 xs a' code kv') ∧ 0 ≤ a' ∧ a' ≤ 9 ∧ (∀ p ∈ kv', 10 ≤ p.2 ∧ p.2 < 14)
 | 0, t, a, kv, o3, o11, hk, ht, ha, hb, h4, hl, hp => ⟨a, kv, o3, o11, for_end (by omega), ha, by omega, hp⟩
 | k + 1, t, a, kv, o3, o11, hk, ht, ha, hb, h4, hl, hp => by
  have hlen := dput_len [if take xs a 2 = 0 then 5 else 4, take xs (a + 1) 4] (10 + t) kv
  obtain ⟨a', kv', o3', o11', q, r1, r2, r3⟩ := loop1 hh k (t + 1) (a + 1 + 1) (dputG' [if take xs a 2 = 0 then 5 else 4, take xs (a + 1) 4] (10 + t) kv) (some (.int t)) (some (c2 (if take xs a 2 = 0 then 5 else 4) (take xs (a + 1) 4))) (by omega) (by omega) (by omega) (by omega) (by omega) (by omega) (dput_all (P := fun v => 10 ≤ v ∧ v < 14) _ ⟨by omega, by omega⟩ hp)
  exact ⟨a', kv', o3', o11', for_go (by omega) (turn1 ha (by omega) (by omega)) q, r1, r2, r3⟩
noncomputable abbrev rho2 (K : AV) (n : Nat) (o3 o11 o12 : Option AV) : Lc := [some K, some (.ref 1), some (.ref 2), o3, some (.int 2), some (.int 5), some (.ref 3), some (.ref 4), some (.ref (n + 0)), some (.ref (n + 1)), none, o11, o12, none, none, none, none, none, none]
noncomputable abbrev g2 (xs : List Int) (a : Int) (code : AObj) (kv : List (List Int × Int)) (kf : List (Int × Int)) : Gw := ⟨[row xs, stO a, code, tdO (mp vb kv), tdO (mp vt kv)], [idO (mp vb kf), idO (mp vt kf)]⟩
noncomputable abbrev body2 : List Sx := [.asg 12 (.bin .add (.lit (.int 20)) (.call (.lit (.k (.ref 956))) [(.loc 1), (.lit (.int 4))])), .setS (.loc 8) (.loc 12) (.bin .add (.loc 5) (.bin .mul (.lit (.int 2)) (.bin .add (.lit (.int 5)) (.loc 3)))), .setS (.loc 9) (.loc 12) (.bin .add (.lit (.int 5)) (.loc 3))]
theorem turn2 {n : Nat} {xs : List Int} {a t : Int} {K : AV} {code : AObj} {kv : List (List Int × Int)} {kf : List (Int × Int)} {o11 o12 : Option AV} (ha : 0 ≤ a) (hb : a < 62) (hl : kf.length < 900) :
  ExR (GW n) (d + 1) body2 (rho2 K n (some (.int t)) o11 o12) (g2 xs a code kv kf) .next (rho2 K n (some (.int t)) o11 (some (.int (20 + take xs a 4)))) (g2 xs (a + 1) code kv (dputG' (20 + take xs a 4) (5 + t) kf)) := by
 have h3 : a < 64 := by omega
 have p1 : putO (idO (mp vb kf)) (.int (20 + take xs a 4)) (.int (5 + 2 * (5 + t))) = some (idO (mp vb (dputG' (20 + take xs a 4) (5 + t) kf))) := by
  rw [← dputI_mp]; exact put_id (by rw [List.length_map]; exact hl)
 have p2 : putO (idO (mp vt kf)) (.int (20 + take xs a 4)) (.int (5 + t)) = some (idO (mp vt (dputG' (20 + take xs a 4) (5 + t) kf))) := by
  rw [← dputI_mp]; exact put_id (by rw [List.length_map]; exact hl)
 apply ex_asg
 ·apply ev_bin
  ·trivial
  ·apply ev_call
   ·trivial
   ·repeat' trivial
   ·exact c_takeG ha h3 (by decide)
  ·rfl
 apply ex_setSP
 ·repeat' trivial
 ·repeat' trivial
 ·repeat' trivial
 ·exact put_G2 rfl p1 rfl
 apply ex_setSP
 ·repeat' trivial
 ·repeat' trivial
 ·repeat' trivial
 ·exact put_G2 rfl p2 rfl
 exact ex_nil
theorem loop2 {n : Nat} {xs : List Int} {K : AV} {code : AObj} {kv : List (List Int × Int)} {o11 : Option AV} {h : Int} (hh : h ≤ 3) : ∀ (k : Nat) (t a : Int) (kf : List (Int × Int)) (o3 o12 : Option AV), (h - t).toNat = k → 0 ≤ t → 0 ≤ a → a ≤ 10 + t → (t ≤ 3) → kf.length ≤ 10 + t → (∀ p ∈ kf, 5 ≤ p.2 ∧ p.2 < 8) →
  ∃ a' kf' o3' o12', ForR (GW n) (d + 1) 3 body2 t h (rho2 K n o3 o11 o12) (g2 xs a code kv kf) .next (rho2 K n o3' o11 o12') (g2 xs a' code kv kf') ∧ 0 ≤ a' ∧ a' ≤ 13 ∧ (∀ p ∈ kf', 5 ≤ p.2 ∧ p.2 < 8)
 | 0, t, a, kf, o3, o12, hk, ht, ha, hb, h4, hl, hp => ⟨a, kf, o3, o12, for_end (by omega), ha, by omega, hp⟩
 | k + 1, t, a, kf, o3, o12, hk, ht, ha, hb, h4, hl, hp => by
  have hlen := dput_len (20 + take xs a 4) (5 + t) kf
  obtain ⟨a', kf', o3', o12', q, r1, r2, r3⟩ := loop2 hh k (t + 1) (a + 1) (dputG' (20 + take xs a 4) (5 + t) kf) (some (.int t)) (some (.int (20 + take xs a 4))) (by omega) (by omega) (by omega) (by omega) (by omega) (by omega) (dput_all (P := fun v => 5 ≤ v ∧ v < 8) _ ⟨by omega, by omega⟩ hp)
  exact ⟨a', kf', o3', o12', for_go (by omega) (turn2 ha (by omega) (by omega)) q, r1, r2, r3⟩
noncomputable abbrev gc (v : Int) : AV := .tup [.str 21, c2 5 v, opX 2]
noncomputable abbrev pr : AV := .tup [.str 156]
noncomputable def rowsF (k : Int) : Nat → List AV
 | 0 => []
 | j + 1 => gc k :: pr :: rowsF (k + 1) j
noncomputable abbrev swT : AV := .tup [.str 167, .int 5, .int 3, .int 7, .int 4]
noncomputable abbrev swC : AV := .tup [.str 168, .ref 3, .int 9]
noncomputable abbrev swS (n : Nat) : AV := .tup [.str 169, .ref (n + 0), .int 11]
noncomputable def code5 (n : Nat) : List AV := [aFail, aHalt, swT, swC, swS n]
noncomputable def code2 (n : Nat) : List AV := code5 n ++ rowsF 0 15
noncomputable abbrev rho3 (K : AV) (n : Nat) (o3 o10 o11 o12 : Option AV) : Lc := [some K, some (.ref 1), some (.ref 2), o3, some (.int 2), some (.int 5), some (.ref 3), some (.ref 4), some (.ref (n + 0)), some (.ref (n + 1)), o10, o11, o12, none, none, none, none, none, none]
noncomputable abbrev body3 : List Sx := [.expr (.app (.loc 2) (.tup [(.lit (.str 21)), (.tup [(.lit (.int (5))), (.loc 10)]), (.tup [(.lit (.str 144)), (.lit (.int 2))])])), .expr (.app (.loc 2) (.tup [(.lit (.str 156))]))]
theorem loop3 {n : Nat} {xs : List Int} {a : Int} {K : AV} {kv : List (List Int × Int)} {kf : List (Int × Int)} {o3 o11 o12 : Option AV} : ∀ (j : Nat) (t : Int) (c : List AV) (o10 : Option AV), t + j = 15 → c.length ≤ 100 - 2 * j → j ≤ 20 →
  ∃ o10', ForR (GW n) d 10 body3 t 15 (rho3 K n o3 o10 o11 o12) (g2 xs a (.list c) kv kf) .next (rho3 K n o3 o10' o11 o12) (g2 xs a (.list (c ++ rowsF t j)) kv kf)
 | 0, t, c, o10, ht, hl, hj => ⟨o10, by rw [show c ++ rowsF t 0 = c from List.append_nil c]; exact for_end (by omega)⟩
 | j + 1, t, c, o10, ht, hl, hj => by
  obtain ⟨o, q⟩ := loop3 (n := n) (xs := xs) (a := a) (K := K) (kv := kv) (kf := kf) (o3 := o3) (o11 := o11) (o12 := o12) j (t + 1) (c ++ [gc t] ++ [pr]) (some (.int t)) (by omega) (by rw [List.length_append, List.length_append]; simp only [List.length_singleton]; omega) (by omega)
  rw [show c ++ [gc t] ++ [pr] ++ rowsF (t + 1) j = c ++ rowsF t (j + 1) from by simp [rowsF]] at q
  refine ⟨o, for_go (by omega) ?_ q⟩
  have l1 : c.length < LIM := by show _ < 1000000; omega
  have l2 : (c ++ [gc t]).length < LIM := by rw [List.length_append]; show _ + 1 < 1000000; omega
  repeat' (first | trivial | exact ls_G1 rfl | exact ul_G1 rfl rfl)
end
end Mine
end
section
namespace Mine
section
variable {E : En} {m : Mc} {d : Nat}
theorem c_functor {k f : Int} (h : itm m.heap k = some (c2 6 f)) : CR (W E) (d + 1) 208 [E.store, c2 2 k] m (.int f) m := by
 apply c_ret [some E.store, some (c2 2 k), none] (F := ir_Cells_functor_of) rfl rfl
 repeat' trivial
theorem sw_T {c : AV} {t j : Int} {p1 p2 p3 p4 p : Int} (hx : itm m.x 1 = some c) (h : Drf m.heap m.stack c (c2 t j)) (hp : (t = 0 ∧ p = p1) ∨ (t = 4 ∧ p = p2) ∨ (t = 5 ∧ p = p2) ∨ (t = 3 ∧ p = p3) ∨ (t = 2 ∧ p = p4)) :
  CR (W E) (d + 2) 859 [E.me, .tup [.str 167, .int p1, .int p2, .int p3, .int p4]] m (.bool true) { m with p := p } := by
 have q1 := @c_deref E m d c _ h
 rcases hp with ⟨rfl, hp⟩ | ⟨rfl, hp⟩ | ⟨rfl, hp⟩ | ⟨rfl, hp⟩ | ⟨rfl, hp⟩
 all_goals
  rw [hp]
  apply c_ret [some E.me, some (.tup [.str 167, .int p1, .int p2, .int p3, .int p4]), none] (F := ir_do_switch_on_term) rfl rfl
  repeat' trivial
theorem sw_C (K : E.Ok) {c r : AV} {a : Nat} {dv p : Int} (hx : itm m.x 1 = some c) (h : Drf m.heap m.stack c r) (ha : a < E.em) (h2 : isDO (E.s0.ob a) = true) (h3 : getO (E.s0.ob a) r (.int dv) = some (.int p)) :
  CR (W E) (d + 2) 866 [E.me, .tup [.str 168, .ref a, .int dv]] m (.bool true) { m with p := p } := by
 have q1 := @c_deref E m d c _ h
 apply c_ret [some E.me, some (.tup [.str 168, .ref a, .int dv])] (F := ir_do_switch_on_constant) rfl rfl
 repeat' trivial
theorem sw_S (K : E.Ok) {c : AV} {k f : Int} {a : Nat} {dv p : Int} (hx : itm m.x 1 = some c) (h : Drf m.heap m.stack c (c2 2 k)) (hf : itm m.heap k = some (c2 6 f)) (ha : a < E.em) (h2 : isDO (E.s0.ob a) = true) (h3 : getO (E.s0.ob a) (.int f) (.int dv) = some (.int p)) :
  CR (W E) (d + 2) 873 [E.me, .tup [.str 169, .ref a, .int dv]] m (.bool true) { m with p := p } := by
 have q1 := @c_deref E m d c _ h
 have q2 := @c_functor E m d k f hf
 apply c_ret [some E.me, some (.tup [.str 169, .ref a, .int dv]), none] (F := ir_do_switch_on_structure) rfl rfl
 repeat' trivial
theorem rowsF_get : ∀ (j : Nat) (k : Int) (i : Nat), i < j → (rowsF k j)[2 * i]? = some (gc (k + i)) ∧ (rowsF k j)[2 * i + 1]? = some pr
 | 0, _, _, h => absurd h (Nat.not_lt_zero _)
 | j + 1, k, 0, _ => ⟨by simp [rowsF], rfl⟩
 | j + 1, k, i + 1, h => by
  obtain ⟨h1, h2⟩ := rowsF_get j (k + 1) i (by omega)
  have e : (k + 1 + (i : Int)) = k + ((i + 1 : Nat) : Int) := by omega
  rw [e] at h1
  exact ⟨h1, h2⟩
theorem code_row {n : Nat} {D : Int} (h0 : 0 ≤ D) (h1 : D < 15) : itm (code2 n) (5 + 2 * D) = some (gc D) ∧ itm (code2 n) (5 + 2 * D + 1) = some pr := by
 obtain ⟨i, rfl⟩ := Int.eq_ofNat_of_zero_le h0
 have hi : i < 15 := by omega
 obtain ⟨q1, q2⟩ := rowsF_get 15 0 i hi
 rw [Int.zero_add] at q1
 constructor
 ·refine itm_get (by omega) ?_
  rw [show (5 + 2 * (i : Int)).toNat = 5 + 2 * i from by omega]
  unfold code2
  rw [List.getElem?_append_right (by show 5 ≤ _; omega), show 5 + 2 * i - (code5 n).length = 2 * i from by show 5 + 2 * i - 5 = _; omega]
  exact q1
 ·refine itm_get (by omega) ?_
  rw [show (5 + 2 * (i : Int) + 1).toNat = 5 + (2 * i + 1) from by omega]
  unfold code2
  rw [List.getElem?_append_right (by show 5 ≤ _; omega), show 5 + (2 * i + 1) - (code5 n).length = 2 * i + 1 from by show 5 + (2 * i + 1) - 5 = _; omega]
  exact q2
theorem run_tail (K : E.Ok) {n : Nat} (hc : E.code = code2 n) {D : Int} (h0 : 0 ≤ D) (h1 : D < 15) {H : List AV} {x : List AV} {k : Nat} {hb bb e b b0 st : Int} {fa : Bool} (hx : itm x 2 = some (c2 0 k)) (hk : H[k]? = some (c2 0 k)) (hbb : hb ≤ 0) (hst : st + 3 ≤ E.max) :
  RunR E (d + 4) ⟨H, [], [], x, hb, bb, 5 + 2 * D, 1, e, b, b0, st, false, fa⟩ ⟨H.set k (c2 5 D), [], [], x, hb, bb, 2, 1, e, b, b0, st + 1 + 1 + 1, true, fa⟩ := by
 have hlt := (List.getElem?_eq_some_iff.mp hk).1
 obtain ⟨r1, r2⟩ := code_row (n := n) h0 h1
 rw [← hc] at r1 r2
 have r3 : itm E.code 1 = some aHalt := by rw [hc]; rfl
 have dr : Drf H [] (c2 0 k) (c2 0 k) := .selfH (itm_get (by omega) (by rw [Int.toNat_natCast]; exact hk))
 refine run_step rfl (c_stepT K (by show ¬ E.max ≤ st; omega) r1 rfl (c_getC (m := ⟨H, [], [], x, hb, bb, 5 + 2 * D + 1, 1, e, b, b0, st + 1, false, fa⟩) hx (c_matchV dr hlt (by show ¬ (k : Int) < hb; omega)))) ?_
 refine run_step rfl (c_stepT K (by show ¬ E.max ≤ st + 1; omega) r2 rfl c_proceed) ?_
 refine run_step rfl (c_stepT K (by show ¬ E.max ≤ st + 1 + 1; omega) r3 rfl c_halt) ?_
 exact run_done rfl
end
end Mine
end
section
namespace Mine
inductive QK (kv : List (List Int × Int)) (kf : List (Int × Int)) (H : List AV) : AV → Int → Prop where
 | var (j : Int) : QK kv kf H (c2 0 j) 0
 | con (t f : Int) : t = 4 ∨ t = 5 → QK kv kf H (c2 t f) ((dgetG' [t, f] kv).getD 2)
 | lis (j : Int) : QK kv kf H (c2 3 j) 1
 | str (k f : Int) : itm H k = some (c2 6 f) → QK kv kf H (c2 2 k) ((dgetG' f kf).getD 3)
section
variable {E : En} {d n : Nat} {kv : List (List Int × Int)} {kf : List (Int × Int)}
theorem getD_vb (o : Option Int) (k : Int) : (o.map vb).getD (.int (5 + 2 * k)) = .int (5 + 2 * o.getD k) := by cases o <;> rfl
theorem QK.range {H r D} (q : QK kv kf H r D) (h1 : ∀ p ∈ kv, 10 ≤ p.2 ∧ p.2 < 14) (h2 : ∀ p ∈ kf, 5 ≤ p.2 ∧ p.2 < 8) : 0 ≤ D ∧ D < 15 := by
 cases q with
 | var => exact ⟨by decide, by decide⟩
 | lis => exact ⟨by decide, by decide⟩
 | con t f _ =>
  cases e : dgetG' [t, f] kv with
  | none => exact ⟨by decide, by decide⟩
  | some v => have := dget_all (P := fun v => 10 ≤ v ∧ v < 14) _ h1 e; exact ⟨by show 0 ≤ v; omega, by show v < 15; omega⟩
 | str k f _ =>
  cases e : dgetG' f kf with
  | none => exact ⟨by decide, by decide⟩
  | some v => have := dget_all (P := fun v => 5 ≤ v ∧ v < 8) _ h2 e; exact ⟨by show 0 ≤ v; omega, by show v < 15; omega⟩
theorem run_go (K : E.Ok) (hc : E.code = code2 n) (hm : E.max = 100) {H : List AV} {cell : AV} {k : Nat} {t j p : Int} {m' : Mc} (hp : (t = 0 ∧ p = 5) ∨ (t = 4 ∧ p = 3) ∨ (t = 5 ∧ p = 3) ∨ (t = 3 ∧ p = 7) ∨ (t = 2 ∧ p = 4)) (hd : Drf H [] cell (c2 t j))
  (g : RunR E (d + 4) ⟨H, [], [], [void, cell, c2 0 k], 0, 0, p, 1, -1, -1, -1, 0 + 1, false, false⟩ m') : RunR E (d + 4) ⟨H, [], [], [void, cell, c2 0 k], 0, 0, 2, 1, -1, -1, -1, 0, false, false⟩ m' :=
 run_step rfl (c_stepT2 K (by rw [hm]; decide) (show itm E.code 2 = some swT by rw [hc]; rfl) rfl (sw_T (m := ⟨H, [], [], [void, cell, c2 0 k], 0, 0, 2 + 1, 1, -1, -1, -1, 0 + 1, false, false⟩) rfl hd hp)) g
theorem run_q (h1 : ∀ p ∈ kv, 10 ≤ p.2 ∧ p.2 < 14) (h2 : ∀ p ∈ kf, 5 ≤ p.2 ∧ p.2 < 8) {H : List AV} {cell r : AV} {D : Int} {k : Nat} (hd : Drf H [] cell r) (q : QK kv kf H r D) (hk : H[k]? = some (c2 0 k)) :
  ∃ st, ∀ (E : En), E.Ok → E.code = code2 n → E.max = 100 → 3 < E.em → n + 0 < E.em → E.s0.ob 3 = tdO (mp vb kv) → E.s0.ob (n + 0) = idO (mp vb kf) →
   RunR E (d + 4) ⟨H, [], [], [void, cell, c2 0 k], 0, 0, 2, 1, -1, -1, -1, 0, false, false⟩ ⟨H.set k (c2 5 D), [], [], [void, cell, c2 0 k], 0, 0, 2, 1, -1, -1, -1, st, true, false⟩ := by
 obtain ⟨d0, d1⟩ := q.range h1 h2
 cases q with
 | var j => exact ⟨_, fun E K hc hm b3 bn o3 on => run_go K hc hm (.inl ⟨rfl, rfl⟩) hd (run_tail K hc d0 d1 rfl hk (by decide) (by rw [hm]; decide))⟩
 | lis j => exact ⟨_, fun E K hc hm b3 bn o3 on => run_go K hc hm (.inr (.inr (.inr (.inl ⟨rfl, rfl⟩)))) hd (run_tail K hc d0 d1 rfl hk (by decide) (by rw [hm]; decide))⟩
 | con t f ht =>
  refine ⟨0 + 1 + 1 + 1 + 1 + 1, fun E K hc hm b3 bn o3 on => ?_⟩
  have e : getO (E.s0.ob 3) (c2 t f) (.int 9) = some (.int (5 + 2 * (dgetG' [t, f] kv).getD 2)) := by
   rw [o3, get_td, dgetT_mp]
   exact congrArg some (getD_vb _ 2)
  have s1 : CR (W E) (d + 4) f_Emulator_step [E.me] ⟨H, [], [], [void, cell, c2 0 k], 0, 0, 3, 1, -1, -1, -1, 0 + 1, false, false⟩ .none ⟨H, [], [], [void, cell, c2 0 k], 0, 0, 5 + 2 * (dgetG' [t, f] kv).getD 2, 1, -1, -1, -1, 0 + 1 + 1, false, false⟩ :=
   c_stepT2 K (by rw [hm]; decide) (show itm E.code 3 = some swC by rw [hc]; rfl) rfl (sw_C (m := ⟨H, [], [], [void, cell, c2 0 k], 0, 0, 3 + 1, 1, -1, -1, -1, 0 + 1 + 1, false, false⟩) K rfl hd b3 (by rw [o3]; exact isD_td _) e)
  exact run_go K hc hm (by rcases ht with rfl | rfl; exact .inr (.inl ⟨rfl, rfl⟩); exact .inr (.inr (.inl ⟨rfl, rfl⟩))) hd (run_step rfl s1 (run_tail K hc d0 d1 rfl hk (by decide) (by rw [hm]; decide)))
 | str j f hj =>
  refine ⟨0 + 1 + 1 + 1 + 1 + 1, fun E K hc hm b3 bn o3 on => ?_⟩
  have e : getO (E.s0.ob (n + 0)) (.int f) (.int 11) = some (.int (5 + 2 * (dgetG' f kf).getD 3)) := by
   rw [on, get_id, dgetI_mp]
   exact congrArg some (getD_vb _ 3)
  have s1 : CR (W E) (d + 4) f_Emulator_step [E.me] ⟨H, [], [], [void, cell, c2 0 k], 0, 0, 4, 1, -1, -1, -1, 0 + 1, false, false⟩ .none ⟨H, [], [], [void, cell, c2 0 k], 0, 0, 5 + 2 * (dgetG' f kf).getD 3, 1, -1, -1, -1, 0 + 1 + 1, false, false⟩ :=
   c_stepT2 K (by rw [hm]; decide) (show itm E.code 4 = some (swS n) by rw [hc]; rfl) rfl (sw_S (m := ⟨H, [], [], [void, cell, c2 0 k], 0, 0, 4 + 1, 1, -1, -1, -1, 0 + 1 + 1, false, false⟩) K rfl hd hj bn (by rw [on]; exact isD_id _) e)
  exact run_go K hc hm (.inr (.inr (.inr (.inr ⟨rfl, rfl⟩)))) hd (run_step rfl s1 (run_tail K hc d0 d1 rfl hk (by decide) (by rw [hm]; decide)))
end
structure Qm where
 m : Mc
 a : Int
structure QW (E : En) (n : Nat) (xs : List Int) (kv : List (List Int × Int)) (kf : List (Int × Int)) (q : Qm) (σ : St) : Prop where
 lay : Lay E q.m σ
 gw : GW n (g2 xs q.a (.list (code2 n)) kv kf) σ
 hi : E.em + 20 ≤ σ.nx
 door : σ.ob E.doorA = .idict [(7, .int 2)]
structure Shape (E : En) (n : Nat) : Prop where
 code : E.code = code2 n
 codeA : E.codeA = 2
 doors : E.doors = [(7, .int 2)]
 max : E.max = 100
 lo : n + 2 ≤ E.doorA
 dl : E.doorA < E.em
section
variable {E : En} {d n : Nat} {xs : List Int} {kv : List (List Int × Int)} {kf : List (Int × Int)} {q : Qm} {σ : St}
theorem QW.w (s : QW E n xs kv kf q σ) (S : Shape E n) : W (E.at σ) q.m σ ∧ (E.at σ).Ok := by
 have h1 := S.lo; have h2 := S.dl
 have h3 : 5 ≤ n := s.gw.le
 refine ⟨⟨⟨s.lay.a0, s.lay.a1, s.lay.a10, s.lay.a12, s.lay.a13, s.lay.a14, s.lay.a15, s.lay.a16, s.lay.a17⟩, Nat.le_refl _, fun _ _ _ => rfl⟩, ⟨?_, ?_, ?_, S.dl, s.hi⟩⟩
 ·show σ.ob E.codeA = .list E.code
  rw [S.codeA, S.code]; exact s.gw.at1 2 _ rfl
 ·show σ.ob E.doorA = .idict E.doors
  rw [S.doors]; exact s.door
 ·show E.codeA < E.em
  rw [S.codeA]; omega
theorem QW.of {σ' : St} {m' : Mc} (s : QW E n xs kv kf q σ) (S : Shape E n) (w : W (E.at σ) m' σ') : QW E n xs kv kf ⟨m', q.a⟩ σ' := by
 have h1 := S.lo; have h2 := S.dl
 have h3 : 5 ≤ n := s.gw.le
 have h4 := s.gw.le2; have h5 := s.hi
 have h6 : σ.nx ≤ σ'.nx := w.le
 have k : ∀ a, a < E.em → σ'.ob a = σ.ob a := fun a h => w.keep a (by show a < σ.nx; omega) (.inl h)
 refine ⟨⟨w.lay.a0, w.lay.a1, w.lay.a10, w.lay.a12, w.lay.a13, w.lay.a14, w.lay.a15, w.lay.a16, w.lay.a17⟩, ⟨h3, Nat.le_trans h4 h6, fun i o h => ?_, fun i o h => ?_⟩, Nat.le_trans h5 h6, (k _ h2).trans s.door⟩
 ·have : i < 5 := (List.getElem?_eq_some_iff.mp h).1
  exact (k i (by omega)).trans (s.gw.at1 i o h)
 ·have : i < 2 := (List.getElem?_eq_some_iff.mp h).1
  exact (k (n + i) (by omega)).trans (s.gw.at2 i o h)
theorem QW.new (s : QW E n xs kv kf q σ) (S : Shape E n) (o : AObj) : QW E n xs kv kf q (σ.new o) := by
 have h1 := S.lo; have h2 := S.dl; have h5 := s.hi
 have k : ∀ a', a' < σ.nx → (σ.new o).ob a' = σ.ob a' := fun a' y => new_ne (by omega)
 have kk : ∀ j, j < 20 → (σ.new o).ob (E.em + j) = σ.ob (E.em + j) := fun j hj => k _ (by omega)
 have l := s.lay
 exact ⟨⟨(kk 0 (by decide)).trans l.a0, (kk 1 (by decide)).trans l.a1, (kk 10 (by decide)).trans l.a10, (kk 12 (by decide)).trans l.a12, (kk 13 (by decide)).trans l.a13, (kk 14 (by decide)).trans l.a14, (kk 15 (by decide)).trans l.a15, (kk 16 (by decide)).trans l.a16, (kk 17 (by decide)).trans l.a17⟩,
  s.gw.new o, Nat.le_succ_of_le h5, (k _ (by omega)).trans s.door⟩
theorem liftQ {f : Nat} {vs : List AV} {m m' : Mc} {a : Int} {r : AV} (S : Shape E n) (h : ∀ s0, (E.at s0).Ok → CR (W (E.at s0)) d f vs m r m') : CR (QW E n xs kv kf) d f vs ⟨m, a⟩ r ⟨m', a⟩ := .mk fun σ s => by
 obtain ⟨w, K⟩ := s.w S
 obtain ⟨σ', e, w'⟩ := (h σ K).run σ w
 exact ⟨σ', e, s.of S w'⟩
theorem liftQ' {f : Nat} {vs : List AV} {m m' : Mc} {a : Int} {r : AV} (S : Shape E n) (h : ∀ s0, QW E n xs kv kf ⟨m, a⟩ s0 → (E.at s0).Ok → CR (W (E.at s0)) d f vs m r m') : CR (QW E n xs kv kf) d f vs ⟨m, a⟩ r ⟨m', a⟩ := .mk fun σ s => by
 obtain ⟨w, K⟩ := s.w S
 obtain ⟨σ', e, w'⟩ := (h σ s K).run σ w
 exact ⟨σ', e, s.of S w'⟩
theorem c_takeQ {m : Mc} {a k : Int} (S : Shape E n) (ha : 0 ≤ a) (hb : a < 64) (hk : k ≠ 0) : CR (QW E n xs kv kf) (d + 1) 956 [.ref 1, .int k] ⟨m, a⟩ (.int (take xs a k)) ⟨m, a + 1⟩ := .mk fun σ s => by
 have h1 := S.lo; have h2 := S.dl; have h5 := s.hi
 have h3 : 5 ≤ n := s.gw.le
 obtain ⟨e, g⟩ := s.gw.take (d := d) ha hb hk
 refine ⟨_, e, ?_⟩
 have k : ∀ a', a' ≠ 1 → a' < σ.nx → ((σ.set 1 (stO (a + 1))).new (.list [])).ob a' = σ.ob a' := fun a' x y => (new_ne (σ := σ.set _ _) (by show a' ≠ σ.nx; omega)).trans (set_ne x)
 have kk : ∀ j, j < 20 → ((σ.set 1 (stO (a + 1))).new (.list [])).ob (E.em + j) = σ.ob (E.em + j) := fun j hj => k _ (by omega) (by omega)
 have l := s.lay
 exact ⟨⟨(kk 0 (by decide)).trans l.a0, (kk 1 (by decide)).trans l.a1, (kk 10 (by decide)).trans l.a10, (kk 12 (by decide)).trans l.a12, (kk 13 (by decide)).trans l.a13, (kk 14 (by decide)).trans l.a14, (kk 15 (by decide)).trans l.a15, (kk 16 (by decide)).trans l.a16, (kk 17 (by decide)).trans l.a17⟩,
  g, Nat.le_succ_of_le h5, (k _ (by omega) (by omega)).trans s.door⟩
theorem gfQ {f : Nat} {v : AV} (h : fget f (emF E q.m) = some v) (k : tab.fld 947 f = true) : GF (QW E n xs kv kf) q (.ref E.em) f v := .mk fun σ s => getF_of s.lay.a0 s.lay.a1 k h
theorem mtQ {k f : Nat} (h1 : tab.meth 947 k = some f) (h2 : fget k (emF E q.m) = none) : MT (QW E n xs kv kf) q (.ref E.em) k f := .mk fun σ s => ⟨_, _, _, _, rfl, s.lay.a0, s.lay.a1, h1, h2⟩
theorem mtQs {k f : Nat} (h1 : tab.meth 289 k = some f) (h2 : fget k (stF E q.m) = none) : MT (QW E n xs kv kf) q (.ref (E.em + 12)) k f := .mk fun σ s => ⟨_, _, _, _, rfl, s.lay.a12, s.lay.a13, h1, h2⟩
theorem doQ1 {i : Nat} {o : AObj} (h : (g2 xs q.a (.list (code2 n)) kv kf).os[i]? = some o) (k : isDO o = true) : DO (QW E n xs kv kf) q (.ref i) := .mk fun σ s => ⟨i, rfl, by rw [s.gw.at1 i o h]; exact k⟩
theorem gdQ1 {i : Nat} {o : AObj} {k dv v : AV} (h : (g2 xs q.a (.list (code2 n)) kv kf).os[i]? = some o) (h1 : isDO o = true) (h2 : getO o k dv = some v) : GD (QW E n xs kv kf) q (.ref i) k dv v := .mk fun σ s => ⟨i, rfl, by rw [s.gw.at1 i o h]; exact h1, by rw [s.gw.at1 i o h]; exact h2⟩
theorem doQ2 {i : Nat} {o : AObj} (h : (g2 xs q.a (.list (code2 n)) kv kf).os2[i]? = some o) (k : isDO o = true) : DO (QW E n xs kv kf) q (.ref (n + i)) := .mk fun σ s => ⟨n + i, rfl, by rw [s.gw.at2 i o h]; exact k⟩
theorem gdQ2 {i : Nat} {o : AObj} {k dv v : AV} (h : (g2 xs q.a (.list (code2 n)) kv kf).os2[i]? = some o) (h1 : isDO o = true) (h2 : getO o k dv = some v) : GD (QW E n xs kv kf) q (.ref (n + i)) k dv v := .mk fun σ s => ⟨n + i, rfl, by rw [s.gw.at2 i o h]; exact h1, by rw [s.gw.at2 i o h]; exact h2⟩
end
end Mine
end
section
set_option hygiene false in
local macro_rules | `(tactic| trivial) => `(tactic| first
 | exact Mine.gfQ rfl rfl
 | exact Mine.mtQ rfl rfl
 | exact Mine.mtQs rfl rfl)
section
local macro_rules | `(tactic| trivial) => `(tactic| first
 | exact Mine.gfQ rfl rfl
 | exact Mine.mtQ rfl rfl
 | exact Mine.mtQs rfl rfl)
namespace Mine
section
variable {E : En} {d n : Nat} {xs : List Int} {kv : List (List Int × Int)} {kf : List (Int × Int)} {a : Int}
noncomputable abbrev mh (H : List AV) : Mc := ⟨H, [], [], [void], 0, 0, 1, 1, -1, -1, -1, 0, true, true⟩
theorem q_newvar (S : Shape E n) {H : List AV} (h : H.length < 100000) : CR (QW E n xs kv kf) (d + 2) 124 [.ref (E.em + 12)] ⟨mh H, a⟩ (c2 0 H.length) ⟨mh (H ++ [c2 0 H.length]), a⟩ := liftQ S fun s0 K => c_new_var (m := mh H) h
theorem q_push (S : Shape E n) {H : List AV} {v : AV} (h : H.length < 100000) : CR (QW E n xs kv kf) (d + 1) 117 [.ref (E.em + 12), v] ⟨mh H, a⟩ (.int H.length) ⟨mh (H ++ [v]), a⟩ := liftQ S fun s0 K => c_push (m := mh H) h
theorem q_bind (S : Shape E n) {H : List AV} {v : AV} {k : Nat} (h : k < H.length) : CR (QW E n xs kv kf) (d + 1) 159 [.ref (E.em + 12), c2 0 k, v] ⟨mh H, a⟩ .none ⟨mh (H.set k v), a⟩ := liftQ S fun s0 K => c_bindH (m := mh H) h (by show ¬ ((k : Int) < 0); omega)
theorem itm_app {H : List AV} {k : Int} {v x : AV} (h : itm H k = some v) : itm (H ++ [x]) k = some v := by
 obtain ⟨j, hj, hx⟩ := bind_inv h
 obtain ⟨rfl, hlt⟩ := at_spec hj
 refine itm_get (Int.natCast_nonneg j) ?_
 rw [Int.toNat_natCast, List.getElem?_append_left hlt]; exact hx
theorem Drf.app {H : List AV} {c r x : AV} (h : Drf H [] c r) : Drf (H ++ [x]) [] c r := by
 induction h with
 | done h0 h1 => exact .done h0 h1
 | selfH h => exact .selfH (itm_app h)
 | selfS h => exact .selfS h
 | goH h1 h2 _ ih => exact .goH (itm_app h1) h2 ih
 | goS h1 h2 _ ih => exact .goS h1 h2 ih
structure CellOk (H : List AV) (c r : AV) : Prop where
 d : Drf H [] c r
 s : ∃ t j : Int, c = c2 t j ∧ (t = 0 → j < H.length)
theorem CellOk.link {H : List AV} {c r : AV} (h : CellOk H c r) : CellOk (H ++ [c]) (c2 0 H.length) r := by
 obtain ⟨t, j, rfl, hj⟩ := h.s
 refine ⟨.goH (t := t) (j := j) (itm_get (Int.natCast_nonneg _) (by rw [Int.toNat_natCast, List.getElem?_concat_length])) (fun e => ?_) h.d.app, 0, _, rfl, fun _ => by rw [List.length_append]; show (H.length : Int) < (H.length + 1 : Nat); omega⟩
 cases e
 exact absurd (hj rfl) (Int.lt_irrefl _)
theorem CellOk.more {H : List AV} {c r x : AV} (h : CellOk H c r) : CellOk (H ++ [x]) c r := by
 obtain ⟨t, j, e, hj⟩ := h.s
 exact ⟨h.d.app, t, j, e, fun q => by have := hj q; rw [List.length_append]; show j < (H.length + 1 : Nat); omega⟩
theorem QK.more {H : List AV} {r x : AV} {D : Int} (h : QK kv kf H r D) : QK kv kf (H ++ [x]) r D := by
 cases h with
 | var j => exact .var j
 | con t f h => exact .con t f h
 | lis j => exact .lis j
 | str k f h => exact .str k f (itm_app h)
noncomputable abbrev rhoQ (K : AV) (n em : Nat) (o3 o10 o11 o12 o14 o15 o16 o17 o18 : Option AV) : Lc := [some K, some (.ref 1), some (.ref 2), o3, some (.int 2), some (.int 5), some (.ref 3), some (.ref 4), some (.ref (n + 0)), some (.ref (n + 1)), o10, o11, o12, some (.ref em), o14, o15, o16, o17, o18]
noncomputable abbrev chain : Sx := .ite (.cmp .eq (.loc 14) (.lit (.int 0))) [.asg 17 (.lit (.int 0)), .asg 11 (.meth (.attr (.loc 13) 126) 71 [])] [.ite (.cmp .eq (.loc 14) (.lit (.int 1))) [.asg 11 (.tup [(.lit (.int (5))), (.loc 10)]), .asg 17 (.dgetd (.loc 7) (.loc 11) (.lit (.int 2)))] [.ite (.cmp .eq (.loc 14) (.lit (.int 2))) [.asg 11 (.tup [(.lit (.int (4))), (.loc 10)]), .asg 17 (.dgetd (.loc 7) (.loc 11) (.lit (.int 2)))] [.ite (.cmp .eq (.loc 14) (.lit (.int 3))) [.asg 17 (.lit (.int 1)), .asg 11 (.tup [(.lit (.int (3))), (.meth (.attr (.loc 13) 126) 70 [(.tup [(.lit (.int (5))), (.lit (.int 8))])])]), .expr (.meth (.attr (.loc 13) 126) 70 [(.tup [(.lit (.int (5))), (.lit (.int 9))])])] [.asg 17 (.dgetd (.loc 9) (.bin .add (.lit (.int 20)) (.loc 10)) (.lit (.int 3))), .asg 11 (.tup [(.lit (.int (2))), (.meth (.attr (.loc 13) 126) 70 [(.tup [(.lit (.int (6))), (.bin .add (.lit (.int 20)) (.loc 10))])])]), .expr (.meth (.attr (.loc 13) 126) 70 [(.tup [(.lit (.int (5))), (.lit (.int 9))])])]]]]
theorem getD_vt (o : Option Int) (k : Int) : (o.map vt).getD (.int k) = .int (o.getD k) := by cases o <;> rfl
theorem chain_ok (S : Shape E n) {K : AV} {kind f : Int} {o3 o11 o12 o15 o16 o17 o18 : Option AV} (hk : 0 ≤ kind ∧ kind < 5) :
  ∃ H cell r D, ExR (QW E n xs kv kf) (d + 10) [chain] (rhoQ K n E.em o3 (some (.int f)) o11 o12 (some (.int kind)) o15 o16 o17 o18) ⟨mh [], a⟩ .next (rhoQ K n E.em o3 (some (.int f)) (some cell) o12 (some (.int kind)) o15 o16 (some (.int D)) o18) ⟨mh H, a⟩ ∧ QK kv kf H r D ∧ CellOk H cell r ∧ H.length ≤ 2 := by
 have g1 : ∀ t, GD (QW E n xs kv kf) ⟨mh [], a⟩ (.ref 4) (c2 t f) (.int 2) (.int ((dgetG' [t, f] kv).getD 2)) := fun t => gdQ1 (q := ⟨mh [], a⟩) (i := 4) rfl (isD_td _) (by rw [get_td, dgetT_mp]; exact congrArg some (getD_vt _ 2))
 have g2 : GD (QW E n xs kv kf) ⟨mh [], a⟩ (.ref (n + 1)) (.int (20 + f)) (.int 3) (.int ((dgetG' (20 + f) kf).getD 3)) := gdQ2 (q := ⟨mh [], a⟩) (i := 1) rfl (isD_id _) (by rw [get_id, dgetI_mp]; exact congrArg some (getD_vt _ 3))
 have d1 : DO (QW E n xs kv kf) ⟨mh [], a⟩ (.ref 4) := doQ1 (q := ⟨mh [], a⟩) (i := 4) rfl (isD_td _)
 have d2 : DO (QW E n xs kv kf) ⟨mh [], a⟩ (.ref (n + 1)) := doQ2 (q := ⟨mh [], a⟩) (i := 1) rfl (isD_id _)
 have cs : kind = 0 ∨ kind = 1 ∨ kind = 2 ∨ kind = 3 ∨ kind = 4 := by omega
 rcases cs with rfl | rfl | rfl | rfl | rfl
 ·refine ⟨[c2 0 0], c2 0 0, c2 0 0, 0, ?_, .var 0, ⟨.selfH rfl, 0, 0, rfl, fun _ => by decide⟩, by decide⟩
  repeat' (first | trivial | exact q_newvar (H := []) S (by decide))
 ·refine ⟨[], c2 5 f, c2 5 f, (dgetG' [5, f] kv).getD 2, ?_, .con 5 f (.inr rfl), ⟨.done (by decide) (by decide), 5, f, rfl, fun h => absurd h (by decide)⟩, by decide⟩
  repeat' (first | trivial | exact g1 5)
 ·refine ⟨[], c2 4 f, c2 4 f, (dgetG' [4, f] kv).getD 2, ?_, .con 4 f (.inl rfl), ⟨.done (by decide) (by decide), 4, f, rfl, fun h => absurd h (by decide)⟩, by decide⟩
  repeat' (first | trivial | exact g1 4)
 ·refine ⟨[c2 5 8, c2 5 9], c2 3 0, c2 3 0, 1, ?_, .lis 0, ⟨.done (by decide) (by decide), 3, 0, rfl, fun h => absurd h (by decide)⟩, by decide⟩
  repeat' (first | trivial | exact q_push (H := []) S (by decide) | exact q_push (H := [c2 5 8]) S (by decide))
 ·refine ⟨[c2 6 (20 + f), c2 5 9], c2 2 0, c2 2 0, (dgetG' (20 + f) kf).getD 3, ?_, .str 0 (20 + f) rfl, ⟨.done (by decide) (by decide), 2, 0, rfl, fun h => absurd h (by decide)⟩, by simp⟩
  repeat' (first | trivial | exact q_push (H := []) S (by decide) | exact q_push (H := [c2 6 (20 + f)]) S (by simp))
end
end Mine
end
section
local macro_rules | `(tactic| trivial) => `(tactic| first
 | exact Mine.gfQ rfl rfl
 | exact Mine.mtQ rfl rfl
 | exact Mine.mtQs rfl rfl)
namespace Mine
section
variable {E : En} {d n : Nat} {xs : List Int} {kv : List (List Int × Int)} {kf : List (Int × Int)} {a : Int}
noncomputable abbrev body4 : List Sx := [.asg 18 (.meth (.attr (.loc 13) 126) 71 []), .expr (.meth (.attr (.loc 13) 126) 76 [(.loc 18), (.loc 11)]), .asg 11 (.loc 18)]
theorem turn4 (S : Shape E n) {K : AV} {H : List AV} {cell : AV} {o3 o10 o12 o14 o15 o16 o17 o18 : Option AV} (hl : H.length < 1000) :
  ExR (QW E n xs kv kf) (d + 10) body4 (rhoQ K n E.em o3 o10 (some cell) o12 o14 o15 o16 o17 o18) ⟨mh H, a⟩ .next (rhoQ K n E.em o3 o10 (some (c2 0 H.length)) o12 o14 o15 o16 o17 (some (c2 0 H.length))) ⟨mh (H ++ [cell]), a⟩ := by
 have e : (H ++ [c2 0 (H.length : Int)]).set H.length cell = H ++ [cell] := by
  rw [List.set_append_right _ _ (Nat.le_refl _), Nat.sub_self]; rfl
 rw [← e]
 have h1 : H.length < 100000 := by omega
 have h2 : H.length < (H ++ [c2 0 (H.length : Int)]).length := by rw [List.length_append]; exact Nat.lt_succ_self _
 apply ex_asg
 ·repeat' (first | trivial | exact q_newvar S h1)
 apply ex_expr
 ·repeat' (first | trivial | exact q_bind S h2)
 ·rfl
 repeat' trivial
theorem loop4 (S : Shape E n) {K r : AV} {D : Int} {o3 o10 o12 o14 o16 o17 : Option AV} {h : Int} (hh : h ≤ 3) : ∀ (k : Nat) (t : Int) (H : List AV) (cell : AV) (o15 o18 : Option AV), (h - t).toNat = k → 0 ≤ t → CellOk H cell r → QK kv kf H r D → H.length ≤ 10 + t → t ≤ 3 →
  ∃ H' cell' o15' o18', ForR (QW E n xs kv kf) (d + 10) 15 body4 t h (rhoQ K n E.em o3 o10 (some cell) o12 o14 o15 o16 o17 o18) ⟨mh H, a⟩ .next (rhoQ K n E.em o3 o10 (some cell') o12 o14 o15' o16 o17 o18') ⟨mh H', a⟩ ∧ CellOk H' cell' r ∧ QK kv kf H' r D ∧ H'.length ≤ 20
 | 0, t, H, cell, o15, o18, hk, ht, hc, hq, hl, h3 => ⟨H, cell, o15, o18, for_end (by omega), hc, hq, by omega⟩
 | k + 1, t, H, cell, o15, o18, hk, ht, hc, hq, hl, h3 => by
  obtain ⟨H', cell', o15', o18', q, r1, r2, r3⟩ := loop4 S hh k (t + 1) (H ++ [cell]) (c2 0 H.length) (some (.int t)) (some (c2 0 H.length)) (by omega) (by omega) hc.link hq.more (by rw [List.length_append]; simp only [List.length_singleton]; omega) (by omega)
  exact ⟨H', cell', o15', o18', for_go (by omega) (turn4 S (by omega)) q, r1, r2, r3⟩
theorem ev_start (S : Shape E n) {H : List AV} {c1 c2' : AV} {r : Lc} {i j k : Nat} (h13 : r[i]? = some (some (.ref E.em))) (h11 : r[j]? = some (some c1)) (h16 : r[k]? = some (some c2')) :
  EvR (QW E n xs kv kf) (d + 3) (.meth (.loc i) 120 [.lit (.int 7), .lst [.loc j, .loc k]]) r ⟨mh H, a⟩ .none ⟨⟨H, [], [], [void, c1, c2'], 0, 0, 2, 1, -1, -1, -1, 0, false, false⟩, a⟩ := .mk fun σ s => by
 have s1 := s.new S (.list [c1, c2'])
 obtain ⟨w, K⟩ := s1.w S
 have hd : dgetI 7 (E.at (σ.new (.list [c1, c2']))).doors = some (.int 2) := by
  show dgetI 7 E.doors = _
  rw [S.doors]; rfl
 obtain ⟨σ', e, w'⟩ := (c_start (d := d) K (a := σ.nx) (cs := [c1, c2']) (f := 7) new_self (Nat.lt_succ_self _) (.inr s.hi) (show 2 < 900 by decide) hd).run _ w
 refine ⟨σ', ?_, s1.of S w'⟩
 show ((r[i]?).bind _).bind _ = _
 rw [h13]
 show (asInst (σ.ob E.em)).bind _ = _
 rw [s.lay.a0]
 show (asNs (σ.ob (E.em + 1))).bind _ = _
 rw [s.lay.a1]
 show (evs tab (cfN tab (d + 3)) [.lit (.int 7), .lst [.loc j, .loc k]] r σ).bind _ = _
 have ee : evs tab (cfN tab (d + 3)) [.lit (.int 7), .lst [.loc j, .loc k]] r σ = some ([.int 7, .ref σ.nx], σ.new (.list [c1, c2'])) := by
  have ej : ev tab (cfN tab (d + 3)) (.loc j) r σ = some (c1, σ) := by
   show ((r[j]?).bind _) = _
   rw [h11]; rfl
  have ek : ev tab (cfN tab (d + 3)) (.loc k) r σ = some (c2', σ) := by
   show ((r[k]?).bind _) = _
   rw [h16]; rfl
  have el : ev tab (cfN tab (d + 3)) (.lst [.loc j, .loc k]) r σ = some (.ref σ.nx, σ.new (.list [c1, c2'])) := by
   show (evs _ _ _ _ _).bind _ = _
   rw [evs_step ej (evs1 ek)]; rfl
  exact evs_step rfl (evs1 el)
 rw [ee]
 exact e
theorem cmp_tn {a b a' b' : Int} : CMP .ne (c2 a b) (c2 a' b') (!decide ([a, b] = [a', b'])) := .mk fun _ => rfl
noncomputable abbrev cell9 (H : List AV) (c1 : AV) (k : Nat) (st : Int) (ha fa : Bool) : Mc := ⟨H, [], [], [void, c1, c2 0 k], 0, 0, 2, 1, -1, -1, -1, st, ha, fa⟩
noncomputable abbrev tailQ : List Sx := [.asg 16 (.meth (.attr (.loc 13) 126) 71 []), .expr (.meth (.loc 13) 120 [(.lit (.int 7)), (.lst [(.loc 11), (.loc 16)])]), .ite (.not (.meth (.loc 13) 122 [])) [.ret (.lit (.bool false))] [], .ite (.bop false [(.cmp .ne (.meth (.attr (.loc 13) 126) 74 [(.loc 16)]) (.tup [(.lit (.int (5))), (.loc 17)])), (.meth (.loc 13) 123 [])]) [.ret (.lit (.bool false))] []]
theorem tail_ok (S : Shape E n) (hn : 5 ≤ n) {K : AV} {H : List AV} {cell r : AV} {D : Int} {o3 o10 o12 o14 o15 o16 o18 : Option AV} (h1 : ∀ p ∈ kv, 10 ≤ p.2 ∧ p.2 < 14) (h2 : ∀ p ∈ kf, 5 ≤ p.2 ∧ p.2 < 8) (hc : CellOk H cell r) (hq : QK kv kf H r D) (hl : H.length ≤ 20) :
  ∃ m', ExR (QW E n xs kv kf) (d + 10) tailQ (rhoQ K n E.em o3 o10 (some cell) o12 o14 o15 o16 (some (.int D)) o18) ⟨mh H, a⟩ .next (rhoQ K n E.em o3 o10 (some cell) o12 o14 o15 (some (c2 0 H.length)) (some (.int D)) o18) ⟨m', a⟩ := by
 have hk : (H ++ [c2 0 (H.length : Int)])[H.length]? = some (c2 0 (H.length : Int)) := List.getElem?_concat_length
 obtain ⟨st, hr⟩ := run_q (d := d + 5) (n := n) h1 h2 (hc.more (x := c2 0 (H.length : Int))).d (hq.more) hk
 have hlt : H.length < (H ++ [c2 0 (H.length : Int)]).length := (List.getElem?_eq_some_iff.mp hk).1
 have b1 := S.lo; have b2 := S.dl
 have run : CR (QW E n xs kv kf) (d + 10) 937 [.ref E.em] ⟨cell9 (H ++ [c2 0 (H.length : Int)]) cell H.length 0 false false, a⟩ (.bool true) ⟨cell9 ((H ++ [c2 0 (H.length : Int)]).set H.length (c2 5 D)) cell H.length st true false, a⟩ :=
  liftQ' S fun s0 s K => c_run (hr (E.at s0) K S.code S.max (by show 3 < E.em; omega) (by show n + 0 < E.em; omega) (s.gw.at1 3 _ rfl) (s.gw.at2 0 _ rfl))
 have dr : CR (QW E n xs kv kf) (d + 10) 145 [.ref (E.em + 12), c2 0 H.length] ⟨cell9 ((H ++ [c2 0 (H.length : Int)]).set H.length (c2 5 D)) cell H.length st true false, a⟩ (c2 5 D) ⟨cell9 ((H ++ [c2 0 (H.length : Int)]).set H.length (c2 5 D)) cell H.length st true false, a⟩ :=
  liftQ S fun s0 K => c_deref (d := d + 9) (m := cell9 ((H ++ [c2 0 (H.length : Int)]).set H.length (c2 5 D)) cell H.length st true false) (.goH (t := 5) (j := D) (itm_get (Int.natCast_nonneg _) (by rw [Int.toNat_natCast]; exact List.getElem?_set_self hlt)) (fun e => by cases e) (.done (by decide) (by decide)))
 have rd : CR (QW E n xs kv kf) (d + 10) 944 [.ref E.em] ⟨cell9 ((H ++ [c2 0 (H.length : Int)]).set H.length (c2 5 D)) cell H.length st true false, a⟩ (.bool false) ⟨cell9 ((H ++ [c2 0 (H.length : Int)]).set H.length (c2 5 D)) cell H.length st true true, a⟩ :=
  liftQ S fun s0 K => c_redo (d := d + 8) (m := cell9 ((H ++ [c2 0 (H.length : Int)]).set H.length (c2 5 D)) cell H.length st true false) (m2 := cell9 ((H ++ [c2 0 (H.length : Int)]).set H.length (c2 5 D)) cell H.length st true true) rfl (c_backN (show (-1 : Int) < 0 by decide)) (c_run (run_done rfl))
 have hcmp : (!decide ([(5 : Int), D] = [5, D])) = false := by rw [decide_eq_true rfl]; rfl
 refine ⟨cell9 ((H ++ [c2 0 (H.length : Int)]).set H.length (c2 5 D)) cell H.length st true true, ?_⟩
 apply ex_asg
 ·repeat' (first | trivial | exact q_newvar S (by omega))
 apply ex_expr
 ·exact ev_start S rfl rfl rfl
 ·rfl
 apply ex_ite
 ·apply ev_not
  apply ev_meth
  ·trivial
  ·trivial
  ·trivial
  ·exact run
 ·exact (rfl : (!true) = false)
 apply ex_ite
 ·apply ev_bopF
  ·apply ev_cmpG
   ·repeat' (first | trivial | exact dr)
   ·repeat' trivial
   ·exact cmp_tn
  ·exact hcmp
  ·repeat' (first | trivial | exact rd)
 ·exact (rfl : false = false)
 exact ex_nil
end
end Mine
end
section
local macro_rules | `(tactic| trivial) => `(tactic| first
 | exact Mine.gfQ rfl rfl
 | exact Mine.mtQ rfl rfl
 | exact Mine.mtQs rfl rfl)
namespace Mine
section
variable {d n : Nat} {xs : List Int} {kv : List (List Int × Int)} {kf : List (Int × Int)} {a : Int}
theorem rng_ok {h : Int} (h0 : 0 ≤ h) (h1 : h < 1000) : rng h = true := by
 unfold rng
 rw [decide_eq_true (by omega : -1000000 ≤ h), decide_eq_true (by omega : h ≤ 1000000)]; rfl
noncomputable abbrev rhoP (K : AV) (n : Nat) (o3 o10 o11 o12 o13 o14 o15 o16 o17 o18 : Option AV) : Lc := [some K, some (.ref 1), some (.ref 2), o3, some (.int 2), some (.int 5), some (.ref 3), some (.ref 4), some (.ref (n + 0)), some (.ref (n + 1)), o10, o11, o12, o13, o14, o15, o16, o17, o18]
noncomputable abbrev mkE : Ex := .call (.lit (.k (.ref 947))) [(.lit .none), (.loc 2), (.idict1 (.lit (.int 7)) (.loc 4)), (.lit (.int 100))]
noncomputable abbrev pre2 : List Sx := [.asg 14 (.call (.lit (.k (.ref 956))) [(.loc 1), (.lit (.int 5))]), .asg 10 (.call (.lit (.k (.ref 956))) [(.loc 1), (.lit (.int 4))])]
noncomputable abbrev qb : List Sx := .asg 13 mkE :: (pre2 ++ ([chain] ++ (.forR 15 (.call (.lit (.k (.ref 956))) [(.loc 1), (.lit (.int 3))]) body4 :: tailQ)))
theorem ev_mk {K : AV} {o3 o10 o11 o12 o13 o14 o15 o16 o17 o18 : Option AV} {σ : St} (s : GW n (g2 xs a (.list (code2 n)) kv kf) σ) :
  ∃ (E : En) (σ' : St), ev tab (cfN tab (d + 10)) mkE (rhoP K n o3 o10 o11 o12 o13 o14 o15 o16 o17 o18) σ = some (.ref E.em, σ') ∧ Shape E n ∧ QW E n xs kv kf ⟨mh [], a⟩ σ' := by
 have h1 : n + 2 ≤ σ.nx := s.le2
 have h2 : 5 ≤ n := s.le
 have s1 := s.new (.idict [(7, .int 2)])
 obtain ⟨σ', e, w, K', hn, keep⟩ := cr_emu (d := d + 3) (cA := 2) (dA := σ.nx) (mx := 100) (code := code2 n) (doors := [(7, .int 2)]) (σ := σ.new (.idict [(7, .int 2)])) (s1.at1 2 _ rfl) new_self (by show 2 < σ.nx + 1; omega) (Nat.lt_succ_self _)
 refine ⟨⟨σ.nx + 1, 2, code2 n, σ.nx, [(7, .int 2)], 100, σ'⟩, σ', ?_, ⟨rfl, rfl, rfl, rfl, h1, Nat.lt_succ_self _⟩, ⟨w.lay, ⟨h2, ?_, fun i o h => ?_, fun i o h => ?_⟩, Nat.le_of_eq hn.symm, (keep _ (Nat.lt_succ_self _)).trans new_self⟩⟩
 ·show cfN tab (d + 10) (.k (.ref 947)) [.none, .ref 2, .ref σ.nx, .int 100] (σ.new (.idict [(7, .int 2)])) = _
  exact e
 ·rw [hn]; show n + 2 ≤ σ.nx + 1 + 20; omega
 ·have : i < 5 := (List.getElem?_eq_some_iff.mp h).1
  exact (keep _ (by show i < σ.nx + 1; omega)).trans (s1.at1 i o h)
 ·have : i < 2 := (List.getElem?_eq_some_iff.mp h).1
  exact (keep _ (by show n + i < σ.nx + 1; omega)).trans (s1.at2 i o h)
theorem question {K : AV} {o3 o10 o11 o12 o13 o14 o15 o16 o17 o18 : Option AV} {σ : St} (s : GW n (g2 xs a (.list (code2 n)) kv kf) σ) (h1 : ∀ p ∈ kv, 10 ≤ p.2 ∧ p.2 < 14) (h2 : ∀ p ∈ kf, 5 ≤ p.2 ∧ p.2 < 8) (ha : 0 ≤ a) (hb : a < 60) :
  ∃ o10' o11' o13' o14' o15' o16' o17' o18' σ', exs tab (cfN tab (d + 10)) qb (rhoP K n o3 o10 o11 o12 o13 o14 o15 o16 o17 o18) σ = some (.next, rhoP K n o3 o10' o11' o12 o13' o14' o15' o16' o17' o18', σ') ∧ GW n (g2 xs (a + 1 + 1 + 1) (.list (code2 n)) kv kf) σ' := by
 obtain ⟨E, σ1, e1, S, q1⟩ := ev_mk (d := d) (K := K) (o3 := o3) (o10 := o10) (o11 := o11) (o12 := o12) (o13 := o13) (o14 := o14) (o15 := o15) (o16 := o16) (o17 := o17) (o18 := o18) s
 have x1 : ex tab (cfN tab (d + 10)) (.asg 13 mkE) (rhoP K n o3 o10 o11 o12 o13 o14 o15 o16 o17 o18) σ = some (.next, rhoQ K n E.em o3 o10 o11 o12 o14 o15 o16 o17 o18, σ1) := by
  show (ev _ _ _ _ _).bind _ = _
  rw [e1]; rfl
 rw [exs_next x1]
 have a1 : 0 ≤ a + 1 := by omega
 have a2 : a + 1 < 64 := by omega
 have a3 : a < 64 := by omega
 have x2 : ExR (QW E n xs kv kf) (d + 10) pre2 (rhoQ K n E.em o3 o10 o11 o12 o14 o15 o16 o17 o18) ⟨mh [], a⟩ .next (rhoQ K n E.em o3 (some (.int (take xs (a + 1) 4))) o11 o12 (some (.int (take xs a 5))) o15 o16 o17 o18) ⟨mh [], a + 1 + 1⟩ := by
  apply ex_asg
  ·apply ev_call
   ·trivial
   ·repeat' trivial
   ·exact c_takeQ S ha a3 (by decide)
  apply ex_asg
  ·apply ev_call
   ·trivial
   ·repeat' trivial
   ·exact c_takeQ S a1 a2 (by decide)
  exact ex_nil
 obtain ⟨σ2, e2, q2⟩ := x2.seg q1 ([chain] ++ (.forR 15 (.call (.lit (.k (.ref 956))) [(.loc 1), (.lit (.int 3))]) body4 :: tailQ))
 rw [e2]
 have hk := take_range xs a (k := 5) (by decide)
 obtain ⟨H, cell, r, D, x3, w1, w2, w3⟩ := chain_ok (n := n) (xs := xs) (kv := kv) (kf := kf) (a := a + 1 + 1) (d := d) (K := K) (f := take xs (a + 1) 4) (o3 := o3) (o11 := o11) (o12 := o12) (o15 := o15) (o16 := o16) (o17 := o17) (o18 := o18) S hk
 obtain ⟨σ3, e3, q3⟩ := x3.seg q2 (.forR 15 (.call (.lit (.k (.ref 956))) [(.loc 1), (.lit (.int 3))]) body4 :: tailQ)
 rw [e3]
 have hk3 := take_range xs (a + 1 + 1) (k := 3) (by decide)
 obtain ⟨H', cell', o15', o18', f1, f2, f3, f4⟩ := loop4 (d := d) (xs := xs) (kv := kv) (kf := kf) (a := a + 1 + 1 + 1) (K := K) (o3 := o3) (o10 := some (.int (take xs (a + 1) 4))) (o12 := o12) (o14 := some (.int (take xs a 5))) (o16 := o16) (o17 := some (.int D)) S (h := take xs (a + 1 + 1) 3) (by omega) _ 0 H cell o15 o18 rfl (by decide) w2 w1 (by omega) (by decide)
 obtain ⟨m', x4⟩ := tail_ok (d := d) (xs := xs) (a := a + 1 + 1 + 1) (K := K) (o3 := o3) (o10 := some (.int (take xs (a + 1) 4))) (o12 := o12) (o14 := some (.int (take xs a 5))) (o15 := o15') (o16 := o16) (o18 := o18') S s.le h1 h2 f2 f3 f4
 have x5 : ExR (QW E n xs kv kf) (d + 10) (.forR 15 (.call (.lit (.k (.ref 956))) [(.loc 1), (.lit (.int 3))]) body4 :: tailQ) (rhoQ K n E.em o3 (some (.int (take xs (a + 1) 4))) (some cell) o12 (some (.int (take xs a 5))) o15 o16 (some (.int D)) o18) ⟨mh H, a + 1 + 1⟩ .next
   (rhoQ K n E.em o3 (some (.int (take xs (a + 1) 4))) (some cell') o12 (some (.int (take xs a 5))) o15' (some (c2 0 H'.length)) (some (.int D)) o18') ⟨m', a + 1 + 1 + 1⟩ := by
  refine ex_forR ?_ (rng_ok hk3.1 (by omega)) f1 x4
  apply ev_call
  ·trivial
  ·repeat' trivial
  ·exact c_takeQ S (by omega) (by omega) (by decide)
 obtain ⟨σ4, e4, q4⟩ := x5.run σ3 q3
 exact ⟨_, _, _, _, _, _, _, _, σ4, e4, q4.gw⟩
theorem loopQ {K : AV} {o12 : Option AV} (h1 : ∀ p ∈ kv, 10 ≤ p.2 ∧ p.2 < 14) (h2 : ∀ p ∈ kf, 5 ≤ p.2 ∧ p.2 < 8) {h : Int} (hh : h ≤ 8) : ∀ (k : Nat) (t : Int) (σ : St) (a : Int) (o3 o10 o11 o13 o14 o15 o16 o17 o18 : Option AV), (h - t).toNat = k → 0 ≤ t → 0 ≤ a → a ≤ 20 + 3 * t → t ≤ 8 → GW n (g2 xs a (.list (code2 n)) kv kf) σ →
  ∃ ρ' σ', loopF (fun (p : Int × Lc × St) => if p.1 < h then (exs tab (cfN tab (d + 10)) qb (setL p.2.1 3 (.int p.1)) p.2.2).map (turnTo fun ρ σ => (p.1 + 1, ρ, σ)) else some (.inr (.next, p.2.1, p.2.2))) (t, rhoP K n o3 o10 o11 o12 o13 o14 o15 o16 o17 o18, σ) = some (.next, ρ', σ')
 | 0, t, σ, a, o3, o10, o11, o13, o14, o15, o16, o17, o18, hk, ht, ha, hb, h8, s => by
  refine ⟨rhoP K n o3 o10 o11 o12 o13 o14 o15 o16 o17 o18, σ, ?_⟩
  rw [loopF_unfold]
  dsimp only
  rw [if_neg (by omega)]
 | k + 1, t, σ, a, o3, o10, o11, o13, o14, o15, o16, o17, o18, hk, ht, ha, hb, h8, s => by
  obtain ⟨p10, p11, p13, p14, p15, p16, p17, p18, σ1, e1, s1⟩ := question (d := d) (K := K) (o3 := some (.int t)) (o10 := o10) (o11 := o11) (o12 := o12) (o13 := o13) (o14 := o14) (o15 := o15) (o16 := o16) (o17 := o17) (o18 := o18) s h1 h2 ha (by omega)
  obtain ⟨ρ', σ', e2⟩ := loopQ h1 h2 hh k (t + 1) σ1 _ (some (.int t)) p10 p11 p13 p14 p15 p16 p17 p18 (by omega) (by omega) (by omega) (by omega) (by omega) s1
  refine ⟨ρ', σ', ?_⟩
  rw [loopF_unfold]
  dsimp only
  rw [if_pos (by omega), show setL (rhoP K n o3 o10 o11 o12 o13 o14 o15 o16 o17 o18) 3 (.int t) = rhoP K n (some (.int t)) o10 o11 o12 o13 o14 o15 o16 o17 o18 from rfl, e1]
  exact e2
noncomputable abbrev for1 : Sx := .forR 3 (.call (.lit (.k (.ref 956))) [(.loc 1), (.lit (.int 5))]) body1
noncomputable abbrev for2 : Sx := .forR 3 (.call (.lit (.k (.ref 956))) [(.loc 1), (.lit (.int 4))]) body2
noncomputable abbrev apps : List Sx := [.expr (.app (.loc 2) (.tup [(.lit (.str 167)), (.loc 5), (.bin .add (.loc 4) (.lit (.int 1))), (.bin .add (.loc 5) (.lit (.int 2))), (.bin .add (.loc 4) (.lit (.int 2)))])), .expr (.app (.loc 2) (.tup [(.lit (.str 168)), (.loc 6), (.bin .add (.loc 5) (.lit (.int 4)))])), .expr (.app (.loc 2) (.tup [(.lit (.str 169)), (.loc 8), (.bin .add (.loc 5) (.lit (.int 6)))])), .forR 10 (.lit (.int 15)) body3]
noncomputable abbrev forQ : Sx := .forR 3 (.bin .add (.lit (.int 1)) (.call (.lit (.k (.ref 956))) [(.loc 1), (.lit (.int 8))])) qb
noncomputable abbrev rest1 : List Sx := [for1] ++ (.asg 8 .edict :: .asg 9 .edict :: ([for2] ++ (apps ++ [forQ, .ret (.lit (.bool true))])))
theorem body_eq : ir_law.body = ir_law.body.take 8 ++ rest1 := rfl
theorem plain (xs : List Int) (a : Nat) (L : Nat → Option (List AV)) (hL : L a = some (xs.map AV.int)) : ∃ σ', cfN tab 100 (.k (.ref f_law)) [.k (.ref a)] ⟨0, fun _ => .edict, fun _ => 0, L⟩ = some (.bool true, σ') := by
 obtain ⟨σ1, e1, p1⟩ := (seg1 (d := 99) hL).seg (σ := ⟨0, fun _ => .edict, fun _ => 0, L⟩) ⟨rfl, fun i o h => (nomatch h), rfl⟩ rest1
 rw [← List.map_take] at p1
 have g1' : GW 5 (g1 (xs.take 40) 0 (.list [aFail, aHalt]) []) σ1 := ⟨Nat.le_refl _, Nat.le_of_eq p1.nx.symm, fun i o h => p1.at' i o h, fun i o h => (nomatch h)⟩
 generalize xs.take 40 = ys at g1'
 have k1 := take_range ys 0 (k := 5) (by decide)
 obtain ⟨a1, kv, o3, o11, f1, f2, f3, f4⟩ := loop1 (d := 98) (n := 5) (xs := ys) (K := .k (.ref a)) (code := .list [aFail, aHalt]) (h := take ys 0 5) (by omega) _ 0 (0 + 1) [] (some (.int 0)) none rfl (by decide) (by decide) (by decide) (by decide) (by decide) (fun p h => nomatch h)
 have x1 : ExR (GW 5) 99 [for1] (rho1 (.k (.ref a)) (some (.int 0)) none) (g1 ys 0 (.list [aFail, aHalt]) []) .next (rho1 (.k (.ref a)) o3 o11) (g1 ys a1 (.list [aFail, aHalt]) kv) := by
  refine ex_forR ?_ (rng_ok k1.1 (by omega)) f1 ex_nil
  apply ev_call
  ·trivial
  ·repeat' trivial
  ·exact c_takeG (d := 98) (by decide) (by decide) (by decide)
 obtain ⟨σ2, e2, s2⟩ := x1.seg g1' (.asg 8 .edict :: .asg 9 .edict :: ([for2] ++ (apps ++ [forQ, .ret (.lit (.bool true))])))
 have hn : 5 ≤ σ2.nx := s2.le2
 have s3 : GW σ2.nx (g2 ys a1 (.list [aFail, aHalt]) kv []) ((σ2.new .edict).new .edict) := by
  refine ⟨hn, Nat.le_refl _, fun i o h => ?_, fun i o h => ?_⟩
  ·have : i < 5 := (List.getElem?_eq_some_iff.mp h).1
   exact (new_ne (σ := σ2.new _) (by show i ≠ σ2.nx + 1; omega)).trans ((new_ne (by omega)).trans (s2.at1 i o h))
  ·match i, h with
   | 0, h => cases h; exact (new_ne (σ := σ2.new _) (by show σ2.nx + 0 ≠ σ2.nx + 1; omega)).trans new_self
   | 1, h => cases h; exact new_self (σ := σ2.new _)
 have e3 : exs tab (cfN tab 99) (.asg 8 .edict :: .asg 9 .edict :: ([for2] ++ (apps ++ [forQ, .ret (.lit (.bool true))]))) (rho1 (.k (.ref a)) o3 o11) σ2 = exs tab (cfN tab 99) ([for2] ++ (apps ++ [forQ, .ret (.lit (.bool true))])) (rho2 (.k (.ref a)) σ2.nx o3 o11 none) ((σ2.new .edict).new .edict) := rfl
 generalize σ2.nx = n at *
 generalize hσ3 : (σ2.new .edict).new .edict = σ3 at *
 have k2 := take_range ys a1 (k := 4) (by decide)
 obtain ⟨a2, kf, o3', o12, f1', f2', f3', f4'⟩ := loop2 (d := 98) (n := n) (xs := ys) (K := .k (.ref a)) (code := .list [aFail, aHalt]) (kv := kv) (o11 := o11) (h := take ys a1 4) (by omega) _ 0 (a1 + 1) [] o3 none rfl (by decide) (by omega) (by omega) (by decide) (by decide) (fun p h => nomatch h)
 have x2 : ExR (GW n) 99 [for2] (rho2 (.k (.ref a)) n o3 o11 none) (g2 ys a1 (.list [aFail, aHalt]) kv []) .next (rho2 (.k (.ref a)) n o3' o11 o12) (g2 ys a2 (.list [aFail, aHalt]) kv kf) := by
  refine ex_forR ?_ (rng_ok k2.1 (by omega)) f1' ex_nil
  apply ev_call
  ·trivial
  ·repeat' trivial
  ·exact c_takeG (d := 98) f2 (by omega) (by decide)
 obtain ⟨σ4, e4, s4⟩ := x2.seg s3 (apps ++ [forQ, .ret (.lit (.bool true))])
 obtain ⟨o10, f5⟩ := loop3 (d := 99) (n := n) (xs := ys) (a := a2) (K := .k (.ref a)) (kv := kv) (kf := kf) (o3 := o3') (o11 := o11) (o12 := o12) 15 0 (code5 n) none (by decide) (by show 5 ≤ _; decide) (by decide)
 have x3 : ExR (GW n) 99 apps (rho2 (.k (.ref a)) n o3' o11 o12) (g2 ys a2 (.list [aFail, aHalt]) kv kf) .next (rho3 (.k (.ref a)) n o3' o10 o11 o12) (g2 ys a2 (.list (code2 n)) kv kf) := by
  have l1 : ([aFail, aHalt] : List AV).length < LIM := by show 2 < 1000000; decide
  have l2 : ([aFail, aHalt] ++ [swT] : List AV).length < LIM := by show 3 < 1000000; decide
  have l3 : ([aFail, aHalt] ++ [swT] ++ [swC] : List AV).length < LIM := by show 4 < 1000000; decide
  apply ex_expr
  ·repeat' (first | trivial | exact ls_G1 rfl | exact ul_G1 rfl rfl)
  ·rfl
  apply ex_expr
  ·repeat' (first | trivial | exact ls_G1 rfl | exact ul_G1 rfl rfl)
  ·rfl
  apply ex_expr
  ·repeat' (first | trivial | exact ls_G1 rfl | exact ul_G1 rfl rfl)
  ·rfl
  exact ex_forR ev_lit (by decide) f5 ex_nil
 obtain ⟨σ5, e5, s5⟩ := x3.seg s4 [forQ, .ret (.lit (.bool true))]
 have k3 := take_range ys a2 (k := 8) (by decide)
 obtain ⟨e6, s6⟩ := s5.take (d := 98) (k := 8) f2' (by omega) (by decide)
 generalize hσ6 : (σ5.set 1 (stO (a2 + 1))).new (.list []) = σ6 at *
 obtain ⟨ρ', σ', e7⟩ := loopQ (d := 89) (K := .k (.ref a)) (o12 := o12) f4 f4' (h := 1 + take ys a2 8) (by omega) _ 0 σ6 (a2 + 1) o3' o10 o11 none none none none none none rfl (by decide) (by omega) (by omega) (by decide) s6
 refine ⟨σ', ?_⟩
 have xq : ex tab (cfN tab 99) forQ (rho3 (.k (.ref a)) n o3' o10 o11 o12) σ5 = some (.next, ρ', σ') := by
  have ee : ev tab (cfN tab 99) (.bin .add (.lit (.int 1)) (.call (.lit (.k (.ref 956))) [(.loc 1), (.lit (.int 8))])) (rho3 (.k (.ref a)) n o3' o10 o11 o12) σ5 = some (.int (1 + take ys a2 8), σ6) := by
   show (cfN tab 99 (.k (.ref f_law_take)) [.ref 1, .int 8] σ5).bind _ = _
   rw [e6]; rfl
  show (ev _ _ _ _ _).bind _ = _
  rw [ee]
  show (if rng (1 + take ys a2 8) = true then _ else _) = _
  rw [if_pos (rng_ok (by omega) (by omega))]
  exact e7
 show (exs tab (cfN tab 99) ir_law.body (some (.k (.ref a)) :: List.replicate 18 none) _).bind _ = _
 rw [body_eq, e1]
 have e12 := e2.trans (e3.trans (e4.trans e5))
 show (exs tab (cfN tab 99) rest1 (rho1 (.k (.ref a)) (some (.int 0)) none) σ1).bind _ = _
 rw [e12, exs_next xq]; rfl
end
end Mine
end
end
end
section
open PySem PySem.W PyProof.Rows PySem.Calls PySem.Spec
namespace Mine
theorem well_ints {P : Params} {h : Heap} : ∀ {xs : List Int} {vs : List Value}, WellAll P h vs (ofPys (xs.map PyData.int)) → ∀ ι n h', RelVs ι n h' (xs.map AV.int) vs
 | [], vs, e, ι, n, h' => by cases e; exact .nil
 | x :: r, vs, e, ι, n, h' => by
  cases e with
  | cons a b => cases a; exact .cons ⟨_, rfl⟩ (well_ints b ι n h')
theorem well_list {P : Params} {h : Heap} {a : Addr} {xs : List Int} (e : Well P h (.ref a) (ofPy (.list (xs.map PyData.int)))) : ∃ vs k, h.get? a = some (listOf vs k) ∧ (∀ ι n h, RelVs ι n h (xs.map AV.int) vs.toList) := by
 cases e with
 | list h1 h2 => exact ⟨_, _, h1, well_ints h2⟩
theorem call_ok {prog q : Program} {loose : List Str} {mean : ExcName → Option Value} {mg mb : Str → Option Value} {w : World} {s₁ : Shared} {K : Frag} {X : TabL} {a law : Addr} {xs : List Int}
  (T : Top q loose mean mg mb s₁.heap) (sq : importsNone q = true) (tr : prog.given.tree = none) (KX : K.In s₁.heap) (ok : X.ok K = true) (hg : s₁.gens = #[])
  (W : Well w.params s₁.heap (.ref a) (ofPy (.list (xs.map PyData.int)))) (hl : xs.length ≤ LIM)
  (plain : ∀ L : Nat → Option (List AV), L a = some (xs.map AV.int) → ∃ σ', cfN X.tab 100 (.k (.ref law)) [.k (.ref a)] ⟨0, fun _ => .edict, fun _ => 0, L⟩ = some (.bool true, σ')) :
  codeAny (model prog w) callerA (.call (.ref law) ⟨[.ref a], []⟩) (fun r s' => r = .ok (.ret (.bool true)) ∧ (∀ b o, s₁.heap.get? b = some o → s'.heap.get? b = some o) ∧ s'.os = s₁.os ∧ s'.gens = #[]) s₁ := by
 let B : Base := ⟨prog, w, K, s₁.heap, s₁.os, mg, mb⟩
 have NS := T.seer sq
 have G : B.Good := ⟨KX, T.nolimit, T.g, T.b, T.builtins, (let ⟨_, ⟨o, _, _, e, _⟩, _⟩ := NS.mods; ⟨o, e⟩), NS, tr⟩
 obtain ⟨TO, CO⟩ := TabL.sound G (X := X) ok
 obtain ⟨vs, k, g, r⟩ := well_list W
 obtain ⟨σ', e⟩ := plain (fun b => if b = a then some (xs.map AV.int) else none) (if_pos rfl)
 have S : Sim B (fun _ => 0) ⟨0, fun _ => .edict, fun _ => 0, fun b => if b = a then some (xs.map AV.int) else none⟩ s₁ := by
  refine ⟨fun _ h => absurd h (Nat.not_lt_zero _), fun _ _ h => absurd h (Nat.not_lt_zero _), fun _ _ e => e, fun _ h => absurd h (Nat.not_lt_zero _), hg, rfl, fun b ys h => ?_⟩
  obtain ⟨h1, h2⟩ := ite_inv h
  subst h1
  cases h2
  exact ⟨vs, k, g, r, by rw [List.length_map]; exact hl⟩
 have RM : Room callerA 100 := ⟨rfl, ⟨_, rfl⟩, by decide, by decide⟩
 refine codeAny_mono ((CO 100).code _ _ _ _ _ _ _ (.ref law) [.ref a] callerA e S ⟨rfl, _, rfl⟩ (.cons ⟨rfl, _, rfl⟩ .nil) RM) fun r s' z => ?_
 rcases r with e | f
 ·exact z.elim
 ·cases f with
  | ret v =>
   obtain ⟨ι', t, S', rv⟩ := z
   cases rv
   exact ⟨rfl, S'.base, S'.os, S'.gens⟩
  | _ => exact z.elim
end Mine
end
section
open PySem PySem.W PyProof.Rows
namespace Mine
theorem law_fin {w : World} {s₀ s₁ : Shared} {mg mb : Str → Option Value} {a : Addr} {xs : List Int} {loose : List Str} {mean : ExcName → Option Value}
  (plain : ∀ (xs : List Int) (a : Nat) (L : Nat → Option (List AV)), L a = some (xs.map AV.int) → ∃ σ', cfN tab 100 (.k (.ref f_law)) [.k (.ref a)] ⟨0, fun _ => .edict, fun _ => 0, L⟩ = some (.bool true, σ'))
  (T : Top Head.q0 loose mean mg mb s₁.heap) (KX : (Head.KF w.params).In s₁.heap) (hg : s₁.gens = #[])
  (W : Well w.params s₁.heap (.ref a) (ofPy (.list (xs.map PyData.int)))) (hl : xs.length ≤ 63) :
  codeAny (model PySem.Challenge.rw_ok0031_02.row.prog w) callerA (.call (.ref f_law) ⟨[.ref a], []⟩) (GoodWG PySem.Challenge.rw_ok0031_02.row.claim (classAt s₀.heap) (ExcName.means s₀.heap) [ofPy (.list (xs.map PyData.int))] s₁) s₁ :=
 codeAny_mono (call_ok T (by rfl) (by rfl) KX (tab_ok w.params) hg W (Nat.le_trans hl (by decide)) (plain xs a)) fun r s' z =>
  GoodW.toG ⟨.inl ⟨.bool true, .bool true, [], z.1, fun _ => rfl, .bool true, by kernel_rfl, fun _ => ⟨.nil, fun _ h => nomatch h⟩⟩, z.2.1, z.2.2.1, z.2.2.2⟩
theorem law_at (P : Params) : nsIn (Head.KF P) mainGlobals "law" = some (some (.ref f_law)) := by kernel_rfl
theorem law_ok (plain : ∀ (xs : List Int) (a : Nat) (L : Nat → Option (List AV)), L a = some (xs.map AV.int) → ∃ σ', cfN tab 100 (.k (.ref f_law)) [.k (.ref a)] ⟨0, fun _ => .edict, fun _ => 0, L⟩ = some (.bool true, σ')) :
  PySem.Challenge.rw_ok0031_02.row.wellSaid = true → PySem.Challenge.rw_ok0031_02.row.Holds := by
 intro said
 refine holds_open (q := Head.q0) (loose := Head.loose0) (Xt := fun _ => true) (XP := XL Head.q0 []) (Yf := Hook.obs Head.hook0) (Ya := Hook.val Head.hook0) (YP := Hook.says Head.hook0) (N := 20000) Head.left0 (Hook.of Head.hook0) (Hook.keeps Head.hook0) ?hX XL.keeps (by rfl) (by rfl) (by rfl) ?hR (by rfl) said (by decide +kernel) ⟨rfl, rfl, rfl, rfl, rfl, by decide +kernel⟩ ?hw ?hc
 case hw => w_witness2
 case hX => intro s _; exact xl_of s (by rfl)
 case hR => intro s _; exact recFacts_nil rfl
 intro w s₀ s₁ mg mb G Y fa o pm cd doc dV kV ho hd hcd hD hmg hg args vals as hpre hlay hrd hwl hlo
 clear hd hcd hD ho
 have KX : (Head.KF w.params).In s₁.heap := kIn_of Y
 refine Ground.open G ?_
 intro T B D TE TW
 have e1 : some (Value.ref fa) = some (.ref f_law) := hmg.symm.trans (mg_of KX T.g (law_at w.params))
 cases e1
 clear hmg B D TE TW Y
 wrow_args hpre hlay hrd hwl hlo
 refine enter_call ?_
 rename_i W _ _ _ hl _
 exact law_fin plain T KX hg W (by omega)
end Mine
end
theorem PySem.Challenge.cw_ok0031_02_holds : PySem.Challenge.rw_ok0031_02.Holds :=
 PySem.W.holds_law Mine.said (Mine.law_ok Mine.plain)
