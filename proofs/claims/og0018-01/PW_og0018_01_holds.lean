import PyProof.Rows.All
import Wide.All
import OpenK.AllK
import Wide.FinOn
import KE.KDictOf
import KE.KDictSum
import KE.KRevIter
import PyProof.Rows.StrLast
import PyProof.Rows.StrIntSpec
import KE.KIntText
import PySem.Challenge.RW_og0018_01
set_option Elab.async false
section
open PySem PySem.W PyProof.Rows
set_option Elab.async false
set_option maxRecDepth 100000
set_option linter.unusedVariables false
namespace Mine
open PySem.Challenge
/-! the top's run over a tree of objects, in one look -/
noncomputable def mkT (l : List Obj) : BT × Nat := l.foldl (fun x o => (x.1.ins x.2 o, x.2 + 1)) (BT.nil, 0)
noncomputable def runT (p : Program) (w : World) (n₀ : Nat) (ann : Option Value) : Nat → SharedT → Thread → Option SharedT
  | 0, _, _ => none
  | n + 1, s, t => match through t with
    | true => some s
    | false => match stepOk n₀ ann t with
      | false => none
      | true => match stepT (denote treeTable) p w s t with
        | some (s', t') => runT p w n₀ ann n s' t'
        | none => none
theorem runT_of {p : Program} {w : World} {n₀ : Nat} {ann : Option Value} : ∀ {n : Nat} {s s' : SharedT} {t : Thread}, runT p w n₀ ann n s t = some s' → topRun treeTable p w n₀ ann n s.abs t = some s'.abs
  | 0, _, _, _, h => by cases h
  | n + 1, s, s', t, h => by
    unfold runT at h
    unfold topRun
    cases he : through t with
    | true => rw [he] at h; cases h; rfl
    | false =>
      rw [he] at h
      cases hk : stepOk n₀ ann t with
      | false => rw [hk] at h; cases h
      | true =>
        rw [hk] at h
        cases hs : stepT (denote treeTable) p w s t with
        | none => rw [hs] at h; cases h
        | some r => obtain ⟨s₂, t₂⟩ := r; rw [hs] at h; rw [stepT_spec hs]; exact runT_of h
noncomputable def sT0 (P : Params) (os : OsState) : SharedT := ⟨(mkT (boot_heap P).objs.toList).1, (mkT (boot_heap P).objs.toList).2, (boot_heap P).life, Array.mk [], boot_drawn, boot_toks, os⟩
theorem sT0_abs (P : Params) : (fun os => (sT0 P os).abs) = fun os => ⟨boot_heap P, Array.mk [], boot_drawn, boot_toks, os⟩ := by kernel_rfl
theorem left_of {p q : Program} {loose : List Str} {Xt : Shared → Bool} {Yf : Shared → Bool} {N : Nat} {m₀ : Nat} {ann : Option Value}
    (open_ : ∀ w : World, (fencedOpening treeTable p w N).map (fun s => (s.heap, s.gens, s.drawn, s.toks)) = some (boot_heap w.params, Array.mk [], boot_drawn, boot_toks))
    (size : ∀ w : World, ((boot_heap w.params).isNs mainGlobals && (Array.mk [] : Array GenState).size == 0, (boot_heap w.params).objs.size, (boot_heap w.params).nsMap mainGlobals "__annotations__") = (true, m₀, ann))
    (looks : ∀ w : World, (fun os => (runT p w m₀ ann N (sT0 w.params os) (topStub p)).map fun s => (staticsOk (importedModules p.main.body) (boot_heap w.params) s.abs.heap && namesBound p s.abs.heap && gensDone s.abs && laidKept (boot_heap w.params) s.abs.heap,
        openSeen q loose (importedModules p.main.body) Xt true s.abs)) = fun _ => some (true, openGood q loose))
    (mine : ∀ w : World, (fun os => (runT p w m₀ ann N (sT0 w.params os) (topStub p)).map fun s => Yf s.abs) = fun _ => some true) : LeftO p q loose Xt Yf (fun _ => true) N true := fun w => by
  obtain ⟨⟨h, gs, d, k, os⟩, e, e'⟩ := Option.map_eq_some_iff.mp (open_ w)
  obtain ⟨rfl, rfl, rfl, rfl⟩ : h = boot_heap w.params ∧ gs = Array.mk [] ∧ d = boot_drawn ∧ k = boot_toks := by simpa using e'
  obtain ⟨z1, z2, z3⟩ : _ ∧ _ ∧ _ := by simpa only [Prod.mk.injEq] using size w
  obtain ⟨s, r, l⟩ := Option.map_eq_some_iff.mp (congrFun (looks w) os)
  obtain ⟨s', r', l'⟩ := Option.map_eq_some_iff.mp (congrFun (mine w) os)
  obtain rfl : s = s' := Option.some.inj (r.symm.trans r')
  obtain ⟨l1, l2⟩ := Prod.mk.inj l
  have r1 := runT_of r
  rw [show (sT0 w.params os).abs = _ from congrFun (sT0_abs w.params) os] at r1
  have t : topFrom treeTable p w N ⟨boot_heap w.params, Array.mk [], boot_drawn, boot_toks, os⟩ = some s.abs := by
    unfold topFrom
    dsimp only
    rw [z1, z2, z3, r1]
    show (match staticsOk (importedModules p.main.body) (boot_heap w.params) s.abs.heap && namesBound p s.abs.heap && gensDone s.abs && laidKept (boot_heap w.params) s.abs.heap with | true => _ | false => _) = _
    rw [l1]
  unfold openEnds
  rw [e]
  show (topFrom treeTable p w N _).map _ = _
  rw [t]
  exact congrArg some (Prod.ext l2 l')
theorem open0 : ∀ w : World, (fencedOpening treeTable pw_og0018_01 w 7624).map (fun s => (s.heap, s.gens, s.drawn, s.toks)) = some (boot_heap w.params, Array.mk [], boot_drawn, boot_toks) :=
  boot_open (p := pw_og0018_01) (by kernel_rfl) (by decide +kernel) fun s => by kernel_rfl
theorem size0 : ∀ w : World, ((boot_heap w.params).isNs mainGlobals && (Array.mk [] : Array GenState).size == 0, (boot_heap w.params).objs.size, (boot_heap w.params).nsMap mainGlobals "__annotations__") = (true, 11, some (Value.ref 6)) := fun w => by kernel_rfl
end Mine
end
section
open PySem PySem.W PyProof.Rows
set_option Elab.async false
set_option maxRecDepth 100000
set_option linter.unusedVariables false
namespace Mine
open PySem.Challenge
noncomputable def keep0 : List Nat := [1, 2, 3, 4, 5, 6, 7, 9, 10, 11, 12, 14, 15, 16, 17, 18, 19, 20, 21, 23, 24, 26, 27, 28, 29, 30, 31, 32, 33]
noncomputable def q0 : Program := view pw_og0018_01 keep0
noncomputable def Xt0 (s : Shared) : Bool := xlAt q0 [] s && recOk (RowW.records rw_og0018_01.row.toRowW) s
theorem looks0 : ∀ w : World, (fun os => (runT pw_og0018_01 w 11 (some (Value.ref 6)) 7624 (sT0 w.params os) (topStub pw_og0018_01)).map fun s => (staticsOk (importedModules pw_og0018_01.main.body) (boot_heap w.params) s.abs.heap && namesBound pw_og0018_01 s.abs.heap && gensDone s.abs && laidKept (boot_heap w.params) s.abs.heap,
        openSeen q0 ["Fresh"] (importedModules pw_og0018_01.main.body) Xt0 true s.abs)) = fun _ => some (true, openGood q0 ["Fresh"]) := fun w => by kernel_rfl
end Mine
end
section
open PySem PySem.W PyProof.Rows
set_option Elab.async false
namespace Mine

/-! the abstract values, the small language, its evaluator -/
inductive AV where
  | none
  | bool (b : Bool)
  | int (i : Int)
  | str (s : Str)
  | tup (l : List AV)
  | list (l : List AV)
  | dict (ks : List Str) (vs : List AV)
  | obj (c : Nat) (l : List AV)
  | cell (k : Nat)

inductive LV where
  | un
  | val (a : AV)
  | own (a : AV)

inductive RV where
  | v (a : AV)
  | o (a : AV)
noncomputable def RV.av : RV → AV
  | .v a => a
  | .o a => a
noncomputable def RV.lv : RV → LV
  | .v a => .val a
  | .o a => .own a

inductive Op where
  | add | sub | mul | fdiv | mod | pow
inductive Cm where
  | eq | ne | lt | gt | ge | isIn | notIn | isN | isNotN

inductive IE where
  | nil
  | cons (e es : IE)
  | loc (i : Nat)
  | int (n : Int)
  | str (s : Str)
  | bool (b : Bool)
  | none
  | attr (e : IE) (f : Nat)
  | call (f : Nat) (es : IE)
  | callO (f : Nat) (es : IE)
  | meth (e : IE) (m : Nat) (es : IE)
  | new (c : Nat) (es : IE)
  | fresh
  | isi (e : IE) (c : Nat)
  | len (e : IE)
  | copy (e : IE)
  | sorted (e : IE)
  | strOf (e : IE)
  | intOf (e : IE)
  | max (a b : IE)
  | tupOf (e : IE)
  | rfind (e a : IE)
  | isdigit (e : IE)
  | get1 (e k : IE)
  | get2 (e k d : IE)
  | bin (o : Op) (a b : IE)
  | neg (e : IE)
  | cmp (o : Cm) (a b : IE)
  | and (a b : IE)
  | or (a b : IE)
  | not (a : IE)
  | ite (t a b : IE)
  | list (es : IE)
  | tup (es : IE)
  | dict0
  | dict1 (k v : IE)
  | idx (e i : IE)
  | sliceTo (e b : IE)
  | sliceFrom (e a : IE)
  | range1 (e : IE)
  | range3 (a b c : IE)
  | rev (e : IE)
  | comp1 (x : Nat) (caps : List Nat) (elt it : IE)
  | comp1if (x : Nat) (caps : List Nat) (elt it cond : IE)
  | comp2 (x y : Nat) (caps : List Nat) (elt it : IE)

inductive IS where
  | skip
  | seq (s rest : IS)
  | asg (i : Nat) (e : IE)
  | asg2 (i j : Nat) (a b : IE)
  | asgT (is : List Nat) (e : IE)
  | popT (is : List Nat) (p : IE)
  | setIdx (p k v : IE)
  | aug (i : Nat) (e : IE)
  | ret (e : IE)
  | ifs (t : IE) (a b : IS)
  | for1 (i : Nat) (it : IE) (body : IS)
  | forT (is : List Nat) (it : IE) (body : IS)
  | whil (t : IE) (body : IS)
  | append (p e : IE)
  | expr (e : IE)
  | delFrom (p a : IE)
  | cont
  | freeze (i : Nat)
  | promote (i : Nat)

noncomputable abbrev Loc := List LV
noncomputable abbrev Cells := List AV
noncomputable abbrev CallF := Nat → List AV → Cells → Option (RV × Cells)

noncomputable def Loc.at (l : Loc) (i : Nat) : LV := (l[i]?).getD .un

noncomputable def lim : Nat := 1000000

noncomputable def allO (f : AV → AV → Option Bool) : List AV → List AV → Option Bool
  | x :: l, y :: m => (f x y).bind fun b => (allO f l m).map (b && ·)
  | _, _ => some true
noncomputable def dget : List Str → List AV → Str → Option AV
  | k :: ks, v :: vs, x => if k = x then some v else dget ks vs x
  | _, _, _ => Option.none
noncomputable def dput : List Str → List AV → Str → AV → List Str × List AV
  | k :: ks, v :: vs, x, a => if k = x then (k :: ks, a :: vs) else let r := dput ks vs x a; (k :: r.1, v :: r.2)
  | _, _, x, a => ([x], [a])


/-- an item of a list or a tuple, Python's way -/
noncomputable def itemAt (l : List AV) (i : Int) : Option AV := if 0 ≤ i then l[i.toNat]? else if 0 ≤ i + l.length then l[(i + l.length).toNat]? else Option.none

/-! what kind a value is: each look with its turning round -/
section
variable {β : Type} {P : AV → Prop} {a : AV} {r : β}
theorem no {β : Type} {r : β} {G : Prop} (h : (Option.none : Option β) = some r) : G := nomatch h
noncomputable def intV (a : AV) (k : Int → Option β) : Option β := match a with
  | .int n => k n
  | _ => Option.none
@[elab_as_elim] theorem intV.on {k : Int → Option β} (h : intV a k = some r) (g : ∀ n, k n = some r → P (.int n)) : P a :=
  AV.casesOn (motive_1 := fun a => intV a k = some r → P a) a no (fun _ => no) g (fun _ => no) (fun _ => no) (fun _ => no) (fun _ _ => no) (fun _ _ => no) (fun _ => no) h
noncomputable def boolV (a : AV) (k : Bool → Option β) : Option β := match a with
  | .bool n => k n
  | _ => Option.none
@[elab_as_elim] theorem boolV.on {k : Bool → Option β} (h : boolV a k = some r) (g : ∀ n, k n = some r → P (.bool n)) : P a :=
  AV.casesOn (motive_1 := fun a => boolV a k = some r → P a) a no g (fun _ => no) (fun _ => no) (fun _ => no) (fun _ => no) (fun _ _ => no) (fun _ _ => no) (fun _ => no) h
noncomputable def strV (a : AV) (k : Str → Option β) : Option β := match a with
  | .str n => k n
  | _ => Option.none
@[elab_as_elim] theorem strV.on {k : Str → Option β} (h : strV a k = some r) (g : ∀ n, k n = some r → P (.str n)) : P a :=
  AV.casesOn (motive_1 := fun a => strV a k = some r → P a) a no (fun _ => no) (fun _ => no) g (fun _ => no) (fun _ => no) (fun _ _ => no) (fun _ _ => no) (fun _ => no) h
noncomputable def tupV (a : AV) (k : List AV → Option β) : Option β := match a with
  | .tup n => k n
  | _ => Option.none
@[elab_as_elim] theorem tupV.on {k : List AV → Option β} (h : tupV a k = some r) (g : ∀ n, k n = some r → P (.tup n)) : P a :=
  AV.casesOn (motive_1 := fun a => tupV a k = some r → P a) a no (fun _ => no) (fun _ => no) (fun _ => no) g (fun _ => no) (fun _ _ => no) (fun _ _ => no) (fun _ => no) h
noncomputable def listV (a : AV) (k : List AV → Option β) : Option β := match a with
  | .list n => k n
  | _ => Option.none
@[elab_as_elim] theorem listV.on {k : List AV → Option β} (h : listV a k = some r) (g : ∀ n, k n = some r → P (.list n)) : P a :=
  AV.casesOn (motive_1 := fun a => listV a k = some r → P a) a no (fun _ => no) (fun _ => no) (fun _ => no) (fun _ => no) g (fun _ _ => no) (fun _ _ => no) (fun _ => no) h
noncomputable def dictV (a : AV) (k : List Str → List AV → Option β) : Option β := match a with
  | .dict ks vs => k ks vs
  | _ => Option.none
@[elab_as_elim] theorem dictV.on {k : List Str → List AV → Option β} (h : dictV a k = some r) (g : ∀ n m, k n m = some r → P (.dict n m)) : P a :=
  AV.casesOn (motive_1 := fun a => dictV a k = some r → P a) a no (fun _ => no) (fun _ => no) (fun _ => no) (fun _ => no) (fun _ => no) g (fun _ _ => no) (fun _ => no) h
noncomputable def objV (a : AV) (k : Nat → List AV → Option β) : Option β := match a with
  | .obj c l => k c l
  | _ => Option.none
@[elab_as_elim] theorem objV.on {k : Nat → List AV → Option β} (h : objV a k = some r) (g : ∀ n m, k n m = some r → P (.obj n m)) : P a :=
  AV.casesOn (motive_1 := fun a => objV a k = some r → P a) a no (fun _ => no) (fun _ => no) (fun _ => no) (fun _ => no) (fun _ => no) (fun _ _ => no) g (fun _ => no) h
noncomputable def noneV (a : AV) (k : Option β) : Option β := match a with
  | .none => k
  | _ => Option.none
@[elab_as_elim] theorem noneV.on {k : Option β} (h : noneV a k = some r) (g : k = some r → P .none) : P a :=
  AV.casesOn (motive_1 := fun a => noneV a k = some r → P a) a g (fun _ => no) (fun _ => no) (fun _ => no) (fun _ => no) (fun _ => no) (fun _ _ => no) (fun _ _ => no) (fun _ => no) h
/-- int, text, list, tuple -/
noncomputable def kindV (a : AV) (ki : Int → Option β) (ks : Str → Option β) (kl kt : List AV → Option β) : Option β := match a with
  | .int n => ki n
  | .str n => ks n
  | .list n => kl n
  | .tup n => kt n
  | _ => Option.none
@[elab_as_elim] theorem kindV.on {ki : Int → Option β} {ks : Str → Option β} {kl kt : List AV → Option β} (h : kindV a ki ks kl kt = some r) (gi : ∀ n, ki n = some r → P (.int n)) (gs : ∀ n, ks n = some r → P (.str n)) (gl : ∀ n, kl n = some r → P (.list n)) (gt : ∀ n, kt n = some r → P (.tup n)) : P a :=
  AV.casesOn (motive_1 := fun a => kindV a ki ks kl kt = some r → P a) a no (fun _ => no) gi gs gt gl (fun _ _ => no) (fun _ _ => no) (fun _ => no) h
/-- only where it holds -/
noncomputable def gd (p : Prop) [Decidable p] (o : Option β) : Option β := if p then o else Option.none
theorem gd.on {p : Prop} [Decidable p] {o : Option β} {G : Prop} (h : gd p o = some r) (g : p → o = some r → G) : G := by
  by_cases q : p
  · exact g q (by unfold gd at h; rw [if_pos q] at h; exact h)
  · unfold gd at h; rw [if_neg q] at h; cases h
theorem gd_of {p : Prop} [Decidable p] {o o' : Option β} (q : p) (h : o = o') : gd p o = o' := by subst h; exact if_pos q
noncomputable def bd {α γ : Type} (o : Option (α × γ)) (f : α → γ → Option β) : Option β := o.bind fun x => f x.1 x.2
theorem bd.on {α γ : Type} {o : Option (α × γ)} {f : α → γ → Option β} {G : Prop} (h : bd o f = some r) (g : ∀ x y, o = some (x, y) → f x y = some r → G) : G :=
  match o, h, g with
  | some (x, y), h, g => g x y rfl h
theorem bd_of {α γ : Type} {o : Option (α × γ)} {f : α → γ → Option β} {x : α} {y : γ} {o' : Option β} (h : o = some (x, y)) (h2 : f x y = o') : bd o f = o' := by subst h; exact h2
theorem ob.on {α : Type} {o : Option α} {f : α → Option β} {G : Prop} (h : o.bind f = some r) (g : ∀ x, o = some x → f x = some r → G) : G :=
  match o, h, g with
  | some x, h, g => g x rfl h
theorem ob_of {α : Type} {o : Option α} {f : α → Option β} {x : α} {o' : Option β} (h : o = some x) (h2 : f x = o') : o.bind f = o' := by subst h; exact h2
theorem om.on {α : Type} {o : Option α} {f : α → β} {G : Prop} (h : o.map f = some r) (g : ∀ x, o = some x → f x = r → G) : G :=
  match o, h, g with
  | some x, h, g => g x rfl (Option.some.inj h)
theorem om_of {α : Type} {o : Option α} {f : α → β} {x : α} {y : β} (h : o = some x) (h2 : f x = y) : o.map f = some y := by subst h h2; rfl
end
/-- equality, the inner one told -/
noncomputable def eqV (E : AV → AV → Option Bool) (a b : AV) : Option Bool := match a with
  | .none => noneV b (some true)
  | .bool x => boolV b fun y => some (x == y)
  | .int x => intV b fun y => some (x == y)
  | .str x => strV b fun y => some (x == y)
  | .tup x => tupV b fun y => (allO E x y).map (· && x.length == y.length)
  | .list x => listV b fun y => if x.length = y.length then allO E x y else some false
  | _ => Option.none
theorem eqV.on {E : AV → AV → Option Bool} {P : AV → AV → Prop} {a b : AV} {r : Bool} (h : eqV E a b = some r) (g0 : r = true → P .none .none) (g1 : ∀ x y, (x == y) = r → P (.bool x) (.bool y)) (g2 : ∀ x y, (x == y) = r → P (.int x) (.int y)) (g3 : ∀ x y, (x == y) = r → P (.str x) (.str y))
    (g4 : ∀ x y q, allO E x y = some q → (q && x.length == y.length) = r → P (.tup x) (.tup y)) (g5 : ∀ x y, (if x.length = y.length then allO E x y else some false) = some r → P (.list x) (.list y)) : P a b :=
  AV.casesOn (motive_1 := fun a => eqV E a b = some r → P a b) a (fun h => noneV.on (P := fun b => P .none b) h fun h => g0 (Option.some.inj h).symm) (fun x h => boolV.on (P := fun b => P (.bool x) b) h fun y h => g1 x y (Option.some.inj h)) (fun x h => intV.on (P := fun b => P (.int x) b) h fun y h => g2 x y (Option.some.inj h))
    (fun x h => strV.on (P := fun b => P (.str x) b) h fun y h => g3 x y (Option.some.inj h)) (fun x h => tupV.on (P := fun b => P (.tup x) b) h fun y h => om.on h fun q h1 h2 => g4 x y q h1 h2) (fun x h => listV.on (P := fun b => P (.list x) b) h fun y h => g5 x y h) (fun _ _ => no) (fun _ _ => no) (fun _ => no) h
noncomputable def aeqF : Nat → AV → AV → Option Bool
  | 0 => fun _ _ => Option.none
  | n + 1 => eqV (aeqF n)
noncomputable def aeq (a b : AV) : Option Bool := aeqF 8 a b
noncomputable def addV (a b : AV) : Option AV := kindV a (fun x => intV b fun y => some (.int (x + y))) (fun x => strV b fun y => gd (x.length + y.length ≤ lim) (some (.str (x ++ y))))
  (fun x => listV b fun y => gd (x.length + y.length ≤ lim) (some (.list (x ++ y)))) (fun x => tupV b fun y => gd (x.length + y.length ≤ lim) (some (.tup (x ++ y))))
noncomputable def int2 {β : Type} (a b : AV) (k : Int → Int → Option β) : Option β := intV a fun x => intV b fun y => k x y
theorem int2.on {β : Type} {r : β} {a b : AV} {k : Int → Int → Option β} {P : AV → AV → Prop} (h : int2 a b k = some r) (g : ∀ x y, k x y = some r → P (.int x) (.int y)) : P a b :=
  intV.on (P := fun a => P a b) h fun x h => intV.on (P := fun b => P (.int x) b) h fun y h => g x y h
noncomputable def abin (o : Op) (a b : AV) : Option AV := match o with
  | .add => addV a b
  | .sub => int2 a b fun x y => some (.int (x - y))
  | .mul => int2 a b fun x y => gd (y.natAbs < 2 ^ 62) (some (.int (x * y)))
  | .fdiv => int2 a b fun x y => gd (y ≠ 0 ∧ y.natAbs < 2 ^ 62) (some (.int (x.fdiv y)))
  | .mod => int2 a b fun x y => gd (y ≠ 0 ∧ y.natAbs < 2 ^ 62) (some (.int (x.fmod y)))
  | .pow => int2 a b fun x y => gd (x = 10 ∧ y = 18) (some (.int 1000000000000000000))

noncomputable def strsOf : List AV → Option (List Str)
  | [] => some []
  | a :: l => strV a fun s => (strsOf l).map (s :: ·)
theorem strsOf.on {P : AV → Prop} {a : AV} {as : List AV} {ks : List Str} (h : strsOf (a :: as) = some ks) (g : ∀ k ks', strsOf as = some ks' → k :: ks' = ks → P (.str k)) : P a :=
  strV.on h fun k h => om.on h fun ks' h1 h2 => g k ks' h1 h2
noncomputable def inV (a b : AV) : Option Bool := strV a fun x => match b with
  | .dict ks _ => some (ks.contains x)
  | .list l => (strsOf l).map (·.contains x)
  | _ => Option.none
theorem inV.on {P : AV → AV → Prop} {a b : AV} {r : Bool} (h : inV a b = some r) (g1 : ∀ x ks l, ks.contains x = r → P (.str x) (.dict ks l)) (g2 : ∀ x l ks, strsOf l = some ks → ks.contains x = r → P (.str x) (.list l)) : P a b :=
  strV.on (P := fun a => P a b) h fun x h => AV.casesOn (motive_1 := fun b => (match b with
  | .dict ks _ => some (ks.contains x)
  | .list l => (strsOf l).map (·.contains x)
  | _ => Option.none) = some r → P (.str x) b) b no (fun _ => no) (fun _ => no) (fun _ => no) (fun _ => no) (fun l h => om.on h fun ks h1 h2 => g2 x l ks h1 h2) (fun ks l h => g1 x ks l (Option.some.inj h)) (fun _ _ => no) (fun _ => no) h
noncomputable def acmp (o : Cm) (a b : AV) : Option Bool := match o with
  | .eq => aeq a b
  | .ne => (aeq a b).map (!·)
  | .lt => int2 a b fun x y => some (decide (x < y))
  | .gt => int2 a b fun x y => some (decide (x > y))
  | .ge => int2 a b fun x y => some (decide (x ≥ y))
  | .isIn => inV a b
  | .notIn => (inV a b).map (!·)
  | .isN => Option.none
  | .isNotN => Option.none
theorem abin_ii {x y : Int} : abin .add (.int x) (.int y) = some (.int (x + y)) := rfl
theorem abin_s {x y : Str} (h : x.length + y.length ≤ lim) : abin .add (.str x) (.str y) = some (.str (x ++ y)) := gd_of h rfl
theorem abin_l {x y : List AV} (h : x.length + y.length ≤ lim) : abin .add (.list x) (.list y) = some (.list (x ++ y)) := gd_of h rfl
theorem abin_t {x y : List AV} (h : x.length + y.length ≤ lim) : abin .add (.tup x) (.tup y) = some (.tup (x ++ y)) := gd_of h rfl
theorem acmp_gt {x y : Int} : acmp .gt (.int x) (.int y) = some (decide (x > y)) := rfl
theorem acmp_lt {x y : Int} : acmp .lt (.int x) (.int y) = some (decide (x < y)) := rfl
theorem acmp_ge {x y : Int} : acmp .ge (.int x) (.int y) = some (decide (x ≥ y)) := rfl
theorem acmp_eq {x y : Int} : acmp .eq (.int x) (.int y) = some (x == y) := rfl
theorem acmp_nil {xs : List AV} (h : xs.length ≠ 0) : acmp .eq (.list xs) (.list []) = some false := if_neg h
theorem acmp_in {x : Str} {ks : List Str} {vs : List AV} : acmp .isIn (.str x) (.dict ks vs) = some (ks.contains x) := rfl
theorem acmp_notIn {x : Str} {ks : List Str} {vs : List AV} : acmp .notIn (.str x) (.dict ks vs) = some (!ks.contains x) := rfl
noncomputable def isDict : AV → Bool
  | .dict _ _ => true
  | _ => false
noncomputable def isList : AV → Bool
  | .list _ => true
  | _ => false
noncomputable def isNone : AV → Bool
  | .none => true
  | _ => false

noncomputable def insS (x : Str) : List Str → List Str
  | [] => [x]
  | y :: l => if x.cps.toList ≤ y.cps.toList then x :: y :: l else y :: insS x l
noncomputable def sortS : List Str → List Str
  | [] => []
  | x :: l => insS x (sortS l)

-- GENERATED TABLES (attributes, methods) are parameters of the evaluator
structure Tab where
  fieldIdx : Nat → Nat → Option Nat
  nFields : Nat → Nat
  methOf : Nat → Nat → Option Nat

structure Ev where
  r : Loc → Cells → Option (RV × Cells)
  t : Loc → Cells → Option (Bool × Cells)
  l : Loc → Cells → Option (List AV × Cells)
  i : Loc → Cells → Option (List AV × Cells)
  p : Loc → Cells → Option (AV × Cells)

/-- the content that a value in reading place stands for -/
noncomputable def deref (c : Cells) : AV → Option AV
  | .cell k => c[k]?
  | a => some a
noncomputable def truth (r : RV) : Option Bool := match r with
  | .v a => boolV a some
  | .o _ => Option.none
theorem truth.on {r : RV} {b : Bool} (h : truth r = some b) : r = .v (.bool b) := match r, h with
  | .v a, h => boolV.on (P := fun a => RV.v a = .v (.bool b)) h fun n h => by cases h; rfl
noncomputable def itemsOf (r : RV) : Option (List AV) := match r with
  | .v a => kindV a (fun _ => Option.none) (fun _ => Option.none) some some
  | .o a => listV a some
theorem itemsOf.on {P : RV → Prop} {r : RV} {xs : List AV} (h : itemsOf r = some xs) (g1 : P (.v (.list xs))) (g2 : P (.v (.tup xs))) (g3 : P (.o (.list xs))) : P r := match r, h with
  | .v a, h => kindV.on (P := fun a => P (.v a)) h (fun _ => no) (fun _ => no) (fun n h => by cases h; exact g1) (fun n h => by cases h; exact g2)
  | .o a, h => listV.on (P := fun a => P (.o a)) h fun n h => by cases h; exact g3
noncomputable def Ev.ofR (r : Loc → Cells → Option (RV × Cells)) : Ev where
  r := r
  t := fun l c => bd (r l c) fun x c => (truth x).map fun b => (b, c)
  l := fun _ _ => Option.none
  i := fun l c => bd (r l c) fun x c => (itemsOf x).map fun b => (b, c)
  p := fun l c => bd (r l c) fun x c => some (x.av, c)
noncomputable def Ev.e (x : Ev) (l : Loc) (c : Cells) : Option (AV × Cells) := bd (x.r l c) fun x c => some (x.av, c)

/-- where a container stands: in an own local, or wherever its value says -/
inductive Pl where
  | own (i : Nat)
  | at (a : AV)
noncomputable def Pl.read (l : Loc) (c : Cells) : Pl → Option AV
  | .own i => match l.at i with
    | .own a => some a
    | _ => Option.none
  | .at a => deref c a
noncomputable def Pl.write (l : Loc) (c : Cells) (b : AV) : Pl → Option (Loc × Cells)
  | .own i => match l.at i with
    | .own _ => some (l.set i (.own b), c)
    | _ => Option.none
  | .at (.cell k) => if k < c.length then some (l, c.set k b) else Option.none
  | .at _ => Option.none

noncomputable def isOwn (l : Loc) (i : Nat) : Bool := match l.at i with
  | .own _ => true
  | _ => false
/-- the place of a container expression -/
noncomputable def plOf (e : IE) (x : Ev) (l : Loc) (c : Cells) : Option (Pl × Cells) :=
  if h : e.ctorIdx = 2 then IE.loc.elim e h fun i => if isOwn l i then some (.own i, c) else bd (x.e l c) fun y c => some (.at y, c) else bd (x.e l c) fun y c => some (.at y, c)

noncomputable def setAll : List Nat → List AV → Loc → Option Loc
  | [], [], l => some l
  | i :: is, x :: xs, l => setAll is xs (l.set i (.val x))
  | _, _, _ => Option.none

/-- the locals a comprehension's block sees -/
noncomputable def capt (l : Loc) (caps : List Nat) : Option Loc := (List.range l.length).mapM fun j => if caps.contains j then (match l.at j with
  | .val a => some (.val a)
  | _ => Option.none) else some .un

noncomputable def compL (elt : Loc → Cells → Option (AV × Cells)) (cond : Loc → Cells → Option (Bool × Cells)) (bind : AV → Loc → Option Loc) : List AV → Loc → Cells → Option (List AV × Cells)
  | [], _, c => some ([], c)
  | x :: xs, l, c => (bind x l).bind fun l' => bd (cond l' c) fun q c => if q = true then bd (elt l' c) fun z c => bd (compL elt cond bind xs l c) fun u c => some (z :: u, c) else compL elt cond bind xs l c
noncomputable def noCond : Loc → Cells → Option (Bool × Cells) := fun _ c => some (true, c)
noncomputable def bind1 (x : Nat) (a : AV) (l : Loc) : Option Loc := some (l.set x (.val a))
noncomputable def bindT (is : List Nat) (a : AV) (l : Loc) : Option Loc := match a with
  | .tup t => setAll is t l
  | _ => Option.none
noncomputable def small (l : List AV) : Bool := decide (l.length ≤ lim)

/-- a place's content -/
noncomputable def pl {β : Type} (o : Option (Pl × Cells)) (l : Loc) (k : Pl → AV → Cells → Option β) : Option β := bd o fun p c => (p.read l c).bind fun a => k p a c
theorem pl.on {β : Type} {o : Option (Pl × Cells)} {l : Loc} {k : Pl → AV → Cells → Option β} {r : β} {G : Prop} (h : pl o l k = some r) (g : ∀ p a c, o = some (p, c) → p.read l c = some a → k p a c = some r → G) : G :=
  bd.on h fun p c h1 h => ob.on h fun a h2 h => g p a c h1 h2 h
theorem pl_of {β : Type} {o : Option (Pl × Cells)} {l : Loc} {k : Pl → AV → Cells → Option β} {o' : Option β} {p : Pl} {a : AV} {c : Cells} (h1 : o = some (p, c)) (h2 : p.read l c = some a) (h3 : k p a c = o') : pl o l k = o' := bd_of h1 (ob_of h2 h3)
noncomputable def valL {β : Type} (l : Loc) (i : Nat) (k : AV → Option β) : Option β := match l.at i with
  | .val a => k a
  | _ => Option.none
noncomputable def ownL {β : Type} (l : Loc) (i : Nat) (k : AV → Option β) : Option β := match l.at i with
  | .own a => k a
  | _ => Option.none
theorem valL.on {β : Type} {l : Loc} {i : Nat} {k : AV → Option β} {r : β} {G : Prop} (h : valL l i k = some r) (g : ∀ a, l.at i = .val a → k a = some r → G) : G := by
  unfold valL at h
  cases q : l.at i <;> rw [q] at h <;> first | exact g _ q h | cases h
theorem ownL.on {β : Type} {l : Loc} {i : Nat} {k : AV → Option β} {r : β} {G : Prop} (h : ownL l i k = some r) (g : ∀ a, l.at i = .own a → k a = some r → G) : G := by
  unfold ownL at h
  cases q : l.at i <;> rw [q] at h <;> first | exact g _ q h | cases h
theorem valL_of {β : Type} {l : Loc} {i : Nat} {k : AV → Option β} {a : AV} {o : Option β} (q : l.at i = .val a) (h : k a = o) : valL l i k = o := by unfold valL; rw [q]; exact h
theorem ownL_of {β : Type} {l : Loc} {i : Nat} {k : AV → Option β} {a : AV} {o : Option β} (q : l.at i = .own a) (h : k a = o) : ownL l i k = o := by unfold ownL; rw [q]; exact h
noncomputable def truL (l : Loc) (i : Nat) : Option Bool := match l.at i with
  | .val (.bool b) => some b
  | .own (.list x) => gd (small x = true) (some !x.isEmpty)
  | _ => Option.none
noncomputable def lenV (a : AV) : Option AV := kindV a (fun _ => Option.none) (fun _ => Option.none) (fun y => gd (small y = true) (some (.int y.length))) (fun y => gd (small y = true) (some (.int y.length)))
noncomputable def idxV (a i : AV) : Option AV := match a with
  | .list z => intV i fun n => gd (small z = true) (itemAt z n)
  | .tup z => intV i fun n => gd (small z = true) (itemAt z n)
  | .dict ks vs => strV i fun s => dget ks vs s
  | _ => Option.none
theorem idxV.on {a i r : AV} {P : AV → AV → Prop} (h : idxV a i = some r) (g1 : ∀ z n, small z = true → itemAt z n = some r → P (.list z) (.int n)) (g2 : ∀ z n, small z = true → itemAt z n = some r → P (.tup z) (.int n)) (g3 : ∀ ks vs s, dget ks vs s = some r → P (.dict ks vs) (.str s)) : P a i :=
  AV.casesOn (motive_1 := fun a => idxV a i = some r → P a i) a no (fun _ => no) (fun _ => no) (fun _ => no) (fun z h => intV.on (P := fun i => P (.tup z) i) h fun n h => gd.on h fun q h => g2 z n q h) (fun z h => intV.on (P := fun i => P (.list z) i) h fun n h => gd.on h fun q h => g1 z n q h)
    (fun ks vs h => strV.on (P := fun i => P (.dict ks vs) i) h fun s h => g3 ks vs s h) (fun _ _ => no) (fun _ => no) h
theorem lenV.on {a r : AV} {P : AV → Prop} (h : lenV a = some r) (g1 : ∀ z, small z = true → .int z.length = r → P (.list z)) (g2 : ∀ z, small z = true → .int z.length = r → P (.tup z)) : P a :=
  kindV.on h (fun _ => no) (fun _ => no) (fun z h => gd.on h fun q h => g1 z q (Option.some.inj h)) (fun z h => gd.on h fun q h => g2 z q (Option.some.inj h))
noncomputable def toInt (a : AV) : Option AV := match a with
  | .int n => some (.int n)
  | .bool b => some (.int (if b then 1 else 0))
  | _ => Option.none
theorem toInt.on {a r : AV} {P : AV → Prop} (h : toInt a = some r) (g1 : ∀ n, .int n = r → P (.int n)) (g2 : ∀ b : Bool, .int (if b then 1 else 0) = r → P (.bool b)) : P a :=
  AV.casesOn (motive_1 := fun a => toInt a = some r → P a) a no (fun b h => g2 b (Option.some.inj h)) (fun n h => g1 n (Option.some.inj h)) (fun _ => no) (fun _ => no) (fun _ => no) (fun _ _ => no) (fun _ _ => no) (fun _ => no) h
noncomputable def setV {β : Type} (a z : AV) (kl : List AV → Int → Option β) (kd : List Str → List AV → Str → Option β) : Option β := match a with
  | .list u => intV z (kl u)
  | .dict ks vs => strV z (kd ks vs)
  | _ => Option.none
theorem setV.on {β : Type} {r : β} {a z : AV} {kl : List AV → Int → Option β} {kd : List Str → List AV → Str → Option β} {P : AV → AV → Prop} (h : setV a z kl kd = some r) (g1 : ∀ u n, kl u n = some r → P (.list u) (.int n)) (g2 : ∀ ks vs s, kd ks vs s = some r → P (.dict ks vs) (.str s)) : P a z :=
  AV.casesOn (motive_1 := fun a => setV a z kl kd = some r → P a z) a no (fun _ => no) (fun _ => no) (fun _ => no) (fun _ => no) (fun u h => intV.on (P := fun z => P (.list u) z) h fun n h => g1 u n h) (fun ks vs h => strV.on (P := fun z => P (.dict ks vs) z) h fun s h => g2 ks vs s h) (fun _ _ => no) (fun _ => no) h
noncomputable def nnone : Cm → Option (Bool → Bool)
  | .isN => some id
  | .isNotN => some not
  | _ => Option.none
noncomputable def fromV (a i : AV) : Option AV := intV i fun n => kindV a (fun _ => Option.none) (fun s => gd (0 ≤ n ∧ n ≤ s.length ∧ s.length ≤ lim) (some (.str ⟨(s.cps.toList.drop n.toNat).toArray⟩)))
  (fun u => gd (0 ≤ n ∧ n ≤ u.length ∧ small u = true) (some (.list (u.drop n.toNat)))) (fun _ => Option.none)
section
variable (Ta : Tab) (Φ : CallF)
noncomputable def ev : IE → Ev
  | .nil => { Ev.ofR fun _ _ => Option.none with l := fun _ c => some ([], c) }
  | .cons e es => { Ev.ofR fun _ _ => Option.none with l := fun l c => bd ((ev e).e l c) fun x c => bd ((ev es).l l c) fun y c => some (x :: y, c) }
  | .loc i => { Ev.ofR fun l c => valL l i fun a => some (.v a, c) with t := fun l c => (truL l i).map fun b => (b, c) }
  | .int n => .ofR fun _ c => some (.v (.int n), c)
  | .str s => .ofR fun _ c => some (.v (.str s), c)
  | .bool b => .ofR fun _ c => some (.v (.bool b), c)
  | .none => .ofR fun _ c => some (.v .none, c)
  | .attr e f => .ofR fun l c => bd ((ev e).e l c) fun x c => objV x fun k fs => (Ta.fieldIdx k f).bind fun j => fs[j]?.map fun a => (.v a, c)
  | .call f es => .ofR fun l c => bd ((ev es).l l c) fun x c => bd (Φ f x c) fun y c => some (.v y.av, c)
  | .callO f es => .ofR fun l c => bd ((ev es).l l c) fun x c => Φ f x c
  | .meth e m es => .ofR fun l c => bd ((ev e).e l c) fun x c => objV x fun k fs => (Ta.methOf k m).bind fun f => bd ((ev es).l l c) fun y c => bd (Φ f (.obj k fs :: y) c) fun z c => some (.v z.av, c)
  | .new k es => .ofR fun l c => bd ((ev es).l l c) fun x c => gd (x.length = Ta.nFields k) (some (.v (.obj k x), c))
  | .fresh => .ofR fun _ c => bd (Φ 36 [.obj 9 [.cell c.length, .cell (c.length + 1)], .tup []] (c ++ [.dict [] [], .dict [] []])) fun y c' => match y with
      | .v a => noneV a (some (.v (.obj 9 [.cell c.length, .cell (c.length + 1)]), c'))
      | .o _ => Option.none
  | .isi e k => .ofR fun l c => bd ((ev e).e l c) fun x c => objV x fun k' _ => gd (k' < 10) (some (.v (.bool (k' == k)), c))
  | .len e => .ofR fun l c => pl (plOf e (ev e) l c) l fun _ a c => (lenV a).map fun v => (.v v, c)
  | .copy e => .ofR fun l c => bd ((ev e).e l c) fun x c => dictV x fun ks vs => gd (ks.length ≤ lim) (some (.o (.dict ks vs), c))
  | .sorted e => .ofR fun l c => pl (plOf e (ev e) l c) l fun _ a c => dictV a fun ks _ => gd (ks.length ≤ 3) (some (.o (.list ((sortS ks).map .str)), c))
  | .strOf e => .ofR fun l c => bd ((ev e).e l c) fun x c => intV x fun n => gd (0 ≤ n ∧ n < 10 ^ 9) (some (.v (.str (Str.ofString (toString n))), c))
  | .intOf e => .ofR fun l c => bd ((ev e).e l c) fun x c => (toInt x).map fun v => (.v v, c)
  | .max a b => .ofR fun l c => bd ((ev a).e l c) fun x c => bd ((ev b).e l c) fun y c => int2 x y fun n m => some (.v (.int (if n < m then m else n)), c)
  | .tupOf e => .ofR fun l c => bd ((ev e).e l c) fun x c => listV x fun y => gd (small y = true) (some (.v (.tup y), c))
  | .rfind e a => .ofR fun l c => bd ((ev e).e l c) fun x c => bd ((ev a).e l c) fun y c => strV x fun s => strV y fun t => some (.v (.int (Txt.rfind s t)), c)
  | .isdigit e => .ofR fun l c => bd ((ev e).e l c) fun x c => strV x fun s => some (.v (.bool (Txt.isdigit s)), c)
  | .get1 e k => .ofR fun l c => pl (plOf e (ev e) l c) l fun p a0 c => gd (isDict a0 = true) (bd ((ev k).e l c) fun y c => (p.read l c).bind fun a => dictV a fun ks vs => strV y fun s => some (.v ((dget ks vs s).getD .none), c))
  | .get2 e k d => .ofR fun l c => pl (plOf e (ev e) l c) l fun p a0 c => gd (isDict a0 = true) (bd ((ev k).e l c) fun y c => bd ((ev d).e l c) fun z c => (p.read l c).bind fun a => dictV a fun ks vs => strV y fun s => some (.v ((dget ks vs s).getD z), c))
  | .bin o a b => .ofR fun l c => bd ((ev a).e l c) fun x c => bd ((ev b).e l c) fun y c => (abin o x y).map fun v => (.v v, c)
  | .neg e => .ofR fun l c => bd ((ev e).e l c) fun x c => intV x fun n => some (.v (.int (-n)), c)
  | .cmp o a b => .ofR fun l c => bd ((ev a).e l c) fun x c => (nnone o).elim (pl (plOf b (ev b) l c) l fun _ z c => (acmp o x z).map fun v => (.v (.bool v), c)) fun q => some (.v (.bool (q (isNone x))), c)
  | .and a b => { Ev.ofR fun l c => bd ((ev a).e l c) fun x c => boolV x fun q => if q = true then bd ((ev b).e l c) fun y c => some (.v y, c) else some (.v (.bool false), c) with
      t := fun l c => bd ((ev a).t l c) fun x c => if x = true then (ev b).t l c else some (false, c) }
  | .or a b => { Ev.ofR fun _ _ => Option.none with t := fun l c => bd ((ev a).t l c) fun x c => if x = true then some (true, c) else (ev b).t l c }
  | .not a => { Ev.ofR fun _ _ => Option.none with t := fun l c => bd ((ev a).t l c) fun x c => some (!x, c) }
  | .ite t a b => .ofR fun l c => bd ((ev t).t l c) fun x c => if x = true then (ev a).r l c else (ev b).r l c
  | .list es => .ofR fun l c => bd ((ev es).l l c) fun x c => gd (small x = true) (some (.o (.list x), c))
  | .tup es => .ofR fun l c => bd ((ev es).l l c) fun x c => gd (small x = true) (some (.v (.tup x), c))
  | .dict0 => .ofR fun _ c => some (.o (.dict [] []), c)
  | .dict1 k v => .ofR fun l c => bd ((ev k).e l c) fun x c => bd ((ev v).e l c) fun y c => strV x fun s => some (.o (.dict [s] [y]), c)
  | .idx e i => .ofR fun l c => bd (plOf e (ev e) l c) fun p c => bd ((ev i).e l c) fun y c => (p.read l c).bind fun a => (idxV a y).map fun v => (.v v, c)
  | .sliceTo e b => .ofR fun l c => bd ((ev e).e l c) fun x c => bd ((ev b).e l c) fun y c => strV x fun s => intV y fun n => gd (0 ≤ n ∧ n ≤ s.length ∧ s.length ≤ lim) (some (.v (.str ⟨(s.cps.toList.take n.toNat).toArray⟩), c))
  | .sliceFrom e a => .ofR fun l c => bd (plOf e (ev e) l c) fun p c => bd ((ev a).e l c) fun y c => (p.read l c).bind fun z => (fromV z y).map fun v => (.v v, c)
  | .range1 e => { Ev.ofR fun _ _ => Option.none with i := fun l c => bd ((ev e).e l c) fun x c => intV x fun n => gd (n ≤ lim ∧ -(lim : Int) ≤ n) (some ((List.range n.toNat).map fun j : Nat => AV.int (j : Int), c)) }
  | .range3 a b d => { Ev.ofR fun _ _ => Option.none with i := fun l c => bd ((ev a).e l c) fun x c => bd ((ev b).e l c) fun y c => bd ((ev d).e l c) fun z c => int2 x y fun n m => intV z fun k => gd (m = -1 ∧ k = -1 ∧ n ≤ lim ∧ -1 ≤ n) (some ((List.range (n + 1).toNat).map fun j : Nat => AV.int (n - (j : Int)), c)) }
  | .rev e => { Ev.ofR fun _ _ => Option.none with i := fun l c => bd ((ev e).e l c) fun x c => listV x fun y => gd (small y = true) (some (y.reverse, c)) }
  | .comp1 x caps elt it => .ofR fun l c => bd ((ev it).i l c) fun y c => gd (small y = true) ((capt l caps).bind fun l' => bd (compL (ev elt).e noCond (bind1 x) y l' c) fun z c => some (.v (.list z), c))
  | .comp1if x caps elt it cond => .ofR fun l c => bd ((ev it).i l c) fun y c => gd (small y = true) ((capt l caps).bind fun l' => bd (compL (ev elt).e (ev cond).t (bind1 x) y l' c) fun z c => some (.v (.list z), c))
  | .comp2 x y caps elt it => .ofR fun l c => bd ((ev it).i l c) fun u c => gd (small u = true) ((capt l caps).bind fun l' => bd (compL (ev elt).e noCond (bindT [x, y]) u l' c) fun z c => some (.v (.list z), c))

inductive Fl where
  | next
  | cont
  | ret (r : RV)

noncomputable def loopK (F : Loc → Cells → Option (Fl × Loc × Cells)) (f : Fl) (y : Loc × Cells) : Option (Fl × Loc × Cells) := match f with
  | .next => F y.1 y.2
  | .cont => F y.1 y.2
  | .ret r => some (.ret r, y)
noncomputable def endK (f : Fl) (y : Loc × Cells) : Option (RV × Cells) := match f with
  | .ret r => some (r, y.2)
  | .next => some (.v .none, y.2)
  | .cont => Option.none
noncomputable def forL (body : Loc → Cells → Option (Fl × Loc × Cells)) (bind : AV → Loc → Option Loc) : List AV → Loc → Cells → Option (Fl × Loc × Cells)
  | [], l, c => some (.next, l, c)
  | x :: xs, l, c => (bind x l).bind fun l' => bd (body l' c) (loopK (forL body bind xs))
noncomputable def whileL (t : Loc → Cells → Option (Bool × Cells)) (body : Loc → Cells → Option (Fl × Loc × Cells)) : Nat → Loc → Cells → Option (Fl × Loc × Cells)
  | 0, _, _ => Option.none
  | n + 1, l, c => bd (t l c) fun x c => if x = true then bd (body l c) (loopK (whileL t body n)) else some (.next, l, c)

noncomputable def isNext : Fl → Bool
  | .next => true
  | _ => false
/-- what follows a statement -/
noncomputable def seqK (F : Loc → Cells → Option (Fl × Loc × Cells)) (f : Fl) (y : Loc × Cells) : Option (Fl × Loc × Cells) := match f with
  | .next => F y.1 y.2
  | .cont => some (.cont, y)
  | .ret r => some (.ret r, y)
noncomputable def lastTup (l : List AV) : Option (List AV) := match l.getLast? with
  | some (.tup t) => some t
  | _ => Option.none

noncomputable def exs (W : Nat) : IS → Loc → Cells → Option (Fl × Loc × Cells)
  | .skip, l, c => some (.next, l, c)
  | .seq s rest, l, c => bd (exs W s l c) (seqK (exs W rest))
  | .asg i e, l, c => bd ((ev Ta Φ e).r l c) fun x c => some (.next, l.set i x.lv, c)
  | .asg2 i j a b, l, c => bd ((ev Ta Φ a).r l c) fun x c => bd ((ev Ta Φ b).r l c) fun y c => some (.next, (l.set i x.lv).set j y.lv, c)
  | .asgT is e, l, c => bd ((ev Ta Φ e).e l c) fun x c => (bindT is x l).map fun l' => (.next, l', c)
  | .popT is p, l, c => pl (plOf p (ev Ta Φ p) l c) l fun q a c => listV a fun y => gd (small y = true) ((lastTup y).bind fun t => bd (q.write l c (.list y.dropLast)) fun l c => (setAll is t l).map fun l' => (.next, l', c))
  | .setIdx p k v, l, c => bd ((ev Ta Φ v).e l c) fun x c => bd (plOf p (ev Ta Φ p) l c) fun q c => bd ((ev Ta Φ k).e l c) fun z c => (q.read l c).bind fun a => setV a z (fun u n => gd (0 ≤ n ∧ n < u.length ∧ small u = true) ((q.write l c (.list (u.set n.toNat x))).map fun o => (.next, o))) fun ks vs s => gd (ks.length ≤ lim) ((q.write l c (.dict (dput ks vs s x).1 (dput ks vs s x).2)).map fun o => (.next, o))
  | .aug i e, l, c => valL l i fun a => intV a fun n => bd ((ev Ta Φ e).e l c) fun x c => intV x fun m => some (.next, l.set i (.val (.int (n + m))), c)
  | .ret e, l, c => bd ((ev Ta Φ e).r l c) fun x c => some (.ret x, l, c)
  | .ifs t a b, l, c => bd ((ev Ta Φ t).t l c) fun x c => if x = true then exs W a l c else exs W b l c
  | .for1 i it body, l, c => bd ((ev Ta Φ it).i l c) fun x c => gd (small x = true) (forL (exs W body) (bind1 i) x l c)
  | .forT is it body, l, c => bd ((ev Ta Φ it).i l c) fun x c => gd (small x = true) (forL (exs W body) (bindT is) x l c)
  | .whil t body, l, c => whileL (ev Ta Φ t).t (exs W body) W l c
  | .append p e, l, c => pl (plOf p (ev Ta Φ p) l c) l fun q a0 c => gd (isList a0 = true) (bd ((ev Ta Φ e).e l c) fun y c => (q.read l c).bind fun a => listV a fun u => gd (small u = true) ((q.write l c (.list (u ++ [y]))).map fun o => (.next, o)))
  | .expr e, l, c => bd ((ev Ta Φ e).e l c) fun x c => noneV x (some (.next, l, c))
  | .delFrom p a, l, c => bd (plOf p (ev Ta Φ p) l c) fun q c => bd ((ev Ta Φ a).e l c) fun y c => (q.read l c).bind fun z => listV z fun u => intV y fun n => gd (0 ≤ n ∧ n ≤ u.length ∧ small u = true) ((q.write l c (.list (u.take n.toNat))).map fun o => (.next, o))
  | .cont, l, c => some (.cont, l, c)
  | .freeze i, l, c => ownL l i fun a => some (.next, l.set i (.val a), c)
  | .promote i, l, c => ownL l i fun a => some (.next, l.set i (.val (.cell c.length)), c ++ [a])
end

structure FD where
  np : Nat
  nv : Nat
  body : IS

/-- calls of depth d, loops of at most W turns -/
noncomputable def callF (Ta : Tab) (fun? : Nat → Option FD) (W : Nat) : Nat → CallF
  | 0 => fun _ _ _ => Option.none
  | d + 1 => fun f args c => (fun? f).bind fun F => gd (args.length = F.np) (bd (exs Ta (callF Ta fun? W d) W F.body (args.map .val ++ List.replicate (F.nv - F.np) .un) c) endK)
end Mine
end
section
open PySem PySem.W PyProof.Rows
set_option Elab.async false
set_option maxRecDepth 100000
namespace Mine
noncomputable def sx0 : Str := Str.ofString "f"
noncomputable def sx1 : Str := Str.ofString "con"
noncomputable def sx2 : Str := Str.ofString "lit"
noncomputable def sx3 : Str := Str.ofString "."
noncomputable def sx4 : Str := Str.ofString "int"
noncomputable def sx5 : Str := Str.ofString "s"
noncomputable def sx6 : Str := Str.ofString "t"
noncomputable def sx7 : Str := Str.ofString "cell"
noncomputable def sx8 : Str := Str.ofString "C"
noncomputable def sx9 : Str := Str.ofString "D"
noncomputable def sx10 : Str := Str.ofString "n"
noncomputable def sx11 : Str := Str.ofString "b"
noncomputable def sx12 : Str := Str.ofString "a"
-- 0 Var.groups: 0=self
noncomputable def b0 : IS := (.seq (.ret (.list .nil))
  .skip)
-- 1 Var.parts: 0=self
noncomputable def b1 : IS := (.seq (.ret (.list .nil))
  .skip)
-- 2 Var.rebuilt: 0=self 1=groups 2=parts
noncomputable def b2 : IS := (.seq (.ret (.loc 0))
  .skip)
-- 3 Lit.groups: 0=self
noncomputable def b3 : IS := (.seq (.ret (.list .nil))
  .skip)
-- 4 Lit.parts: 0=self
noncomputable def b4 : IS := (.seq (.ret (.list .nil))
  .skip)
-- 5 Lit.rebuilt: 0=self 1=groups 2=parts
noncomputable def b5 : IS := (.seq (.ret (.loc 0))
  .skip)
-- 6 Lam.groups: 0=self
noncomputable def b6 : IS := (.seq (.ret (.list (.cons (.attr (.loc 0) 3) .nil)))
  .skip)
-- 7 Lam.parts: 0=self
noncomputable def b7 : IS := (.seq (.ret (.list (.cons (.tup (.cons (.attr (.loc 0) 4) (.cons (.tup (.cons (.int 0) .nil)) .nil))) .nil)))
  .skip)
-- 8 Lam.rebuilt: 0=self 1=groups 2=parts
noncomputable def b8 : IS := (.seq (.ret (.new 2 (.cons (.idx (.loc 1) (.int 0)) (.cons (.idx (.loc 2) (.int 0)) .nil))))
  .skip)
-- 9 Let.groups: 0=self 1=name 2=expr
noncomputable def b9 : IS := (.seq (.ret (.list (.cons (.comp2 1 2 [] (.loc 1) (.attr (.loc 0) 5)) .nil)))
  .skip)
-- 10 Let.parts: 0=self 1=scope 2=name 3=expr
noncomputable def b10 : IS := (.seq (.asg 1 (.ite (.attr (.loc 0) 6) (.tup (.cons (.int 0) .nil)) (.tup .nil)))
  (.seq (.ret (.bin .add (.comp2 2 3 [1] (.tup (.cons (.loc 3) (.cons (.loc 1) .nil))) (.attr (.loc 0) 5)) (.list (.cons (.tup (.cons (.attr (.loc 0) 4) (.cons (.tup (.cons (.int 0) .nil)) .nil))) .nil))))
  .skip))
-- 11 Let.rebuilt: 0=self 1=groups 2=parts 3=binds 4=at
noncomputable def b11 : IS := (.seq (.asg 3 (.comp1 4 [1, 2] (.tup (.cons (.idx (.idx (.loc 1) (.int 0)) (.loc 4)) (.cons (.idx (.loc 2) (.loc 4)) .nil))) (.range1 (.len (.attr (.loc 0) 5)))))
  (.seq (.ret (.new 3 (.cons (.loc 3) (.cons (.idx (.loc 2) (.neg (.int 1))) (.cons (.attr (.loc 0) 6) .nil)))))
  .skip))
-- 12 Case.groups: 0=self 1=alt
noncomputable def b12 : IS := (.seq (.ret (.bin .add (.list (.cons (.list (.cons (.attr (.loc 0) 0) .nil)) .nil)) (.comp1 1 [] (.attr (.loc 1) 8) (.attr (.loc 0) 9))))
  .skip)
-- 13 Case.parts: 0=self 1=found 2=at
noncomputable def b13 : IS := (.seq (.asg 1 (.list (.cons (.tup (.cons (.attr (.loc 0) 2) (.cons (.tup .nil) .nil))) .nil)))
  (.seq (.for1 2 (.range1 (.len (.attr (.loc 0) 9)))
  (.seq (.append (.loc 1) (.tup (.cons (.attr (.idx (.attr (.loc 0) 9) (.loc 2)) 4) (.cons (.tup (.cons (.int 0) (.cons (.bin .add (.loc 2) (.int 1)) .nil))) .nil))))
  .skip))
  (.seq (.freeze 1)
  (.seq (.ret (.ite (.cmp .isN (.attr (.loc 0) 10) .none) (.loc 1) (.bin .add (.loc 1) (.list (.cons (.tup (.cons (.attr (.loc 0) 10) (.cons (.tup (.cons (.int 0) .nil)) .nil))) .nil)))))
  .skip))))
-- 14 Case.rebuilt: 0=self 1=groups 2=parts 3=alts 4=at
noncomputable def b14 : IS := (.seq (.asg 3 (.list .nil))
  (.seq (.for1 4 (.range1 (.len (.attr (.loc 0) 9)))
  (.seq (.append (.loc 3) (.new 4 (.cons (.attr (.idx (.attr (.loc 0) 9) (.loc 4)) 7) (.cons (.idx (.loc 1) (.bin .add (.loc 4) (.int 1))) (.cons (.idx (.loc 2) (.bin .add (.loc 4) (.int 1))) .nil)))))
  .skip))
  (.seq (.freeze 3)
  (.seq (.ret (.new 5 (.cons (.idx (.loc 2) (.int 0)) (.cons (.idx (.idx (.loc 1) (.int 0)) (.int 0)) (.cons (.loc 3) (.cons (.ite (.cmp .isN (.attr (.loc 0) 10) .none) .none (.idx (.loc 2) (.neg (.int 1)))) .nil))))))
  .skip))))
-- 15 Con.groups: 0=self
noncomputable def b15 : IS := (.seq (.ret (.list .nil))
  .skip)
-- 16 Con.parts: 0=self 1=arg
noncomputable def b16 : IS := (.seq (.ret (.comp1 1 [] (.tup (.cons (.loc 1) (.cons (.tup .nil) .nil))) (.attr (.loc 0) 11)))
  .skip)
-- 17 Con.rebuilt: 0=self 1=groups 2=parts
noncomputable def b17 : IS := (.seq (.ret (.new 6 (.cons (.attr (.loc 0) 0) (.cons (.loc 2) .nil))))
  .skip)
-- 18 scoped: 0=names 1=groups 2=scope 3=found 4=number 5=name
noncomputable def b18 : IS := (.seq (.ifs (.cmp .eq (.loc 2) (.tup .nil))
  (.seq (.ret (.loc 0))
  .skip)
  .skip)
  (.seq (.asg 3 (.copy (.loc 0)))
  (.seq (.for1 4 (.loc 2)
  (.seq (.for1 5 (.idx (.loc 1) (.loc 4))
  (.seq (.setIdx (.loc 3) (.loc 5) (.bool true))
  .skip))
  .skip))
  (.seq (.freeze 3)
  (.seq (.ret (.loc 3))
  .skip)))))
-- 19 free_names: 0=expr 1=found 2=tasks 3=groups 4=node 5=bound 6=part 7=scope
noncomputable def b19 : IS := (.seq (.asg2 1 2 .dict0 (.list (.cons (.tup (.cons (.loc 0) (.cons .dict0 .nil))) .nil)))
  (.seq (.whil (.loc 2)
  (.seq (.popT [4, 5] (.loc 2))
  (.seq (.ifs (.isi (.loc 4) 0)
  (.seq (.ifs (.cmp .notIn (.attr (.loc 4) 0) (.loc 5))
  (.seq (.setIdx (.loc 1) (.attr (.loc 4) 0) (.bool true))
  .skip)
  .skip)
  (.seq .cont
  .skip))
  .skip)
  (.seq (.asg 3 (.meth (.loc 4) 0 .nil))
  (.seq (.forT [6, 7] (.meth (.loc 4) 1 .nil)
  (.seq (.append (.loc 2) (.tup (.cons (.loc 6) (.cons (.call 18 (.cons (.loc 5) (.cons (.loc 3) (.cons (.loc 7) .nil)))) .nil))))
  .skip))
  .skip)))))
  (.seq (.ret (.sorted (.loc 1)))
  .skip)))
-- 20 Renamer.new_groups: 0=self 1=groups 2=group 3=name
noncomputable def b20 : IS := (.seq (.ret (.comp1 2 [0] (.comp1 3 [0] (.meth (.attr (.loc 0) 12) 10 (.cons (.loc 3) .nil)) (.loc 2)) (.loc 1)))
  .skip)
-- 21 Renamer.inner: 0=self 1=names 2=scope 3=groups 4=news 5=found 6=number 7=at
noncomputable def b21 : IS := (.seq (.ifs (.cmp .eq (.loc 2) (.tup .nil))
  (.seq (.ret (.loc 1))
  .skip)
  .skip)
  (.seq (.asg 5 (.copy (.loc 1)))
  (.seq (.for1 6 (.loc 2)
  (.seq (.for1 7 (.range1 (.len (.idx (.loc 3) (.loc 6))))
  (.seq (.setIdx (.loc 5) (.idx (.idx (.loc 3) (.loc 6)) (.loc 7)) (.idx (.idx (.loc 4) (.loc 6)) (.loc 7)))
  .skip))
  .skip))
  (.seq (.freeze 5)
  (.seq (.ret (.loc 5))
  .skip)))))
-- 22 Renamer.leaf: 0=self 1=node 2=names 3=found
noncomputable def b22 : IS := (.seq (.ifs (.not (.isi (.loc 1) 0))
  (.seq (.ret (.loc 1))
  .skip)
  .skip)
  (.seq (.ifs (.cmp .isIn (.attr (.loc 1) 0) (.loc 2))
  (.seq (.ret (.new 0 (.cons (.idx (.loc 2) (.attr (.loc 1) 0)) .nil)))
  .skip)
  .skip)
  (.seq (.asg 3 (.get1 (.attr (.loc 0) 13) (.attr (.loc 1) 0)))
  (.seq (.ret (.ite (.cmp .isN (.loc 3) .none) (.loc 1) (.meth (.new 7 (.cons (.attr (.loc 0) 12) (.cons .dict0 .nil))) 6 (.cons (.loc 3) .nil))))
  .skip))))
-- 23 Renamer.run: 0=self 1=expr 2=tasks 3=done 4=parts 5=node 6=names 7=news 8=groups 9=many 10=found 11=part 12=scope
noncomputable def b23 : IS := (.seq (.asg2 2 3 (.list (.cons (.tup (.cons (.loc 1) (.cons .dict0 (.cons .none .nil)))) .nil)) (.list .nil))
  (.seq (.whil (.loc 2)
  (.seq (.popT [5, 6, 7] (.loc 2))
  (.seq (.asg 4 (.meth (.loc 5) 1 .nil))
  (.seq (.ifs (.cmp .eq (.loc 4) (.list .nil))
  (.seq (.append (.loc 3) (.meth (.loc 0) 5 (.cons (.loc 5) (.cons (.loc 6) .nil))))
  .skip)
  (.seq (.ifs (.cmp .isN (.loc 7) .none)
  (.seq (.asg 8 (.meth (.loc 5) 0 .nil))
  (.seq (.asg 7 (.meth (.loc 0) 3 (.cons (.loc 8) .nil)))
  (.seq (.append (.loc 2) (.tup (.cons (.loc 5) (.cons (.loc 6) (.cons (.loc 7) .nil)))))
  (.seq (.forT [11, 12] (.rev (.loc 4))
  (.seq (.append (.loc 2) (.tup (.cons (.loc 11) (.cons (.meth (.loc 0) 4 (.cons (.loc 6) (.cons (.loc 12) (.cons (.loc 8) (.cons (.loc 7) .nil))))) (.cons .none .nil)))))
  .skip))
  .skip))))
  (.seq (.asg 9 (.len (.loc 4)))
  (.seq (.asg 10 (.meth (.loc 5) 2 (.cons (.loc 7) (.cons (.sliceFrom (.loc 3) (.bin .sub (.len (.loc 3)) (.loc 9))) .nil))))
  (.seq (.delFrom (.loc 3) (.bin .sub (.len (.loc 3)) (.loc 9)))
  (.seq (.append (.loc 3) (.loc 10))
  .skip)))))
  .skip))
  .skip))))
  (.seq (.ret (.idx (.loc 3) (.int 0)))
  .skip)))
-- 24 renamed: 0=expr 1=fresh
noncomputable def b24 : IS := (.seq (.ret (.meth (.new 7 (.cons (.loc 1) (.cons .dict0 .nil))) 6 (.cons (.loc 0) .nil)))
  .skip)
-- 25 fields_bound: 0=con 1=fresh 2=binds 3=arg 4=name
noncomputable def b25 : IS := (.seq (.asg 2 (.comp1 3 [1] (.tup (.cons (.meth (.loc 1) 10 (.cons (.str sx0) .nil)) (.cons (.loc 3) .nil))) (.attr (.loc 0) 11)))
  (.seq (.ret (.tup (.cons (.loc 2) (.cons (.new 6 (.cons (.attr (.loc 0) 0) (.cons (.comp2 4 3 [] (.new 0 (.cons (.loc 4) .nil)) (.loc 2)) .nil))) .nil))))
  .skip))
-- 26 with_lets: 0=rows 1=body 2=binds
noncomputable def b26 : IS := (.seq (.for1 2 (.rev (.loc 0))
  (.seq (.ifs (.cmp .ne (.loc 2) (.list .nil))
  (.seq (.asg 1 (.new 3 (.cons (.loc 2) (.cons (.loc 1) (.cons (.bool false) .nil)))))
  .skip)
  .skip)
  .skip))
  (.seq (.ret (.loc 1))
  .skip))
-- 27 way_of_con: 0=case 1=name 2=alt
noncomputable def b27 : IS := (.seq (.for1 2 (.attr (.loc 0) 9)
  (.seq (.ifs (.cmp .eq (.attr (.loc 2) 7) (.tup (.cons (.str sx1) (.cons (.loc 1) .nil))))
  (.seq (.ret (.loc 2))
  .skip)
  .skip)
  .skip))
  (.seq (.ret .none)
  .skip))
-- 28 known_con: 0=expr 1=fresh 2=case 3=opened 4=alt 5=fields 6=binds 7=cell 8=at
noncomputable def b28 : IS := (.seq (.asg 2 (.new 5 (.cons (.attr (.loc 0) 2) (.cons (.attr (.loc 0) 0) (.cons (.attr (.loc 0) 9) (.cons (.attr (.loc 0) 10) .nil))))))
  (.seq (.asgT [6, 7] (.call 25 (.cons (.attr (.loc 2) 2) (.cons (.loc 1) .nil))))
  (.seq (.asg 3 (.call 24 (.cons (.new 5 (.cons (.loc 7) (.cons (.attr (.loc 2) 0) (.cons (.attr (.loc 2) 9) (.cons (.attr (.loc 2) 10) .nil))))) (.cons (.loc 1) .nil))))
  (.seq (.asg 4 (.call 27 (.cons (.loc 3) (.cons (.attr (.loc 7) 0) .nil))))
  (.seq (.ifs (.cmp .isN (.loc 4) .none)
  (.seq (.ret (.ite (.cmp .isN (.attr (.loc 3) 10) .none) (.loc 0) (.call 26 (.cons (.list (.cons (.loc 6) (.cons (.list (.cons (.tup (.cons (.attr (.loc 3) 0) (.cons (.loc 7) .nil))) .nil)) .nil))) (.cons (.attr (.loc 3) 10) .nil)))))
  .skip)
  .skip)
  (.seq (.asg 5 (.comp1 8 [4, 7] (.tup (.cons (.idx (.attr (.loc 4) 8) (.loc 8)) (.cons (.idx (.attr (.loc 7) 11) (.loc 8)) .nil))) (.range1 (.len (.attr (.loc 4) 8)))))
  (.seq (.ret (.call 26 (.cons (.list (.cons (.loc 6) (.cons (.list (.cons (.tup (.cons (.attr (.loc 3) 0) (.cons (.loc 7) .nil))) .nil)) (.cons (.loc 5) .nil)))) (.cons (.attr (.loc 4) 4) .nil))))
  .skip)))))))
-- 29 known_lit: 0=expr 1=fresh 2=opened 3=key 4=alt
noncomputable def b29 : IS := (.seq (.asg 2 (.call 24 (.cons (.loc 0) (.cons (.loc 1) .nil))))
  (.seq (.asg 3 (.tup (.cons (.str sx2) (.cons (.attr (.attr (.loc 0) 2) 1) (.cons (.attr (.attr (.loc 0) 2) 2) .nil)))))
  (.seq (.for1 4 (.attr (.loc 2) 9)
  (.seq (.ifs (.cmp .eq (.attr (.loc 4) 7) (.loc 3))
  (.seq (.ret (.new 3 (.cons (.list (.cons (.tup (.cons (.attr (.loc 2) 0) (.cons (.attr (.loc 0) 2) .nil))) .nil)) (.cons (.attr (.loc 4) 4) (.cons (.bool false) .nil)))))
  .skip)
  .skip)
  .skip))
  (.seq (.ret (.ite (.cmp .isN (.attr (.loc 2) 10) .none) (.loc 0) (.new 3 (.cons (.list (.cons (.tup (.cons (.attr (.loc 2) 0) (.cons (.attr (.loc 0) 2) .nil))) .nil)) (.cons (.attr (.loc 2) 10) (.cons (.bool false) .nil))))))
  .skip))))
-- 30 known_case: 0=expr 1=fresh 2=opened
noncomputable def b30 : IS := (.seq (.ifs (.not (.isi (.loc 0) 5))
  (.seq (.ret (.loc 0))
  .skip)
  .skip)
  (.seq (.ifs (.isi (.attr (.loc 0) 2) 6)
  (.seq (.ret (.call 28 (.cons (.loc 0) (.cons (.loc 1) .nil))))
  .skip)
  .skip)
  (.seq (.ifs (.isi (.attr (.loc 0) 2) 1)
  (.seq (.ret (.call 29 (.cons (.loc 0) (.cons (.loc 1) .nil))))
  .skip)
  .skip)
  (.seq (.ifs (.and (.isi (.attr (.loc 0) 2) 2) (.and (.cmp .eq (.attr (.loc 0) 9) (.list .nil)) (.cmp .isNotN (.attr (.loc 0) 10) .none)))
  (.seq (.asg 2 (.call 24 (.cons (.loc 0) (.cons (.loc 1) .nil))))
  (.seq (.ret (.new 3 (.cons (.list (.cons (.tup (.cons (.attr (.loc 2) 0) (.cons (.attr (.loc 2) 2) .nil))) .nil)) (.cons (.attr (.loc 2) 10) (.cons (.bool false) .nil)))))
  .skip))
  .skip)
  (.seq (.ret (.loc 0))
  .skip)))))
-- 31 Facts.known_in: 0=self 1=node 2=number 3=known 4=alt 5=cell 6=found 7=name
noncomputable def b31 : IS := (.seq (.ifs (.or (.not (.isi (.loc 1) 5)) (.or (.cmp .eq (.loc 2) (.int 0)) (.cmp .gt (.loc 2) (.len (.attr (.loc 1) 9)))))
  (.seq (.ret (.loc 3))
  .skip)
  .skip)
  (.seq (.asg 4 (.idx (.attr (.loc 1) 9) (.bin .sub (.loc 2) (.int 1))))
  (.seq (.asg 5 (.new 6 (.cons (.idx (.attr (.loc 4) 7) (.int 1)) (.cons (.comp1 7 [] (.new 0 (.cons (.loc 7) .nil)) (.attr (.loc 4) 8)) .nil))))
  (.seq (.ifs (.cmp .eq (.idx (.attr (.loc 4) 7) (.int 0)) (.str sx2))
  (.seq (.asg 5 (.new 1 (.cons (.idx (.attr (.loc 4) 7) (.int 1)) (.cons (.idx (.attr (.loc 4) 7) (.int 2)) .nil))))
  .skip)
  .skip)
  (.seq (.asg 6 (.copy (.loc 3)))
  (.seq (.setIdx (.loc 6) (.attr (.loc 1) 0) (.loc 5))
  (.seq (.ifs (.isi (.attr (.loc 1) 2) 0)
  (.seq (.setIdx (.loc 6) (.attr (.attr (.loc 1) 2) 0) (.loc 5))
  .skip)
  .skip)
  (.seq (.freeze 6)
  (.seq (.ret (.loc 6))
  .skip)))))))))
-- 32 Facts.looked_at: 0=self 1=node 2=known
noncomputable def b32 : IS := (.seq (.ifs (.and (.isi (.loc 1) 5) (.and (.isi (.attr (.loc 1) 2) 0) (.cmp .isIn (.attr (.attr (.loc 1) 2) 0) (.loc 2))))
  (.seq (.ret (.new 5 (.cons (.idx (.loc 2) (.attr (.attr (.loc 1) 2) 0)) (.cons (.attr (.loc 1) 0) (.cons (.attr (.loc 1) 9) (.cons (.attr (.loc 1) 10) .nil))))))
  .skip)
  .skip)
  (.seq (.ret (.loc 1))
  .skip))
-- 33 Facts.run: 0=self 1=expr 2=tasks 3=done 4=node 5=parts 6=at 7=known 8=is_ready 9=many 10=found
noncomputable def b33 : IS := (.seq (.asg2 2 3 (.list (.cons (.tup (.cons (.loc 1) (.cons .dict0 (.cons (.bool false) .nil)))) .nil)) (.list .nil))
  (.seq (.whil (.loc 2)
  (.seq (.popT [4, 7, 8] (.loc 2))
  (.seq (.ifs (.loc 8)
  (.seq (.asg 9 (.len (.meth (.loc 4) 1 .nil)))
  (.seq (.asg 10 (.meth (.loc 4) 2 (.cons (.meth (.loc 4) 0 .nil) (.cons (.sliceFrom (.loc 3) (.bin .sub (.len (.loc 3)) (.loc 9))) .nil))))
  (.seq (.delFrom (.loc 3) (.bin .sub (.len (.loc 3)) (.loc 9)))
  (.seq (.append (.loc 3) (.loc 10))
  (.seq .cont
  .skip)))))
  .skip)
  (.seq (.asg 4 (.ite (.isi (.loc 4) 5) (.call 30 (.cons (.meth (.loc 0) 8 (.cons (.loc 4) (.cons (.loc 7) .nil))) (.cons (.attr (.loc 0) 12) .nil))) (.loc 4)))
  (.seq (.asg 5 (.meth (.loc 4) 1 .nil))
  (.seq (.ifs (.cmp .eq (.loc 5) (.list .nil))
  (.seq (.append (.loc 3) (.loc 4))
  (.seq .cont
  .skip))
  .skip)
  (.seq (.append (.loc 2) (.tup (.cons (.loc 4) (.cons (.loc 7) (.cons (.bool true) .nil)))))
  (.seq (.for1 6 (.range3 (.bin .sub (.len (.loc 5)) (.int 1)) (.neg (.int 1)) (.neg (.int 1)))
  (.seq (.append (.loc 2) (.tup (.cons (.idx (.idx (.loc 5) (.loc 6)) (.int 0)) (.cons (.meth (.loc 0) 7 (.cons (.loc 4) (.cons (.loc 6) (.cons (.loc 7) .nil)))) (.cons (.bool false) .nil)))))
  .skip))
  .skip))))))))
  (.seq (.ret (.idx (.loc 3) (.int 0)))
  .skip)))
-- 34 known_again: 0=expr 1=fresh
noncomputable def b34 : IS := (.seq (.expr (.meth (.loc 1) 9 (.cons (.call 19 (.cons (.loc 0) .nil)) .nil)))
  (.seq (.ret (.meth (.new 8 (.cons (.loc 1) .nil)) 6 (.cons (.call 24 (.cons (.loc 0) (.cons (.loc 1) .nil))) .nil)))
  .skip))
-- 35 base_of: 0=name 1=at
noncomputable def b35 : IS := (.seq (.asg 1 (.rfind (.loc 0) (.str sx3)))
  (.seq (.ret (.ite (.and (.cmp .gt (.loc 1) (.int 0)) (.isdigit (.sliceFrom (.loc 0) (.bin .add (.loc 1) (.int 1))))) (.sliceTo (.loc 0) (.loc 1)) (.loc 0)))
  .skip))
-- 36 Fresh.avoid: 0=self 1=names 2=name
noncomputable def b36 : IS := (.seq (.for1 2 (.loc 1)
  (.seq (.setIdx (.attr (.loc 0) 14) (.loc 2) (.bool true))
  .skip))
  .skip)
-- 37 Fresh.next: 0=self 1=base 2=told 3=number
noncomputable def b37 : IS := (.seq (.asg 2 (.call 35 (.cons (.loc 1) .nil)))
  (.seq (.asg 3 (.bin .add (.get2 (.attr (.loc 0) 15) (.loc 2) (.int 0)) (.int 1)))
  (.seq (.whil (.cmp .isIn (.bin .add (.bin .add (.loc 2) (.str sx3)) (.strOf (.loc 3))) (.attr (.loc 0) 14))
  (.seq (.aug 3 (.int 1))
  .skip))
  (.seq (.setIdx (.attr (.loc 0) 15) (.loc 2) (.loc 3))
  (.seq (.ret (.bin .add (.bin .add (.loc 2) (.str sx3)) (.strOf (.loc 3))))
  .skip)))))
-- 38 _law_pool: 0=script 1=k 2=cell 3=big 4=mixed
noncomputable def b38 : IS := (.seq (.asg 2 (.int 0))
  (.seq (.ifs (.cmp .lt (.loc 1) (.len (.loc 0)))
  (.seq (.asg 2 (.idx (.loc 0) (.loc 1)))
  .skip)
  .skip)
  (.seq (.asg 3 (.max (.intOf (.loc 2)) (.intOf (.bin .sub (.neg (.int 1)) (.loc 2)))))
  (.seq (.asg 4 (.bin .mod (.intOf (.bin .mul (.bin .add (.bin .add (.bin .add (.bin .mod (.intOf (.loc 3)) (.int 2147483629)) (.bin .mul (.bin .mul (.int 7919) (.loc 1)) (.loc 1))) (.bin .mul (.int 31) (.loc 1))) (.int 17)) (.int 48271))) (.int 2147483647)))
  (.seq (.ret (.list (.cons (.bin .mul (.loc 3) (.intOf (.cmp .ge (.loc 3) (.bin .pow (.int 10) (.int 18))))) (.cons (.loc 4) .nil))))
  .skip)))))
-- 39 _law_take: 0=source 1=top 2=digit
noncomputable def b39 : IS := (.seq (.ifs (.cmp .gt (.idx (.loc 0) (.int 0)) (.int 0))
  (.seq (.asg 2 (.bin .mod (.intOf (.idx (.loc 0) (.int 0))) (.loc 1)))
  (.seq (.setIdx (.loc 0) (.int 0) (.bin .fdiv (.idx (.loc 0) (.int 0)) (.loc 1)))
  (.seq (.ret (.loc 2))
  .skip)))
  .skip)
  (.seq (.setIdx (.loc 0) (.int 1) (.bin .mod (.intOf (.bin .add (.bin .mul (.idx (.loc 0) (.int 1)) (.int 39373)) (.int 7))) (.int 2147483647)))
  (.seq (.ret (.bin .mod (.intOf (.bin .fdiv (.bin .mod (.intOf (.bin .mul (.idx (.loc 0) (.int 1)) (.idx (.loc 0) (.int 1)))) (.int 2147483629)) (.int 32))) (.loc 1)))
  .skip)))
-- 40 _law_one: 0=source 1=things
noncomputable def b40 : IS := (.seq (.ret (.idx (.loc 1) (.call 39 (.cons (.loc 0) (.cons (.len (.loc 1)) .nil)))))
  .skip)
-- 41 _law_end: 0=box
noncomputable def b41 : IS := (.seq (.setIdx (.loc 0) (.int 0) (.bin .add (.idx (.loc 0) (.int 0)) (.int 1)))
  (.seq (.ret (.new 1 (.cons (.str sx4) (.cons (.bin .add (.int 100) (.idx (.loc 0) (.int 0))) .nil))))
  .skip))
-- 42 _law_tree: 0=source 1=box 2=names 3=deep 4=name 5=sort 6=own 7=field 8=inner 9=alts 10=number
noncomputable def b42 : IS := (.seq (.ifs (.cmp .eq (.loc 3) (.int 0))
  (.seq (.ret (.call 41 (.cons (.loc 1) .nil)))
  .skip)
  .skip)
  (.seq (.asgT [4, 5] (.call 40 (.cons (.loc 0) (.cons (.loc 2) .nil))))
  (.seq (.asg2 6 7 (.bin .add (.str sx5) (.strOf (.loc 3))) (.bin .add (.str sx6) (.strOf (.loc 3))))
  (.seq (.asg2 8 9 (.bin .add (.loc 2) (.list (.cons (.tup (.cons (.loc 6) (.cons (.loc 5) .nil))) .nil))) (.list .nil))
  (.seq (.ifs (.cmp .eq (.loc 5) (.str sx7))
  (.seq (.ifs (.cmp .gt (.call 39 (.cons (.loc 0) (.cons (.int 4) .nil))) (.int 0))
  (.seq (.append (.loc 9) (.new 4 (.cons (.tup (.cons (.str sx1) (.cons (.str sx8) .nil))) (.cons (.list (.cons (.loc 7) .nil)) (.cons (.call 42 (.cons (.loc 0) (.cons (.loc 1) (.cons (.bin .add (.loc 8) (.list (.cons (.tup (.cons (.loc 7) (.cons (.str sx4) .nil))) .nil))) (.cons (.bin .sub (.loc 3) (.int 1)) .nil))))) .nil)))))
  .skip)
  .skip)
  (.seq (.ifs (.cmp .eq (.call 39 (.cons (.loc 0) (.cons (.int 2) .nil))) (.int 0))
  (.seq (.append (.loc 9) (.new 4 (.cons (.tup (.cons (.str sx1) (.cons (.str sx9) .nil))) (.cons (.list .nil) (.cons (.call 42 (.cons (.loc 0) (.cons (.loc 1) (.cons (.loc 8) (.cons (.bin .sub (.loc 3) (.int 1)) .nil))))) .nil)))))
  .skip)
  .skip)
  .skip))
  (.seq (.for1 10 (.range1 (.bin .add (.int 1) (.call 39 (.cons (.loc 0) (.cons (.int 2) .nil)))))
  (.seq (.append (.loc 9) (.new 4 (.cons (.tup (.cons (.str sx2) (.cons (.str sx4) (.cons (.loc 10) .nil)))) (.cons (.list .nil) (.cons (.call 42 (.cons (.loc 0) (.cons (.loc 1) (.cons (.loc 8) (.cons (.bin .sub (.loc 3) (.int 1)) .nil))))) .nil)))))
  .skip))
  .skip))
  (.seq (.freeze 9)
  (.seq (.ret (.new 5 (.cons (.new 0 (.cons (.loc 4) .nil)) (.cons (.loc 6) (.cons (.loc 9) (.cons (.call 42 (.cons (.loc 0) (.cons (.loc 1) (.cons (.loc 8) (.cons (.bin .sub (.loc 3) (.int 1)) .nil))))) .nil))))))
  .skip)))))))
-- 43 _law_worth: 0=expr 1=env 2=inner 3=value 4=alt 5=name 6=at 7=arg
noncomputable def b43 : IS := (.seq (.ifs (.isi (.loc 0) 1)
  (.seq (.ret (.tup (.cons (.str sx4) (.cons (.attr (.loc 0) 2) .nil))))
  .skip)
  .skip)
  (.seq (.ifs (.isi (.loc 0) 0)
  (.seq (.ret (.idx (.loc 1) (.attr (.loc 0) 0)))
  .skip)
  .skip)
  (.seq (.ifs (.isi (.loc 0) 6)
  (.seq (.ret (.bin .add (.tup (.cons (.attr (.loc 0) 0) .nil)) (.tupOf (.comp1 7 [1] (.call 43 (.cons (.loc 7) (.cons (.loc 1) .nil))) (.attr (.loc 0) 11)))))
  .skip)
  .skip)
  (.seq (.asg 2 (.copy (.loc 1)))
  (.seq (.ifs (.not (.isi (.loc 0) 5))
  (.seq (.forT [5, 3] (.attr (.loc 0) 5)
  (.seq (.setIdx (.loc 2) (.loc 5) (.call 43 (.cons (.loc 3) (.cons (.loc 1) .nil))))
  .skip))
  (.seq (.freeze 2)
  (.seq (.ret (.call 43 (.cons (.attr (.loc 0) 4) (.cons (.loc 2) .nil))))
  .skip)))
  .skip)
  (.seq (.asg 3 (.call 43 (.cons (.attr (.loc 0) 2) (.cons (.loc 1) .nil))))
  (.seq (.setIdx (.loc 2) (.attr (.loc 0) 0) (.loc 3))
  (.seq (.for1 4 (.attr (.loc 0) 9)
  (.seq (.ifs (.or (.cmp .eq (.attr (.loc 4) 7) (.tup (.cons (.str sx1) (.cons (.idx (.loc 3) (.int 0)) .nil)))) (.cmp .eq (.attr (.loc 4) 7) (.bin .add (.tup (.cons (.str sx2) .nil)) (.loc 3))))
  (.seq (.for1 6 (.range1 (.len (.attr (.loc 4) 8)))
  (.seq (.setIdx (.loc 2) (.idx (.attr (.loc 4) 8) (.loc 6)) (.idx (.loc 3) (.bin .add (.int 1) (.loc 6))))
  .skip))
  (.seq (.freeze 2)
  (.seq (.ret (.call 43 (.cons (.attr (.loc 4) 4) (.cons (.loc 2) .nil))))
  .skip)))
  .skip)
  .skip))
  (.seq (.freeze 2)
  (.seq (.ret (.call 43 (.cons (.attr (.loc 0) 10) (.cons (.loc 2) .nil))))
  .skip))))))))))
-- 44 _law_again: 0=expr 1=seen 2=known 3=part 4=scope 5=alt
noncomputable def b44 : IS := (.seq (.ifs (.isi (.loc 0) 5)
  (.seq (.ifs (.and (.isi (.attr (.loc 0) 2) 0) (.cmp .isIn (.attr (.attr (.loc 0) 2) 0) (.loc 1)))
  (.seq (.ret (.bool true))
  .skip)
  .skip)
  (.seq (.asg 2 (.bin .add (.bin .add (.loc 1) (.list (.cons (.attr (.loc 0) 0) .nil))) (.ite (.isi (.attr (.loc 0) 2) 0) (.list (.cons (.attr (.attr (.loc 0) 2) 0) .nil)) (.list .nil))))
  (.seq (.ifs (.cmp .ne (.comp1if 5 [2] (.loc 5) (.attr (.loc 0) 9) (.call 44 (.cons (.attr (.loc 5) 4) (.cons (.loc 2) .nil)))) (.list .nil))
  (.seq (.ret (.bool true))
  .skip)
  .skip)
  (.seq (.ret (.and (.cmp .isNotN (.attr (.loc 0) 10) .none) (.call 44 (.cons (.attr (.loc 0) 10) (.cons (.loc 1) .nil)))))
  .skip))))
  .skip)
  (.seq (.forT [3, 4] (.meth (.loc 0) 1 .nil)
  (.seq (.ifs (.call 44 (.cons (.loc 3) (.cons (.loc 1) .nil)))
  (.seq (.ret (.bool true))
  .skip)
  .skip)
  .skip))
  (.seq (.ret (.bool false))
  .skip)))
-- 45 law: 0=script 1=names 2=expr 3=later 4=turn 5=source 6=box 7=env 8=name
noncomputable def b45 : IS := (.seq (.asg2 5 6 (.callO 38 (.cons (.loc 0) (.cons (.int 0) .nil))) (.list (.cons (.int 0) .nil)))
  (.seq (.promote 5)
  (.seq (.promote 6)
  (.seq (.asg 1 (.list (.cons (.tup (.cons (.str sx12) (.cons (.str sx7) .nil))) (.cons (.tup (.cons (.str sx11) (.cons (.str sx7) .nil))) (.cons (.tup (.cons (.str sx10) (.cons (.str sx4) .nil))) .nil)))))
  (.seq (.freeze 1)
  (.seq (.asg 2 (.call 42 (.cons (.loc 5) (.cons (.loc 6) (.cons (.loc 1) (.cons (.bin .add (.int 2) (.call 39 (.cons (.loc 5) (.cons (.int 2) .nil)))) .nil))))))
  (.seq (.asg 3 (.call 34 (.cons (.loc 2) (.cons .fresh .nil))))
  (.seq (.ifs (.call 44 (.cons (.loc 3) (.cons (.list .nil) .nil)))
  (.seq (.ret (.bool false))
  .skip)
  .skip)
  (.seq (.for1 4 (.range1 (.int 3))
  (.seq (.asg 7 (.dict1 (.str sx10) (.tup (.cons (.str sx4) (.cons (.call 39 (.cons (.loc 5) (.cons (.int 3) .nil))) .nil)))))
  (.seq (.for1 8 (.list (.cons (.str sx12) (.cons (.str sx11) .nil)))
  (.seq (.setIdx (.loc 7) (.loc 8) (.ite (.cmp .eq (.call 39 (.cons (.loc 5) (.cons (.int 3) .nil))) (.int 0)) (.tup (.cons (.str sx9) .nil)) (.tup (.cons (.str sx8) (.cons (.tup (.cons (.str sx4) (.cons (.call 39 (.cons (.loc 5) (.cons (.int 3) .nil))) .nil))) .nil)))))
  .skip))
  (.seq (.freeze 7)
  (.seq (.ifs (.cmp .ne (.call 43 (.cons (.loc 3) (.cons (.loc 7) .nil))) (.call 43 (.cons (.loc 2) (.cons (.loc 7) .nil))))
  (.seq (.ret (.bool false))
  .skip)
  .skip)
  .skip)))))
  (.seq (.ret (.bool true))
  .skip))))))))))
noncomputable def funs : List FD := [⟨1, 1, b0⟩, ⟨1, 1, b1⟩, ⟨3, 3, b2⟩, ⟨1, 1, b3⟩, ⟨1, 1, b4⟩, ⟨3, 3, b5⟩, ⟨1, 1, b6⟩, ⟨1, 1, b7⟩, ⟨3, 3, b8⟩, ⟨1, 3, b9⟩, ⟨1, 4, b10⟩, ⟨3, 5, b11⟩, ⟨1, 2, b12⟩, ⟨1, 3, b13⟩, ⟨3, 5, b14⟩, ⟨1, 1, b15⟩, ⟨1, 2, b16⟩, ⟨3, 3, b17⟩, ⟨3, 6, b18⟩, ⟨1, 8, b19⟩, ⟨2, 4, b20⟩, ⟨5, 8, b21⟩, ⟨3, 4, b22⟩, ⟨2, 13, b23⟩, ⟨2, 2, b24⟩, ⟨2, 5, b25⟩, ⟨2, 3, b26⟩, ⟨2, 3, b27⟩, ⟨2, 9, b28⟩, ⟨2, 5, b29⟩, ⟨2, 3, b30⟩, ⟨4, 8, b31⟩, ⟨3, 3, b32⟩, ⟨2, 11, b33⟩, ⟨2, 2, b34⟩, ⟨1, 2, b35⟩, ⟨2, 3, b36⟩, ⟨2, 4, b37⟩, ⟨2, 5, b38⟩, ⟨2, 3, b39⟩, ⟨2, 2, b40⟩, ⟨1, 1, b41⟩, ⟨4, 11, b42⟩, ⟨2, 8, b43⟩, ⟨2, 6, b44⟩, ⟨1, 9, b45⟩]
noncomputable def fun? (n : Nat) : Option FD := funs[n]?
noncomputable def fieldTab : List (List (Nat × Nat)) := [[(0, 0)], [(1, 0), (2, 1)], [(3, 0), (4, 1)], [(5, 0), (4, 1), (6, 2)], [(7, 0), (8, 1), (4, 2)], [(2, 0), (0, 1), (9, 2), (10, 3)], [(0, 0), (11, 1)], [(12, 0), (13, 1)], [(12, 0)], [(14, 0), (15, 1)]]
noncomputable def fieldIdx (c k : Nat) : Option Nat := (fieldTab[c]?).bind fun r => r.lookup k
noncomputable def nFieldTab : List Nat := [1, 2, 2, 3, 3, 4, 2, 2, 1, 2]
noncomputable def nFields (c : Nat) : Nat := (nFieldTab[c]?).getD 0
noncomputable def methTab : List (List (Nat × Nat)) := [[(0, 0), (1, 1), (2, 2)], [(0, 3), (1, 4), (2, 5)], [(0, 6), (1, 7), (2, 8)], [(0, 9), (1, 10), (2, 11)], [], [(0, 12), (1, 13), (2, 14)], [(0, 15), (1, 16), (2, 17)], [(3, 20), (4, 21), (5, 22), (6, 23)], [(7, 31), (8, 32), (6, 33)], [(9, 36), (10, 37)]]
noncomputable def methOf (c k : Nat) : Option Nat := (methTab[c]?).bind fun r => r.lookup k
noncomputable def tab : Tab := ⟨fieldIdx, nFields, methOf⟩
noncomputable def varsTab : List (List Str) := [[Str.ofString "self"],
  [Str.ofString "self"],
  [Str.ofString "self", Str.ofString "groups", Str.ofString "parts"],
  [Str.ofString "self"],
  [Str.ofString "self"],
  [Str.ofString "self", Str.ofString "groups", Str.ofString "parts"],
  [Str.ofString "self"],
  [Str.ofString "self"],
  [Str.ofString "self", Str.ofString "groups", Str.ofString "parts"],
  [Str.ofString "self", Str.ofString "name", Str.ofString "expr"],
  [Str.ofString "self", Str.ofString "scope", Str.ofString "name", Str.ofString "expr"],
  [Str.ofString "self", Str.ofString "groups", Str.ofString "parts", Str.ofString "binds", Str.ofString "at"],
  [Str.ofString "self", Str.ofString "alt"],
  [Str.ofString "self", Str.ofString "found", Str.ofString "at"],
  [Str.ofString "self", Str.ofString "groups", Str.ofString "parts", Str.ofString "alts", Str.ofString "at"],
  [Str.ofString "self"],
  [Str.ofString "self", Str.ofString "arg"],
  [Str.ofString "self", Str.ofString "groups", Str.ofString "parts"],
  [Str.ofString "names", Str.ofString "groups", Str.ofString "scope", Str.ofString "found", Str.ofString "number", Str.ofString "name"],
  [Str.ofString "expr", Str.ofString "found", Str.ofString "tasks", Str.ofString "groups", Str.ofString "node", Str.ofString "bound", Str.ofString "part", Str.ofString "scope"],
  [Str.ofString "self", Str.ofString "groups", Str.ofString "group", Str.ofString "name"],
  [Str.ofString "self", Str.ofString "names", Str.ofString "scope", Str.ofString "groups", Str.ofString "news", Str.ofString "found", Str.ofString "number", Str.ofString "at"],
  [Str.ofString "self", Str.ofString "node", Str.ofString "names", Str.ofString "found"],
  [Str.ofString "self", Str.ofString "expr", Str.ofString "tasks", Str.ofString "done", Str.ofString "parts", Str.ofString "node", Str.ofString "names", Str.ofString "news", Str.ofString "groups", Str.ofString "many", Str.ofString "found", Str.ofString "part", Str.ofString "scope"],
  [Str.ofString "expr", Str.ofString "fresh"],
  [Str.ofString "con", Str.ofString "fresh", Str.ofString "binds", Str.ofString "arg", Str.ofString "name"],
  [Str.ofString "rows", Str.ofString "body", Str.ofString "binds"],
  [Str.ofString "case", Str.ofString "name", Str.ofString "alt"],
  [Str.ofString "expr", Str.ofString "fresh", Str.ofString "case", Str.ofString "opened", Str.ofString "alt", Str.ofString "fields", Str.ofString "binds", Str.ofString "cell", Str.ofString "at"],
  [Str.ofString "expr", Str.ofString "fresh", Str.ofString "opened", Str.ofString "key", Str.ofString "alt"],
  [Str.ofString "expr", Str.ofString "fresh", Str.ofString "opened"],
  [Str.ofString "self", Str.ofString "node", Str.ofString "number", Str.ofString "known", Str.ofString "alt", Str.ofString "cell", Str.ofString "found", Str.ofString "name"],
  [Str.ofString "self", Str.ofString "node", Str.ofString "known"],
  [Str.ofString "self", Str.ofString "expr", Str.ofString "tasks", Str.ofString "done", Str.ofString "node", Str.ofString "parts", Str.ofString "at", Str.ofString "known", Str.ofString "is_ready", Str.ofString "many", Str.ofString "found"],
  [Str.ofString "expr", Str.ofString "fresh"],
  [Str.ofString "name", Str.ofString "at"],
  [Str.ofString "self", Str.ofString "names", Str.ofString "name"],
  [Str.ofString "self", Str.ofString "base", Str.ofString "told", Str.ofString "number"],
  [Str.ofString "script", Str.ofString "k", Str.ofString "cell", Str.ofString "big", Str.ofString "mixed"],
  [Str.ofString "source", Str.ofString "top", Str.ofString "digit"],
  [Str.ofString "source", Str.ofString "things"],
  [Str.ofString "box"],
  [Str.ofString "source", Str.ofString "box", Str.ofString "names", Str.ofString "deep", Str.ofString "name", Str.ofString "sort", Str.ofString "own", Str.ofString "field", Str.ofString "inner", Str.ofString "alts", Str.ofString "number"],
  [Str.ofString "expr", Str.ofString "env", Str.ofString "inner", Str.ofString "value", Str.ofString "alt", Str.ofString "name", Str.ofString "at", Str.ofString "arg"],
  [Str.ofString "expr", Str.ofString "seen", Str.ofString "known", Str.ofString "part", Str.ofString "scope", Str.ofString "alt"],
  [Str.ofString "script", Str.ofString "names", Str.ofString "expr", Str.ofString "later", Str.ofString "turn", Str.ofString "source", Str.ofString "box", Str.ofString "env", Str.ofString "name"]]
noncomputable def varsOf (n : Nat) : List Str := (varsTab[n]?).getD []
noncomputable def whereTab : List (Option Nat × Str) := [(some 0, Str.ofString "groups"), (some 0, Str.ofString "parts"), (some 0, Str.ofString "rebuilt"), (some 1, Str.ofString "groups"), (some 1, Str.ofString "parts"), (some 1, Str.ofString "rebuilt"), (some 2, Str.ofString "groups"), (some 2, Str.ofString "parts"), (some 2, Str.ofString "rebuilt"), (some 3, Str.ofString "groups"), (some 3, Str.ofString "parts"), (some 3, Str.ofString "rebuilt"), (some 5, Str.ofString "groups"), (some 5, Str.ofString "parts"), (some 5, Str.ofString "rebuilt"), (some 6, Str.ofString "groups"), (some 6, Str.ofString "parts"), (some 6, Str.ofString "rebuilt"), (none, Str.ofString "scoped"), (none, Str.ofString "free_names"), (some 7, Str.ofString "new_groups"), (some 7, Str.ofString "inner"), (some 7, Str.ofString "leaf"), (some 7, Str.ofString "run"), (none, Str.ofString "renamed"), (none, Str.ofString "fields_bound"), (none, Str.ofString "with_lets"), (none, Str.ofString "way_of_con"), (none, Str.ofString "known_con"), (none, Str.ofString "known_lit"), (none, Str.ofString "known_case"), (some 8, Str.ofString "known_in"), (some 8, Str.ofString "looked_at"), (some 8, Str.ofString "run"), (none, Str.ofString "known_again"), (none, Str.ofString "base_of"), (some 9, Str.ofString "avoid"), (some 9, Str.ofString "next"), (none, Str.ofString "_law_pool"), (none, Str.ofString "_law_take"), (none, Str.ofString "_law_one"), (none, Str.ofString "_law_end"), (none, Str.ofString "_law_tree"), (none, Str.ofString "_law_worth"), (none, Str.ofString "_law_again"), (none, Str.ofString "law")]
noncomputable def whereOf (n : Nat) : Option Nat × Str := (whereTab[n]?).getD (none, Str.ofString "")
noncomputable def clsNames : List Str := [Str.ofString "Var", Str.ofString "Lit", Str.ofString "Lam", Str.ofString "Let", Str.ofString "Alt", Str.ofString "Case", Str.ofString "Con", Str.ofString "Renamer", Str.ofString "Facts", Str.ofString "Fresh"]
noncomputable def attrNames : List Str := [Str.ofString "name", Str.ofString "kind", Str.ofString "value", Str.ofString "params", Str.ofString "body", Str.ofString "binds", Str.ofString "is_rec", Str.ofString "key", Str.ofString "names", Str.ofString "alts", Str.ofString "other", Str.ofString "args", Str.ofString "fresh", Str.ofString "instead", Str.ofString "avoided", Str.ofString "numbers"]
noncomputable def methNames : List Str := [Str.ofString "groups", Str.ofString "parts", Str.ofString "rebuilt", Str.ofString "new_groups", Str.ofString "inner", Str.ofString "leaf", Str.ofString "run", Str.ofString "known_in", Str.ofString "looked_at", Str.ofString "avoid", Str.ofString "next"]
noncomputable def clsTab : List (List Str) := [[Str.ofString "name"], [Str.ofString "kind", Str.ofString "value"], [Str.ofString "params", Str.ofString "body"], [Str.ofString "binds", Str.ofString "body", Str.ofString "is_rec"], [Str.ofString "key", Str.ofString "names", Str.ofString "body"], [Str.ofString "value", Str.ofString "name", Str.ofString "alts", Str.ofString "other"], [Str.ofString "name", Str.ofString "args"], [Str.ofString "fresh", Str.ofString "instead"], [Str.ofString "fresh"], [Str.ofString "avoided", Str.ofString "numbers"]]
noncomputable def clsFields (c : Nat) : List Str := (clsTab[c]?).getD []
end Mine
end
section
open PySem PySem.W PyProof.Rows
set_option Elab.async false
set_option linter.unusedVariables false
namespace Mine
/-! taking apart, all at once -/
theorem ex_0_3  {p1 p2 p3 : Prop} {G : Prop} (h : p1 ∧ p2 ∧ p3) (k : p1 → p2 → p3 → G) : G := k  h.1 h.2.1 h.2.2
theorem ex_0_4  {p1 p2 p3 p4 : Prop} {G : Prop} (h : p1 ∧ p2 ∧ p3 ∧ p4) (k : p1 → p2 → p3 → p4 → G) : G := k  h.1 h.2.1 h.2.2.1 h.2.2.2
theorem ex_0_6  {p1 p2 p3 p4 p5 p6 : Prop} {G : Prop} (h : p1 ∧ p2 ∧ p3 ∧ p4 ∧ p5 ∧ p6) (k : p1 → p2 → p3 → p4 → p5 → p6 → G) : G := k  h.1 h.2.1 h.2.2.1 h.2.2.2.1 h.2.2.2.2.1 h.2.2.2.2.2
theorem ex_1_2 {α1 : Sort _} {p1 p2 : α1 → Prop} {G : Prop} (h : ∃ a1, p1 a1 ∧ p2 a1) (k : ∀ a1, p1 a1 → p2 a1 → G) : G := h.elim fun a1 h => k a1 h.1 h.2
theorem ex_1_3 {α1 : Sort _} {p1 p2 p3 : α1 → Prop} {G : Prop} (h : ∃ a1, p1 a1 ∧ p2 a1 ∧ p3 a1) (k : ∀ a1, p1 a1 → p2 a1 → p3 a1 → G) : G := h.elim fun a1 h => k a1 h.1 h.2.1 h.2.2
theorem ex_1_4 {α1 : Sort _} {p1 p2 p3 p4 : α1 → Prop} {G : Prop} (h : ∃ a1, p1 a1 ∧ p2 a1 ∧ p3 a1 ∧ p4 a1) (k : ∀ a1, p1 a1 → p2 a1 → p3 a1 → p4 a1 → G) : G := h.elim fun a1 h => k a1 h.1 h.2.1 h.2.2.1 h.2.2.2
theorem ex_1_5 {α1 : Sort _} {p1 p2 p3 p4 p5 : α1 → Prop} {G : Prop} (h : ∃ a1, p1 a1 ∧ p2 a1 ∧ p3 a1 ∧ p4 a1 ∧ p5 a1) (k : ∀ a1, p1 a1 → p2 a1 → p3 a1 → p4 a1 → p5 a1 → G) : G := h.elim fun a1 h => k a1 h.1 h.2.1 h.2.2.1 h.2.2.2.1 h.2.2.2.2
theorem ex_2_1 {α1 : Sort _} {α2 : Sort _} {p1 : α1 → α2 → Prop} {G : Prop} (h : ∃ a1 a2, p1 a1 a2) (k : ∀ a1 a2, p1 a1 a2 → G) : G := h.elim fun a1 h => h.elim fun a2 h => k a1 a2 h
theorem ex_2_2 {α1 : Sort _} {α2 : Sort _} {p1 p2 : α1 → α2 → Prop} {G : Prop} (h : ∃ a1 a2, p1 a1 a2 ∧ p2 a1 a2) (k : ∀ a1 a2, p1 a1 a2 → p2 a1 a2 → G) : G := h.elim fun a1 h => h.elim fun a2 h => k a1 a2 h.1 h.2
theorem ex_2_3 {α1 : Sort _} {α2 : Sort _} {p1 p2 p3 : α1 → α2 → Prop} {G : Prop} (h : ∃ a1 a2, p1 a1 a2 ∧ p2 a1 a2 ∧ p3 a1 a2) (k : ∀ a1 a2, p1 a1 a2 → p2 a1 a2 → p3 a1 a2 → G) : G := h.elim fun a1 h => h.elim fun a2 h => k a1 a2 h.1 h.2.1 h.2.2
theorem ex_2_4 {α1 : Sort _} {α2 : Sort _} {p1 p2 p3 p4 : α1 → α2 → Prop} {G : Prop} (h : ∃ a1 a2, p1 a1 a2 ∧ p2 a1 a2 ∧ p3 a1 a2 ∧ p4 a1 a2) (k : ∀ a1 a2, p1 a1 a2 → p2 a1 a2 → p3 a1 a2 → p4 a1 a2 → G) : G := h.elim fun a1 h => h.elim fun a2 h => k a1 a2 h.1 h.2.1 h.2.2.1 h.2.2.2
theorem ex_2_5 {α1 : Sort _} {α2 : Sort _} {p1 p2 p3 p4 p5 : α1 → α2 → Prop} {G : Prop} (h : ∃ a1 a2, p1 a1 a2 ∧ p2 a1 a2 ∧ p3 a1 a2 ∧ p4 a1 a2 ∧ p5 a1 a2) (k : ∀ a1 a2, p1 a1 a2 → p2 a1 a2 → p3 a1 a2 → p4 a1 a2 → p5 a1 a2 → G) : G := h.elim fun a1 h => h.elim fun a2 h => k a1 a2 h.1 h.2.1 h.2.2.1 h.2.2.2.1 h.2.2.2.2
theorem ex_2_7 {α1 : Sort _} {α2 : Sort _} {p1 p2 p3 p4 p5 p6 p7 : α1 → α2 → Prop} {G : Prop} (h : ∃ a1 a2, p1 a1 a2 ∧ p2 a1 a2 ∧ p3 a1 a2 ∧ p4 a1 a2 ∧ p5 a1 a2 ∧ p6 a1 a2 ∧ p7 a1 a2) (k : ∀ a1 a2, p1 a1 a2 → p2 a1 a2 → p3 a1 a2 → p4 a1 a2 → p5 a1 a2 → p6 a1 a2 → p7 a1 a2 → G) : G := h.elim fun a1 h => h.elim fun a2 h => k a1 a2 h.1 h.2.1 h.2.2.1 h.2.2.2.1 h.2.2.2.2.1 h.2.2.2.2.2.1 h.2.2.2.2.2.2
theorem ex_3_2 {α1 : Sort _} {α2 : Sort _} {α3 : Sort _} {p1 p2 : α1 → α2 → α3 → Prop} {G : Prop} (h : ∃ a1 a2 a3, p1 a1 a2 a3 ∧ p2 a1 a2 a3) (k : ∀ a1 a2 a3, p1 a1 a2 a3 → p2 a1 a2 a3 → G) : G := h.elim fun a1 h => h.elim fun a2 h => h.elim fun a3 h => k a1 a2 a3 h.1 h.2
theorem ex_3_3 {α1 : Sort _} {α2 : Sort _} {α3 : Sort _} {p1 p2 p3 : α1 → α2 → α3 → Prop} {G : Prop} (h : ∃ a1 a2 a3, p1 a1 a2 a3 ∧ p2 a1 a2 a3 ∧ p3 a1 a2 a3) (k : ∀ a1 a2 a3, p1 a1 a2 a3 → p2 a1 a2 a3 → p3 a1 a2 a3 → G) : G := h.elim fun a1 h => h.elim fun a2 h => h.elim fun a3 h => k a1 a2 a3 h.1 h.2.1 h.2.2
theorem ex_3_4 {α1 : Sort _} {α2 : Sort _} {α3 : Sort _} {p1 p2 p3 p4 : α1 → α2 → α3 → Prop} {G : Prop} (h : ∃ a1 a2 a3, p1 a1 a2 a3 ∧ p2 a1 a2 a3 ∧ p3 a1 a2 a3 ∧ p4 a1 a2 a3) (k : ∀ a1 a2 a3, p1 a1 a2 a3 → p2 a1 a2 a3 → p3 a1 a2 a3 → p4 a1 a2 a3 → G) : G := h.elim fun a1 h => h.elim fun a2 h => h.elim fun a3 h => k a1 a2 a3 h.1 h.2.1 h.2.2.1 h.2.2.2
theorem ex_3_5 {α1 : Sort _} {α2 : Sort _} {α3 : Sort _} {p1 p2 p3 p4 p5 : α1 → α2 → α3 → Prop} {G : Prop} (h : ∃ a1 a2 a3, p1 a1 a2 a3 ∧ p2 a1 a2 a3 ∧ p3 a1 a2 a3 ∧ p4 a1 a2 a3 ∧ p5 a1 a2 a3) (k : ∀ a1 a2 a3, p1 a1 a2 a3 → p2 a1 a2 a3 → p3 a1 a2 a3 → p4 a1 a2 a3 → p5 a1 a2 a3 → G) : G := h.elim fun a1 h => h.elim fun a2 h => h.elim fun a3 h => k a1 a2 a3 h.1 h.2.1 h.2.2.1 h.2.2.2.1 h.2.2.2.2
theorem ex_3_6 {α1 : Sort _} {α2 : Sort _} {α3 : Sort _} {p1 p2 p3 p4 p5 p6 : α1 → α2 → α3 → Prop} {G : Prop} (h : ∃ a1 a2 a3, p1 a1 a2 a3 ∧ p2 a1 a2 a3 ∧ p3 a1 a2 a3 ∧ p4 a1 a2 a3 ∧ p5 a1 a2 a3 ∧ p6 a1 a2 a3) (k : ∀ a1 a2 a3, p1 a1 a2 a3 → p2 a1 a2 a3 → p3 a1 a2 a3 → p4 a1 a2 a3 → p5 a1 a2 a3 → p6 a1 a2 a3 → G) : G := h.elim fun a1 h => h.elim fun a2 h => h.elim fun a3 h => k a1 a2 a3 h.1 h.2.1 h.2.2.1 h.2.2.2.1 h.2.2.2.2.1 h.2.2.2.2.2
theorem ex_4_2 {α1 : Sort _} {α2 : Sort _} {α3 : Sort _} {α4 : Sort _} {p1 p2 : α1 → α2 → α3 → α4 → Prop} {G : Prop} (h : ∃ a1 a2 a3 a4, p1 a1 a2 a3 a4 ∧ p2 a1 a2 a3 a4) (k : ∀ a1 a2 a3 a4, p1 a1 a2 a3 a4 → p2 a1 a2 a3 a4 → G) : G := h.elim fun a1 h => h.elim fun a2 h => h.elim fun a3 h => h.elim fun a4 h => k a1 a2 a3 a4 h.1 h.2
theorem ex_4_5 {α1 : Sort _} {α2 : Sort _} {α3 : Sort _} {α4 : Sort _} {p1 p2 p3 p4 p5 : α1 → α2 → α3 → α4 → Prop} {G : Prop} (h : ∃ a1 a2 a3 a4, p1 a1 a2 a3 a4 ∧ p2 a1 a2 a3 a4 ∧ p3 a1 a2 a3 a4 ∧ p4 a1 a2 a3 a4 ∧ p5 a1 a2 a3 a4) (k : ∀ a1 a2 a3 a4, p1 a1 a2 a3 a4 → p2 a1 a2 a3 a4 → p3 a1 a2 a3 a4 → p4 a1 a2 a3 a4 → p5 a1 a2 a3 a4 → G) : G := h.elim fun a1 h => h.elim fun a2 h => h.elim fun a3 h => h.elim fun a4 h => k a1 a2 a3 a4 h.1 h.2.1 h.2.2.1 h.2.2.2.1 h.2.2.2.2
theorem ex_5_1 {α1 : Sort _} {α2 : Sort _} {α3 : Sort _} {α4 : Sort _} {α5 : Sort _} {p1 : α1 → α2 → α3 → α4 → α5 → Prop} {G : Prop} (h : ∃ a1 a2 a3 a4 a5, p1 a1 a2 a3 a4 a5) (k : ∀ a1 a2 a3 a4 a5, p1 a1 a2 a3 a4 a5 → G) : G := h.elim fun a1 h => h.elim fun a2 h => h.elim fun a3 h => h.elim fun a4 h => h.elim fun a5 h => k a1 a2 a3 a4 a5 h
theorem ex_5_4 {α1 : Sort _} {α2 : Sort _} {α3 : Sort _} {α4 : Sort _} {α5 : Sort _} {p1 p2 p3 p4 : α1 → α2 → α3 → α4 → α5 → Prop} {G : Prop} (h : ∃ a1 a2 a3 a4 a5, p1 a1 a2 a3 a4 a5 ∧ p2 a1 a2 a3 a4 a5 ∧ p3 a1 a2 a3 a4 a5 ∧ p4 a1 a2 a3 a4 a5) (k : ∀ a1 a2 a3 a4 a5, p1 a1 a2 a3 a4 a5 → p2 a1 a2 a3 a4 a5 → p3 a1 a2 a3 a4 a5 → p4 a1 a2 a3 a4 a5 → G) : G := h.elim fun a1 h => h.elim fun a2 h => h.elim fun a3 h => h.elim fun a4 h => h.elim fun a5 h => k a1 a2 a3 a4 a5 h.1 h.2.1 h.2.2.1 h.2.2.2
theorem ex_5_5 {α1 : Sort _} {α2 : Sort _} {α3 : Sort _} {α4 : Sort _} {α5 : Sort _} {p1 p2 p3 p4 p5 : α1 → α2 → α3 → α4 → α5 → Prop} {G : Prop} (h : ∃ a1 a2 a3 a4 a5, p1 a1 a2 a3 a4 a5 ∧ p2 a1 a2 a3 a4 a5 ∧ p3 a1 a2 a3 a4 a5 ∧ p4 a1 a2 a3 a4 a5 ∧ p5 a1 a2 a3 a4 a5) (k : ∀ a1 a2 a3 a4 a5, p1 a1 a2 a3 a4 a5 → p2 a1 a2 a3 a4 a5 → p3 a1 a2 a3 a4 a5 → p4 a1 a2 a3 a4 a5 → p5 a1 a2 a3 a4 a5 → G) : G := h.elim fun a1 h => h.elim fun a2 h => h.elim fun a3 h => h.elim fun a4 h => h.elim fun a5 h => k a1 a2 a3 a4 a5 h.1 h.2.1 h.2.2.1 h.2.2.2.1 h.2.2.2.2
theorem ex_5_7 {α1 : Sort _} {α2 : Sort _} {α3 : Sort _} {α4 : Sort _} {α5 : Sort _} {p1 p2 p3 p4 p5 p6 p7 : α1 → α2 → α3 → α4 → α5 → Prop} {G : Prop} (h : ∃ a1 a2 a3 a4 a5, p1 a1 a2 a3 a4 a5 ∧ p2 a1 a2 a3 a4 a5 ∧ p3 a1 a2 a3 a4 a5 ∧ p4 a1 a2 a3 a4 a5 ∧ p5 a1 a2 a3 a4 a5 ∧ p6 a1 a2 a3 a4 a5 ∧ p7 a1 a2 a3 a4 a5) (k : ∀ a1 a2 a3 a4 a5, p1 a1 a2 a3 a4 a5 → p2 a1 a2 a3 a4 a5 → p3 a1 a2 a3 a4 a5 → p4 a1 a2 a3 a4 a5 → p5 a1 a2 a3 a4 a5 → p6 a1 a2 a3 a4 a5 → p7 a1 a2 a3 a4 a5 → G) : G := h.elim fun a1 h => h.elim fun a2 h => h.elim fun a3 h => h.elim fun a4 h => h.elim fun a5 h => k a1 a2 a3 a4 a5 h.1 h.2.1 h.2.2.1 h.2.2.2.1 h.2.2.2.2.1 h.2.2.2.2.2.1 h.2.2.2.2.2.2
theorem ex_5_8 {α1 : Sort _} {α2 : Sort _} {α3 : Sort _} {α4 : Sort _} {α5 : Sort _} {p1 p2 p3 p4 p5 p6 p7 p8 : α1 → α2 → α3 → α4 → α5 → Prop} {G : Prop} (h : ∃ a1 a2 a3 a4 a5, p1 a1 a2 a3 a4 a5 ∧ p2 a1 a2 a3 a4 a5 ∧ p3 a1 a2 a3 a4 a5 ∧ p4 a1 a2 a3 a4 a5 ∧ p5 a1 a2 a3 a4 a5 ∧ p6 a1 a2 a3 a4 a5 ∧ p7 a1 a2 a3 a4 a5 ∧ p8 a1 a2 a3 a4 a5) (k : ∀ a1 a2 a3 a4 a5, p1 a1 a2 a3 a4 a5 → p2 a1 a2 a3 a4 a5 → p3 a1 a2 a3 a4 a5 → p4 a1 a2 a3 a4 a5 → p5 a1 a2 a3 a4 a5 → p6 a1 a2 a3 a4 a5 → p7 a1 a2 a3 a4 a5 → p8 a1 a2 a3 a4 a5 → G) : G := h.elim fun a1 h => h.elim fun a2 h => h.elim fun a3 h => h.elim fun a4 h => h.elim fun a5 h => k a1 a2 a3 a4 a5 h.1 h.2.1 h.2.2.1 h.2.2.2.1 h.2.2.2.2.1 h.2.2.2.2.2.1 h.2.2.2.2.2.2.1 h.2.2.2.2.2.2.2
theorem ex_6_4 {α1 : Sort _} {α2 : Sort _} {α3 : Sort _} {α4 : Sort _} {α5 : Sort _} {α6 : Sort _} {p1 p2 p3 p4 : α1 → α2 → α3 → α4 → α5 → α6 → Prop} {G : Prop} (h : ∃ a1 a2 a3 a4 a5 a6, p1 a1 a2 a3 a4 a5 a6 ∧ p2 a1 a2 a3 a4 a5 a6 ∧ p3 a1 a2 a3 a4 a5 a6 ∧ p4 a1 a2 a3 a4 a5 a6) (k : ∀ a1 a2 a3 a4 a5 a6, p1 a1 a2 a3 a4 a5 a6 → p2 a1 a2 a3 a4 a5 a6 → p3 a1 a2 a3 a4 a5 a6 → p4 a1 a2 a3 a4 a5 a6 → G) : G := h.elim fun a1 h => h.elim fun a2 h => h.elim fun a3 h => h.elim fun a4 h => h.elim fun a5 h => h.elim fun a6 h => k a1 a2 a3 a4 a5 a6 h.1 h.2.1 h.2.2.1 h.2.2.2
theorem ex_7_1 {α1 : Sort _} {α2 : Sort _} {α3 : Sort _} {α4 : Sort _} {α5 : Sort _} {α6 : Sort _} {α7 : Sort _} {p1 : α1 → α2 → α3 → α4 → α5 → α6 → α7 → Prop} {G : Prop} (h : ∃ a1 a2 a3 a4 a5 a6 a7, p1 a1 a2 a3 a4 a5 a6 a7) (k : ∀ a1 a2 a3 a4 a5 a6 a7, p1 a1 a2 a3 a4 a5 a6 a7 → G) : G := h.elim fun a1 h => h.elim fun a2 h => h.elim fun a3 h => h.elim fun a4 h => h.elim fun a5 h => h.elim fun a6 h => h.elim fun a7 h => k a1 a2 a3 a4 a5 a6 a7 h
theorem ex_7_3 {α1 : Sort _} {α2 : Sort _} {α3 : Sort _} {α4 : Sort _} {α5 : Sort _} {α6 : Sort _} {α7 : Sort _} {p1 p2 p3 : α1 → α2 → α3 → α4 → α5 → α6 → α7 → Prop} {G : Prop} (h : ∃ a1 a2 a3 a4 a5 a6 a7, p1 a1 a2 a3 a4 a5 a6 a7 ∧ p2 a1 a2 a3 a4 a5 a6 a7 ∧ p3 a1 a2 a3 a4 a5 a6 a7) (k : ∀ a1 a2 a3 a4 a5 a6 a7, p1 a1 a2 a3 a4 a5 a6 a7 → p2 a1 a2 a3 a4 a5 a6 a7 → p3 a1 a2 a3 a4 a5 a6 a7 → G) : G := h.elim fun a1 h => h.elim fun a2 h => h.elim fun a3 h => h.elim fun a4 h => h.elim fun a5 h => h.elim fun a6 h => h.elim fun a7 h => k a1 a2 a3 a4 a5 a6 a7 h.1 h.2.1 h.2.2
theorem ex_9_1 {α1 : Sort _} {α2 : Sort _} {α3 : Sort _} {α4 : Sort _} {α5 : Sort _} {α6 : Sort _} {α7 : Sort _} {α8 : Sort _} {α9 : Sort _} {p1 : α1 → α2 → α3 → α4 → α5 → α6 → α7 → α8 → α9 → Prop} {G : Prop} (h : ∃ a1 a2 a3 a4 a5 a6 a7 a8 a9, p1 a1 a2 a3 a4 a5 a6 a7 a8 a9) (k : ∀ a1 a2 a3 a4 a5 a6 a7 a8 a9, p1 a1 a2 a3 a4 a5 a6 a7 a8 a9 → G) : G := h.elim fun a1 h => h.elim fun a2 h => h.elim fun a3 h => h.elim fun a4 h => h.elim fun a5 h => h.elim fun a6 h => h.elim fun a7 h => h.elim fun a8 h => h.elim fun a9 h => k a1 a2 a3 a4 a5 a6 a7 a8 a9 h
end Mine
end
section
open PySem PySem.W PyProof.Rows
set_option Elab.async false
set_option maxRecDepth 100000
set_option linter.unusedVariables false
namespace Mine

/-! looks at the written text, each with its turning round -/
theorem elimB {i n : Nat} {f : i = n → Bool} (h : (if q : i = n then f q else false) = true) : ∃ q, f q = true := by
  by_cases q : i = n
  · exact ⟨q, by rw [dif_pos q] at h; exact h⟩
  · rw [dif_neg q] at h; cases h
section
variable {x : Expr} {P : Expr → Prop}
noncomputable def nameB (x : Expr) (k : Str → Pos → Bool) : Bool := if h : x.ctorIdx = 23 then Expr.Name.elim x h k else false
@[elab_as_elim] theorem nameB.on {k : Str → Pos → Bool} (h : nameB x k = true) (g : ∀ a b, k a b = true → P (.Name a b)) : P x :=
  (elimB h).elim fun q => Expr.Name.elim (motive_1 := fun x => ∀ q, Expr.Name.elim x q k = true → P x) x q (fun a b _ => g a b) q
noncomputable def constB (x : Expr) (k : Const → Nat → Pos → Bool) : Bool := if h : x.ctorIdx = 19 then Expr.Constant.elim x h k else false
@[elab_as_elim] theorem constB.on {k : Const → Nat → Pos → Bool} (h : constB x k = true) (g : ∀ a b c, k a b c = true → P (.Constant a b c)) : P x :=
  (elimB h).elim fun q => Expr.Constant.elim (motive_1 := fun x => ∀ q, Expr.Constant.elim x q k = true → P x) x q (fun a b c _ => g a b c) q
noncomputable def attrB (x : Expr) (k : Expr → Str → Pos → Bool) : Bool := if h : x.ctorIdx = 20 then Expr.Attribute.elim x h k else false
@[elab_as_elim] theorem attrB.on {k : Expr → Str → Pos → Bool} (h : attrB x k = true) (g : ∀ a b c, k a b c = true → P (.Attribute a b c)) : P x :=
  (elimB h).elim fun q => Expr.Attribute.elim (motive_1 := fun x => ∀ q, Expr.Attribute.elim x q k = true → P x) x q (fun a b c _ => g a b c) q
noncomputable def callB (x : Expr) (k : Expr → List Expr → List Keyword → Pos → Bool) : Bool := if h : x.ctorIdx = 16 then Expr.Call.elim x h k else false
@[elab_as_elim] theorem callB.on {k : Expr → List Expr → List Keyword → Pos → Bool} (h : callB x k = true) (g : ∀ a b c d, k a b c d = true → P (.Call a b c d)) : P x :=
  (elimB h).elim fun q => Expr.Call.elim (motive_1 := fun x => ∀ q, Expr.Call.elim x q k = true → P x) x q (fun a b c d _ => g a b c d) q
noncomputable def binB (x : Expr) (k : Expr → Operator → Expr → Pos → Bool) : Bool := if h : x.ctorIdx = 2 then Expr.BinOp.elim x h k else false
@[elab_as_elim] theorem binB.on {k : Expr → Operator → Expr → Pos → Bool} (h : binB x k = true) (g : ∀ a b c d, k a b c d = true → P (.BinOp a b c d)) : P x :=
  (elimB h).elim fun q => Expr.BinOp.elim (motive_1 := fun x => ∀ q, Expr.BinOp.elim x q k = true → P x) x q (fun a b c d _ => g a b c d) q
noncomputable def unB (x : Expr) (k : UnaryOp → Expr → Pos → Bool) : Bool := if h : x.ctorIdx = 3 then Expr.UnaryOp.elim x h k else false
@[elab_as_elim] theorem unB.on {k : UnaryOp → Expr → Pos → Bool} (h : unB x k = true) (g : ∀ a b c, k a b c = true → P (.UnaryOp a b c)) : P x :=
  (elimB h).elim fun q => Expr.UnaryOp.elim (motive_1 := fun x => ∀ q, Expr.UnaryOp.elim x q k = true → P x) x q (fun a b c _ => g a b c) q
noncomputable def cmpB (x : Expr) (k : Expr → List CmpOp → List Expr → Pos → Bool) : Bool := if h : x.ctorIdx = 15 then Expr.Compare.elim x h k else false
@[elab_as_elim] theorem cmpB.on {k : Expr → List CmpOp → List Expr → Pos → Bool} (h : cmpB x k = true) (g : ∀ a b c d, k a b c d = true → P (.Compare a b c d)) : P x :=
  (elimB h).elim fun q => Expr.Compare.elim (motive_1 := fun x => ∀ q, Expr.Compare.elim x q k = true → P x) x q (fun a b c d _ => g a b c d) q
noncomputable def boolB (x : Expr) (k : BoolOp → List Expr → Pos → Bool) : Bool := if h : x.ctorIdx = 0 then Expr.BoolOp.elim x h k else false
@[elab_as_elim] theorem boolB.on {k : BoolOp → List Expr → Pos → Bool} (h : boolB x k = true) (g : ∀ a b c, k a b c = true → P (.BoolOp a b c)) : P x :=
  (elimB h).elim fun q => Expr.BoolOp.elim (motive_1 := fun x => ∀ q, Expr.BoolOp.elim x q k = true → P x) x q (fun a b c _ => g a b c) q
noncomputable def iteB (x : Expr) (k : Expr → Expr → Expr → Pos → Bool) : Bool := if h : x.ctorIdx = 5 then Expr.IfExp.elim x h k else false
@[elab_as_elim] theorem iteB.on {k : Expr → Expr → Expr → Pos → Bool} (h : iteB x k = true) (g : ∀ a b c d, k a b c d = true → P (.IfExp a b c d)) : P x :=
  (elimB h).elim fun q => Expr.IfExp.elim (motive_1 := fun x => ∀ q, Expr.IfExp.elim x q k = true → P x) x q (fun a b c d _ => g a b c d) q
noncomputable def listB (x : Expr) (k : List Expr → Pos → Bool) : Bool := if h : x.ctorIdx = 24 then Expr.List.elim x h k else false
@[elab_as_elim] theorem listB.on {k : List Expr → Pos → Bool} (h : listB x k = true) (g : ∀ a b, k a b = true → P (.List a b)) : P x :=
  (elimB h).elim fun q => Expr.List.elim (motive_1 := fun x => ∀ q, Expr.List.elim x q k = true → P x) x q (fun a b _ => g a b) q
noncomputable def tupB (x : Expr) (k : List Expr → Nat → Pos → Bool) : Bool := if h : x.ctorIdx = 25 then Expr.Tuple.elim x h k else false
@[elab_as_elim] theorem tupB.on {k : List Expr → Nat → Pos → Bool} (h : tupB x k = true) (g : ∀ a b c, k a b c = true → P (.Tuple a b c)) : P x :=
  (elimB h).elim fun q => Expr.Tuple.elim (motive_1 := fun x => ∀ q, Expr.Tuple.elim x q k = true → P x) x q (fun a b c _ => g a b c) q
noncomputable def dictB (x : Expr) (k : List (Option Expr) → List Expr → Pos → Bool) : Bool := if h : x.ctorIdx = 6 then Expr.Dict.elim x h k else false
@[elab_as_elim] theorem dictB.on {k : List (Option Expr) → List Expr → Pos → Bool} (h : dictB x k = true) (g : ∀ a b c, k a b c = true → P (.Dict a b c)) : P x :=
  (elimB h).elim fun q => Expr.Dict.elim (motive_1 := fun x => ∀ q, Expr.Dict.elim x q k = true → P x) x q (fun a b c _ => g a b c) q
noncomputable def subB (x : Expr) (k : Expr → Expr → Pos → Bool) : Bool := if h : x.ctorIdx = 21 then Expr.Subscript.elim x h k else false
@[elab_as_elim] theorem subB.on {k : Expr → Expr → Pos → Bool} (h : subB x k = true) (g : ∀ a b c, k a b c = true → P (.Subscript a b c)) : P x :=
  (elimB h).elim fun q => Expr.Subscript.elim (motive_1 := fun x => ∀ q, Expr.Subscript.elim x q k = true → P x) x q (fun a b c _ => g a b c) q
noncomputable def sliceB (x : Expr) (k : Option Expr → Option Expr → Option Expr → Pos → Bool) : Bool := if h : x.ctorIdx = 26 then Expr.Slice.elim x h k else false
@[elab_as_elim] theorem sliceB.on {k : Option Expr → Option Expr → Option Expr → Pos → Bool} (h : sliceB x k = true) (g : ∀ a b c d, k a b c d = true → P (.Slice a b c d)) : P x :=
  (elimB h).elim fun q => Expr.Slice.elim (motive_1 := fun x => ∀ q, Expr.Slice.elim x q k = true → P x) x q (fun a b c d _ => g a b c d) q
noncomputable def compB (x : Expr) (k : Expr → List Comprehension → Scope → Pos → Bool) : Bool := if h : x.ctorIdx = 8 then Expr.ListComp.elim x h k else false
@[elab_as_elim] theorem compB.on {k : Expr → List Comprehension → Scope → Pos → Bool} (h : compB x k = true) (g : ∀ a b c d, k a b c d = true → P (.ListComp a b c d)) : P x :=
  (elimB h).elim fun q => Expr.ListComp.elim (motive_1 := fun x => ∀ q, Expr.ListComp.elim x q k = true → P x) x q (fun a b c d _ => g a b c d) q
end
section
variable {x : Stmt} {P : Stmt → Prop}
noncomputable def asgB (x : Stmt) (k : List Expr → Expr → Pos → Bool) : Bool := if h : x.ctorIdx = 5 then Stmt.Assign.elim x h k else false
@[elab_as_elim] theorem asgB.on {k : List Expr → Expr → Pos → Bool} (h : asgB x k = true) (g : ∀ a b c, k a b c = true → P (.Assign a b c)) : P x :=
  (elimB h).elim fun q => Stmt.Assign.elim (motive_2 := fun x => ∀ q, Stmt.Assign.elim x q k = true → P x) x q (fun a b c _ => g a b c) q
noncomputable def exprB (x : Stmt) (k : Expr → Pos → Bool) : Bool := if h : x.ctorIdx = 24 then Stmt.Expr.elim x h k else false
@[elab_as_elim] theorem exprB.on {k : Expr → Pos → Bool} (h : exprB x k = true) (g : ∀ a b, k a b = true → P (.Expr a b)) : P x :=
  (elimB h).elim fun q => Stmt.Expr.elim (motive_2 := fun x => ∀ q, Stmt.Expr.elim x q k = true → P x) x q (fun a b _ => g a b) q
noncomputable def retB (x : Stmt) (k : Option Expr → Pos → Bool) : Bool := if h : x.ctorIdx = 3 then Stmt.Return.elim x h k else false
@[elab_as_elim] theorem retB.on {k : Option Expr → Pos → Bool} (h : retB x k = true) (g : ∀ a b, k a b = true → P (.Return a b)) : P x :=
  (elimB h).elim fun q => Stmt.Return.elim (motive_2 := fun x => ∀ q, Stmt.Return.elim x q k = true → P x) x q (fun a b _ => g a b) q
noncomputable def delB (x : Stmt) (k : List Expr → Pos → Bool) : Bool := if h : x.ctorIdx = 4 then Stmt.Delete.elim x h k else false
@[elab_as_elim] theorem delB.on {k : List Expr → Pos → Bool} (h : delB x k = true) (g : ∀ a b, k a b = true → P (.Delete a b)) : P x :=
  (elimB h).elim fun q => Stmt.Delete.elim (motive_2 := fun x => ∀ q, Stmt.Delete.elim x q k = true → P x) x q (fun a b _ => g a b) q
noncomputable def augB (x : Stmt) (k : Expr → Operator → Expr → Pos → Bool) : Bool := if h : x.ctorIdx = 7 then Stmt.AugAssign.elim x h k else false
@[elab_as_elim] theorem augB.on {k : Expr → Operator → Expr → Pos → Bool} (h : augB x k = true) (g : ∀ a b c d, k a b c d = true → P (.AugAssign a b c d)) : P x :=
  (elimB h).elim fun q => Stmt.AugAssign.elim (motive_2 := fun x => ∀ q, Stmt.AugAssign.elim x q k = true → P x) x q (fun a b c d _ => g a b c d) q
noncomputable def forB (x : Stmt) (k : Expr → Expr → List Stmt → List Stmt → Pos → Bool) : Bool := if h : x.ctorIdx = 9 then Stmt.For.elim x h k else false
@[elab_as_elim] theorem forB.on {k : Expr → Expr → List Stmt → List Stmt → Pos → Bool} (h : forB x k = true) (g : ∀ a b c d e, k a b c d e = true → P (.For a b c d e)) : P x :=
  (elimB h).elim fun q => Stmt.For.elim (motive_2 := fun x => ∀ q, Stmt.For.elim x q k = true → P x) x q (fun a b c d e _ => g a b c d e) q
noncomputable def whileB (x : Stmt) (k : Expr → List Stmt → List Stmt → Pos → Bool) : Bool := if h : x.ctorIdx = 11 then Stmt.While.elim x h k else false
@[elab_as_elim] theorem whileB.on {k : Expr → List Stmt → List Stmt → Pos → Bool} (h : whileB x k = true) (g : ∀ a b c d, k a b c d = true → P (.While a b c d)) : P x :=
  (elimB h).elim fun q => Stmt.While.elim (motive_2 := fun x => ∀ q, Stmt.While.elim x q k = true → P x) x q (fun a b c d _ => g a b c d) q
noncomputable def ifB (x : Stmt) (k : Expr → List Stmt → List Stmt → Pos → Bool) : Bool := if h : x.ctorIdx = 12 then Stmt.If.elim x h k else false
@[elab_as_elim] theorem ifB.on {k : Expr → List Stmt → List Stmt → Pos → Bool} (h : ifB x k = true) (g : ∀ a b c d, k a b c d = true → P (.If a b c d)) : P x :=
  (elimB h).elim fun q => Stmt.If.elim (motive_2 := fun x => ∀ q, Stmt.If.elim x q k = true → P x) x q (fun a b c d _ => g a b c d) q
noncomputable def contB (x : Stmt) (k : Pos → Bool) : Bool := if h : x.ctorIdx = 27 then Stmt.Continue.elim x h k else false
@[elab_as_elim] theorem contB.on {k : Pos → Bool} (h : contB x k = true) (g : ∀ a, k a = true → P (.Continue a)) : P x :=
  (elimB h).elim fun q => Stmt.Continue.elim (motive_2 := fun x => ∀ q, Stmt.Continue.elim x q k = true → P x) x q (fun a _ => g a) q
end
section
variable {α : Type} {l : List α} {P : List α → Prop}
theorem noB {G : Prop} (h : false = true) : G := nomatch h
noncomputable def nilB (l : List α) : Bool := match l with
  | [] => true
  | _ :: _ => false
@[elab_as_elim] theorem nilB.on (h : nilB l = true) (g : P []) : P l := match l, h with
  | [], _ => g
noncomputable def oneB (l : List α) (k : α → Bool) : Bool := match l with
  | a :: r => nilB r && k a
  | [] => false
theorem and2 {a b : Bool} {G : Prop} (h : (a && b) = true) (g : a = true → b = true → G) : G := match a, b, h with
  | true, true, _ => g rfl rfl
@[elab_as_elim] theorem oneB.on {k : α → Bool} (h : oneB l k = true) (g : ∀ a, k a = true → P [a]) : P l := match l, h with
  | a :: r, h => and2 h fun h1 h2 => nilB.on (P := fun r => P (a :: r)) h1 (g a h2)
noncomputable def twoB (l : List α) (k : α → α → Bool) : Bool := match l with
  | a :: r => oneB r (k a)
  | [] => false
@[elab_as_elim] theorem twoB.on {k : α → α → Bool} (h : twoB l k = true) (g : ∀ a b, k a b = true → P [a, b]) : P l := match l, h with
  | a :: r, h => oneB.on (P := fun r => P (a :: r)) h (g a)
noncomputable def threeB (l : List α) (k : α → α → α → Bool) : Bool := match l with
  | a :: r => twoB r (k a)
  | [] => false
@[elab_as_elim] theorem threeB.on {k : α → α → α → Bool} (h : threeB l k = true) (g : ∀ a b c, k a b c = true → P [a, b, c]) : P l := match l, h with
  | a :: r, h => twoB.on (P := fun r => P (a :: r)) h (g a)
noncomputable def someB (o : Option α) (k : α → Bool) : Bool := match o with
  | some a => k a
  | none => false
@[elab_as_elim] theorem someB.on {P : Option α → Prop} {o : Option α} {k : α → Bool} (h : someB o k = true) (g : ∀ a, k a = true → P (some a)) : P o := match o, h with
  | some a, h => g a h
noncomputable def noneB (o : Option α) : Bool := match o with
  | some _ => false
  | none => true
@[elab_as_elim] theorem noneB.on {P : Option α → Prop} {o : Option α} (h : noneB o = true) (g : P none) : P o := match o, h with
  | none, _ => g
theorem or2 {a b : Bool} {G : Prop} (h : (a || b) = true) (g1 : a = true → G) (g2 : b = true → G) : G := match a, h, g1 with
  | true, _, g1 => g1 rfl
  | false, h, _ => g2 h
theorem and3 {a b c : Bool} {G : Prop} (h : (a && (b && c)) = true) (g : a = true → b = true → c = true → G) : G := and2 h fun h1 h => and2 h fun h2 h3 => g h1 h2 h3
theorem and4 {a b c d : Bool} {G : Prop} (h : (a && (b && (c && d))) = true) (g : a = true → b = true → c = true → d = true → G) : G := and2 h fun h1 h => and3 h fun h2 h3 h4 => g h1 h2 h3 h4
theorem and5 {a b c d e : Bool} {G : Prop} (h : (a && (b && (c && (d && e)))) = true) (g : a = true → b = true → c = true → d = true → e = true → G) : G := and2 h fun h1 h => and4 h fun h2 h3 h4 h5 => g h1 h2 h3 h4 h5
theorem and6 {a b c d e f : Bool} {G : Prop} (h : (a && (b && (c && (d && (e && f))))) = true) (g : a = true → b = true → c = true → d = true → e = true → f = true → G) : G := and2 h fun h1 h => and5 h fun h2 h3 h4 h5 h6 => g h1 h2 h3 h4 h5 h6
theorem and7 {a b c d e f i : Bool} {G : Prop} (h : (a && (b && (c && (d && (e && (f && i)))))) = true) (g : a = true → b = true → c = true → d = true → e = true → f = true → i = true → G) : G := and2 h fun h1 h => and6 h fun h2 h3 h4 h5 h6 h7 => g h1 h2 h3 h4 h5 h6 h7
theorem beqT {α : Type} [BEq α] [LawfulBEq α] {a b : α} (h : (a == b) = true) : a = b := eq_of_beq h
theorem notT {a : Bool} (h : (!a) = true) : a = false := match a, h with
  | false, _ => rfl
end
/-! a def's object, its body, an own field's store -/
noncomputable def funcD (d : Data) (k : FuncData → Bool) : Bool := if h : d.ctorIdx = 7 then Data.func.elim d h k else false
@[elab_as_elim] theorem funcD.on {d : Data} {k : FuncData → Bool} {P : Data → Prop} (h : funcD d k = true) (g : ∀ fd, k fd = true → P (.func fd)) : P d :=
  (elimB h).elim fun q => Data.func.elim (motive := fun d => ∀ q, Data.func.elim d q k = true → P d) d q (fun fd _ => g fd) q
noncomputable def funcB (o : Option Obj) (k : FuncData → Bool) : Bool := someB o fun o => funcD o.data k
theorem funcB.on {o : Option Obj} {k : FuncData → Bool} {G : Prop} (h : funcB o k = true) (g : ∀ oc od fd sl, o = some ⟨oc, od, .func fd, sl⟩ → k fd = true → G) : G :=
  match o, h, g with
  | some ⟨oc, od, d, sl⟩, h, g => funcD.on (P := fun d' => d = d' → G) h (fun fd h e => g oc od fd sl (by rw [e]) h) rfl
noncomputable def stmtsB (b : FuncBody) (k : List Stmt → Bool) : Bool := match b with
  | .stmts l => k l
  | .expr _ => false
theorem stmtsB.on {b : FuncBody} {k : List Stmt → Bool} {G : Prop} (h : stmtsB b k = true) (g : ∀ l, b = .stmts l → k l = true → G) : G := match b, h, g with
  | .stmts l, h, g => g l rfl h
noncomputable def selfB (a : Str) (st : Stmt) (k : Expr → Bool) : Bool := asgB st fun ts v _ => oneB ts fun t => attrB t fun s a' _ => nameB s fun s _ => s == "self" && (a' == a && k v)
@[elab_as_elim] theorem selfB.on {a : Str} {st : Stmt} {k : Expr → Bool} {P : Stmt → Prop} (h : selfB a st k = true) (g : ∀ p q v r, k v = true → P (.Assign [.Attribute (.Name "self" p) a q] v r)) : P st :=
  asgB.on h fun ts v r h => oneB.on (P := fun ts => P (.Assign ts v r)) h fun t h => attrB.on (P := fun t => P (.Assign [t] v r)) h fun s a' q h => nameB.on (P := fun s => P (.Assign [.Attribute s a' q] v r)) h fun s p h => and3 h fun e1 e2 h' => by
    cases beqT e1; cases beqT e2; exact g p q v r h'
end Mine
end
section
open PySem PySem.W PySem.Calls PyProof.Rows
set_option Elab.async false
set_option maxRecDepth 100000
namespace Mine

/-! how an abstract value lies in a heap -/
noncomputable abbrev Fz := Addr → Option Obj
noncomputable def listO (vs : List Value) (n : Nat) : Obj := ⟨.type "list", none, .seq vs.toArray n, #[]⟩
noncomputable def tupO (vs : List Value) (n : Nat) : Obj := ⟨.type "tuple", none, .seq vs.toArray n, #[]⟩

noncomputable def clsA (K : Frag) (c : Nat) : Addr := match clsNames[c]? with
  | some n => (match nsIn K mainGlobals n with
    | some (some (.ref a)) => a
    | _ => 0)
  | none => 0

noncomputable def EntL (w : World) : List Str → List DictEntry → Prop
  | [], es => es = []
  | k :: ks, es => ∃ t v r, es = ⟨PyData.keyHash w.params k, .str k t, v⟩ :: r ∧ EntL w ks r

structure Gh where
  φ : Fz
  cs : List Addr

section
variable (w : World) (K : Frag)
mutual
noncomputable def Rp (g : Gh) : AV → Value → Prop
  | .none => fun v => v = .none
  | .bool b => fun v => v = .bool b
  | .int i => fun v => ∃ t, v = .int i t
  | .str x => fun v => ∃ t, v = .str x t
  | .tup l => fun v => ∃ a vs n, v = .ref a ∧ g.φ a = some (tupO vs n) ∧ RpL g l vs
  | .list l => fun v => ∃ a vs n, v = .ref a ∧ g.φ a = some (listO vs n) ∧ RpL g l vs
  | .dict ks l => fun v => ∃ a es n, v = .ref a ∧ g.φ a = some (dictOf es n) ∧ EntL w ks es ∧ RpL g l (es.map (·.val)) ∧ ks.Nodup ∧ a ≠ sysModules
  | .obj c l => fun v => ∃ a d es n, v = .ref a ∧ g.φ a = some (instObj (clsA K c) d) ∧ g.φ d = some (dictOf es n) ∧ EntL w (clsFields c) es ∧ RpL g l (es.map (·.val))
  | .cell k => fun v => ∃ a, v = .ref a ∧ g.cs[k]? = some a
noncomputable def RpL (g : Gh) : List AV → List Value → Prop
  | [], vs => vs = []
  | x :: l, vs => ∃ v r, vs = v :: r ∧ Rp g x v ∧ RpL g l r
end

/-- the content of an object that is still turned -/
noncomputable def ObR (g : Gh) : AV → Obj → Prop
  | .list l, o => ∃ vs n, o = listO vs n ∧ RpL w K g l vs
  | .dict ks l, o => ∃ es n, o = dictOf es n ∧ EntL w ks es ∧ RpL w K g l (es.map (·.val)) ∧ ks.Nodup
  | _, _ => False

structure Gh.Le (g g' : Gh) : Prop where
  φ : ∀ a o, g.φ a = some o → g'.φ a = some o
  cs : ∃ t, g'.cs = g.cs ++ t
theorem Gh.Le.refl (g : Gh) : g.Le g := ⟨fun _ _ h => h, [], by simp⟩
theorem Gh.Le.trans {a b c : Gh} (h : a.Le b) (k : b.Le c) : a.Le c :=
  ⟨fun x o e => k.φ x o (h.φ x o e), by obtain ⟨t, e⟩ := h.cs; obtain ⟨u, e'⟩ := k.cs; exact ⟨t ++ u, by rw [e', e, List.append_assoc]⟩⟩
theorem Gh.Le.at {g g' : Gh} (h : g.Le g') {k : Nat} {a : Addr} (e : g.cs[k]? = some a) : g'.cs[k]? = some a := by
  obtain ⟨t, ht⟩ := h.cs
  rw [ht, List.getElem?_append_left]
  · exact e
  · exact (List.getElem?_eq_some_iff.mp e).1

mutual
theorem Rp.mono {g g' : Gh} (h : g.Le g') : ∀ (a : AV) (v : Value), Rp w K g a v → Rp w K g' a v
  | .none, _, r => r
  | .bool _, _, r => r
  | .int _, _, r => r
  | .str _, _, r => r
  | .tup l, _, r => by
    refine ex_3_3 (r) fun a vs n e hf hl => ?_
    exact ⟨a, vs, n, e, h.φ _ _ hf, RpL.mono h l vs hl⟩
  | .list l, _, r => by
    refine ex_3_3 (r) fun a vs n e hf hl => ?_
    exact ⟨a, vs, n, e, h.φ _ _ hf, RpL.mono h l vs hl⟩
  | .dict ks l, _, r => by
    refine ex_3_5 (r) fun a es n e hf he hl z => ?_
    exact ⟨a, es, n, e, h.φ _ _ hf, he, RpL.mono h l _ hl, z⟩
  | .obj c l, _, r => by
    refine ex_4_5 (r) fun a d es n e hf hd he hl => ?_
    exact ⟨a, d, es, n, e, h.φ _ _ hf, h.φ _ _ hd, he, RpL.mono h l _ hl⟩
  | .cell k, _, r => by
    refine ex_1_2 (r) fun a e hc => ?_
    exact ⟨a, e, h.at hc⟩
theorem RpL.mono {g g' : Gh} (h : g.Le g') : ∀ (l : List AV) (vs : List Value), RpL w K g l vs → RpL w K g' l vs
  | [], _, r => r
  | x :: l, _, r => by
    refine ex_2_3 (r) fun v t e hx hl => ?_
    exact ⟨v, t, e, Rp.mono h x v hx, RpL.mono h l t hl⟩
end
theorem ObR.mono {g g' : Gh} (h : g.Le g') {a : AV} {o : Obj} (r : ObR w K g a o) : ObR w K g' a o := by
  cases a <;> simp only [ObR] at r ⊢
  · obtain ⟨vs, n, e, hl⟩ := r; exact ⟨vs, n, e, RpL.mono w K h _ _ hl⟩
  · obtain ⟨es, n, e, he, hl, z⟩ := r; exact ⟨es, n, e, he, RpL.mono w K h _ _ hl, z⟩

noncomputable def LVR (g : Gh) (α : Nat → Addr) (i : Nat) : LV → Option Value → Prop
  | .un, _ => True
  | .val a, ov => ∃ v, ov = some v ∧ Rp w K g a v
  | .own _, ov => ov = some (.ref (α i))
theorem LVR.mono {g g' : Gh} (h : g.Le g') {α : Nat → Addr} {i : Nat} {x : LV} {ov : Option Value} (r : LVR w K g α i x ov) : LVR w K g' α i x ov := by
  cases x with
  | un => trivial
  | val a => obtain ⟨v, e, hr⟩ := r; exact ⟨v, e, Rp.mono w K h _ _ hr⟩
  | own a => exact r
end

/-- a frame: its block, the names of its locals -/
structure Frm where
  env : Env
  nm : List Str

inductive MutA (f : Frm) (α : Nat → Addr) (cs : List Addr) (l : Loc) : Addr → Prop
  | loc : MutA f α cs l f.env.locals
  | cv {x c} : f.env.cells.lookup x = some c → MutA f α cs l c
  | own {i a} : l.at i = .own a → MutA f α cs l (α i)
  | cell {c} : c ∈ cs → MutA f α cs l c

structure EnvOk (f : Frm) : Prop where
  fn : f.env.scope.kind = .function
  gl : f.env.globals = mainGlobals
  bl : f.env.builtins = builtinsNs
  nd : f.nm.Nodup
  cvn : ∀ x, f.env.kindOf x = some .cell → ∃ c, f.env.cells.lookup x = some c

structure St (w : World) (K : Frag) (hb : Heap) (f : Frm) (g : Gh) (α : Nat → Addr) (l : Loc) (c : Cells) (h : Heap) : Prop where
  fz : ∀ a o, g.φ a = some o → h.get? a = some o
  base : ∀ a o, hb.get? a = some o → g.φ a = some o
  mfree : ∀ a, MutA f α g.cs l a → g.φ a = none
  ns : ∃ m, h.Ns f.env.locals m ∧ ∀ i x, f.nm[i]? = some x → f.env.kindOf x = some .local → LVR w K g α i (l.at i) (m x)
  cv : ∀ x k, f.env.cells.lookup x = some k → ∃ v, h.IsCell k v ∧ ∀ i, f.nm[i]? = some x → f.env.kindOf x = some .cell → LVR w K g α i (l.at i) v
  len : l.length = f.nm.length
  own : ∀ i a, l.at i = .own a → ∃ o, h.get? (α i) = some o ∧ ObR w K g a o
  clen : c.length = g.cs.length
  cel : ∀ (k : Nat) a, c[k]? = some a → ∃ b o, g.cs[k]? = some b ∧ h.get? b = some o ∧ ObR w K g a o
  own_ne : ∀ i j a b, l.at i = .own a → l.at j = .own b → α i = α j → i = j
  own_loc : ∀ i a, l.at i = .own a → α i ≠ f.env.locals
  own_cv : ∀ i a x k, l.at i = .own a → f.env.cells.lookup x = some k → α i ≠ k
  own_cell : ∀ i a, l.at i = .own a → α i ∉ g.cs
  loc_cell : f.env.locals ∉ g.cs
  cv_cell : ∀ x k, f.env.cells.lookup x = some k → k ∉ g.cs
  cv_loc : ∀ x k, f.env.cells.lookup x = some k → k ≠ f.env.locals
  cv_inj : ∀ x y k, f.env.cells.lookup x = some k → f.env.cells.lookup y = some k → x = y
  cnd : g.cs.Nodup
  sys : ∀ b, MutA f α g.cs l b → b ≠ sysModules

/-- what one step may do to the rest of the heap -/
structure Ext (g : Gh) (mu : Addr → Prop) (h : Heap) (g' : Gh) (mu' : Addr → Prop) (h' : Heap) : Prop where
  keep : ∀ b o, h.get? b = some o → ¬ mu b → h'.get? b = some o
  grow : ∀ b, mu' b → mu b ∨ h.get? b = none
  le : g.Le g'
  live : ∀ b, h.get? b ≠ none → h'.get? b ≠ none
  cool : ∀ b, g.φ b = none → ¬ mu b → h.get? b ≠ none → g'.φ b = none

theorem Ext.refl (g : Gh) (mu : Addr → Prop) (h : Heap) : Ext g mu h g mu h := ⟨fun _ _ e _ => e, fun _ m => .inl m, .refl g, fun _ e => e, fun _ e _ _ => e⟩
theorem Ext.trans {g g' g'' : Gh} {mu mu' mu'' : Addr → Prop} {h h' h'' : Heap} (x : Ext g mu h g' mu' h') (y : Ext g' mu' h' g'' mu'' h'') : Ext g mu h g'' mu'' h'' := by
  have nm : ∀ b, ¬ mu b → h.get? b ≠ none → ¬ mu' b := fun b n e m => (x.grow b m).elim n e
  refine ⟨fun b o e n => ?_, fun b m => ?_, x.le.trans y.le, fun b e => y.live b (x.live b e), fun b e n k => ?_⟩
  · exact y.keep b o (x.keep b o e n) (nm b n (by rw [e]; exact fun q => nomatch q))
  · rcases y.grow b m with m | e
    · exact x.grow b m
    · refine .inr ?_
      cases q : h.get? b with
      | none => rfl
      | some o => exact absurd e (x.live b (by rw [q]; exact fun q => nomatch q))
  · exact y.cool b (x.cool b e n k) (nm b n k) (x.live b k)

variable {w : World} {K : Frag} {hb : Heap} {f : Frm} {g g' : Gh} {α : Nat → Addr} {l : Loc} {c : Cells} {h h' : Heap}

/-- a state hangs on the frozen and the turned objects alone -/
theorem St.touch (S : St w K hb f g α l c h) (k : ∀ b o, g.φ b ≠ none ∨ MutA f α g.cs l b → h.get? b = some o → h'.get? b = some o) : St w K hb f g α l c h' where
  fz := fun a o e => k a o (.inl (by rw [e]; exact fun q => nomatch q)) (S.fz a o e)
  base := S.base
  mfree := S.mfree
  ns := by
    refine ex_1_2 (S.ns) fun m hm hv => ?_
    exact ⟨m, hm.at' fun o e => k _ o (.inr .loc) e, hv⟩
  cv := fun x kk e => by
    obtain ⟨v, ⟨o, ho, hd⟩, hv⟩ := S.cv x kk e
    exact ⟨v, ⟨o, k _ o (.inr (.cv e)) ho, hd⟩, hv⟩
  len := S.len
  own := fun i a e => by
    refine ex_1_2 (S.own i a e) fun o ho hr => ?_
    exact ⟨o, k _ o (.inr (.own e)) ho, hr⟩
  clen := S.clen
  cel := fun i a e => by
    refine ex_2_3 (S.cel i a e) fun b o hb' ho hr => ?_
    exact ⟨b, o, hb', k _ o (.inr (.cell (List.mem_of_getElem? hb'))) ho, hr⟩
  own_ne := S.own_ne
  own_loc := S.own_loc
  own_cv := S.own_cv
  own_cell := S.own_cell
  loc_cell := S.loc_cell
  cv_cell := S.cv_cell
  cv_loc := S.cv_loc
  cv_inj := S.cv_inj
  cnd := S.cnd
  sys := S.sys

/-- a turned object exists -/
theorem St.live (S : St w K hb f g α l c h) {b : Addr} (m : MutA f α g.cs l b) : h.get? b ≠ none := by
  cases m with
  | loc => obtain ⟨m, ⟨o, es, ep, ho, _⟩, _⟩ := S.ns; rw [ho]; exact fun q => nomatch q
  | cv e => obtain ⟨v, ⟨o, ho, _⟩, _⟩ := S.cv _ _ e; rw [ho]; exact fun q => nomatch q
  | own e => obtain ⟨o, ho, _⟩ := S.own _ _ e; rw [ho]; exact fun q => nomatch q
  | cell e =>
    obtain ⟨k, hk, rfl⟩ := List.getElem_of_mem e
    have hk' : k < c.length := by rw [S.clen]; exact hk
    refine ex_2_3 (S.cel k c[k] (List.getElem?_eq_getElem hk')) fun b o hb' ho _ => ?_
    rw [List.getElem?_eq_getElem hk] at hb'
    cases hb'
    rw [ho]; exact fun q => nomatch q
theorem St.liveF (S : St w K hb f g α l c h) {b : Addr} (m : g.φ b ≠ none) : h.get? b ≠ none := by
  cases q : g.φ b with
  | none => exact absurd q m
  | some o => rw [S.fz b o q]; exact fun q => nomatch q
theorem St.cold (S : St w K hb f g α l c h) {b : Addr} (e : h.get? b = none) : g.φ b = none ∧ ¬ MutA f α g.cs l b :=
  ⟨Classical.byContradiction fun q => S.liveF q e, fun m => S.live m e⟩

noncomputable def frz (g : Gh) (a : Addr) (o : Obj) : Gh := { g with φ := fun b => if b = a then some o else g.φ b }
theorem frz_le {a : Addr} {o : Obj} (e : g.φ a = none) : g.Le (frz g a o) :=
  ⟨fun b o' q => by
    show (if b = a then some o else g.φ b) = some o'
    by_cases z : b = a
    · rw [z, e] at q; cases q
    · rw [if_neg z]; exact q, [], by simp [frz]⟩

/-- frozen things may be more -/
theorem St.more (S : St w K hb f g α l c h) {a : Addr} {o : Obj} (ho : h.get? a = some o) (e : g.φ a = none) (n : ¬ MutA f α g.cs l a) : St w K hb f (frz g a o) α l c h where
  fz := fun b o' q => by
    have q : (if b = a then some o else g.φ b) = some o' := q
    by_cases z : b = a
    · rw [if_pos z] at q; cases q; rw [z]; exact ho
    · rw [if_neg z] at q; exact S.fz b o' q
  base := fun b o' q => (frz_le e).φ _ _ (S.base b o' q)
  mfree := fun b m => by
    show (if b = a then some o else g.φ b) = none
    have m : MutA f α g.cs l b := m
    rw [if_neg (fun z : b = a => n (z ▸ m))]; exact S.mfree b m
  ns := by
    refine ex_1_2 (S.ns) fun m hm hv => ?_
    exact ⟨m, hm, fun i x hx hk => LVR.mono w K (frz_le e) (hv i x hx hk)⟩
  cv := fun x kk q => by
    refine ex_1_2 (S.cv x kk q) fun v hc hv => ?_
    exact ⟨v, hc, fun i hx hk => LVR.mono w K (frz_le e) (hv i hx hk)⟩
  len := S.len
  own := fun i b q => by
    refine ex_1_2 (S.own i b q) fun o' ho' hr => ?_
    exact ⟨o', ho', ObR.mono w K (frz_le e) hr⟩
  clen := S.clen
  cel := fun i b q => by
    refine ex_2_3 (S.cel i b q) fun d o' hd ho' hr => ?_
    exact ⟨d, o', hd, ho', ObR.mono w K (frz_le e) hr⟩
  own_ne := S.own_ne
  own_loc := S.own_loc
  own_cv := S.own_cv
  own_cell := S.own_cell
  loc_cell := S.loc_cell
  cv_cell := S.cv_cell
  cv_loc := S.cv_loc
  cv_inj := S.cv_inj
  cnd := S.cnd
  sys := S.sys

/-- one new object, of no name yet -/
theorem St.push (S : St w K hb f g α l c h) (o : Obj) : St w K hb f g α l c (h.push o) := S.touch fun _ _ _ e => Heap.get?_push_of_some _ e
theorem Ext.push (g : Gh) (mu : Addr → Prop) (h : Heap) (o : Obj) : Ext g mu h g mu (h.push o) :=
  ⟨fun _ _ e _ => Heap.get?_push_of_some _ e, fun _ m => .inl m, .refl g, fun b e => by
    cases q : h.get? b with
    | none => exact absurd q e
    | some o' => rw [Heap.get?_push_of_some _ q]; exact fun z => (nomatch z), fun _ e _ _ => e⟩
theorem Heap.none_at_size (h : Heap) : h.get? h.objs.size = none := by
  cases q : h.get? h.objs.size with
  | none => rfl
  | some o => exact absurd (Heap.lt_size q) (Nat.lt_irrefl _)

/-- a step that writes nothing that is known -/
theorem Ext.of_keeps (k : ∀ b o, h.get? b = some o → h'.get? b = some o) (g : Gh) (mu : Addr → Prop) : Ext g mu h g mu h' :=
  ⟨fun b o e _ => k b o e, fun _ m => .inl m, .refl g, fun b e => by
    cases q : h.get? b with
    | none => exact absurd q e
    | some o' => rw [k b o' q]; exact fun z => (nomatch z), fun _ e _ _ => e⟩
theorem St.keeps (S : St w K hb f g α l c h) (k : ∀ b o, h.get? b = some o → h'.get? b = some o) : St w K hb f g α l c h' := S.touch fun b o _ e => k b o e

/-- freezing what no name holds -/
theorem Ext.freeze {a : Addr} {o : Obj} {mu : Addr → Prop} (e : g.φ a = none) (e0 : h.get? a = none) (k : ∀ b o, h.get? b = some o → h'.get? b = some o) : Ext g mu h (Mine.frz g a o) mu h' :=
  ⟨fun b o e _ => k b o e, fun _ m => .inl m, frz_le e, (Ext.of_keeps k g mu).live, fun b q _ z => by
    show (if b = a then some o else g.φ b) = none
    rw [if_neg (fun y : b = a => z (y ▸ e0))]; exact q⟩
end Mine
end
section
open PySem PySem.W PySem.Calls PyProof.Rows
set_option Elab.async false
set_option maxRecDepth 100000
set_option linter.unusedVariables false
namespace Mine

/-- what stands ahead of the law's call -/
structure Cx (K : Frag) (hb : Heap) : Prop where
  X : K.In hb
  gl : ∃ mg, hb.Ns mainGlobals mg
  bl : ∃ mb, hb.Ns builtinsNs mb ∧ ∀ x : Str, x ≠ "__name__" → mb x = bootBuiltins x
  nolimit : hb.NoLimit

structure AOk (A : Around) (d : Nat) : Prop where
  hd : A.handled = none
  dp : A.depth + 3 * d ≤ 600
  un : A.units + 20 * d ≤ 9000

noncomputable def RVR (w : World) (K : Frag) (g : Gh) (mu : Addr → Prop) (h0 h : Heap) : RV → Value → Prop
  | .v a, v => Rp w K g a v
  | .o a, v => ∃ b o, v = .ref b ∧ g.φ b = none ∧ h.get? b = some o ∧ ObR w K g a o ∧ ¬ mu b ∧ h0.get? b = none ∧ b ≠ sysModules

section
variable (prog : Program) (w : World) (K : Frag) (hb : Heap)
/-- tree t, from a state (f, l, c), comes to an r and the cells c' -/
noncomputable def Wp {α β : Type} (A : Around) (f : Frm) (l : Loc) (c : Cells) (t : Sem α) (R : Gh → (Addr → Prop) → Heap → Heap → β → α → Prop) (r : β) (c' : Cells) : Prop :=
  ∀ (g : Gh) (al : Nat → Addr) (s : Shared) (Q : α → Shared → Prop) (E : Value → Shared → Prop), St w K hb f g al l c s.heap →
    (∀ v h' tk g', St w K hb f g' al l c' h' → Ext g (MutA f al g.cs l) s.heap g' (MutA f al g'.cs l) h' → R g' (MutA f al g'.cs l) s.heap h' r v → Q v { s with heap := h', toks := tk }) →
    wpAny (model prog w) A t Q E s
noncomputable abbrev WpR (A : Around) (f : Frm) (l : Loc) (c : Cells) (x : Expr) (r : RV) (c' : Cells) : Prop := Wp prog w K hb A f l c (eval x f.env) (RVR w K) r c'
noncomputable abbrev WpE (A : Around) (f : Frm) (l : Loc) (c : Cells) (x : Expr) (r : AV) (c' : Cells) : Prop := Wp prog w K hb A f l c (eval x f.env) (fun g _ _ _ => Rp w K g) r c'
noncomputable abbrev WpT (A : Around) (f : Frm) (l : Loc) (c : Cells) (x : Expr) (r : Bool) (c' : Cells) : Prop := Wp prog w K hb A f l c (isTrue x f.env (eval x f.env)) (fun _ _ _ _ a b => b = a) r c'
noncomputable abbrev WpL (A : Around) (f : Frm) (l : Loc) (c : Cells) (xs : List Expr) (r : List AV) (c' : Cells) : Prop := ∀ pos, Wp prog w K hb A f l c (spliced (backTo pos (starEach xs f.env))) (fun g _ _ _ => RpL w K g) r c'
end

variable {prog : Program} {w : World} {K : Frag} {hb : Heap} {A : Around} {f : Frm} {l : Loc} {c c' c1 c2 : Cells} {x y z : Expr} {pos : Pos} {a b : AV}

theorem Ext.freezeNew {g g' : Gh} {mu mu' : Addr → Prop} {h h' : Heap} {b : Addr} {o : Obj} (X : Ext g mu h g' mu' h') (hf : g'.φ b = none) (h0 : h.get? b = none) : Ext g mu h (frz g' b o) mu' h' :=
  ⟨X.keep, X.grow, X.le.trans (frz_le hf), X.live, fun d e n q => by
    show (if d = b then some o else g'.φ d) = none
    rw [if_neg (fun z : d = b => q (z ▸ h0))]; exact X.cool d e n q⟩
theorem ObR.rp {g : Gh} {a : AV} {b : Addr} {o : Obj} (hr : ObR w K g a o) (hf : g.φ b = none) (hs : b ≠ sysModules) : Rp w K (frz g b o) a (.ref b) := by
  have le := frz_le (o := o) hf
  have hg : (frz g b o).φ b = some o := if_pos rfl
  cases a <;> simp only [ObR] at hr
  · refine ex_2_2 (hr) fun vs n eq0 hl => ?_
    subst eq0
    skip
    exact ⟨b, vs, n, rfl, hg, RpL.mono w K le _ _ hl⟩
  · refine ex_2_4 (hr) fun es n eq0 he hl nd => ?_
    subst eq0
    skip
    exact ⟨b, es, n, rfl, hg, he, RpL.mono w K le _ _ hl, nd, hs⟩

theorem WpE.ofR {r : RV} (p : WpR prog w K hb A f l c x r c') : WpE prog w K hb A f l c x r.av c' := by
  intro g al s Q E S k
  refine p g al s Q E S fun v h' tk g' S' X R => ?_
  cases r with
  | v a => exact k v h' tk g' S' X R
  | o a =>
    refine ex_2_7 (R) fun b o eq0 hf ho hr nm h0 hs => ?_
    subst eq0
    exact k _ h' tk (frz g' b o) (S'.more ho hf nm) (X.freezeNew hf h0) (hr.rp hf hs)
theorem WpR.ofE (p : WpE prog w K hb A f l c x a c') : WpR prog w K hb A f l c x (.v a) c' := p

/-! names and constants -/
theorem wp_int {n : Int} {k : Nat} : WpE prog w K hb A f l c (.Constant (.int n) k pos) (.int n) c := fun g al s Q E S k =>
  wpAny_Constant_int (k _ s.heap _ g S (.refl ..) ⟨_, rfl⟩)
theorem wp_str {n : Str} {k : Nat} : WpE prog w K hb A f l c (.Constant (.str n) k pos) (.str n) c := fun g al s Q E S k =>
  Constant_str (k _ s.heap _ g S (.refl ..) ⟨_, rfl⟩)
theorem wp_bool {n : Bool} {k : Nat} : WpE prog w K hb A f l c (.Constant (.bool n) k pos) (.bool n) c := fun g al s Q E S k =>
  wpAny_Constant_bool (k _ s.heap s.toks g S (.refl ..) rfl)
theorem wp_none {k : Nat} : WpE prog w K hb A f l c (.Constant .none k pos) .none c := fun g al s Q E S k =>
  wpAny_Constant_none (k _ s.heap s.toks g S (.refl ..) rfl)

theorem wp_loc {i : Nat} {n : Str} (O : EnvOk f) (hn : f.nm[i]? = some n) (hk : f.env.kindOf n = some .local ∨ f.env.kindOf n = some .cell) (hl : l.at i = .val a)
    (hd : (n == ("__debug__" : Str)) = false) : WpE prog w K hb A f l c (.Name n pos) a c := by
  intro g al s Q E S k
  rcases hk with hk | hk
  · obtain ⟨m, hm, hv⟩ := S.ns
    obtain ⟨v, e, r⟩ : LVR w K g al i (.val a) (m n) := hl ▸ hv i n hn hk
    exact wpAny_Name (wpAny_loadName_local O.fn hk hm e (k v s.heap s.toks g S (.refl ..) r)) hd
  · obtain ⟨ad, hc⟩ := O.cvn n hk
    refine ex_1_2 (S.cv n ad hc) fun v hv r => ?_
    obtain ⟨u, e, r'⟩ : LVR w K g al i (.val a) v := hl ▸ r i hn hk
    subst e
    exact wpAny_Name (wpAny_loadName_cell O.fn hk hc hv (k u s.heap s.toks g S (.refl ..) r')) hd
/-- a name that holds what is still turned -/
theorem wp_locO {i : Nat} {n : Str} {Q : Value → Shared → Prop} {E : Value → Shared → Prop} {g : Gh} {al : Nat → Addr} {s : Shared} (O : EnvOk f) (S : St w K hb f g al l c s.heap) (hn : f.nm[i]? = some n)
    (hk : f.env.kindOf n = some .local ∨ f.env.kindOf n = some .cell) (hl : l.at i = .own a) (hd : (n == ("__debug__" : Str)) = false) (h : Q (.ref (al i)) s) :
    wpAny (model prog w) A (eval (.Name n pos) f.env) Q E s := by
  rcases hk with hk | hk
  · refine ex_1_2 (S.ns) fun m hm hv => ?_
    have e : LVR w K g al i (.own a) (m n) := hl ▸ hv i n hn hk
    exact wpAny_Name (wpAny_loadName_local O.fn hk hm e h) hd
  · obtain ⟨ad, hc⟩ := O.cvn n hk
    refine ex_1_2 (S.cv n ad hc) fun v hv r => ?_
    have e : LVR w K g al i (.own a) v := hl ▸ r i hn hk
    have e : v = some (.ref (al i)) := e
    subst e
    exact wpAny_Name (wpAny_loadName_cell O.fn hk hc hv h) hd

/-! numbers and texts -/
theorem wp_bin {o : Operator} {r : AV} (p : WpE prog w K hb A f l c x a c1) (q : WpE prog w K hb A f l c1 y b c2)
    (h : ∀ g u v, Rp w K g a u → Rp w K g b v → ∀ (s : Shared) (Q : Value → Shared → Prop) E, (∀ t tk, Rp w K g r t → Q t { s with toks := tk }) → wpAny (model prog w) A (binaryOp o u v) Q E s) :
    WpE prog w K hb A f l c (.BinOp x o y pos) r c2 := by
  intro g al s Q E S k
  refine wpAny_BinOp (p g al s _ E S fun u h1 tk1 g1 S1 X1 R1 => q g1 al _ _ E S1 fun v h2 tk2 g2 S2 X2 R2 => ?_)
  exact h g2 u v (R1.mono w K X2.le _ _) R2 _ _ _ fun t tk r => k t h2 tk g2 S2 (X1.trans X2) r
theorem Rp.int_iff {g : Gh} {i : Int} {v : Value} : Rp w K g (.int i) v ↔ ∃ t, v = .int i t := by simp only [Rp]
theorem Rp.str_iff {g : Gh} {i : Str} {v : Value} : Rp w K g (.str i) v ↔ ∃ t, v = .str i t := by simp only [Rp]
theorem Rp.bool_iff {g : Gh} {i : Bool} {v : Value} : Rp w K g (.bool i) v ↔ v = .bool i := by simp only [Rp]
theorem Rp.none_iff {g : Gh} {v : Value} : Rp w K g .none v ↔ v = .none := by simp only [Rp]
theorem wp_add_int {n m : Int} (p : WpE prog w K hb A f l c x (.int n) c1) (q : WpE prog w K hb A f l c1 y (.int m) c2) : WpE prog w K hb A f l c (.BinOp x .Add y pos) (.int (n + m)) c2 :=
  wp_bin p q fun g u v hu hv s Q E k => by
    obtain ⟨t, rfl⟩ := Rp.int_iff.mp hu; obtain ⟨t', rfl⟩ := Rp.int_iff.mp hv
    exact wpAny_add_int (k _ _ (Rp.int_iff.mpr ⟨_, rfl⟩))
theorem wp_sub_int {n m : Int} (p : WpE prog w K hb A f l c x (.int n) c1) (q : WpE prog w K hb A f l c1 y (.int m) c2) : WpE prog w K hb A f l c (.BinOp x .Sub y pos) (.int (n - m)) c2 :=
  wp_bin p q fun g u v hu hv s Q E k => by
    obtain ⟨t, rfl⟩ := Rp.int_iff.mp hu; obtain ⟨t', rfl⟩ := Rp.int_iff.mp hv
    exact PyProof.Rows.sub_int (k _ _ (Rp.int_iff.mpr ⟨_, rfl⟩))
theorem log2_62 {m : Int} (hm : m.natAbs < 2 ^ 62) : m.natAbs.log2 < 62 := by
  by_cases h0 : m.natAbs = 0
  · rw [h0]; decide +kernel
  · exact (Nat.log2_lt h0).mpr hm
theorem wp_fdiv {n m : Int} (h0 : m ≠ 0) (hm : m.natAbs < 2 ^ 62) (p : WpE prog w K hb A f l c x (.int n) c1) (q : WpE prog w K hb A f l c1 y (.int m) c2) : WpE prog w K hb A f l c (.BinOp x .FloorDiv y pos) (.int (n.fdiv m)) c2 :=
  wp_bin p q fun g u v hu hv s Q E k => by
    obtain ⟨t, rfl⟩ := Rp.int_iff.mp hu; obtain ⟨t', rfl⟩ := Rp.int_iff.mp hv
    exact PyProof.Rows.floordiv_int h0 (k _ _ (Rp.int_iff.mpr ⟨_, rfl⟩)) (.inl (PyProof.noPylong_of_log2 (Nat.lt_trans (log2_62 hm) (by decide))))
theorem wp_mod {n m : Int} (h0 : m ≠ 0) (hm : m.natAbs < 2 ^ 62) (p : WpE prog w K hb A f l c x (.int n) c1) (q : WpE prog w K hb A f l c1 y (.int m) c2) : WpE prog w K hb A f l c (.BinOp x .Mod y pos) (.int (n.fmod m)) c2 :=
  wp_bin p q fun g u v hu hv s Q E k => by
    obtain ⟨t, rfl⟩ := Rp.int_iff.mp hu; obtain ⟨t', rfl⟩ := Rp.int_iff.mp hv
    exact PyProof.Rows.mod_int' h0 (k _ _ (Rp.int_iff.mpr ⟨_, rfl⟩))
theorem wp_mul {n m : Int} (hm : m.natAbs < 2 ^ 62) (p : WpE prog w K hb A f l c x (.int n) c1) (q : WpE prog w K hb A f l c1 y (.int m) c2) : WpE prog w K hb A f l c (.BinOp x .Mult y pos) (.int (n * m)) c2 :=
  wp_bin p q fun g u v hu hv s Q E k => by
    obtain ⟨t, rfl⟩ := Rp.int_iff.mp hu; obtain ⟨t', rfl⟩ := Rp.int_iff.mp hv
    refine PyProof.Rows.mul_int (k _ _ (Rp.int_iff.mpr ⟨_, rfl⟩)) (IntMulOk.of_right ?_)
    have := log2_62 hm
    unfold Builtin.Int.intBits
    split <;> lia
theorem wp_pow18 (p : WpE prog w K hb A f l c x (.int 10) c1) (q : WpE prog w K hb A f l c1 y (.int 18) c2) : WpE prog w K hb A f l c (.BinOp x .Pow y pos) (.int 1000000000000000000) c2 :=
  wp_bin p q fun g u v hu hv s Q E k => by
    obtain ⟨t, rfl⟩ := Rp.int_iff.mp hu; obtain ⟨t', rfl⟩ := Rp.int_iff.mp hv
    exact PyProof.Rows.pow_int (by decide) (by decide +kernel) (k _ _ (Rp.int_iff.mpr ⟨_, rfl⟩))
theorem wp_add_str {n m : Str} (hl : n.length + m.length ≤ lim) (p : WpE prog w K hb A f l c x (.str n) c1) (q : WpE prog w K hb A f l c1 y (.str m) c2) : WpE prog w K hb A f l c (.BinOp x .Add y pos) (.str (n ++ m)) c2 :=
  wp_bin p q fun g u v hu hv s Q E k => by
    obtain ⟨t, rfl⟩ := Rp.str_iff.mp hu; obtain ⟨t', rfl⟩ := Rp.str_iff.mp hv
    exact PyProof.Rows.add_str (fun _ _ => k _ _ (Rp.str_iff.mpr ⟨_, rfl⟩)) (by rw [sizeLine_eq]; unfold lim at hl; lia)
theorem wp_neg {n : Int} (p : WpE prog w K hb A f l c x (.int n) c1) : WpE prog w K hb A f l c (.UnaryOp .USub x pos) (.int (-n)) c1 := by
  intro g al s Q E S k
  refine wpAny_UnaryOp (p g al s _ E S fun u h1 tk1 g1 S1 X1 R1 => ?_)
  obtain ⟨t, rfl⟩ := Rp.int_iff.mp R1
  exact PyProof.Rows.neg_int (k _ h1 _ g1 S1 X1 (Rp.int_iff.mpr ⟨_, rfl⟩))

/-! displays -/
theorem wpL_nil : WpL prog w K hb A f l c [] [] c := fun pos g al s Q E S k => spliced_nil (k _ s.heap s.toks g S (.refl ..) (by simp only [RpL]))
theorem wpL_cons {xs : List Expr} {as : List AV} (he : starEach (x :: xs) f.env = (false, eval x f.env) :: starEach xs f.env) (p : WpE prog w K hb A f l c x a c1) (q : WpL prog w K hb A f l c1 xs as c2) :
    WpL prog w K hb A f l c (x :: xs) (a :: as) c2 := by
  intro pos g al s Q E S k
  rw [he]
  refine spliced_cons (p g al s _ E S fun u h1 tk1 g1 S1 X1 R1 => ?_)
  refine q pos g1 al _ _ E S1 fun vs h2 tk2 g2 S2 X2 R2 => ?_
  exact k _ h2 tk2 g2 S2 (X1.trans X2) (by simp only [RpL]; exact ⟨u, vs, rfl, R1.mono w K X2.le _ _, R2⟩)
theorem RpL.len {g : Gh} : ∀ {as : List AV} {vs : List Value}, RpL w K g as vs → vs.length = as.length
  | [], vs, h => by simp only [RpL] at h; rw [h]; rfl
  | a :: as, vs, h => by
    simp only [RpL] at h
    obtain ⟨v, r, rfl, _, h⟩ := h
    simp [RpL.len h]
theorem small_len {as : List AV} (h : small as = true) : as.length ≤ lim := by simpa [small] using h
theorem sizeLine_lim {n : Nat} (h : n ≤ lim) : n ≤ sizeLine := by rw [sizeLine_eq]; unfold lim at h; lia
theorem size_ne {g : Gh} {al : Nat → Addr} {h : Heap} (C : Cx K hb) (S : St w K hb f g al l c h) : h.objs.size ≠ sysModules := by
  refine ex_4_2 (C.gl) fun mg o es ep ho _ => ?_
  have := Heap.lt_size (S.fz _ _ (S.base _ _ ho))
  intro e
  rw [e] at this
  exact absurd this (by decide)
theorem wp_list {xs : List Expr} {as : List AV} (C : Cx K hb) (hz : small as = true) (q : WpL prog w K hb A f l c xs as c1) : WpR prog w K hb A f l c (.List xs pos) (.o (.list as)) c1 := by
  intro g al s Q E S k
  refine List_ (q pos g al s _ E S fun vs h1 tk1 g1 S1 X1 R1 => ?_)
  refine wpAny_newList (k _ _ _ g1 (S1.push _) (X1.trans (.push ..)) ?_) (sizeLine_lim (by rw [R1.len]; exact small_len hz))
  have z := S1.cold (Heap.none_at_size h1)
  exact ⟨_, _, rfl, z.1, Heap.get?_push_size _ rfl, by simp only [ObR]; exact ⟨vs, 0, rfl, R1⟩, z.2, Classical.byContradiction fun e => X1.live _ e (Heap.none_at_size h1), size_ne C S1⟩
theorem wp_tup {xs : List Expr} {as : List AV} {k : Nat} (hz : small as = true) (q : WpL prog w K hb A f l c xs as c1) : WpE prog w K hb A f l c (.Tuple xs k pos) (.tup as) c1 := by
  intro g al s Q E S k
  refine Tuple_ (q pos g al s _ E S fun vs h1 tk1 g1 S1 X1 R1 => ?_)
  have z := S1.cold (Heap.none_at_size h1)
  refine wpAny_newTuple (k _ _ _ (frz g1 h1.objs.size (tupO vs 0)) ((S1.push _).more (Heap.get?_push_size _ rfl) z.1 z.2) ((X1.trans (.push ..)).freezeNew z.1 (Classical.byContradiction fun e => X1.live _ e (Heap.none_at_size h1))) ?_)
    (sizeLine_lim (by rw [R1.len]; exact small_len hz))
  skip
  exact ⟨_, vs, 0, rfl, if_pos rfl, R1.mono w K (frz_le z.1) _ _⟩
theorem wp_dict0 (C : Cx K hb) : WpR prog w K hb A f l c (.Dict [] [] pos) (.o (.dict [] [])) c := by
  intro g al s Q E S k
  have z := S.cold (Heap.none_at_size s.heap)
  refine wpAny_Dict_empty (k _ _ s.toks g (S.push _) (.push ..) ?_)
  exact ⟨_, _, rfl, z.1, Heap.get?_push_size _ rfl, by simp only [ObR]; exact ⟨[], 0, rfl, rfl, by simp only [RpL, List.map_nil], .nil⟩, z.2, Heap.none_at_size _, size_ne C S⟩
end Mine
end
section
open PySem PySem.W PySem.Calls PyProof.Rows
set_option Elab.async false
set_option maxRecDepth 100000
set_option linter.unusedVariables false
namespace Mine

/-! what the written part must say of the classes and the defs (checked by evaluation) -/
noncomputable def fnA (K : Frag) (n : Nat) : Addr := match whereOf n with
  | (none, x) => (match nsIn K mainGlobals x with
    | some (some (.ref a)) => a
    | _ => 0)
  | (some c, x) => (match findIn K (.ref (clsA K c)) x with
    | some (some (.ref a)) => a
    | _ => 0)
noncomputable def initA (K : Frag) (c : Nat) : Addr := match findIn K (.ref (clsA K c)) "__init__" with
  | some (some (.ref a)) => a
  | _ => 0

noncomputable def attrOk (K : Frag) (c : Nat) (x : Str) : Bool :=
  plainGet K (clsA K c) x && hasDictIn K (clsA K c) && findIn K (.ref (clsA K c)) x == some none && takerIn K (clsA K c) x == some none
noncomputable def methOk (K : Frag) (c : Nat) (n : Str) (a : Addr) : Bool :=
  plainGet K (clsA K c) n && findIn K (.ref (clsA K c)) n == some (some (.ref a)) && isFn K (.ref a) && keepIn K (.ref a) && !(clsFields c).contains n
noncomputable def isiOk (K : Frag) (d c : Nat) : Bool :=
  nsIn K mainGlobals ((clsNames[c]?).getD "") == some (some (.ref (clsA K c))) &&
  (if d = c then isIn K (.ref (clsA K d)) (clsA K c) else kin_not K (clsA K d) (clsA K c)) && plainGet K (clsA K d) "__class__" && hasDictIn K (clsA K d) && findIn K (.ref (clsA K d)) "__class__" == some (some (.builtin "object.__class__")) &&
  specialIn K (.builtin "object.__class__") "__get__" == some (some (.builtin "getset_descriptor.__get__")) && takesIn K (.builtin "object.__class__") == some true && mroIn K (clsA K d) (.type "object") == some true
structure KOk (K : Frag) : Prop where
  attr : ∀ c j k x, fieldIdx c k = some j → attrNames[k]? = some x → attrOk K c x = true ∧ (clsFields c)[j]? = some x ∧ (clsFields c).Nodup
  meth : ∀ c m n x, methOf c m = some n → methNames[m]? = some x → methOk K c x (fnA K n) = true
  isi : ∀ d c, d < 10 → c < 10 → isiOk K d c = true

variable {prog : Program} {w : World} {K : Frag} {hb : Heap} {A : Around} {f : Frm} {l : Loc} {c c' c1 c2 : Cells} {x y z : Expr} {pos : Pos} {a b : AV}

theorem St.kin {g : Gh} {al : Nat → Addr} {h : Heap} (C : Cx K hb) (S : St w K hb f g al l c h) : K.In h := C.X.keeps fun b o e => S.fz b o (S.base b o e)
theorem St.hbk {g : Gh} {al : Nat → Addr} {h : Heap} (S : St w K hb f g al l c h) : ∀ b o, hb.get? b = some o → h.get? b = some o := fun b o e => S.fz b o (S.base b o e)

theorem getL_hit {hs : Int} {k : Str} {t : Tok} {v : Value} {r : List DictEntry} : getL k (⟨hs, .str k t, v⟩ :: r) = some (some v) := by
  show (match List.find? (fun e : DictEntry => e.key.isStr k) (⟨hs, .str k t, v⟩ :: r) with
    | some e => some (some e.val)
    | none => _) = _
  rw [List.find?_cons_of_pos (p := fun e : DictEntry => e.key.isStr k) (a := ⟨hs, .str k t, v⟩) (beq_self_eq_true k)]
theorem getL_skip {hs : Int} {k n : Str} {t : Tok} {v : Value} {r : List DictEntry} (ne : k ≠ n) : getL n (⟨hs, .str k t, v⟩ :: r) = getL n r := by
  show (match List.find? (fun e : DictEntry => e.key.isStr n) (⟨hs, .str k t, v⟩ :: r) with
    | some e => some (some e.val)
    | none => if List.any (_ :: r) (·.refKey) then none else some none) = _
  rw [List.find?_cons_of_neg (p := fun e : DictEntry => e.key.isStr n) (a := ⟨hs, .str k t, v⟩) (fun q => ne (eq_of_beq q)), List.any_cons, show DictEntry.refKey ⟨hs, .str k t, v⟩ = false from rfl, Bool.false_or]
  rfl
theorem EntL.get {g : Gh} {n : Str} : ∀ {ks : List Str} {es : List DictEntry} {fs : List AV} {j : Nat} {a : AV}, EntL w ks es → RpL w K g fs (es.map (·.val)) → ks.Nodup → ks[j]? = some n → fs[j]? = some a →
    ∃ v, getL n es = some (some v) ∧ Rp w K g a v
  | [], _, _, _, _, _, _, _, hj, _ => by simp at hj
  | k :: ks, es, fs, j, a, he, hr, nd, hj, ha => by
    obtain ⟨t, v, r, rfl, he⟩ := he
    cases fs with
    | nil => simp at ha
    | cons b fs =>
      simp only [List.map_cons, RpL] at hr
      refine ex_2_3 (hr) fun v' r' e hv hr => ?_
      cases e
      cases j with
      | zero =>
        simp only [List.getElem?_cons_zero, Option.some.injEq] at hj ha
        subst hj ha
        exact ⟨v, getL_hit, hv⟩
      | succ j =>
        simp only [List.getElem?_cons_succ] at hj ha
        have nd' := List.nodup_cons.mp nd
        have ne : k ≠ n := fun q => nd'.1 (q ▸ List.mem_of_getElem? hj)
        refine ex_1_2 (EntL.get he hr nd'.2 hj ha) fun u hu hr' => ?_
        refine ⟨u, ?_, hr'⟩
        exact (getL_skip ne).trans hu
theorem EntL.get_none {n : Str} : ∀ {ks : List Str} {es : List DictEntry}, EntL w ks es → n ∉ ks → getL n es = some none
  | [], es, he, _ => by cases he; rfl
  | k :: ks, es, he, hn => by
    obtain ⟨t, v, r, rfl, he⟩ := he
    have ih := EntL.get_none he fun q => hn (.tail _ q)
    exact (getL_skip fun q : k = n => hn (q ▸ .head _)).trans ih
theorem Rp.handed {g : Gh} {a : AV} {v : Value} (r : Rp w K g a v) : handedIn v = true := by
  cases a <;> simp only [Rp] at r
  · subst r; rfl
  · subst r; rfl
  · obtain ⟨t, rfl⟩ := r; rfl
  · obtain ⟨t, rfl⟩ := r; rfl
  · obtain ⟨_, _, _, e, _⟩ := r; subst e; rfl
  · obtain ⟨_, _, _, e, _⟩ := r; subst e; rfl
  · obtain ⟨_, _, _, e, _⟩ := r; subst e; rfl
  · obtain ⟨_, _, _, _, e, _⟩ := r; subst e; rfl
  · obtain ⟨_, e, _⟩ := r; subst e; rfl

noncomputable def notBare (x : Expr) : Bool := !callB x fun f xs ks _ => nameB f fun _ _ => xs.isEmpty && ks.isEmpty
theorem base_of_notBare {o : Expr} {n : Str} {env : Env} {t : Sem Value} (h : notBare o = true) : attributeBase o n env t = t := by
  cases o <;> try rfl
  rename_i f xs ks p
  cases f <;> try rfl
  cases xs <;> cases ks <;> first | rfl | exact noB h

theorem wp_attr {j k : Nat} {n : Str} {cl : Nat} {fs : List AV} (C : Cx K hb) (O : KOk K) (hb' : notBare x = true) (hi : fieldIdx cl k = some j) (hn : attrNames[k]? = some n) (ha : fs[j]? = some a)
    (p : WpE prog w K hb A f l c x (.obj cl fs) c1) : WpE prog w K hb A f l c (.Attribute x n pos) a c1 := by
  intro g al s Q E S q
  refine ex_0_3 (O.attr cl j k n hi hn) fun o1 o2 o3 => ?_
  simp only [attrOk, Bool.and_eq_true, beq_iff_eq] at o1
  obtain ⟨⟨⟨h1, h2⟩, h3⟩, h4⟩ := o1
  refine Attribute_any_ (p g al s _ E S fun u h' tk g' S' X R => ?_) (by
    show (do let o ← attributeBase x n f.env (eval x f.env); _) = _
    rw [base_of_notBare hb'])
  simp only [Rp] at R
  refine ex_4_5 (R) fun ad d es m eq0 hx hd he hr => ?_
  subst eq0
  refine ex_1_2 (EntL.get he hr o3 o2 ha) fun v hv r => ?_
  have I : PySem.W.InstAt h' ad (instObj (clsA K cl) d) (clsA K cl) (some (dictOf es m)) := ⟨S'.fz _ _ hx, rfl, rfl, S'.fz _ _ hd⟩
  refine get_value (S'.kin C) I (plainGet_of h1).1 (findObj_own h2 h3 rfl hv) r.handed ?_
  exact q v h' _ g' S' X r

/-- one call of a def -/
noncomputable def CallOk (prog : Program) (w : World) (K : Frag) (hb : Heap) (Φ : CallF) (d : Nat) : Prop :=
  ∀ (n : Nat) (as : List AV) (c : Cells) (r : RV) (c' : Cells), Φ n as c = some (r, c') → ∀ (A : Around), AOk A d → ∀ (f : Frm) (l : Loc) (g : Gh) (al : Nat → Addr) (s : Shared) (Q : Value → Shared → Prop) (E : Value → Shared → Prop) (vs : List Value),
    St w K hb f g al l c s.heap → RpL w K g as vs →
    (∀ v h' tk g', St w K hb f g' al l c' h' → Ext g (MutA f al g.cs l) s.heap g' (MutA f al g'.cs l) h' → RVR w K g' (MutA f al g'.cs l) s.heap h' r v → Q v { s with heap := h', toks := tk }) →
    wpAny (model prog w) A (call (.ref (fnA K n)) vs) Q E s

/-- the call's frame rule: what a step says of its own start holds from an elder start too -/
theorem RVR.back {g g' : Gh} {mu mu' : Addr → Prop} {h0 h1 h2 : Heap} {r : RV} {v : Value} (X : Ext g mu h0 g' mu' h1) (R : RVR w K g' mu' h1 h2 r v) : RVR w K g' mu' h0 h2 r v := by
  cases r with
  | v a => exact R
  | o a =>
    refine ex_2_7 (R) fun b o e hf ho hr nm h0 z => ?_
    exact ⟨b, o, e, hf, ho, hr, nm, Classical.byContradiction fun q => X.live b q h0, z⟩
theorem RVR.fwd {g g' g'' : Gh} {mu mu' mu'' : Addr → Prop} {h0 h1 h2 : Heap} {r : RV} {v : Value} (X : Ext g mu h0 g' mu' h1) (R : RVR w K g'' mu'' h1 h2 r v) : RVR w K g'' mu'' h0 h2 r v := by
  cases r with
  | v a => exact R
  | o a =>
    refine ex_2_7 (R) fun b o e hf ho hr nm h0 z => ?_
    exact ⟨b, o, e, hf, ho, hr, nm, Classical.byContradiction fun q => X.live b q h0, z⟩

noncomputable def noStar (l : List Expr) : Bool := l.all fun x => x.ctorIdx != 22
theorem star_head {x : Expr} {xs : List Expr} {env : Env} (h : noStar [x] = true) : starEach (x :: xs) env = (false, eval x env) :: starEach xs env := by
  cases x <;> first | rfl | exact noB h
theorem noStar_cons {x : Expr} {xs : List Expr} {env : Env} (h : noStar (x :: xs) = true) : starEach (x :: xs) env = (false, eval x env) :: starEach xs env ∧ noStar xs = true :=
  and2 h fun h1 h2 => ⟨star_head (Bool.and_eq_true_iff.mpr ⟨h1, rfl⟩), h2⟩
theorem noStar_any {pos : Pos} {env : Env} : ∀ {xs : List Expr}, noStar xs = true → (backTo pos (starEach xs env)).any (·.1) = false
  | [], _ => rfl
  | x :: xs, h => by
    obtain ⟨e, h'⟩ := noStar_cons (env := env) h
    have ih := noStar_any (pos := pos) (env := env) h'
    rw [e]
    show List.any (_ :: backTo pos (starEach xs env)) _ = false
    rw [List.any_cons, ih]; rfl

/-- a callee of the written part, its arguments evaluated -/
theorem callWith_L {fv : Value} {first : List Value} {xs : List Expr} {as : List AV} {g : Gh} {al : Nat → Addr} {s : Shared} {Q : Value → Shared → Prop} {E : Value → Shared → Prop} (C : Cx K hb) (hs : noStar xs = true) (hk : keepIn K fv = true)
    (q : WpL prog w K hb A f l c xs as c1) (S : St w K hb f g al l c s.heap)
    (h : ∀ vs h' tk g', St w K hb f g' al l c1 h' → Ext g (MutA f al g.cs l) s.heap g' (MutA f al g'.cs l) h' → RpL w K g' as vs → wpAny (model prog w) A (call fv (first ++ vs)) Q E { s with heap := h', toks := tk }) :
    wpAny (model prog w) A (callWith pos fv first (backTo pos (starEach xs f.env)) []) Q E s := by
  cases xs with
  | nil =>
    refine callWith_K0 (S.kin C) hk ?_
    have q' : wpAny (model prog w) A (spliced []) (fun vs s' => wpAny (model prog w) A (call fv (first ++ vs)) Q E s') E s := q pos g al s _ E S fun vs h' tk g' S' X R => h vs h' tk g' S' X R
    exact fun Γ p i => q' Γ p i Γ p i
  | cons x xs =>
    obtain ⟨e, hs'⟩ := noStar_cons (env := f.env) hs
    exact callWith_K (h₀ := hb) C.X hk (q pos g al s _ E S fun vs h' tk g' S' X R => ⟨S'.kin C, h vs h' tk g' S' X R⟩) e (noStar_any hs')

theorem ns_agree {h h' : Heap} {a : Addr} {m : Str → Option Value} (x : h.Ns a m) (k : ∀ b o, h.get? b = some o → h'.get? b = some o) : h'.Ns a m := x.keeps k
/-- a name of the top -/
theorem name_top {n : Str} {v : Value} {g : Gh} {al : Nat → Addr} {s : Shared} {Q : Value → Shared → Prop} {E : Value → Shared → Prop} (C : Cx K hb) (O : EnvOk f) (S : St w K hb f g al l c s.heap) (e : nsIn K mainGlobals n = some (some v))
    (hk : f.env.kindOf n = some .globalImplicit) (hd : (n == ("__debug__" : Str)) = false) (h : Q v s) : wpAny (model prog w) A (eval (.Name n pos) f.env) Q E s := by
  obtain ⟨mg, hg⟩ := C.gl
  refine Name_function_global O.fn hk (loadGlobal_global (mg := mg) (by rw [O.gl]; exact hg.keeps S.hbk) (mg_of C.X hg e) h) hd
theorem name_built {n : Str} {v : Value} {g : Gh} {al : Nat → Addr} {s : Shared} {Q : Value → Shared → Prop} {E : Value → Shared → Prop} (C : Cx K hb) (O : EnvOk f) (S : St w K hb f g al l c s.heap) (e : nsIn K mainGlobals n = some none)
    (hv : bootBuiltins n = some v) (hn : n ≠ "__name__") (hk : f.env.kindOf n = some .globalImplicit) (hd : (n == ("__debug__" : Str)) = false) (h : Q v s) : wpAny (model prog w) A (eval (.Name n pos) f.env) Q E s := by
  obtain ⟨mg, hg⟩ := C.gl
  refine ex_1_2 (C.bl) fun mb hbl hb2 => ?_
  refine Name_function_global O.fn hk (loadGlobal_builtin (mg := mg) (mb := mb) (by rw [O.gl]; exact hg.keeps S.hbk) (mg_none_of C.X hg e) (by rw [O.bl]; exact hbl.keeps S.hbk) ((hb2 n hn).trans hv) h) hd

theorem wp_call {n : Nat} {Φ : CallF} {d : Nat} {nm : Str} {xs : List Expr} {as : List AV} {r : RV} (C : Cx K hb) (O : EnvOk f) (F : CallOk prog w K hb Φ d) (hA : AOk A d) (hs : noStar xs = true) (e : nsIn K mainGlobals nm = some (some (.ref (fnA K n))))
    (hk : f.env.kindOf nm = some .globalImplicit) (hd : (nm == ("__debug__" : Str)) = false) (hkeep : keepIn K (.ref (fnA K n)) = true) (q : WpL prog w K hb A f l c xs as c1) (hΦ : Φ n as c1 = some (r, c2)) {np : Pos} :
    WpR prog w K hb A f l c (.Call (.Name nm np) xs [] pos) r c2 := by
  intro g al s Q E S k
  refine wpAny_Call_NameR (name_top C O S e hk hd ?_)
  refine callWith_L C hs hkeep q S fun vs h' tk g' S' X R => ?_
  rw [List.nil_append]
  exact F n as c1 r c2 hΦ A hA f l g' al _ Q E vs S' R fun v h2 tk2 g2 S2 X2 R2 => k v h2 tk2 g2 S2 (X.trans X2) (R2.fwd X)
end Mine
end
section
open PySem PySem.W PySem.Calls PyProof.Rows
set_option Elab.async false
set_option maxRecDepth 100000
set_option linter.unusedVariables false
namespace Mine
variable {prog : Program} {w : World} {K : Frag} {hb : Heap} {A : Around} {f : Frm} {l : Loc} {c c' c1 c2 c3 : Cells} {x y z : Expr} {pos : Pos} {a b : AV}

theorem call_attr {M : Model} {o : Expr} {n : Str} {apos : Pos} {xs : List Expr} {env : Env} {s : Shared} {Q : Value → Shared → Prop} {E : Value → Shared → Prop} (hb : notBare o = true) (hs : noStar xs = true) (hl : xs.length < 29) (hline : (apos.endLine == pos.line) = true)
    (h : wpAny M A (eval o env) (fun ov s₁ => ∀ pl, wpAny M A (getMethod ov n pl) (fun fx s₂ => wpAny M A (callWith pos fx.1 fx.2 (backTo pos (starEach xs env)) []) Q E s₂) E s₁) E s) :
    wpAny M A (eval (.Call (.Attribute o n apos) xs [] pos) env) Q E s := by
  show wpAny M A (do
    let ov ← attributeBase o n env (eval o env)
    standAt apos.atName
    methodCall o n apos pos env ov (xs.length + 0) (backTo pos (starEach xs env)) []) Q E s
  rw [base_of_notBare hb]
  have few : methodCallForm (xs.length + 0) (backTo pos (starEach xs env)) [] = true := by
    unfold methodCallForm
    have e := noStar_any (pos := pos) (env := env) hs
    have e2 : (backTo pos (starEach xs env)).all (fun x => !x.1) = true := by
      rw [List.all_eq_not_any_not]
      simpa using e
    simp only [e2, List.all_nil, Bool.true_and, List.isEmpty_nil, if_true, decide_eq_true_eq]
    lia
  refine wpAny_bind (wpAny_mono h (fun ov s₁ h₁ => wpAny_bind (wpAny_standAt ?_)) fun _ _ e => e)
  unfold methodCall
  rw [few]
  refine wpAny_bind (wpAny_holding (m := getMethod ov n _) (wpAny_mono (h₁ _) (fun fx s₂ h₂ => ?_) fun _ _ e => e))
  obtain ⟨fv, first⟩ := fx
  dsimp only
  have hp : methodCallPos true o env apos pos = pure pos := by
    unfold methodCallPos
    rw [hline]
    rfl
  rw [hp]
  exact wpAny_bind (wpAny_pure h₂)

theorem wp_meth {m n : Nat} {Φ : CallF} {d : Nat} {nm : Str} {apos : Pos} {xs : List Expr} {cl : Nat} {fs as : List AV} {r : RV} (C : Cx K hb) (O : KOk K) (F : CallOk prog w K hb Φ d) (hA : AOk A d) (hb' : notBare x = true) (hs : noStar xs = true) (hl : xs.length < 29)
    (hline : (apos.endLine == pos.line) = true) (hm : methOf cl m = some n) (hn : methNames[m]? = some nm) (p : WpE prog w K hb A f l c x (.obj cl fs) c1) (q : WpL prog w K hb A f l c1 xs as c2) (hΦ : Φ n (.obj cl fs :: as) c2 = some (r, c3)) :
    WpR prog w K hb A f l c (.Call (.Attribute x nm apos) xs [] pos) r c3 := by
  intro g al s Q E S k
  have o1 := O.meth cl m n nm hm hn
  simp only [methOk, Bool.and_eq_true, beq_iff_eq, Bool.not_eq_true', List.contains_eq_mem, decide_eq_false_iff_not] at o1
  obtain ⟨⟨⟨⟨h1, h2⟩, h3⟩, h4⟩, h5⟩ := o1
  refine call_attr hb' hs hl hline (p g al s _ E S fun u h' tk g' S' X R pl => ?_)
  have R0 := R
  simp only [Rp] at R
  refine ex_4_5 (R) fun ad dd es n' eq0 hx hd he hr => ?_
  subst eq0
  have I : PySem.W.InstAt h' ad (instObj (clsA K cl) dd) (clsA K cl) (some (dictOf es n')) := ⟨S'.fz _ _ hx, rfl, rfl, S'.fz _ _ hd⟩
  refine method_fn (S'.kin C) I (plainGet_of h1).1 (plainGet_of h1).2 h2 (beq_iff_eq.mp h3) (by show (lookIn nm (dictOf es n')).map _ = _; rw [lookIn_dict, EntL.get_none he h5]; rfl) ?_
  refine callWith_L C hs h4 q S' fun vs h2 tk2 g2 S2 X2 R2 => ?_
  refine F n _ c2 r c3 hΦ A hA f l g2 al _ Q E _ S2 ?_ fun v h3 tk3 g3 S3 X3 R3 => k v h3 tk3 g3 S3 ((X.trans X2).trans X3) (R3.fwd (X.trans X2))
  simp only [List.singleton_append, RpL]
  exact ⟨_, vs, rfl, R0.mono w K X2.le _ _, R2⟩

theorem callWith_b {id : String} {first : List Value} {xs : List Expr} {as : List AV} {g : Gh} {al : Nat → Addr} {s : Shared} {Q : Value → Shared → Prop} {E : Value → Shared → Prop} (hs : noStar xs = true)
    (q : WpL prog w K hb A f l c xs as c1) (S : St w K hb f g al l c s.heap)
    (h : ∀ vs h' tk g', St w K hb f g' al l c1 h' → Ext g (MutA f al g.cs l) s.heap g' (MutA f al g'.cs l) h' → RpL w K g' as vs → wpAny (model prog w) A (call (.builtin id) (first ++ vs)) Q E { s with heap := h', toks := tk }) :
    wpAny (model prog w) A (callWith pos (.builtin id) first (backTo pos (starEach xs f.env)) []) Q E s := by
  refine callWith_builtin (noStar_any hs) ?_
  cases xs with
  | nil =>
    have q' : wpAny (model prog w) A (spliced []) (fun vs s' => wpAny (model prog w) A (call (.builtin id) (first ++ vs)) Q E s') E s := q pos g al s _ E S fun vs h' tk g' S' X R => h vs h' tk g' S' X R
    have e : evalArgs (.builtin id) true (backTo pos (starEach [] f.env)) [] = pure ⟨[], []⟩ := rfl
    rw [e]
    exact wpAny_pure fun Γ p i => q' Γ p i Γ p i
  | cons x xs =>
    obtain ⟨e, hs'⟩ := noStar_cons (env := f.env) hs
    have q' := q pos g al s (fun vs s' => wpAny (model prog w) A (call (.builtin id) (first ++ vs)) Q E s') E S fun vs h' tk g' S' X R => h vs h' tk g' S' X R
    rw [e] at q' ⊢
    exact evalArgs_plain q'
theorem callWith_t {id : String} {xs : List Expr} {as : List AV} {g : Gh} {al : Nat → Addr} {s : Shared} {Q : Value → Shared → Prop} {E : Value → Shared → Prop} (hs : noStar xs = true) (hne : xs ≠ [])
    (q : WpL prog w K hb A f l c xs as c1) (S : St w K hb f g al l c s.heap)
    (h : ∀ vs h' tk g', St w K hb f g' al l c1 h' → Ext g (MutA f al g.cs l) s.heap g' (MutA f al g'.cs l) h' → RpL w K g' as vs → wpAny (model prog w) A (call (.type id) vs) Q E { s with heap := h', toks := tk }) :
    wpAny (model prog w) A (callWith pos (.type id) [] (backTo pos (starEach xs f.env)) []) Q E s := by
  refine PyProof.Rows.callWith_type (noStar_any hs) ?_
  cases xs with
  | nil => exact absurd rfl hne
  | cons x xs =>
    obtain ⟨e, hs'⟩ := noStar_cons (env := f.env) hs
    have q' := q pos g al s (fun vs s' => wpAny (model prog w) A (call (.type id) vs) Q E s') E S fun vs h' tk g' S' X R => h vs h' tk g' S' X R
    rw [e] at q' ⊢
    exact evalArgs_plain q'

theorem wp_isi {cl k : Nat} {nm : Str} {fs : List AV} {np np' : Pos} (C : Cx K hb) (O : KOk K) (O' : EnvOk f) (hb' : nsIn K mainGlobals "isinstance" = some none) (hs : noStar [x] = true) (hk : f.env.kindOf "isinstance" = some .globalImplicit) (hk' : f.env.kindOf nm = some .globalImplicit)
    (hd' : (nm == ("__debug__" : Str)) = false) (hn : clsNames[k]? = some nm) (h1 : cl < 10) (h2 : k < 10) (p : WpE prog w K hb A f l c x (.obj cl fs) c1) :
    WpE prog w K hb A f l c (.Call (.Name "isinstance" np) [x, .Name nm np'] [] pos) (.bool (cl == k)) c1 := by
  intro g al s Q E S q
  have o1 := O.isi cl k h1 h2
  simp only [isiOk, Bool.and_eq_true, beq_iff_eq, hn, Option.getD_some] at o1
  obtain ⟨⟨⟨⟨⟨⟨⟨i1, i2⟩, i3⟩, i4⟩, i5⟩, i6⟩, i7⟩, i8⟩ := o1
  refine wpAny_Call_NameR (name_built C O' S hb' (v := .builtin "isinstance") (by decide +kernel) (by decide +kernel) hk (by decide +kernel) ?_)
  obtain ⟨e, _⟩ := noStar_cons (x := x) (xs := []) (env := f.env) hs
  have e' : starEach [x, .Name nm np'] f.env = [(false, eval x f.env), (false, eval (.Name nm np') f.env)] := by
    exact (noStar_cons (x := x) (xs := [.Name nm np']) (env := f.env) hs).1
  rw [e']
  refine callWith_builtin rfl ?_
  refine evalArgs_plain (spliced_cons (p g al s _ E S fun u h' tk g' S' X R => ?_))
  refine spliced_cons (name_top C O' S' i1 hk' hd' (spliced_nil ?_))
  have R0 := R
  simp only [Rp] at R
  refine ex_4_5 (R) fun ad dd es n' eq0 hx hd he hr => ?_
  subst eq0
  have I : PySem.W.InstAt h' ad (instObj (clsA K cl) dd) (clsA K cl) (some (dictOf es n')) := ⟨S'.fz _ _ hx, rfl, rfl, S'.fz _ _ hd⟩
  by_cases z : cl = k
  · subst z
    rw [if_pos rfl] at i2
    refine isi_call (S'.kin C) (fun M => I.type) i2 (by intro q; cases q) ?_
    exact q _ h' tk g' S' X (by simp only [Rp]; simp)
  · rw [if_neg z] at i2
    refine kin_callC (S'.kin C) I i2 i3 i4 i5 i6 i7 i8 ?_
    exact q _ h' _ g' S' X (by simp only [Rp]; simp [z])
end Mine
end
section
open PySem PySem.W PySem.Calls PyProof.Rows
set_option Elab.async false
set_option maxRecDepth 100000
set_option linter.unusedVariables false
namespace Mine
theorem zip_find : ∀ {ps : List Str} {vs : List Value}, vs.length = ps.length → ps.Nodup → ps.filterMap (fun n => ((ps.zip vs).lookup n).map (n, ·)) = ps.zip vs := by
  have key : ∀ (ps : List Str) (vs : List Value) (f : Str → Option Value), vs.length = ps.length → ps.Nodup → (∀ (i : Nat) n, ps[i]? = some n → f n = vs[i]?) → ps.filterMap (fun n => (f n).map (n, ·)) = ps.zip vs := by
    intro ps
    induction ps with
    | nil => intro vs f h _ _; rfl
    | cons p ps ih =>
      intro vs f h nd hf
      cases vs with
      | nil => simp at h
      | cons v vs =>
        have e0 := hf 0 p rfl
        simp only [List.getElem?_cons_zero] at e0
        rw [List.filterMap_cons, e0]
        simp only [Option.map_some, List.zip_cons_cons]
        rw [ih vs f (by simpa using h) (List.nodup_cons.mp nd).2 fun i n hn => by have := hf (i + 1) n (hn); simpa using this]
  intro ps vs h nd
  refine key ps vs _ h nd fun i n hn => ?_
  induction ps generalizing vs i with
  | nil => simp at hn
  | cons p ps ih =>
    cases vs with
    | nil => simp at h
    | cons v vs =>
      rw [List.zip_cons_cons, List.lookup_cons]
      cases i with
      | zero =>
        simp only [List.getElem?_cons_zero, Option.some.injEq] at hn
        subst hn
        simp
      | succ i =>
        simp only [List.getElem?_cons_succ] at hn ⊢
        have nd' := List.nodup_cons.mp nd
        have ne : n ≠ p := fun q => nd'.1 (q ▸ List.mem_of_getElem? hn)
        rw [show (n == p) = false from by simpa using ne]
        exact ih (by simpa using h) nd'.2 i hn
theorem zip_some : ∀ {ps : List Str} {vs : List Value}, vs.length = ps.length → ps.filter (fun n => ((ps.zip vs).lookup n).isNone) = [] := by
  intro ps vs h
  rw [List.filter_eq_nil_iff]
  intro n hn
  have : ∀ (ps : List Str) (vs : List Value), vs.length = ps.length → n ∈ ps → ((ps.zip vs).lookup n).isSome = true := by
    intro ps
    induction ps with
    | nil => intro vs h hn; cases hn
    | cons p ps ih =>
      intro vs h hn
      cases vs with
      | nil => simp at h
      | cons v vs =>
        rw [List.zip_cons_cons, List.lookup_cons]
        by_cases q : n = p
        · subst q; simp
        · rw [show (n == p) = false from by simpa using q]
          exact ih vs (by simpa using h) ((List.mem_cons.mp hn).resolve_left q)
  simpa using this ps vs h hn
theorem bindFor {α β γ : Type} {L : List α} {i : β} {f : α → β → Sem (ForInStep β)} {k : β → Sem γ} (h : L = []) : (forIn L i f >>= k) = k i := by subst h; rfl
theorem zip_drop {α β : Type} {X : List α} {n : Nat} : List.zip X (List.drop n ([] : List β)) = [] := by rw [List.drop_nil, List.zip_nil_right]
theorem binds_simple {fd : FuncData} {ps : List Str} {vs : List Value} (h1 : fd.params.posonlyargs = []) (h2 : fd.params.args.map (·.arg) = ps) (h3 : fd.params.vararg = none) (h4 : fd.params.kwonlyargs = []) (h5 : fd.params.kwarg = none) (h6 : fd.defaults = .none)
    (hl : vs.length = ps.length) (nd : ps.Nodup) : bindArgs fd ⟨vs, []⟩ = pure (ps.zip vs) := by
  rcases fd with ⟨_, _, ⟨po, as, va, ko, _, kw, _⟩, _, _, _, _, _, df⟩
  dsimp only at h1 h2 h3 h4 h5 h6
  subst h1 h3 h4 h5 h6
  have c1 : ¬ (decide (vs.length > (as.map Arg.arg).length) && true) = true := by rw [h2, hl]; simp
  refine (if_neg c1).trans ?_
  have c2 : ¬ (!(((as.map Arg.arg).take ((as.map Arg.arg).length - (List.drop (0 - (as.map Arg.arg).length) ([] : List Value)).length)).filter fun n => (((as.map Arg.arg).zip vs).lookup n).isNone).isEmpty) = true := by
    rw [List.drop_nil, List.length_nil, Nat.sub_zero, h2, List.take_length, zip_some hl]; exact Bool.false_ne_true
  refine (if_neg c2).trans ((bindFor zip_drop).trans ?_)
  have c4 : ((as.map Arg.arg) ++ []).filterMap (fun n => (((as.map Arg.arg).zip vs).lookup n).map (n, ·)) = ps.zip vs := by rw [List.append_nil, h2]; exact zip_find hl nd
  exact congrArg (pure : List (Str × Value) → Sem (List (Str × Value))) c4

theorem bindL_cons {kd : Str → Option NameKind} {p : Str} {v : Value} {ps : List Str} {vs : List Value} {m : Str → Option Value} : bindL kd ((p :: ps).zip (v :: vs)) m = bindL kd (ps.zip vs) (if kd p = some .local then fun y => if y = p then some v else m y else m) := rfl
theorem bindC_cons {kd : Str → Option NameKind} {p : Str} {v : Value} {ps : List Str} {vs : List Value} {m : Str → Option Value} : bindC kd ((p :: ps).zip (v :: vs)) m = bindC kd (ps.zip vs) (if kd p = some .local then m else fun y => if y = p then some v else m y) := rfl
theorem putN_new {n : Str} {es : List DictEntry} {k : Nat} (h : es.any (·.key.isStr n) = false) : putN n es k = k + 1 := if_neg (by rw [h]; exact Bool.false_ne_true)
theorem bindL_at {kd : Str → Option NameKind} {y : Str} : ∀ {ps : List Str} {vs : List Value} {m : Str → Option Value}, y ∉ ps → bindL kd (ps.zip vs) m y = m y
  | [], _, _, _ => rfl
  | p :: ps, [], _, _ => rfl
  | p :: ps, v :: vs, m, h => by
    rw [bindL_cons, bindL_at fun q => h (.tail _ q)]
    split
    · exact if_neg fun q : y = p => h (q ▸ .head _)
    · rfl
theorem bindL_loc {kd : Str → Option NameKind} {y : Str} (hk : kd y = some .local) : ∀ {ps : List Str} {vs : List Value} {m : Str → Option Value} {i : Nat}, ps.Nodup → vs.length = ps.length → ps[i]? = some y → bindL kd (ps.zip vs) m y = vs[i]?
  | [], _, _, _, _, _, h => by simp at h
  | p :: ps, [], _, _, _, hl, _ => by simp at hl
  | p :: ps, v :: vs, m, i, nd, hl, h => by
    rw [bindL_cons]
    cases i with
    | zero =>
      simp only [List.getElem?_cons_zero, Option.some.injEq] at h
      subst h
      rw [bindL_at (List.nodup_cons.mp nd).1, if_pos hk]
      simp
    | succ i => exact bindL_loc hk (List.nodup_cons.mp nd).2 (by simpa using hl) (by simpa using h)
theorem bindC_at {kd : Str → Option NameKind} {y : Str} : ∀ {ps : List Str} {vs : List Value} {m : Str → Option Value}, y ∉ ps → bindC kd (ps.zip vs) m y = m y
  | [], _, _, _ => rfl
  | p :: ps, [], _, _ => rfl
  | p :: ps, v :: vs, m, h => by
    rw [bindC_cons, bindC_at fun q => h (.tail _ q)]
    split
    · rfl
    · exact if_neg fun q : y = p => h (q ▸ .head _)
theorem bindC_loc {kd : Str → Option NameKind} {y : Str} (hk : kd y ≠ some .local) : ∀ {ps : List Str} {vs : List Value} {m : Str → Option Value} {i : Nat}, ps.Nodup → vs.length = ps.length → ps[i]? = some y → bindC kd (ps.zip vs) m y = vs[i]?
  | [], _, _, _, _, _, h => by simp at h
  | p :: ps, [], _, _, _, hl, _ => by simp at hl
  | p :: ps, v :: vs, m, i, nd, hl, h => by
    rw [bindC_cons]
    cases i with
    | zero =>
      simp only [List.getElem?_cons_zero, Option.some.injEq] at h
      subst h
      rw [bindC_at (List.nodup_cons.mp nd).1, if_neg hk]
      simp
    | succ i => exact bindC_loc hk (List.nodup_cons.mp nd).2 (by simpa using hl) (by simpa using h)

/-- the plain make of a def: its parameters, its scope -/
noncomputable def fnMeta (K : Frag) (fd : FuncData) (ps : List Str) : Bool :=
  fd.params.posonlyargs.isEmpty && fd.params.args.map (·.arg) == ps && fd.params.vararg.isNone && fd.params.kwonlyargs.isEmpty && fd.params.kwarg.isNone && fd.defaults == .none && fd.closure.isEmpty && fd.globals == mainGlobals && fd.builtins == builtinsNs &&
  fd.scope.kind == .function && !fd.scope.isCoroutine && !fd.scope.isGenerator && codeIn K fd.code fd.qualname && decide ps.Nodup && ps.all fun x => fd.scope.names.lookup x == some .local || fd.scope.names.lookup x == some .cell
structure FnMeta (K : Frag) (fd : FuncData) (ps : List Str) : Prop where
  po : fd.params.posonlyargs = []
  as : fd.params.args.map (·.arg) = ps
  va : fd.params.vararg = none
  ko : fd.params.kwonlyargs = []
  kw : fd.params.kwarg = none
  df : fd.defaults = .none
  cl : fd.closure = []
  gl : fd.globals = mainGlobals
  bl : fd.builtins = builtinsNs
  kd : fd.scope.kind = .function
  co : fd.scope.isCoroutine = false
  ge : fd.scope.isGenerator = false
  cd : codeIn K fd.code fd.qualname = true
  nd : ps.Nodup
  lc : ∀ x ∈ ps, fd.scope.names.lookup x = some .local ∨ fd.scope.names.lookup x = some .cell
theorem fnMeta_of {K : Frag} {fd : FuncData} {ps : List Str} (h : fnMeta K fd ps = true) : FnMeta K fd ps := by
  simp only [fnMeta, Bool.and_eq_true, beq_iff_eq, List.isEmpty_iff, Option.isNone_iff_eq_none, Bool.not_eq_true', decide_eq_true_eq, List.all_eq_true, Bool.or_eq_true] at h
  obtain ⟨⟨⟨⟨⟨⟨⟨⟨⟨⟨⟨⟨⟨⟨a1, a2⟩, a3⟩, a4⟩, a5⟩, a6⟩, a7⟩, a8⟩, a9⟩, a10⟩, a11⟩, a12⟩, a13⟩, a14⟩, a15⟩ := h
  exact ⟨a1, a2, a3, a4, a5, a6, a7, a8, a9, a10, a11, a12, a13, a14, a15⟩

noncomputable def initBody : List Str → List Stmt → Bool
  | [] => nilB
  | x :: xs => fun l => match l with
    | st :: r => selfB x st (fun v => nameB v fun v _ => v == x) && initBody xs r
    | [] => false
noncomputable def initOk (K : Frag) (c : Nat) : Bool :=
  nsIn K mainGlobals ((clsNames[c]?).getD "") == some (some (.ref (clsA K c))) && (keepIn K (.ref (clsA K c)) && (makesIn K (clsA K c) && (findIn K (.ref (clsA K c)) "__init__" == some (some (.ref (initA K c))) && (typeIn K (.ref (initA K c)) == some (.type "function") && (
  findIn K (.ref (clsA K c)) "__setattr__" == some (some (.builtin "object.__setattr__")) && (plainOver K (clsA K c) && (hasDictIn K (clsA K c) && ((clsFields c).all (fun x => takerIn K (clsA K c) x == some none && (x != "self" && !(x == ("__debug__" : Str)))) && (decide (clsFields c).Nodup &&
  funcB (K.lookup (initA K c)) fun fd => fnMeta K fd ("self" :: clsFields c) && (stmtsB fd.body (initBody (clsFields c)) && (("self" : Str) :: clsFields c).all (fun x => fd.scope.names.lookup x == some .local)))))))))))

theorem putL_new {w : World} {n : Str} {hs : Int} {k v : Value} : ∀ {ks : List Str} {es : List DictEntry}, EntL w ks es → n ∉ ks → putL n hs k v es = es ++ [⟨hs, k, v⟩] ∧ es.any (·.key.isStr n) = false
  | [], es, he, _ => by cases he; exact ⟨rfl, rfl⟩
  | q :: ks, es, he, hn => by
    obtain ⟨t, v', r, rfl, he⟩ := he
    have ih := putL_new (hs := hs) (k := k) (v := v) he fun z => hn (.tail _ z)
    have e1 : (Value.str q t).isStr n = false := by
      exact beq_eq_false_iff_ne.mpr fun z => hn (z ▸ .head _)
    refine ⟨?_, ?_⟩
    · unfold putL
      rw [e1, if_neg Bool.false_ne_true, ih.1]; rfl
    · rw [List.any_cons, ih.2, e1]; rfl
theorem EntL.snoc {w : World} {n : Str} {t : Tok} {v : Value} : ∀ {ks : List Str} {es : List DictEntry}, EntL w ks es → EntL w (ks ++ [n]) (es ++ [⟨PyData.keyHash w.params n, .str n t, v⟩])
  | [], es, he => by cases he; exact ⟨t, v, [], rfl, rfl⟩
  | q :: ks, es, he => by
    obtain ⟨t', v', r, rfl, he⟩ := he
    exact ⟨t', v', _, rfl, EntL.snoc he⟩
theorem EntL.len {w : World} : ∀ {ks : List Str} {es : List DictEntry}, EntL w ks es → es.length = ks.length
  | [], es, he => by cases he; rfl
  | q :: ks, es, he => by obtain ⟨t', v', r, rfl, he⟩ := he; simp [EntL.len he]

variable {prog : Program} {w : World} {K : Frag} {hb : Heap} {A : Around} {f : Frm} {l : Loc} {c c' c1 c2 c3 : Cells} {x y z : Expr} {pos : Pos} {a b : AV}

theorem init_run {C dx xa : Addr} {h₀ : Heap} {env : Env} {Q : Flow → Shared → Prop} {E : Value → Shared → Prop} {xs : List Str} {m : Str → Option Value} (X : K.In h₀) (hk : env.scope.kind = .function) (hl : ∀ y ∈ (("self" : Str) :: xs), env.kindOf y = some .local)
    (hs : findIn K (.ref C) "__setattr__" = some (some (.builtin "object.__setattr__"))) (hp : plainOver K C = true) (hh : hasDictIn K C = true) (ht : ∀ y ∈ xs, takerIn K C y = some none) (hdb : ∀ y ∈ xs, (y == ("__debug__" : Str)) = false) (hself : m "self" = some (.ref xa)) (ne : xa ≠ dx) (nd : xs.Nodup) :
    ∀ (us : List Value) (fs done : List Str) (vs0 : List Value) (body : List Stmt) (s : Shared) (es : List DictEntry) (n : Nat), xs = done ++ fs → initBody fs body = true → us.length = fs.length → (∀ i : Nat, ∀ y, fs[i]? = some y → m y = us[i]?) →
      Fr h₀ env.locals s.heap m → News h₀ env.locals s.heap [(xa, instObj C dx), (dx, dictOf es n)] → EntL w done es → es.map (·.val) = vs0 → xs.length ≤ 10 →
      (∀ h' tk es' n', Fr h₀ env.locals h' m → News h₀ env.locals h' [(xa, instObj C dx), (dx, dictOf es' n')] → EntL w xs es' → es'.map (·.val) = vs0 ++ us → Q .next { s with heap := h', toks := tk }) →
      wpAny (model prog w) A (execs body env) Q E s := by
  intro us
  induction us with
  | nil =>
    intro fs done vs0 body s es n hx hbd hlen hm F N he hv hz k
    have : fs = [] := List.length_eq_zero_iff.mp hlen.symm
    subst this
    refine nilB.on (P := fun body => wpAny (model prog w) A (execs body env) Q E s) hbd ?_
    rw [List.append_nil] at hx
    subst hx
    exact wpAny_execs_nil (k s.heap s.toks es n F N he (by rw [hv, List.append_nil]))
  | cons u us ih =>
    intro fs done vs0 body s es n hx hbd hlen hm F N he hv hz k
    cases fs with
    | nil => simp at hlen
    | cons y fs =>
      cases body with
      | nil => exact noB hbd
      | cons st r =>
      refine and2 hbd fun h1 hbd' => ?_
      clear hbd
      refine selfB.on (P := fun st => wpAny (model prog w) A (execs (st :: r) env) Q E s) h1 fun p1 p2 v p3 h1 => nameB.on (P := fun v => wpAny (model prog w) A (execs (.Assign [.Attribute (.Name "self" p1) y p2] v p3 :: r) env) Q E s) h1 fun v p4 h1 => ?_
      obtain rfl := beqT h1
      have hy : v ∈ xs := by rw [hx]; simp
      have hm0 := hm 0 v rfl
      simp only [List.getElem?_cons_zero] at hm0
      refine wpAny_execs_cons (plainObj_wpAny_Assign_Attribute (wpAny_Name (wpAny_loadName_local hk (hl _ (.tail _ hy)) F.ns hm0 ?_) (hdb _ hy)) (by rfl))
      refine wpAny_Name (wpAny_loadName_local hk (hl _ (.head _)) F.ns hself ?_) (by decide +kernel)
      have hnd : v ∉ done := by
        rw [hx] at nd
        have := (List.nodup_append.mp nd).2.2
        intro q
        exact this _ q _ (.head _) rfl
      have hp1 := putL_new (hs := PyData.keyHash w.params v) (k := .str v (s.toks + 1)) (v := u) he hnd
      refine set_dict F X N (.of_news N (.head _) (.tail _ (.head _))) rfl hs hp (ht _ hy) hh (by rw [EntL.get_none he hnd]; rfl) (es' := es ++ [⟨PyData.keyHash w.params v, .str v (s.toks + 1), u⟩]) (n' := n + 1) (by rw [hp1.1]; simp [putN_new hp1.2])
        (.tail ne (.head (fun _ q => nomatch q))) (by have := he.len; rw [hx] at hz; simp at hz ⊢; lia) fun h' F' N' => ?_
      refine ih fs (done ++ [v]) (vs0 ++ [u]) r _ _ _ (by rw [hx]; simp) hbd' (by simpa using hlen) (fun i v hy' => by have := hm (i + 1) v (hy'); simpa using this) F' N' he.snoc (by simp [hv]) hz ?_
      intro h'' tk es' n' F'' N'' he' hv'
      exact k h'' tk es' n' F'' N'' he' (by rw [hv']; simp)

theorem wp_new {cl : Nat} {nm : Str} {xs : List Expr} {as : List AV} {d : Nat} {np : Pos} (C : Cx K hb) (O : EnvOk f) (hA : AOk A d) (hi : initOk K cl = true) (hn : clsNames[cl]? = some nm) (hs : noStar xs = true)
    (hk : f.env.kindOf nm = some .globalImplicit) (hd : (nm == ("__debug__" : Str)) = false) (q : WpL prog w K hb A f l c xs as c1) (hlen : as.length = (clsFields cl).length) (hsm : (clsFields cl).length ≤ 10) :
    WpE prog w K hb A f l c (.Call (.Name nm np) xs [] pos) (.obj cl as) c1 := by
  intro g al s Q E S k
  unfold initOk at hi
  rw [hn, Option.getD_some] at hi
  refine and7 hi fun i1 i2 i3 i4 i5 i6 hi => and5 hi fun i7 i8 i9 i10 hi => funcB.on hi fun oc od fd sl hlk hi => and3 hi fun i11 i12 i13 => stmtsB.on i12 fun body hbd i12 => ?_
  have i1 := beqT i1
  have i6 := beqT i6
  have M := fnMeta_of i11
  have i9 := fun y hy => and3 (List.all_eq_true.mp i9 y hy) fun a b c => (⟨beqT a, notT c⟩ : takerIn K (clsA K cl) y = some none ∧ (y == ("__debug__" : Str)) = false)
  have i13 := fun y hy => beqT (List.all_eq_true.mp i13 y hy)
  refine wpAny_Call_NameR (name_top C O S i1 hk hd ?_)
  refine callWith_L C hs i2 q S fun vs h' tk g' S' X R => ?_
  rw [List.nil_append]
  refine wpAny_call ?_
  have KX := S'.kin C
  refine make_core (makes_of KX i3) (looks_findIn KX (beqT i4)) (fun self => bind_fn KX self (beqT i5)) (.inl rfl) ?_
  have hvl : (Value.ref (h'.objs.size + 1) :: vs).length = (("self" : Str) :: clsFields cl).length := by simp [R.len, hlen]
  have keep1 : ∀ b o, h'.get? b = some o → ((h'.push emptyDict).push (instObj (clsA K cl) h'.objs.size)).get? b = some o := fun b o e => Heap.get?_push_of_some _ (Heap.get?_push_of_some _ e)
  have KX1 := KX.keeps keep1
  have hroom : (A.under (.builtin "type.__call__" ⟨.ref (clsA K cl) :: vs, []⟩)).depth < recursionLimit := by
    rw [depth_under_kw]
    have := hA.dp
    unfold recursionLimit; lia
  refine codeAny_call_cells hroom (KX1 _ _ hlk) rfl ((C.nolimit.keeps S'.hbk).keeps keep1) (codeRec_of KX1 M.cd) hbd (binds_simple M.po M.as M.va M.ko M.kw M.df hvl M.nd) M.cl (fun x hx => .inl (by
      have := List.of_mem_zip hx
      exact i13 _ this.1)) (fun s₁ I => ?_) M.co M.ge M.kd
  have kd : ∀ y ∈ (("self" : Str) :: clsFields cl), (callEnvC fd ((h'.push emptyDict).push (instObj (clsA K cl) h'.objs.size)).objs.size (initA K cl)).kindOf y = some .local := fun y hy => i13 y hy
  refine ex_2_1 (I.toInCall.same) fun hh1 tk1 he1 => ?_
  have L0 : h'.objs.size + 2 ≤ (callEnvC fd ((h'.push emptyDict).push (instObj (clsA K cl) h'.objs.size)).objs.size (initA K cl)).locals := by
    show h'.objs.size + 2 ≤ ((h'.push emptyDict).push (instObj (clsA K cl) h'.objs.size)).objs.size
    rw [Heap.size_push, Heap.size_push]
    exact Nat.le_refl _
  have F : Fr h' (callEnvC fd ((h'.push emptyDict).push (instObj (clsA K cl) h'.objs.size)).objs.size (initA K cl)).locals s₁.heap _ :=
    ⟨I.toInCall.ns, fun b o e => I.toInCall.keep b o (keep1 b o e), Nat.le_trans (Nat.le_add_right _ 2) L0⟩
  have fresh : ∀ n, h'.get? (h'.objs.size + n) = none := fun n => Heap.get?_none_of_le (Nat.le_add_right _ n)
  have hx1 : ((h'.push emptyDict).push (instObj (clsA K cl) h'.objs.size)).get? (h'.objs.size + 1) = some (instObj (clsA K cl) h'.objs.size) := by heap_get
  have hd1 : ((h'.push emptyDict).push (instObj (clsA K cl) h'.objs.size)).get? h'.objs.size = some emptyDict := by heap_get
  have N : News h' (callEnvC fd ((h'.push emptyDict).push (instObj (clsA K cl) h'.objs.size)).objs.size (initA K cl)).locals s₁.heap [(h'.objs.size + 1, instObj (clsA K cl) h'.objs.size), (h'.objs.size, dictOf [] 0)] := by
    intro p hp
    rcases List.mem_cons.mp hp with rfl | hp
    · exact ⟨I.toInCall.keep _ _ hx1, Nat.ne_of_lt (Nat.lt_of_lt_of_le (Nat.lt_succ_self _) L0), fresh 1⟩
    · rcases List.mem_cons.mp hp with rfl | hp
      · exact ⟨I.toInCall.keep _ _ hd1, Nat.ne_of_lt (Nat.lt_of_lt_of_le (Nat.lt_add_of_pos_right (by decide)) L0), fresh 0⟩
      · exact nomatch hp
  have mself := bindL_loc (m := fun _ => none) (kd _ (.head _)) M.nd hvl (i := 0) rfl
  refine init_run (C := clsA K cl) (dx := h'.objs.size) (xa := h'.objs.size + 1) (h₀ := h') KX M.kd kd i6 i7 i8 (fun y hy => (i9 y hy).1) (fun y hy => (i9 y hy).2) mself (Nat.succ_ne_self _) (of_decide_eq_true i10) vs (clsFields cl) [] [] body s₁ [] 0 rfl i12 (by rw [R.len, hlen])
    (fun i y hy => bindL_loc (kd _ (.tail _ (List.mem_of_getElem? hy))) M.nd hvl (i := i + 1) (hy)) F N rfl rfl hsm fun h2 tk2 es' n' F2 N2 he2 hv2 => ?_
  -- the made object is frozen
  refine ⟨rfl, ?_⟩
  have ex := (N2 _ (.head _)).1
  have ed := (N2 _ (.tail _ (.head _))).1
  have z0 := S'.cold (fresh 0)
  have z1 := S'.cold (fresh 1)
  have S2 := S'.keeps F2.keep
  have X2 := X.trans (Ext.of_keeps F2.keep g' (MutA f al g'.cs l))
  have nh : ∀ n, s.heap.get? (h'.objs.size + n) = none := fun n => Classical.byContradiction fun e => X.live _ e (fresh n)
  have S3 := S2.more ed z0.1 z0.2
  have e31 : (frz g' h'.objs.size (dictOf es' n')).φ (h'.objs.size + 1) = none := by
    show (if h'.objs.size + 1 = h'.objs.size then some _ else g'.φ _) = none
    rw [if_neg (by lia)]; exact z1.1
  have S4 := S3.more ex e31 z1.2
  have X4 := (X2.freezeNew (o := dictOf es' n') z0.1 (nh 0)).freezeNew (o := instObj (clsA K cl) h'.objs.size) e31 (nh 1)
  have res := k (.ref (h'.objs.size + 1)) h2 tk2 _ S4 X4 (by
    simp only [Rp]
    refine ⟨h'.objs.size + 1, h'.objs.size, es', n', rfl, if_pos rfl, ?_, he2, ?_⟩
    · show (if h'.objs.size = h'.objs.size + 1 then some _ else (if h'.objs.size = h'.objs.size then some _ else _)) = _
      rw [if_neg (by lia), if_pos rfl]
    · rw [hv2]
      exact RpL.mono w K ((frz_le z0.1).trans (frz_le e31)) _ _ R)
  have es1 : s₁ = { s with heap := s₁.heap, toks := s₁.toks } := by rw [he1]
  rw [es1]
  exact res
end Mine
end
section
open PySem PySem.W PySem.Calls PyProof.Rows
set_option Elab.async false
set_option maxRecDepth 100000
set_option linter.unusedVariables false
namespace Mine
variable {prog : Program} {w : World} {K : Frag} {hb : Heap} {A : Around} {f : Frm} {l : Loc} {c c' c1 c2 c3 : Cells} {x y z : Expr} {pos : Pos} {a b : AV}

/-! places and their content -/
noncomputable def PlR (w : World) (K : Frag) (g : Gh) (al : Nat → Addr) : Pl → Value → Prop
  | .own i, v => v = .ref (al i)
  | .at a, v => Rp w K g a v
noncomputable def CtR (w : World) (K : Frag) (g : Gh) (h : Heap) : AV → Value → Prop
  | .list l, v => ∃ a vs n, v = .ref a ∧ h.get? a = some (listO vs n) ∧ RpL w K g l vs
  | .tup l, v => ∃ a vs n, v = .ref a ∧ h.get? a = some (tupO vs n) ∧ RpL w K g l vs
  | .dict ks l, v => ∃ a es n, v = .ref a ∧ h.get? a = some (dictOf es n) ∧ EntL w ks es ∧ RpL w K g l (es.map (·.val)) ∧ ks.Nodup ∧ a ≠ sysModules
  | a, v => Rp w K g a v
noncomputable def WpP (prog : Program) (w : World) (K : Frag) (hb : Heap) (A : Around) (f : Frm) (l : Loc) (c : Cells) (x : Expr) (r : Pl) (c' : Cells) : Prop :=
  ∀ (g : Gh) (al : Nat → Addr) (s : Shared) (Q : Value → Shared → Prop) (E : Value → Shared → Prop), St w K hb f g al l c s.heap →
    (∀ v h' tk g', St w K hb f g' al l c' h' → Ext g (MutA f al g.cs l) s.heap g' (MutA f al g'.cs l) h' → PlR w K g' al r v → Q v { s with heap := h', toks := tk }) →
    wpAny (model prog w) A (eval x f.env) Q E s
theorem PlR.mono {g g' : Gh} (h : g.Le g') {al : Nat → Addr} {r : Pl} {v : Value} (R : PlR w K g al r v) : PlR w K g' al r v := by
  cases r with
  | own i => exact R
  | «at» a => exact Rp.mono w K h _ _ R
theorem WpP.ofE (p : WpE prog w K hb A f l c x a c') : WpP prog w K hb A f l c x (.at a) c' := p

theorem Rp.ctf {g : Gh} {h : Heap} {v : Value} (hf : ∀ ad o, g.φ ad = some o → h.get? ad = some o) (r : Rp w K g a v) : CtR w K g h a v :=
  AV.casesOn (motive_1 := fun a => Rp w K g a v → CtR w K g h a v) a id (fun _ => id) (fun _ => id) (fun _ => id) (fun _ ⟨ad, vs, n, e, hp, hl⟩ => ⟨ad, vs, n, e, hf _ _ hp, hl⟩) (fun _ ⟨ad, vs, n, e, hp, hl⟩ => ⟨ad, vs, n, e, hf _ _ hp, hl⟩)
    (fun _ _ ⟨ad, es, n, e, hp, z⟩ => ⟨ad, es, n, e, hf _ _ hp, z⟩) (fun _ _ => id) (fun _ => id) r
theorem Rp.ct {g : Gh} {al : Nat → Addr} {h : Heap} {v : Value} (S : St w K hb f g al l c h) (r : Rp w K g a v) : CtR w K g h a v := r.ctf S.fz
theorem ObR.ct {g : Gh} {h : Heap} {ad : Addr} {o : Obj} (ho : h.get? ad = some o) (r : ObR w K g a o) (hs : ad ≠ sysModules) : CtR w K g h a (.ref ad) := by
  cases a <;> simp only [ObR, CtR] at r ⊢
  · obtain ⟨vs, n, rfl, hl⟩ := r; exact ⟨ad, vs, n, rfl, ho, hl⟩
  · obtain ⟨es, n, rfl, he, hl, nd⟩ := r; exact ⟨ad, es, n, rfl, ho, he, hl, nd, hs⟩
theorem St.read {g : Gh} {al : Nat → Addr} {h : Heap} {r : Pl} {v : Value} (S : St w K hb f g al l c h) (R : PlR w K g al r v) (e : r.read l c = some a) : CtR w K g h a v := by
  cases r with
  | own i =>
    simp only [Pl.read] at e
    cases hl : l.at i with
    | un => rw [hl] at e; cases e
    | val _ => rw [hl] at e; cases e
    | own b =>
      rw [hl] at e
      cases e
      refine ex_1_2 (S.own i _ hl) fun o ho hr => ?_
      have R : v = .ref (al i) := R
      subst R
      exact ObR.ct ho hr (S.sys _ (.own hl))
  | «at» b =>
    cases b <;> simp only [Pl.read, deref] at e <;> try (cases e; exact Rp.ct S R)
    refine ex_2_3 (S.cel _ _ e) fun ad o hc ho hr => ?_
    refine ex_1_2 (R) fun ad' eq0 hc' => ?_
    subst eq0
    rw [hc] at hc'; cases hc'
    exact ObR.ct ho hr (S.sys _ (.cell (List.mem_of_getElem? hc)))

/-! dicts, the library's way -/
theorem pairs_of : ∀ {ks : List Str} {es : List DictEntry}, EntL w ks es → Pairs (strKind prog w) es (ks.zip (es.map (·.val))) ∧ ∀ e ∈ es, ∃ k, (strKind prog w).is k e.key = true ∧ e.hash = (strKind prog w).hash k
  | [], es, h => by cases h; exact ⟨.nil, fun _ h => nomatch h⟩
  | k :: ks, es, h => by
    obtain ⟨t, v, r, rfl, h⟩ := h
    obtain ⟨p, q⟩ := pairs_of h
    have e1 : (strKind prog w).is k (.str k t) = true := by simp [PySem.strKind, Value.isStrOf]
    refine ⟨.cons e1 rfl p, fun e he => ?_⟩
    rcases List.mem_cons.mp he with rfl | he
    · exact ⟨k, e1, rfl⟩
    · exact q e he
theorem zip_keys : ∀ {ks : List Str} {es : List DictEntry}, EntL w ks es → (ks.zip (es.map (·.val))).map (·.1) = ks
  | [], es, h => by cases h; rfl
  | k :: ks, es, h => by obtain ⟨t, v, r, rfl, h⟩ := h; simp [zip_keys h]
theorem dictOf_lib {h : Heap} {d : Addr} {ks : List Str} {es : List DictEntry} {n : Nat} (ho : h.get? d = some (dictOf es n)) (he : EntL w ks es) (nd : ks.Nodup) : h.DictOf (strKind prog w) d (ks.zip (es.map (·.val))) := by
  obtain ⟨p, q⟩ := pairs_of (prog := prog) he
  exact ⟨_, es.toArray, n, ho, ⟨rfl, rfl, rfl⟩, rfl, fun e he => q e (by simpa using he), by simpa using p, by rw [zip_keys he]; exact nd⟩
theorem ent_of {es : List DictEntry} {kvs : List (Str × Value)} (p : Pairs (strKind prog w) es kvs) : (∀ e ∈ es, ∃ k, (strKind prog w).is k e.key = true ∧ e.hash = (strKind prog w).hash k) → EntL w (kvs.map (·.1)) es ∧ es.map (·.val) = kvs.map (·.2) := by
  induction p with
  | nil => exact fun _ => ⟨rfl, rfl⟩
  | @cons e kv es kvs h1 h2 p ih =>
    intro hk
    obtain ⟨i1, i2⟩ := ih fun e he => hk e (.tail _ he)
    refine ex_1_2 (hk e (.head _)) fun k' hk1 hk2 => ?_
    obtain ⟨t, ht⟩ := Value.isStrOf_shape h1
    have : k' = kv.1 := Value.isStrOf_inj _ _ _ hk1 h1
    subst this
    obtain ⟨eh, ek, evv⟩ := e
    simp only at ht h2 hk2
    subst ht h2 hk2
    exact ⟨⟨t, kv.2, es, rfl, i1⟩, by simp [i2]⟩
theorem dictOf_mine {h : Heap} {d : Addr} {kvs : List (Str × Value)} (m : h.DictOf (strKind prog w) d kvs) : ∃ es n, h.get? d = some (dictOf es n) ∧ EntL w (kvs.map (·.1)) es ∧ es.map (·.val) = kvs.map (·.2) ∧ (kvs.map (·.1)).Nodup := by
  obtain ⟨o, es, ep, ho, ⟨h1, h2, h3⟩, hd, hk, hp, nd⟩ := m
  obtain ⟨oc, od, dd, sl⟩ := o
  simp only at h1 h2 h3 hd
  subst h1 h2 h3 hd
  obtain ⟨e1, e2⟩ := ent_of (prog := prog) hp fun e he => hk e (by simpa using he)
  exact ⟨es.toList, ep, by rw [ho], e1, e2, nd⟩
theorem valueAt_hit {k : Str} {v : Value} {r : List (Str × Value)} : valueAt ((k, v) :: r) k = some v := by
  show (List.find? (fun kv : Str × Value => decide (kv.1 = k)) ((k, v) :: r)).map _ = _
  rw [List.find?_cons_of_pos (p := fun kv : Str × Value => decide (kv.1 = k)) (a := (k, v)) (decide_eq_true rfl)]; rfl
theorem valueAt_skip {k s : Str} {v : Value} {r : List (Str × Value)} (q : k ≠ s) : valueAt ((k, v) :: r) s = valueAt r s := by
  show (List.find? (fun kv : Str × Value => decide (kv.1 = s)) ((k, v) :: r)).map _ = _
  rw [List.find?_cons_of_neg (p := fun kv : Str × Value => decide (kv.1 = s)) (a := (k, v)) (fun h => q (of_decide_eq_true h))]; rfl
theorem dget_valueAt {g : Gh} {s : Str} : ∀ {ks : List Str} {es : List DictEntry} {fs : List AV}, EntL w ks es → RpL w K g fs (es.map (·.val)) →
    match dget ks fs s with | some a => ∃ v, valueAt (ks.zip (es.map (·.val))) s = some v ∧ Rp w K g a v | none => valueAt (ks.zip (es.map (·.val))) s = none
  | [], es, fs, he, hr => by cases he; exact rfl
  | k :: ks, es, fs, he, hr => by
    obtain ⟨t, v, r, rfl, he⟩ := he
    cases fs with
    | nil => simp [RpL] at hr
    | cons b fs =>
      simp only [List.map_cons, RpL] at hr
      refine ex_2_3 (hr) fun v' r' e hv hr => ?_
      cases e
      have ih := dget_valueAt (s := s) he hr
      unfold dget
      by_cases q : k = s
      · subst q
        simp only [if_true]
        exact ⟨v, valueAt_hit, hv⟩
      · rw [if_neg q]
        have e1 : valueAt ((k :: ks).zip ((⟨PyData.keyHash w.params k, .str k t, v⟩ :: r : List DictEntry).map (·.val))) s = valueAt (ks.zip (r.map (·.val))) s := valueAt_skip q
        rw [e1]
        exact ih
theorem valueAt_mem {kvs : List (Str × Value)} {s : Str} : (valueAt kvs s).isSome = (kvs.map (·.1)).contains s := by
  induction kvs with
  | nil => rfl
  | cons kv kvs ih =>
    unfold valueAt at ih ⊢
    rw [List.find?_cons]
    by_cases q : kv.1 = s
    · subst q; simp
    · have : (s == kv.1) = false := by simpa using fun e => q e.symm
      simp only [q, decide_false, List.map_cons, List.contains_cons, this, Bool.false_or]
      exact ih
theorem DictOf.mapOf' {h : Heap} {d : Addr} {kvs : List (Str × Value)} (m : h.DictOf (strKind prog w) d kvs) : h.MapOf (strKind prog w) d (valueAt kvs) := by
  exact m.mapOf

/-! reads -/
noncomputable def notSlice (x : Expr) : Bool := x.ctorIdx != 26
theorem subscripted_plain {sl : Expr} {o i : Value} (h : notSlice sl = true) : subscripted sl false o i = operate [o, i] (getItem o i) := by
  cases sl <;> first | rfl | exact noB h
theorem small_fit {n : Nat} (h : n ≤ lim) : (n : Int) < 2 ^ 63 := by unfold lim at h; lia
theorem isList_of {h : Heap} {ad : Addr} {vs : List Value} {n : Nat} (e : h.get? ad = some (listO vs n)) : h.IsList ad vs.toArray := ⟨_, e, rfl, n, rfl⟩
theorem isTup_of {h : Heap} {ad : Addr} {vs : List Value} {n : Nat} (e : h.get? ad = some (tupO vs n)) : IsTup h ad vs.toArray := ⟨_, e, rfl, n, rfl⟩
theorem RpL.at {g : Gh} : ∀ {as : List AV} {vs : List Value} {i : Nat} {a : AV}, RpL w K g as vs → as[i]? = some a → ∃ v, vs[i]? = some v ∧ Rp w K g a v
  | [], _, _, _, _, h => by simp at h
  | x :: as, vs, i, a, r, h => by
    simp only [RpL] at r
    obtain ⟨v, t, rfl, hv, r⟩ := r
    cases i with
    | zero => simp only [List.getElem?_cons_zero, Option.some.injEq] at h; subst h; exact ⟨v, rfl, hv⟩
    | succ i => simpa using RpL.at r (by simpa using h)
theorem itemAt_idx {as : List AV} {n : Int} {a : AV} (h : itemAt as n = some a) (hz : as.length ≤ lim) : ∃ j, seqIndex? n as.length = some j ∧ as[j]? = some a ∧ -(2 ^ 63) ≤ n ∧ n < 2 ^ 63 := by
  unfold itemAt at h
  unfold lim at hz
  split at h
  · rename_i h0
    have hj := (List.getElem?_eq_some_iff.mp h).1
    refine ⟨n.toNat, ?_, h, by lia, by lia⟩
    have e : ¬ n < 0 := by lia
    simp only [seqIndex?, e, if_false, Bool.and_eq_true, decide_eq_true_eq]
    rw [if_pos (by lia)]
  · split at h
    · rename_i h0 h1
      have hj := (List.getElem?_eq_some_iff.mp h).1
      refine ⟨(n + as.length).toNat, ?_, h, by lia, by lia⟩
      have e : n < 0 := by lia
      simp only [seqIndex?, e, if_true, Bool.and_eq_true, decide_eq_true_eq]
      rw [if_pos (by lia)]
    · cases h
theorem getItem_listN {h : Shared} {ad : Addr} {vs : List Value} {n : Int} {t : Tok} {j : Nat} {v : Value} {Q : Value → Shared → Prop} {E : Value → Shared → Prop} (hl : h.heap.IsList ad vs.toArray) (hj : seqIndex? n vs.length = some j) (hv : vs[j]? = some v) (h0 : -(2 ^ 63) ≤ n) (h1 : n < 2 ^ 63)
    (q : Q v h) : wpAny (model prog w) A (getItem (.ref ad) (.int n t)) Q E h := by
  simp only [seqIndex?] at hj
  by_cases hn : n < 0
  · simp only [hn, if_true, Bool.and_eq_true, decide_eq_true_eq] at hj
    split at hj
    · rename_i h2
      cases hj
      exact wpAny_getItem_list_neg hl hn (by simp; lia) h0 (by simpa using hv) q
    · cases hj
  · simp only [hn, if_false, Bool.and_eq_true, decide_eq_true_eq] at hj
    split at hj
    · rename_i h2
      cases hj
      exact wpAny_getItem_list hl (by lia) h1 (by simpa using hv) q
    · cases hj

theorem wp_idx {sl : Expr} {p : Pl} {i ct : AV} {r : AV} (C : Cx K hb) (hs : notSlice sl = true) (hp : WpP prog w K hb A f l c x p c1) (hi : WpE prog w K hb A f l c1 sl i c2) (hr : p.read l c2 = some ct)
    (hv : idxV ct i = some r) : WpE prog w K hb A f l c (.Subscript x sl pos) r c2 := by
  intro g al s Q E S k
  refine Subscript_ (hp g al s _ E S fun u h1 tk1 g1 S1 X1 R1 => hi g1 al _ _ E S1 fun v h2 tk2 g2 S2 X2 R2 => ?_)
  have ct' := S2.read (R1.mono X2.le) hr
  have k := fun tk w => k w h2 tk g2 S2 (X1.trans X2)
  revert ct' R2
  refine idxV.on (P := fun ct i => Rp _ K g2 i v → CtR _ K g2 h2 ct u → _) hv (fun z n hz hv => ?_) (fun z n hz hv => ?_) (fun ks vs s hv => ?_)
  · rintro ⟨t, rfl⟩ ⟨ad, vs, m, rfl, ho, hl⟩
    obtain ⟨j, j1, j2, j3, j4⟩ := itemAt_idx hv (of_decide_eq_true hz)
    obtain ⟨v, hv', rv⟩ := RpL.at hl j2
    exact tail_any (isList_of ho).typeIs slot_list_getitem.lookup (getItem_listN (isList_of ho) (by rw [hl.len]; exact j1) hv' j3 j4 (k _ v rv)) (subscripted_plain hs)
  · rintro ⟨t, rfl⟩ ⟨ad, vs, m, rfl, ho, hl⟩
    obtain ⟨j, j1, j2, j3, j4⟩ := itemAt_idx hv (of_decide_eq_true hz)
    obtain ⟨v, hv', rv⟩ := RpL.at hl j2
    exact item_tupleT (isTup_of ho) j3 j4 (by rw [hl.len]; exact j1) hv' (k _ v rv) (subscripted_plain hs)
  · rintro ⟨t, rfl⟩ ⟨ad, es, m, rfl, ho, he, hl, nd, hsys⟩
    have dv := dget_valueAt (s := s) he hl
    rw [hv] at dv
    refine ex_1_2 (dv) fun v hv' rv => ?_
    have D := dictOf_lib (prog := prog) ho he nd
    exact tail_any D.typeIs slot_dict_getitem.lookup (wpAny_getItem_of (by simp [PySem.strKind, Value.isStrOf]) D.mapOf hv' (k _ v rv)) (subscripted_plain hs)
end Mine
end
section
open PySem PySem.W PySem.Calls PyProof.Rows PySem.SeqAt
set_option Elab.async false
set_option maxRecDepth 100000
set_option linter.unusedVariables false
namespace Mine
variable {prog : Program} {w : World} {K : Frag} {hb : Heap} {A : Around} {f : Frm} {l : Loc} {c c' c1 c2 c3 : Cells} {x y z : Expr} {pos : Pos} {a b : AV}

/-! equality -/
theorem seq_inj {k k' : String} {vs vs' : List Value} {n n' : Nat} (h : some (⟨.type k, none, .seq vs.toArray n, #[]⟩ : Obj) = some ⟨.type k', none, .seq vs'.toArray n', #[]⟩) : vs = vs' := by
  injection h with h; injection h with _ _ h _; injection h with h
  exact congrArg Array.toList h
theorem Ct.same {g : Gh} {h : Heap} (hf : ∀ ad o, g.φ ad = some o → h.get? ad = some o) : ∀ (n : Nat) (a b : AV) (v : Value) (r : Bool), CtR w K g h a v → CtR w K g h b v → aeqF n a b = some r → r = true := by
  intro n
  induction n with
  | zero => intro a b v r _ _ e; cases e
  | succ n ih =>
    have lists : ∀ (xs ys : List AV) (vs : List Value) (r : Bool), RpL w K g xs vs → RpL w K g ys vs → allO (aeqF n) xs ys = some r → r = true := by
      intro xs
      induction xs with
      | nil => intro ys vs r _ _ e; cases e; rfl
      | cons x xs ihl =>
        intro ys vs r hx hy e
        cases ys with
        | nil => cases e; rfl
        | cons y ys =>
          refine ex_2_3 (hx) fun v t eq0 h1 h2 => ?_
          subst eq0
          refine ex_2_3 (hy) fun v' t' e' h3 h4 => ?_
          cases e'
          refine ob.on e fun q q1 e => om.on e fun q2 q3 e => ?_
          subst e
          rw [ih x y v q (h1.ctf hf) (h3.ctf hf) q1, ihl ys t q2 h2 h4 q3]; rfl
    intro a b v r ha hb e
    refine eqV.on (P := fun a b => CtR w K g h a v → CtR w K g h b v → r = true) e (fun e _ _ => e) ?_ ?_ ?_ ?_ ?_ ha hb
    · rintro x y rfl ha hb
      cases ha.symm.trans hb; exact beq_self_eq_true _
    · rintro x y rfl ⟨t, ha⟩ ⟨t', hb⟩
      cases ha.symm.trans hb; exact beq_self_eq_true _
    · rintro x y rfl ⟨t, ha⟩ ⟨t', hb⟩
      cases ha.symm.trans hb; exact beq_self_eq_true _
    · rintro x y q e1 rfl ⟨ad, vs, m, rfl, ho, hl⟩ ⟨ad', vs', m', e', ho', hl'⟩
      cases e'
      obtain rfl := seq_inj (ho.symm.trans ho')
      rw [lists _ _ _ _ hl hl' e1, ← hl.len, ← hl'.len]; exact beq_self_eq_true _
    · rintro x y e ⟨ad, vs, m, rfl, ho, hl⟩ ⟨ad', vs', m', e', ho', hl'⟩
      cases e'
      obtain rfl := seq_inj (ho.symm.trans ho')
      rw [if_pos (hl.len.symm.trans hl'.len)] at e
      exact lists _ _ _ _ hl hl' e

theorem allO_at {p : AV → AV → Option Bool} : ∀ {xs ys : List AV} {r : Bool}, allO p xs ys = some r → ∃ e : Nat → Bool, (∀ (j : Nat) u v, xs[j]? = some u → ys[j]? = some v → p u v = some (e j)) ∧ (List.range (min xs.length ys.length)).all e = r
  | [], ys, r, h => by cases h; exact ⟨fun _ => true, fun j u v q => by simp at q, by simp⟩
  | x :: xs, [], r, h => by cases h; exact ⟨fun _ => true, fun j u v _ q => by simp at q, by simp⟩
  | x :: xs, y :: ys, r, h => by
    simp only [allO] at h
    cases q : p x y with
    | none => rw [q] at h; cases h
    | some b =>
      rw [q, Option.bind_some] at h
      cases q2 : allO p xs ys with
      | none => rw [q2] at h; cases h
      | some b2 =>
        rw [q2, Option.map_some, Option.some.injEq] at h
        refine ex_1_2 (allO_at q2) fun e h1 h2 => ?_
        refine ⟨fun j => match j with | 0 => b | j + 1 => e j, fun j u v hu hv => ?_, ?_⟩
        · cases j with
          | zero =>
            simp only [List.getElem?_cons_zero, Option.some.injEq] at hu hv
            subst hu hv
            exact q
          | succ j => exact h1 j u v (by simpa using hu) (by simpa using hv)
        · rw [← h]
          simp only [List.length_cons, Nat.succ_min_succ, List.range_succ_eq_map, List.all_cons, List.all_map]
          rw [← h2]
          rfl
theorem isTuple_of {h : Heap} {ad : Addr} {vs : List Value} {n : Nat} (e : h.get? ad = some (tupO vs n)) : h.IsTuple ad vs.toArray := ⟨_, e, rfl, n, rfl⟩

theorem toArr {vs : List Value} {j : Nat} {p : Value} (h : j < vs.toArray.size) (e : vs[j]? = some p) : vs.toArray[j] = p :=
  Option.some.inj ((List.getElem?_eq_getElem (l := vs) (h)).symm.trans e)
theorem rcAt_of {g : Gh} {s : Shared} (hf : ∀ ad o, g.φ ad = some o → s.heap.get? ad = some o) : ∀ (n : Nat) (A : Around), A.units + n < cLine → ∀ (a b : AV) (u v : Value) (r : Bool), CtR w K g s.heap a u → CtR w K g s.heap b v → aeqF n a b = some r →
    RcAt A s u v r ∧ RcNeAt A s u v (!r) ∧ EqAt A s u v r := by
  intro n
  induction n with
  | zero => intro A _ a b u v r _ _ e; cases e
  | succ n ih =>
    intro A hA a b u v r ha hb e
    have hA' : A.units < cLine := Nat.lt_of_le_of_lt (Nat.le_add_right _ _) hA
    have sub : ∀ {xs ys : List AV} {us vs : List Value} {q : Nat → Bool}, RpL w K g xs us → RpL w K g ys vs → (∀ (j : Nat) u v, xs[j]? = some u → ys[j]? = some v → aeqF n u v = some (q j)) →
        ∀ j (h1 : j < us.toArray.size) (h2 : j < vs.toArray.size), EqAt A.in1 s us.toArray[j] vs.toArray[j] (q j) := by
      intro xs ys us vs q hx hy hq j h1 h2
      have h1' := List.getElem?_eq_getElem (l := xs) (i := j) (by rw [← hx.len]; simpa using h1)
      have h2' := List.getElem?_eq_getElem (l := ys) (i := j) (by rw [← hy.len]; simpa using h2)
      refine ex_1_2 (RpL.at hx h1') fun p p1 p2 => ?_
      refine ex_1_2 (RpL.at hy h2') fun o o1 o2 => ?_
      rw [toArr h1 p1, toArr h2 o1]
      exact (ih A.in1 (by rw [Around.in1_units, Nat.add_assoc, Nat.add_comm 1 n]; exact hA) _ _ _ _ _ (p2.ctf hf) (o2.ctf hf) (hq j _ _ h1' h2')).2.2
    have same : u = v → r = true := fun q => Ct.same (w := w) (K := K) hf (n + 1) a b u r ha (q ▸ hb) e
    have fin : ∀ {ad ad' : Addr}, u = .ref ad → v = .ref ad' → RcAt A s u v r → RcNeAt A s u v (!r) → RcAt A s u v r ∧ RcNeAt A s u v (!r) ∧ EqAt A s u v r := fun {ad ad'} e1 e2 R R2 => by
      refine ⟨R, R2, ?_⟩
      by_cases z : ad = ad'
      · subst e1 e2 z
        cases same rfl
        exact .same _
      · subst e1 e2
        exact .of_refs z R
    refine eqV.on (P := fun a b => CtR w K g s.heap a u → CtR w K g s.heap b v → RcAt A s u v r ∧ RcNeAt A s u v (!r) ∧ EqAt A s u v r) e ?_ ?_ ?_ ?_ ?_ ?_ ha hb <;> clear ha hb e
    · rintro rfl ha hb
      cases ha; cases hb
      exact ⟨.none_none, .none_none, .same _⟩
    · rintro x y rfl ha hb
      cases ha; cases hb
      exact ⟨.bool_bool _ _, .bool_bool _ _, .bool_bool _ _⟩
    · rintro x y rfl ⟨t, ha⟩ ⟨t', hb⟩
      cases ha; cases hb
      exact ⟨.int_int _ _ _ _, .int_int _ _ _ _, .int_int _ _ _ _⟩
    · rintro x y rfl ⟨t, ha⟩ ⟨t', hb⟩
      cases ha; cases hb
      exact ⟨.str_str _ _ _ _, .str_str _ _ _ _, .str_str _ _ _ _⟩
    · rintro x y q e1 e ⟨ad, vs, m, eu, ho, hl⟩ ⟨ad', vs', m', ev, ho', hl'⟩
      obtain ⟨ee, e1, e2⟩ := allO_at e1
      have hr : ((List.range (min vs.toArray.size vs'.toArray.size)).all ee && vs.toArray.size == vs'.toArray.size) = r := by
        rw [← e, ← e2, List.size_toArray, List.size_toArray, hl.len, hl'.len]
      have R := RcAt.tuples (isTuple_of ho) (isTuple_of ho') hA' (sub hl hl' e1)
      have R2 := RcNeAt.tuples (isTuple_of ho) (isTuple_of ho') hA' (sub hl hl' e1)
      rw [hr, ← eu, ← ev] at R R2
      exact fin eu ev R R2
    · rintro x y e ⟨ad, vs, m, eu, ho, hl⟩ ⟨ad', vs', m', ev, ho', hl'⟩
      have el : vs.toArray.size = vs'.toArray.size ↔ x.length = y.length := by rw [List.size_toArray, List.size_toArray, hl.len, hl'.len]
      by_cases hz : x.length = y.length
      · rw [if_pos hz] at e
        obtain ⟨ee, e1, e2⟩ := allO_at e
        have hr : (List.range vs.toArray.size).all ee = r := by
          rw [← e2, ← hz, Nat.min_self, List.size_toArray, hl.len]
        have R := RcAt.lists (isList_of ho) (isList_of ho') (el.mpr hz) hA' (sub hl hl' e1)
        have R2 := RcNeAt.lists (isList_of ho) (isList_of ho') (el.mpr hz) hA' (sub hl hl' e1)
        rw [hr, ← eu, ← ev] at R R2
        exact fin eu ev R R2
      · rw [if_neg hz] at e
        cases e
        have hz' : (vs.toArray.size != vs'.toArray.size) = true := bne_iff_ne.mpr fun q => hz (el.mp q)
        have R := RcAt.lists_lengths (A := A) (isList_of ho) (isList_of ho') hz' hA'
        have R2 := RcNeAt.lists_lengths (A := A) (isList_of ho) (isList_of ho') hz' hA'
        rw [← eu, ← ev] at R R2
        exact fin eu ev R R2
end Mine
end
section
open PySem PySem.W PySem.Calls PyProof.Rows PySem.SeqAt
set_option Elab.async false
set_option maxRecDepth 100000
set_option linter.unusedVariables false
namespace Mine
variable {prog : Program} {w : World} {K : Frag} {hb : Heap} {A : Around} {f : Frm} {l : Loc} {c c' c1 c2 c3 : Cells} {x y z : Expr} {pos : Pos} {a b : AV}

/-! comparisons -/
noncomputable def opOf : Cm → CmpOp
  | .eq => .Eq
  | .ne => .NotEq
  | .lt => .Lt
  | .gt => .Gt
  | .ge => .GtE
  | .isIn => .In
  | .notIn => .NotIn
  | .isN => .Is
  | .isNotN => .IsNot
theorem units_ok {d n : Nat} (hA : AOk A d) (hn : n ≤ 800) : A.units + n < cLine := by
  have := hA.un
  unfold cLine; lia
theorem strsOf_in {g : Gh} {s : Shared} {q : Str} {t : Tok} : ∀ {as : List AV} {vs : List Value} {ks : List Str}, RpL w K g as vs → strsOf as = some ks →
    ∃ e : Value → Bool, (∀ v ∈ vs, EqAt A s v (.str q t) (e v)) ∧ vs.any e = ks.contains q := by
  intro as vs ks r e
  refine ⟨fun v => v.isStr q, ?_⟩
  induction as generalizing vs ks with
  | nil =>
    obtain rfl : vs = [] := r
    cases e
    exact ⟨fun _ h => (nomatch h), rfl⟩
  | cons a as ih =>
    refine strsOf.on (P := fun a => (∃ v r, vs = v :: r ∧ Rp w K g a v ∧ RpL w K g as r) → _) e (fun k ks' q2 e => ?_) r
    rintro ⟨v, vs', rfl, ⟨t', rfl⟩, r2⟩
    obtain ⟨i1, i2⟩ := ih r2 q2
    subst e
    refine ⟨fun v hv => ?_, ?_⟩
    · rcases List.mem_cons.mp hv with rfl | hv
      · exact EqAt.str_str _ _ _ _
      · exact i1 v hv
    · rw [List.any_cons, List.contains_cons, i2]
      exact congrArg (· || _) Bool.beq_comm
theorem isNone_eq {g : Gh} {v : Value} (r : Rp w K g a v) : (v == Value.none) = isNone a := by
  cases a <;> simp only [Rp] at r
  · subst r; simp [isNone]
  · subst r; rfl
  · obtain ⟨t, rfl⟩ := r; rfl
  · obtain ⟨t, rfl⟩ := r; rfl
  · obtain ⟨_, _, _, e, _⟩ := r; subst e; rfl
  · obtain ⟨_, _, _, e, _⟩ := r; subst e; rfl
  · obtain ⟨_, _, _, e, _⟩ := r; subst e; rfl
  · obtain ⟨_, _, _, _, e, _⟩ := r; subst e; rfl
  · obtain ⟨_, e, _⟩ := r; subst e; rfl

theorem in_core {d : Nat} {g : Gh} {al : Nat → Addr} {s : Shared} {u v : Value} {r : Bool} (S : St w K hb f g al l c s.heap) (hu : Rp w K g a u) (hv : CtR w K g s.heap b v) (h : inV a b = some r) :
    (∀ {Q : Value → Shared → Prop} {E : Value → Shared → Prop}, (∀ tk, Q (.bool r) { s with toks := tk }) → wpAny (model prog w) A (compareOp .In u v) Q E s) ∧ (∀ {Q : Value → Shared → Prop} {E : Value → Shared → Prop}, (∀ tk, Q (.bool !r) { s with toks := tk }) → wpAny (model prog w) A (compareOp .NotIn u v) Q E s) := by
  refine inV.on (P := fun a b => Rp w K g a u → CtR w K g s.heap b v → _) h (fun x ks l h => ?_) (fun x l ks q2 h => ?_) hu hv
  · rintro ⟨t, rfl⟩ ⟨ad, es, n, rfl, ho, he, hl, nd, hs⟩
    have D := dictOf_lib (prog := prog) ho he nd
    have e1 : (valueAt (ks.zip (es.map (·.val))) x).isSome = r := by rw [valueAt_mem, zip_keys he]; exact h
    refine ⟨fun k => wpAny_in_of (k := x) (by simp [PySem.strKind, Value.isStrOf]) (by simpa using hs) D.mapOf ?_, fun k => wpAny_notIn_of (k := x) (by simp [PySem.strKind, Value.isStrOf]) (by simpa using hs) D.mapOf ?_⟩
    · rw [e1]; exact k _
    · rw [e1]; exact k _
  · rintro ⟨t, rfl⟩ ⟨ad, vs, n, rfl, ho, hl⟩
    refine ex_1_2 (strsOf_in (A := A.in1) (s := s) (q := x) (t := t) hl q2) fun e e1 e2 => ?_
    have e3 : vs.toArray.any e = r := by rw [← h, ← e2]; simp
    refine ⟨fun k => in_listAt e (isList_of ho) (fun y hy => e1 y (by simpa using hy)) ?_, fun k => notIn_listAt e (isList_of ho) (fun y hy => e1 y (by simpa using hy)) ?_⟩
    · rw [e3]; exact k s.toks
    · rw [e3]; exact k s.toks
theorem cmp_core {o : Cm} {d : Nat} {g : Gh} {al : Nat → Addr} {s : Shared} {u v : Value} {r : Bool} {Q : Value → Shared → Prop} {E : Value → Shared → Prop} (hA : AOk A d) (S : St w K hb f g al l c s.heap) (hu : Rp w K g a u) (hv : CtR w K g s.heap b v)
    (h : acmp o a b = some r) (k : ∀ tk, Q (.bool r) { s with toks := tk }) : wpAny (model prog w) A (compareOp (opOf o) u v) Q E s := by
  have twoI : ∀ {G : Prop} {kk : Int → Int → Option Bool}, int2 a b kk = some r → (∀ x y t t', u = .int x t → v = .int y t' → kk x y = some r → G) → G := fun {G kk} h q =>
    int2.on (P := fun a b => Rp w K g a u → CtR w K g s.heap b v → G) h (fun x y e ⟨t, e1⟩ ⟨t', e2⟩ => q x y t t' e1 e2 e) hu hv
  cases o with
  | eq => exact (rcAt_of S.fz 8 A (units_ok hA (by decide)) _ _ _ _ r (Rp.ct S hu) hv h).1 prog w E Q (k _)
  | ne =>
    refine om.on h fun e q h => ?_
    subst h
    exact (rcAt_of S.fz 8 A (units_ok hA (by decide)) _ _ _ _ e (Rp.ct S hu) hv q).2.1 prog w E Q (k _)
  | lt => exact twoI h fun x y t t' e1 e2 e => by subst e1 e2; cases e; exact wpAny_lt_int (k _)
  | gt => exact twoI h fun x y t t' e1 e2 e => by subst e1 e2; cases e; exact PyProof.Rows.gt_int (k _)
  | ge => exact twoI h fun x y t t' e1 e2 e => by subst e1 e2; cases e; exact PyProof.Rows.ge_int (k _)
  | isIn => exact (in_core (d := d) S hu hv h).1 k
  | notIn => exact om.on h fun e q h => by subst h; exact (in_core (d := d) S hu hv q).2 k
  | isN => cases h
  | isNotN => cases h

noncomputable def plainCmp (x : Expr) : Bool := x.ctorIdx != 7
theorem behind_of {o : CmpOp} {e : Expr} (h : plainCmp e = true) : behindInMarks o e = false := by
  cases e <;> first | rfl | exact noB h
theorem wp_cmp {o : Cm} {d : Nat} {p : Pl} {ct : AV} {r : Bool} (hA : AOk A d) (hm : plainCmp y = true) (hp : WpE prog w K hb A f l c x a c1) (hq : WpP prog w K hb A f l c1 y p c2) (hr : p.read l c2 = some ct) (h : acmp o a ct = some r) :
    WpE prog w K hb A f l c (.Compare x [opOf o] [y] pos) (.bool r) c2 ∧ WpT prog w K hb A f l c (.Compare x [opOf o] [y] pos) r c2 := by
  refine ⟨?_, ?_⟩
  · intro g al s Q E S k
    refine wpAny_Compare1 (hp g al s _ E S fun u h1 tk1 g1 S1 X1 R1 => hq g1 al _ _ E S1 fun v h2 tk2 g2 S2 X2 R2 => ?_) (behind_of hm)
    exact cmp_core hA S2 (R1.mono w K X2.le _ _) (S2.read R2 hr) h fun tk => k _ h2 tk g2 S2 (X1.trans X2) (by simp only [Rp])
  · intro g al s Q E S k
    refine wpAny_isTrue_Compare1 (hp g al s _ E S fun u h1 tk1 g1 S1 X1 R1 => hq g1 al _ _ E S1 fun v h2 tk2 g2 S2 X2 R2 => ?_) (behind_of hm)
    exact cmp_core hA S2 (R1.mono w K X2.le _ _) (S2.read R2 hr) h fun tk => wpAny_truthy_bool (k _ h2 tk g2 S2 (X1.trans X2) rfl)
theorem wp_isNone {kk : Nat} {p2 : Pos} (hp : WpE prog w K hb A f l c x a c1) :
    WpE prog w K hb A f l c (.Compare x [.Is] [.Constant .none kk p2] pos) (.bool (isNone a)) c1 ∧ WpT prog w K hb A f l c (.Compare x [.Is] [.Constant .none kk p2] pos) (isNone a) c1 := by
  refine ⟨?_, ?_⟩
  · intro g al s Q E S k
    refine wpAny_Compare1 (hp g al s _ E S fun u h1 tk1 g1 S1 X1 R1 => wpAny_Constant_none (is_none ?_)) rfl
    rw [isNone_eq R1]
    exact k _ h1 tk1 g1 S1 X1 (by simp only [Rp])
  · intro g al s Q E S k
    refine wpAny_isTrue_Compare1 (hp g al s _ E S fun u h1 tk1 g1 S1 X1 R1 => wpAny_Constant_none (is_none (wpAny_truthy_bool ?_))) rfl
    rw [isNone_eq R1]
    exact k _ h1 tk1 g1 S1 X1 rfl
theorem wp_isNotNone {kk : Nat} {p2 : Pos} (hp : WpE prog w K hb A f l c x a c1) :
    WpE prog w K hb A f l c (.Compare x [.IsNot] [.Constant .none kk p2] pos) (.bool (!isNone a)) c1 ∧ WpT prog w K hb A f l c (.Compare x [.IsNot] [.Constant .none kk p2] pos) (!isNone a) c1 := by
  refine ⟨?_, ?_⟩
  · intro g al s Q E S k
    refine wpAny_Compare1 (hp g al s _ E S fun u h1 tk1 g1 S1 X1 R1 => wpAny_Constant_none (isNot_none ?_)) rfl
    rw [isNone_eq R1]
    exact k _ h1 tk1 g1 S1 X1 (by simp only [Rp])
  · intro g al s Q E S k
    refine wpAny_isTrue_Compare1 (hp g al s _ E S fun u h1 tk1 g1 S1 X1 R1 => wpAny_Constant_none (isNot_none (wpAny_truthy_bool ?_))) rfl
    rw [isNone_eq R1]
    exact k _ h1 tk1 g1 S1 X1 rfl
end Mine
end
section
open PySem PySem.W PySem.Calls PyProof.Rows
set_option Elab.async false
set_option maxRecDepth 100000
set_option linter.unusedVariables false
namespace Mine
variable {prog : Program} {w : World} {K : Frag} {hb : Heap} {A : Around} {f : Frm} {l : Loc} {c c' c1 c2 c3 : Cells} {x y z : Expr} {pos : Pos} {a b : AV}

/-! calls of what is built in -/
noncomputable def BuiltIn (K : Frag) (f : Frm) (n : Str) : Bool := nsIn K mainGlobals n == some none && f.env.kindOf n == some .globalImplicit
theorem args1 {fv : Value} {first : List Value} {s : Shared} {Q : Value → Shared → Prop} {E : Value → Shared → Prop} (hf : (∃ id, fv = .builtin id) ∨ ∃ id, fv = .type id) (hs : noStar [x] = true)
    (p : wpAny (model prog w) A (eval x f.env) (fun u s1 => wpAny (model prog w) A (call fv (first ++ [u])) Q E s1) E s) : wpAny (model prog w) A (callWith pos fv first (backTo pos (starEach [x] f.env)) []) Q E s := by
  obtain ⟨e, _⟩ := noStar_cons (x := x) (xs := []) (env := f.env) hs
  rcases hf with ⟨id, rfl⟩ | ⟨id, rfl⟩
  · refine callWith_builtin (noStar_any hs) ?_
    rw [e]
    exact evalArgs_plain (spliced_cons (wpAny_mono p (fun u s1 h => spliced_nil h) fun _ _ e => e))
  · refine PyProof.Rows.callWith_type (noStar_any hs) ?_
    rw [e]
    exact evalArgs_plain (spliced_cons (wpAny_mono p (fun u s1 h => spliced_nil h) fun _ _ e => e))
theorem args2 {fv : Value} {first : List Value} {s : Shared} {Q : Value → Shared → Prop} {E : Value → Shared → Prop} (hf : (∃ id, fv = .builtin id) ∨ ∃ id, fv = .type id) (hs : noStar [x, y] = true)
    (p : wpAny (model prog w) A (eval x f.env) (fun u s1 => wpAny (model prog w) A (eval y f.env) (fun v s2 => wpAny (model prog w) A (call fv (first ++ [u, v])) Q E s2) E s1) E s) :
    wpAny (model prog w) A (callWith pos fv first (backTo pos (starEach [x, y] f.env)) []) Q E s := by
  obtain ⟨e, h2⟩ := noStar_cons (x := x) (xs := [y]) (env := f.env) hs
  obtain ⟨e2, _⟩ := noStar_cons (x := y) (xs := []) (env := f.env) h2
  rcases hf with ⟨id, rfl⟩ | ⟨id, rfl⟩
  · refine callWith_builtin (noStar_any hs) ?_
    rw [e, e2]
    exact evalArgs_plain (spliced_cons (wpAny_mono p (fun u s1 h => spliced_cons (wpAny_mono h (fun v s2 h => spliced_nil h) fun _ _ e => e)) fun _ _ e => e))
  · refine PyProof.Rows.callWith_type (noStar_any hs) ?_
    rw [e, e2]
    exact evalArgs_plain (spliced_cons (wpAny_mono p (fun u s1 h => spliced_cons (wpAny_mono h (fun v s2 h => spliced_nil h) fun _ _ e => e)) fun _ _ e => e))
theorem call1 {n : Str} {fv : Value} {np : Pos} {g : Gh} {al : Nat → Addr} {s : Shared} {Q : Value → Shared → Prop} {E : Value → Shared → Prop} (C : Cx K hb) (O : EnvOk f) (S : St w K hb f g al l c s.heap) (hf : (∃ id, fv = .builtin id) ∨ ∃ id, fv = .type id)
    (hbn : BuiltIn K f n = true) (hv : bootBuiltins n = some fv) (hn : n ≠ "__name__") (hd : (n == ("__debug__" : Str)) = false) (hs : noStar [x] = true)
    (p : wpAny (model prog w) A (eval x f.env) (fun u s1 => wpAny (model prog w) A (call fv [u]) Q E s1) E s) : wpAny (model prog w) A (eval (.Call (.Name n np) [x] [] pos) f.env) Q E s := by
  simp only [BuiltIn, Bool.and_eq_true, beq_iff_eq] at hbn
  exact wpAny_Call_NameR (name_built C O S hbn.1 hv hn hbn.2 hd (args1 (first := []) hf hs p))
theorem call2 {n : Str} {fv : Value} {np : Pos} {g : Gh} {al : Nat → Addr} {s : Shared} {Q : Value → Shared → Prop} {E : Value → Shared → Prop} (C : Cx K hb) (O : EnvOk f) (S : St w K hb f g al l c s.heap) (hf : (∃ id, fv = .builtin id) ∨ ∃ id, fv = .type id)
    (hbn : BuiltIn K f n = true) (hv : bootBuiltins n = some fv) (hn : n ≠ "__name__") (hd : (n == ("__debug__" : Str)) = false) (hs : noStar [x, y] = true)
    (p : wpAny (model prog w) A (eval x f.env) (fun u s1 => wpAny (model prog w) A (eval y f.env) (fun v s2 => wpAny (model prog w) A (call fv [u, v]) Q E s2) E s1) E s) : wpAny (model prog w) A (eval (.Call (.Name n np) [x, y] [] pos) f.env) Q E s := by
  simp only [BuiltIn, Bool.and_eq_true, beq_iff_eq] at hbn
  exact wpAny_Call_NameR (name_built C O S hbn.1 hv hn hbn.2 hd (args2 (first := []) hf hs p))

theorem wp_len {pl : Pl} {ct r : AV} {np : Pos} (C : Cx K hb) (O : EnvOk f) (hbn : BuiltIn K f "len" = true) (hs : noStar [x] = true) (p : WpP prog w K hb A f l c x pl c1) (hr : pl.read l c1 = some ct)
    (hn : lenV ct = some r) : WpE prog w K hb A f l c (.Call (.Name "len" np) [x] [] pos) r c1 := by
  intro g al s Q E S k
  refine call1 (fv := .builtin "len") C O S (.inl ⟨_, rfl⟩) hbn (by decide +kernel) (by decide +kernel) (by decide +kernel) hs (p g al s _ E S fun u h1 tk1 g1 S1 X1 R1 => ?_)
  have ct' := S1.read R1 hr
  have k := fun tk v => k v h1 tk g1 S1 X1
  revert ct'
  refine lenV.on (P := fun ct => CtR _ K g1 h1 ct u → _) hn (fun z hz e => ?_) (fun z hz e => ?_)
  · rintro ⟨ad, vs, m, rfl, ho, hl⟩
    subst e
    refine call_len_list (isList_of ho) (by rw [List.size_toArray, hl.len]; exact small_fit (of_decide_eq_true hz)) (k _ _ ?_)
    exact ⟨_, by rw [List.size_toArray, hl.len]⟩
  · rintro ⟨ad, vs, m, rfl, ho, hl⟩
    subst e
    refine PyProof.Rows.len_tuple (isTup_of ho) (by rw [List.size_toArray, hl.len]; exact small_fit (of_decide_eq_true hz)) (k _ _ ?_)
    exact ⟨_, by rw [List.size_toArray, hl.len]⟩
theorem wp_strOf {n : Int} {np : Pos} (C : Cx K hb) (O : EnvOk f) (hbn : BuiltIn K f "str" = true) (hs : noStar [x] = true) (h0 : 0 ≤ n) (h1 : n < 10 ^ 9) (p : WpE prog w K hb A f l c x (.int n) c1) :
    WpE prog w K hb A f l c (.Call (.Name "str" np) [x] [] pos) (.str (Str.ofString (toString n))) c1 := by
  intro g al s Q E S k
  refine call1 (fv := .type "str") C O S (.inr ⟨_, rfl⟩) hbn (by decide +kernel) (by decide +kernel) (by decide +kernel) hs (p g al s _ E S fun u h1 tk1 g1 S1 X1 R1 => ?_)
  obtain ⟨t, rfl⟩ := Rp.int_iff.mp R1
  refine P.str_of_int ?_ (k _ h1 _ g1 S1 X1 (Rp.str_iff.mpr ⟨_, rfl⟩))
  exact Nat.lt_trans (log2_62 (by lia)) (by decide)
theorem wp_intOf_int {n : Int} {np : Pos} (C : Cx K hb) (O : EnvOk f) (hbn : BuiltIn K f "int" = true) (hs : noStar [x] = true) (p : WpE prog w K hb A f l c x (.int n) c1) :
    WpE prog w K hb A f l c (.Call (.Name "int" np) [x] [] pos) (.int n) c1 := by
  intro g al s Q E S k
  refine call1 (fv := .type "int") C O S (.inr ⟨_, rfl⟩) hbn (by decide +kernel) (by decide +kernel) (by decide +kernel) hs (p g al s _ E S fun u h1 tk1 g1 S1 X1 R1 => ?_)
  obtain ⟨t, rfl⟩ := Rp.int_iff.mp R1
  exact call_int_int (k _ h1 _ g1 S1 X1 (Rp.int_iff.mpr ⟨_, rfl⟩))
theorem wp_intOf_bool {n : Bool} {np : Pos} (C : Cx K hb) (O : EnvOk f) (hbn : BuiltIn K f "int" = true) (hs : noStar [x] = true) (p : WpE prog w K hb A f l c x (.bool n) c1) :
    WpE prog w K hb A f l c (.Call (.Name "int" np) [x] [] pos) (.int (if n then 1 else 0)) c1 := by
  intro g al s Q E S k
  refine call1 (fv := .type "int") C O S (.inr ⟨_, rfl⟩) hbn (by decide +kernel) (by decide +kernel) (by decide +kernel) hs (p g al s _ E S fun u h1 tk1 g1 S1 X1 R1 => ?_)
  obtain rfl := Rp.bool_iff.mp R1
  exact call_int_bool (k _ h1 _ g1 S1 X1 (Rp.int_iff.mpr ⟨_, rfl⟩))
theorem wp_max {n m : Int} {d : Nat} {np : Pos} (C : Cx K hb) (O : EnvOk f) (hA : AOk A d) (hbn : BuiltIn K f "max" = true) (hs : noStar [x, y] = true) (p : WpE prog w K hb A f l c x (.int n) c1) (q : WpE prog w K hb A f l c1 y (.int m) c2) :
    WpE prog w K hb A f l c (.Call (.Name "max" np) [x, y] [] pos) (.int (if n < m then m else n)) c2 := by
  intro g al s Q E S k
  refine call2 (fv := .builtin "max") C O S (.inl ⟨_, rfl⟩) hbn (by decide +kernel) (by decide +kernel) (by decide +kernel) hs (p g al s _ E S fun u h1 tk1 g1 S1 X1 R1 => q g1 al _ _ E S1 fun v h2 tk2 g2 S2 X2 R2 => ?_)
  obtain ⟨t, rfl⟩ := Rp.int_iff.mp R1
  obtain ⟨t', rfl⟩ := Rp.int_iff.mp R2
  refine max_two_ints hA.hd fun h3 tk hk => k _ h3 tk g2 (S2.keeps hk) ((X1.trans X2).trans (.of_keeps hk ..)) (Rp.int_iff.mpr ?_)
  by_cases z : n < m
  · rw [if_pos z, if_pos (show m > n from z)]; exact ⟨_, rfl⟩
  · rw [if_neg z, if_neg (show ¬ m > n from z)]; exact ⟨_, rfl⟩
theorem wp_tupOf {as : List AV} {np : Pos} (C : Cx K hb) (O : EnvOk f) (hbn : BuiltIn K f "tuple" = true) (hs : noStar [x] = true) (hz : small as = true) (p : WpE prog w K hb A f l c x (.list as) c1) :
    WpE prog w K hb A f l c (.Call (.Name "tuple" np) [x] [] pos) (.tup as) c1 := by
  intro g al s Q E S k
  refine call1 (fv := .type "tuple") C O S (.inr ⟨_, rfl⟩) hbn (by decide +kernel) (by decide +kernel) (by decide +kernel) hs (p g al s _ E S fun u h1 tk1 g1 S1 X1 R1 => ?_)
  have ct' := Rp.ct S1 R1
  simp only [CtR] at ct'
  refine ex_3_3 (ct') fun ad vs m eq0 ho hl => ?_
  subst eq0
  refine call_tuple_list (isList_of ho) (fun h2 hk => ?_) (sizeLine_lim (by simpa [hl.len] using small_len hz))
  have S2 := S1.keeps hk
  have X2 := X1.trans (.of_keeps hk g1 _)
  have z := S2.cold (Heap.none_at_size h2)
  refine k _ _ _ (frz g1 h2.objs.size (tupO vs 0)) ((S2.push _).more (Heap.get?_push_size _ rfl) z.1 z.2) ((X2.trans (.push ..)).freezeNew z.1 (Classical.byContradiction fun e => X2.live _ e (Heap.none_at_size h2))) ?_
  skip
  exact ⟨_, vs, 0, rfl, if_pos rfl, hl.mono w K (frz_le z.1) _ _⟩

theorem get_push_other {h h' : Heap} {o : Obj} (e : Heap.SameBut h.objs.size (h.push o) h') : ∀ b ob, h.get? b = some ob → h'.get? b = some ob := fun b ob hb => by
  have := Heap.lt_size hb
  rw [e.2 b (Nat.ne_of_lt this)]
  exact Heap.get?_push_of_some _ hb
theorem zip_vals : ∀ {ks : List Str} {es : List DictEntry}, EntL w ks es → (ks.zip (es.map (·.val))).map (·.2) = es.map (·.val)
  | [], es, h => by cases h; rfl
  | k :: ks, es, h => by obtain ⟨t, v, r, rfl, h⟩ := h; simp [zip_vals h]
theorem wp_copy {ks : List Str} {as : List AV} {np : Pos} (C : Cx K hb) (O : EnvOk f) (hbn : BuiltIn K f "dict" = true) (hs : noStar [x] = true) (hz : ks.length ≤ lim) (p : WpE prog w K hb A f l c x (.dict ks as) c1) :
    WpR prog w K hb A f l c (.Call (.Name "dict" np) [x] [] pos) (.o (.dict ks as)) c1 := by
  intro g al s Q E S k
  refine call1 (fv := .type "dict") C O S (.inr ⟨_, rfl⟩) hbn (by decide +kernel) (by decide +kernel) (by decide +kernel) hs (p g al s _ E S fun u h1 tk1 g1 S1 X1 R1 => ?_)
  have ct' := Rp.ct S1 R1
  simp only [CtR] at ct'
  refine ex_3_6 (ct') fun ad es m eq0 ho he hl nd hsy => ?_
  subst eq0
  have D := dictOf_lib (prog := prog) ho he nd
  refine kt_call_dict (by simpa using hsy) D (sizeLine_lim (by simpa [he.len] using hz)) fun h2 D2 hk => ?_
  have hk' := get_push_other hk
  have z := S1.cold (Heap.none_at_size h1)
  have D2' := dictOf_mine D2
  rw [zip_keys he, zip_vals he] at D2'
  refine ex_2_4 (D2') fun es' n' ho' he' hv' nd' => ?_
  refine k _ _ _ g1 (S1.keeps hk') (X1.trans (.of_keeps hk' ..)) ⟨_, _, rfl, z.1, ho', ?_, z.2, Classical.byContradiction fun e => X1.live _ e (Heap.none_at_size h1), size_ne C S1⟩
  simp only [ObR]
  exact ⟨es', n', rfl, he', by rw [hv']; exact hl, nd'⟩

/-! texts -/
theorem wp_rfind {m n : Str} {apos : Pos} (hb' : notBare x = true) (hs : noStar [y] = true) (hline : (apos.endLine == pos.line) = true) (p : WpE prog w K hb A f l c x (.str m) c1) (q : WpE prog w K hb A f l c1 y (.str n) c2) :
    WpE prog w K hb A f l c (.Call (.Attribute x "rfind" apos) [y] [] pos) (.int (Txt.rfind m n)) c2 := by
  intro g al s Q E S k
  refine call_attr hb' hs (by simp) hline (p g al s _ E S fun u h1 tk1 g1 S1 X1 R1 pl => ?_)
  obtain ⟨t, rfl⟩ := Rp.str_iff.mp R1
  refine GM.rfind (args1 (.inl ⟨_, rfl⟩) hs (q g1 al _ _ E S1 fun v h2 tk2 g2 S2 X2 R2 => ?_))
  obtain ⟨t', rfl⟩ := Rp.str_iff.mp R2
  exact SC.rfind (k _ h2 _ g2 S2 (X1.trans X2) (Rp.int_iff.mpr ⟨_, rfl⟩))
theorem wp_isdigit {m : Str} {apos : Pos} (hb' : notBare x = true) (hline : (apos.endLine == pos.line) = true) (p : WpE prog w K hb A f l c x (.str m) c1) :
    WpE prog w K hb A f l c (.Call (.Attribute x "isdigit" apos) [] [] pos) (.bool (Txt.isdigit m)) c1 := by
  intro g al s Q E S k
  refine call_attr hb' rfl (by decide) hline (p g al s _ E S fun u h1 tk1 g1 S1 X1 R1 pl => ?_)
  obtain ⟨t, rfl⟩ := Rp.str_iff.mp R1
  refine GM.isdigit (callWith_b (as := []) rfl wpL_nil S1 fun vs h2 tk2 g2 S2 X2 R2 => ?_)
  simp only [RpL] at R2
  subst R2
  exact SC.isdigit (k _ h2 _ g2 S2 (X1.trans X2) (Rp.bool_iff.mpr rfl))

/-! dict.get -/
theorem dict_meth {ad : Addr} {s : Shared} {pl : Sem Bool} {Q : Value × List Value → Shared → Prop} {E : Value → Shared → Prop} {ks : List Str} {as : List AV} {g : Gh} (ct : CtR w K g s.heap (.dict ks as) (.ref ad)) (h : Q (.builtin "dict.get", [.ref ad]) s) : wpAny (model prog w) A (getMethod (.ref ad) "get" pl) Q E s := by
  simp only [CtR] at ct
  refine ex_3_6 (ct) fun ad' es m e ho he hl nd hsy => ?_
  cases e
  have D := dictOf_lib (prog := prog) ho he nd
  exact getMethod_builtin D.mapOf.typeIs F.plainAttrs_dict F.slot_dict_get F.type_dict_get D.mapOf.noDict h
theorem wp_get1 {pl : Pl} {ks : List Str} {as : List AV} {n : Str} {apos : Pos} (hb' : notBare x = true) (hs : noStar [y] = true) (hline : (apos.endLine == pos.line) = true) (p : WpP prog w K hb A f l c x pl c1) (q : WpE prog w K hb A f l c1 y (.str n) c2)
    {ks0 : List Str} {as0 : List AV} (hr0 : pl.read l c1 = some (.dict ks0 as0)) (hr : pl.read l c2 = some (.dict ks as)) : WpE prog w K hb A f l c (.Call (.Attribute x "get" apos) [y] [] pos) ((dget ks as n).getD .none) c2 := by
  intro g al s Q E S k
  refine call_attr hb' hs (by simp) hline (p g al s _ E S fun u h1 tk1 g1 S1 X1 R1 _ => ?_)
  have ct := S1.read R1 hr0
  have ct0 := ct
  simp only [CtR] at ct0
  refine ex_3_6 (ct0) fun ad es m eq0 ho he hl nd hsy => ?_
  subst eq0
  refine dict_meth ct ?_
  have e : backTo pos (starEach [y] f.env) = [(false, eval y f.env)] := by obtain ⟨e, _⟩ := noStar_cons (x := y) (xs := []) (env := f.env) hs; rw [e]; rfl
  rw [e]
  refine wpAny_dict_get1 (knd := strKind prog w) (by simpa using hsy) (q g1 al _ _ E S1 fun v h2 tk2 g2 S2 X2 R2 => ?_)
  obtain ⟨t', rfl⟩ := Rp.str_iff.mp R2
  have ct2 := S2.read (R1.mono X2.le) hr
  simp only [CtR] at ct2
  refine ex_3_6 (ct2) fun ad' es' m' e' ho' he' hl' nd' hsy' => ?_
  cases e'
  have D := dictOf_lib (prog := prog) ho' he' nd'
  refine ⟨n, _, by simp [PySem.strKind, Value.isStrOf], D.mapOf, k _ h2 _ g2 S2 (X1.trans X2) ?_⟩
  have dv := dget_valueAt (s := n) he' hl'
  split at dv
  · rename_i a' ea
    refine ex_1_2 (dv) fun v hv rv => ?_
    rw [hv, ea]; exact rv
  · rename_i ea
    rw [dv, ea]; exact Rp.none_iff.mpr rfl
theorem wp_get2 {pl : Pl} {ks : List Str} {as : List AV} {n : Str} {apos : Pos} (hb' : notBare x = true) (hs : noStar [y, z] = true) (hline : (apos.endLine == pos.line) = true) (p : WpP prog w K hb A f l c x pl c1) (q : WpE prog w K hb A f l c1 y (.str n) c2) (q2 : WpE prog w K hb A f l c2 z a c3)
    {ks0 : List Str} {as0 : List AV} (hr0 : pl.read l c1 = some (.dict ks0 as0)) (hr : pl.read l c3 = some (.dict ks as)) : WpE prog w K hb A f l c (.Call (.Attribute x "get" apos) [y, z] [] pos) ((dget ks as n).getD a) c3 := by
  intro g al s Q E S k
  refine call_attr hb' hs (by simp) hline (p g al s _ E S fun u h1 tk1 g1 S1 X1 R1 _ => ?_)
  have ct := S1.read R1 hr0
  have ct0 := ct
  simp only [CtR] at ct0
  refine ex_3_6 (ct0) fun ad es m eq0 ho he hl nd hsy => ?_
  subst eq0
  refine dict_meth ct ?_
  have e : backTo pos (starEach [y, z] f.env) = [(false, eval y f.env), (false, eval z f.env)] := by
    obtain ⟨e, h2⟩ := noStar_cons (x := y) (xs := [z]) (env := f.env) hs
    obtain ⟨e2, _⟩ := noStar_cons (x := z) (xs := []) (env := f.env) h2
    rw [e, e2]; rfl
  rw [e]
  refine wpAny_dict_get2 (knd := strKind prog w) (by simpa using hsy) (q g1 al _ _ E S1 fun v h2 tk2 g2 S2 X2 R2 => q2 g2 al _ _ E S2 fun v3 h3 tk3 g3 S3 X3 R3 => ?_)
  obtain ⟨t', rfl⟩ := Rp.str_iff.mp R2
  have ct2 := S3.read ((R1.mono X2.le).mono X3.le) hr
  simp only [CtR] at ct2
  refine ex_3_6 (ct2) fun ad' es' m' e' ho' he' hl' nd' hsy' => ?_
  cases e'
  have D := dictOf_lib (prog := prog) ho' he' nd'
  refine ⟨n, _, by simp [PySem.strKind, Value.isStrOf], D.mapOf, k _ h3 _ g3 S3 ((X1.trans X2).trans X3) ?_⟩
  have dv := dget_valueAt (s := n) he' hl'
  split at dv
  · rename_i a' ea
    refine ex_1_2 (dv) fun v hv rv => ?_
    rw [hv, ea]; exact rv
  · rename_i ea
    rw [dv, ea]; exact R3
end Mine
end
section
open PySem PySem.W PySem.Calls PyProof.Rows
set_option Elab.async false
set_option maxRecDepth 100000
set_option linter.unusedVariables false
namespace Mine
variable {prog : Program} {w : World} {K : Frag} {hb : Heap} {A : Around} {f : Frm} {l : Loc} {c c' c1 c2 c3 : Cells} {x y z : Expr} {pos : Pos} {a b : AV}

theorem push_frz {g g1 : Gh} {al : Nat → Addr} {mu : Addr → Prop} {h0 h1 : Heap} (S : St w K hb f g1 al l c h1) (X : Ext g mu h0 g1 (MutA f al g1.cs l) h1) (o : Obj) (hof : o.isFreed = false) :
    St w K hb f (frz g1 h1.objs.size o) al l c (h1.push o) ∧ Ext g mu h0 (frz g1 h1.objs.size o) (MutA f al (frz g1 h1.objs.size o).cs l) (h1.push o) ∧ (frz g1 h1.objs.size o).φ h1.objs.size = some o ∧ g1.Le (frz g1 h1.objs.size o) := by
  have z := S.cold (Heap.none_at_size h1)
  exact ⟨(S.push _).more (Heap.get?_push_size _ hof) z.1 z.2, (X.trans (.push ..)).freezeNew z.1 (Classical.byContradiction fun e => X.live _ e (Heap.none_at_size h1)), if_pos rfl, frz_le z.1⟩
theorem RpL.append {g : Gh} : ∀ {as bs : List AV} {us vs : List Value}, RpL w K g as us → RpL w K g bs vs → RpL w K g (as ++ bs) (us ++ vs)
  | [], bs, us, vs, h, h' => by simp only [RpL] at h; subst h; exact h'
  | a :: as, bs, us, vs, h, h' => by
    simp only [RpL] at h
    obtain ⟨v, r, rfl, hv, h⟩ := h
    simp only [List.cons_append, RpL]
    exact ⟨v, r ++ vs, rfl, hv, h.append h'⟩

theorem wp_add_list {n m : List AV} (hl : n.length + m.length ≤ lim) (p : WpE prog w K hb A f l c x (.list n) c1) (q : WpE prog w K hb A f l c1 y (.list m) c2) : WpE prog w K hb A f l c (.BinOp x .Add y pos) (.list (n ++ m)) c2 := by
  intro g al s Q E S k
  refine wpAny_BinOp (p g al s _ E S fun u h1 tk1 g1 S1 X1 R1 => q g1 al _ _ E S1 fun v h2 tk2 g2 S2 X2 R2 => ?_)
  have r1 := Rp.ct S2 (R1.mono w K X2.le _ _)
  have r2 := Rp.ct S2 R2
  simp only [CtR] at r1 r2
  refine ex_3_3 (r1) fun d1 us n1 eq0 ho1 hl1 => ?_
  cases eq0
  obtain ⟨d2, vs, n2, rfl, ho2, hl2⟩ := r2
  have e : us.toArray ++ vs.toArray = (us ++ vs).toArray := by simp
  refine concat_meets ⟨_, ho1, rfl⟩ ⟨_, ho2, rfl⟩ noFill_list_add seq_list_add PySem.F.slot_list_add PySem.F.entry_list_add (PySem.F.args_list_add_2 _ _)
    (list_addW d1 d2 us.toArray vs.toArray n1 n2 none none #[] #[] (by simp [hl1.len, hl2.len]; exact sizeLine_lim hl)) ⟨ho1, ho2, ?_⟩
  rw [e]
  refine ex_0_4 (push_frz S2 (X1.trans X2) (listO (us ++ vs) 0) rfl) fun S3 X3 f3 l3 => ?_
  refine k _ _ tk2 _ S3 X3 ?_
  skip
  exact ⟨_, _, _, rfl, f3, (hl1.append hl2).mono w K l3 _ _⟩
theorem wp_add_tup {n m : List AV} (hl : n.length + m.length ≤ lim) (p : WpE prog w K hb A f l c x (.tup n) c1) (q : WpE prog w K hb A f l c1 y (.tup m) c2) : WpE prog w K hb A f l c (.BinOp x .Add y pos) (.tup (n ++ m)) c2 := by
  intro g al s Q E S k
  refine wpAny_BinOp (p g al s _ E S fun u h1 tk1 g1 S1 X1 R1 => q g1 al _ _ E S1 fun v h2 tk2 g2 S2 X2 R2 => ?_)
  have R1' := R1.mono w K X2.le _ _
  have r1 := Rp.ct S2 R1'
  have r2 := Rp.ct S2 R2
  simp only [CtR] at r1 r2
  obtain ⟨d1, us, n1, rfl, ho1, hl1⟩ := r1
  obtain ⟨d2, vs, n2, rfl, ho2, hl2⟩ := r2
  have e : us.toArray ++ vs.toArray = (us ++ vs).toArray := by simp
  by_cases hv : us = []
  · subst hv
    have : n = [] := List.length_eq_zero_iff.mp (by simpa using hl1.len.symm)
    subst this
    exact concat_meets ⟨_, ho1, rfl⟩ ⟨_, ho2, rfl⟩ noFill_tuple_add seq_tuple_add PySem.F.slot_tuple_add PySem.F.entry_tuple_add (PySem.F.args_tuple_add_2 _ _)
      (tuple_addW0 d1 d2 #[] vs.toArray n1 n2 none none #[] #[] rfl) ⟨ho1, ho2, k _ h2 tk2 g2 S2 (X1.trans X2) R2⟩
  · by_cases hw : vs = []
    · subst hw
      have : m = [] := List.length_eq_zero_iff.mp (by simpa using hl2.len.symm)
      subst this
      rw [List.append_nil]  at k
      exact concat_meets ⟨_, ho1, rfl⟩ ⟨_, ho2, rfl⟩ noFill_tuple_add seq_tuple_add PySem.F.slot_tuple_add PySem.F.entry_tuple_add (PySem.F.args_tuple_add_2 _ _)
        (tuple_addW1 d1 d2 us.toArray #[] n1 n2 none none #[] #[] (by simpa using hv) rfl) ⟨ho1, ho2, k _ h2 tk2 g2 S2 (X1.trans X2) R1'⟩
    · refine concat_meets ⟨_, ho1, rfl⟩ ⟨_, ho2, rfl⟩ noFill_tuple_add seq_tuple_add PySem.F.slot_tuple_add PySem.F.entry_tuple_add (PySem.F.args_tuple_add_2 _ _)
        (tuple_addW2 d1 d2 us.toArray vs.toArray n1 n2 none none #[] #[] (by simpa using hv) (by simpa using hw) (by simp [hl1.len, hl2.len]; exact sizeLine_lim hl)) ⟨ho1, ho2, ?_⟩
      rw [e]
      refine ex_0_4 (push_frz S2 (X1.trans X2) (tupO (us ++ vs) 0) rfl) fun S3 X3 f3 l3 => ?_
      refine k _ _ tk2 _ S3 X3 ?_
      simp only [Rp]
      exact ⟨_, _, _, rfl, f3, (hl1.append hl2).mono w K l3 _ _⟩

/-! slices -/
theorem str_eta (x : Str) : (⟨x.cps⟩ : Str) = x := rfl
theorem pick_to (x : Str) {n : Nat} (h : n ≤ x.length) : ((Builtin.Str.strSliceIndices none (some (n : Int)) 1 x.length).filterMap (x.cps[·]?)) = x.cps.toList.take n := by
  have e : Builtin.Str.strSliceIndices none (some (n : Int)) 1 x.length = Builtin.Str.strSliceIndices (some ((0 : Nat) : Int)) (some (n : Int)) 1 x.length := by
    unfold Builtin.Str.strSliceIndices
    have : max (0 : Int) (min 0 (x.length : Int)) = 0 := by grind
    simp [this]
  rw [e, StrLaws.sliced_plain x (Nat.zero_le n) h]
  rfl
theorem pick_from (x : Str) {n : Nat} (h : n ≤ x.length) : ((Builtin.Str.strSliceIndices (some (n : Int)) none 1 x.length).filterMap (x.cps[·]?)) = x.cps.toList.drop n := by
  have e : Builtin.Str.strSliceIndices (some (n : Int)) none 1 x.length = Builtin.Str.strSliceIndices (some (n : Int)) (some (x.length : Int)) 1 x.length := by
    unfold Builtin.Str.strSliceIndices
    have h2 : ¬ ((x.length : Int) < 0) := by lia
    have : max (0 : Int) (min (x.length : Int) (x.length : Int)) = x.length := by lia
    simp [h2]
  rw [e, StrLaws.sliced_plain x h (Nat.le_refl _)]
  rw [List.take_of_length_le]
  simp [Str.length]
theorem picks_len_to (x : Str) {n : Nat} (h : n ≤ x.length) : (Builtin.Str.strSliceIndices none (some (n : Int)) 1 x.length).length = n := by
  have e : Builtin.Str.strSliceIndices none (some (n : Int)) 1 x.length = Builtin.Str.strSliceIndices (some ((0 : Nat) : Int)) (some (n : Int)) 1 x.length := by
    unfold Builtin.Str.strSliceIndices
    have : max (0 : Int) (min 0 (x.length : Int)) = 0 := by lia
    simp [this]
  rw [e, StrLaws.strSliceIndices_plain (Nat.zero_le n) h]
  simp
theorem picks_len_from (x : Str) {n : Nat} (h : n ≤ x.length) : (Builtin.Str.strSliceIndices (some (n : Int)) none 1 x.length).length = x.length - n := by
  have e : Builtin.Str.strSliceIndices (some (n : Int)) none 1 x.length = Builtin.Str.strSliceIndices (some (n : Int)) (some (x.length : Int)) 1 x.length := by
    unfold Builtin.Str.strSliceIndices
    have h2 : ¬ ((x.length : Int) < 0) := by lia
    have : max (0 : Int) (min (x.length : Int) (x.length : Int)) = x.length := by lia
    simp [h2]
  rw [e, StrLaws.strSliceIndices_plain h (Nat.le_refl _)]
  simp
theorem sliceMade_val (x : Str) (t : Tok) (lo hi : Option (Int × Tok)) (y : Str) (hz : x.length ≤ lim) (hy : y.length ≤ x.length) (he : (⟨((slicePicked x lo hi none).filterMap (x.cps[·]?)).toArray⟩ : Str) = y) (hf : (slicePicked x lo hi none).length = x.length → y = x) {Q : Value → Shared → Prop} {s : Shared}
    (h : ∀ t' tk, Q (.str y t') { s with toks := tk }) : (sliceMade x t lo hi none).post Q s := by
  unfold sliceMade
  split
  · rename_i e
    simp only [Option.map_none, Option.getD_none, beq_self_eq_true, Bool.true_and, beq_iff_eq] at e
    have := hf e
    rw [this] at h
    exact h t s.toks
  · rw [he]; exact ⟨sizeLine_lim (Nat.le_trans hy hz), h _ _⟩
theorem wp_sliceTo_str {m : Str} {n : Int} {nm : Str} {np p2 : Pos} (h0 : 0 ≤ n) (h1 : n ≤ m.length) (hz : m.length ≤ lim) (p : WpE prog w K hb A f l c (.Name nm np) (.str m) c1) (q : WpE prog w K hb A f l c1 y (.int n) c2) :
    WpE prog w K hb A f l c (.Subscript (.Name nm np) (.Slice none (some y) none p2) pos) (.str ⟨(m.cps.toList.take n.toNat).toArray⟩) c2 := by
  intro g al s Q E S k
  refine wpAny_Subscript_str_slice (p g al s _ E S fun u h1' tk1 g1 S1 X1 R1 => ?_)
  refine wpAny_evalPart_none ?_
  refine wpAny_evalPart_some (q g1 al _ _ E S1 fun v h2 tk2 g2 S2 X2 R2 => ?_)
  obtain ⟨t, rfl⟩ := Rp.str_iff.mp R1
  obtain ⟨t', rfl⟩ := Rp.int_iff.mp R2
  obtain ⟨j, rfl⟩ : ∃ j : Nat, n = j := ⟨n.toNat, by lia⟩
  have hj : j ≤ m.length := by lia
  refine ⟨m, t, none, some (↑j, t'), rfl, rfl, rfl, sliceMade_val m t none (some (↑j, t')) ⟨(m.cps.toList.take j).toArray⟩ hz (by simp [Str.length]; lia) (by show (⟨(List.filterMap _ (Builtin.Str.strSliceIndices none (some (j : Int)) 1 m.length)).toArray⟩ : Str) = _; rw [pick_to m hj]) (fun e => ?_) fun t2 tk => ?_⟩
  · have e : (Builtin.Str.strSliceIndices none (some (j : Int)) 1 m.length).length = m.length := e
    rw [picks_len_to m hj] at e
    rw [List.take_of_length_le (by simp [Str.length] at e ⊢; lia)]
  · exact k _ _ tk g2 (S2.push _) ((X1.trans X2).trans (.push ..)) (Rp.str_iff.mpr ⟨_, rfl⟩)
theorem wp_sliceFrom_str {m : Str} {n : Int} {nm : Str} {np p2 : Pos} (h0 : 0 ≤ n) (h1 : n ≤ m.length) (hz : m.length ≤ lim) (p : WpE prog w K hb A f l c (.Name nm np) (.str m) c1) (q : WpE prog w K hb A f l c1 y (.int n) c2) :
    WpE prog w K hb A f l c (.Subscript (.Name nm np) (.Slice (some y) none none p2) pos) (.str ⟨(m.cps.toList.drop n.toNat).toArray⟩) c2 := by
  intro g al s Q E S k
  refine wpAny_Subscript_str_slice (p g al s _ E S fun u h1' tk1 g1 S1 X1 R1 => ?_)
  refine wpAny_evalPart_some (q g1 al _ _ E S1 fun v h2 tk2 g2 S2 X2 R2 => wpAny_evalPart_none ?_)
  obtain ⟨t, rfl⟩ := Rp.str_iff.mp R1
  obtain ⟨t', rfl⟩ := Rp.int_iff.mp R2
  obtain ⟨j, rfl⟩ : ∃ j : Nat, n = j := ⟨n.toNat, by lia⟩
  have hj : j ≤ m.length := by lia
  refine ⟨m, t, some (↑j, t'), none, rfl, rfl, rfl, sliceMade_val m t (some (↑j, t')) none ⟨(m.cps.toList.drop j).toArray⟩ hz (by simp [Str.length]) (by show (⟨(List.filterMap _ (Builtin.Str.strSliceIndices (some (j : Int)) none 1 m.length)).toArray⟩ : Str) = _; rw [pick_from m hj]) (fun e => ?_) fun t2 tk => ?_⟩
  · have e : (Builtin.Str.strSliceIndices (some (j : Int)) none 1 m.length).length = m.length := e
    rw [picks_len_from m hj] at e
    have : j = 0 ∨ m.length = 0 := by lia
    rcases this with rfl | h0
    · rfl
    · have : m.cps = #[] := Array.size_eq_zero_iff.mp h0
      obtain ⟨cps⟩ := m
      subst this
      simp
  · exact k _ _ tk g2 (S2.push _) ((X1.trans X2).trans (.push ..)) (Rp.str_iff.mpr ⟨_, rfl⟩)
theorem RpL.drop {g : Gh} : ∀ {as : List AV} {us : List Value} (n : Nat), RpL w K g as us → RpL w K g (as.drop n) (us.drop n)
  | as, us, 0, h => h
  | [], us, n + 1, h => by simp only [RpL] at h; subst h; simp [RpL]
  | a :: as, us, n + 1, h => by
    simp only [RpL] at h
    obtain ⟨v, r, rfl, hv, h⟩ := h
    exact h.drop n
theorem RpL.take {g : Gh} : ∀ {as : List AV} {us : List Value} (n : Nat), RpL w K g as us → RpL w K g (as.take n) (us.take n)
  | as, us, 0, h => by simp [RpL]
  | [], us, n + 1, h => by simp only [RpL] at h; subst h; simp [RpL]
  | a :: as, us, n + 1, h => by
    simp only [RpL] at h
    obtain ⟨v, r, rfl, hv, h⟩ := h
    simp only [List.take_succ_cons, RpL]
    exact ⟨v, _, rfl, hv, h.take n⟩
/-- the tail of a list, a new list -/
theorem wp_sliceFrom_list {m : List AV} {n : Int} {nm : Str} {np p2 : Pos} {pl : Pl} (h0 : 0 ≤ n) (h1 : n ≤ m.length) (hz : m.length ≤ lim) (p : WpP prog w K hb A f l c (.Name nm np) pl c1) (q : WpE prog w K hb A f l c1 y (.int n) c2) (hr : pl.read l c2 = some (.list m)) :
    WpE prog w K hb A f l c (.Subscript (.Name nm np) (.Slice (some y) none none p2) pos) (.list (m.drop n.toNat)) c2 := by
  intro g al s Q E S k
  refine wpAny_Subscript_list_slice (p g al s _ E S fun u h1' tk1 g1 S1 X1 R1 => ?_)
  refine wpAny_evalPart_some (q g1 al _ _ E S1 fun v h2 tk2 g2 S2 X2 R2 => wpAny_evalPart_none ?_)
  have ct := S2.read (R1.mono X2.le) hr
  simp only [CtR] at ct
  obtain ⟨ad, vs, mm, rfl, ho, hl⟩ := ct
  obtain ⟨t', rfl⟩ := Rp.int_iff.mp R2
  obtain ⟨j, rfl⟩ : ∃ j : Nat, n = j := ⟨n.toNat, by lia⟩
  have hj : j ≤ vs.toArray.size := by simp [hl.len]; lia
  refine ⟨ad, vs.toArray, some j, none, rfl, isList_of ho, sizeLine_lim (by simpa [hl.len] using hz), .int _ _, .none, ?_⟩
  rw [slicePick_from _ _ hj]
  refine ex_0_4 (push_frz (S2.push ⟨.type "slice", none, .fields #[.int j t', .none, .none], #[]⟩) ((X1.trans X2).trans (.push ..)) (listO (vs.drop j) 0) rfl) fun S3 X3 f3 l3 => ?_
  refine k _ _ tk2 _ S3 X3 ?_
  simp only [Rp, Int.toNat_natCast]
  exact ⟨_, vs.drop j, 0, rfl, by rw [Heap.size_push] at f3 ⊢; exact f3, (hl.drop j).mono w K l3 _ _⟩
end Mine
end
section
open PySem PySem.W PySem.Calls PyProof.Rows
set_option Elab.async false
set_option maxRecDepth 100000
set_option linter.unusedVariables false
namespace Mine
variable {prog : Program} {w : World} {K : Frag} {hb : Heap} {A : Around} {f : Frm} {l : Loc} {c c' c1 c2 c3 : Cells} {x y z : Expr} {pos : Pos} {a b : AV}

theorem wpP_own {i : Nat} {n : Str} (O : EnvOk f) (hn : f.nm[i]? = some n) (hk : f.env.kindOf n = some .local ∨ f.env.kindOf n = some .cell) (hl : l.at i = .own a)
    (hd : (n == ("__debug__" : Str)) = false) : WpP prog w K hb A f l c (.Name n pos) (.own i) c := fun g al s Q E S k =>
  wp_locO O S hn hk hl hd (k _ s.heap s.toks g S (.refl ..) rfl)

/-! truth -/
noncomputable def plainTruth (x : Expr) : Bool := x.ctorIdx == 23 || (x.ctorIdx == 16 || x.ctorIdx == 20)
theorem isTrue_plain {e : Expr} {env : Env} {whole : Sem Value} (h : plainTruth e = true) : isTrue e env whole = (do let v ← whole; standAt e.pos; holding [v] (truthy v)) := by
  cases e <;> first | rfl | exact noB h
theorem wpT_val {r : Bool} (h : plainTruth x = true) (p : WpE prog w K hb A f l c x (.bool r) c1) : WpT prog w K hb A f l c x r c1 := by
  intro g al s Q E S k
  refine wpAny_isTrue_value (p g al s _ E S fun u h1 tk1 g1 S1 X1 R1 => ?_) (isTrue_plain h)
  obtain rfl := Rp.bool_iff.mp R1
  exact wpAny_truthy_bool (k _ h1 tk1 g1 S1 X1 rfl)
theorem wpT_own {i : Nat} {n : Str} {xs : List AV} (O : EnvOk f) (hn : f.nm[i]? = some n) (hk : f.env.kindOf n = some .local ∨ f.env.kindOf n = some .cell) (hl : l.at i = .own (.list xs)) (hz : xs.length ≤ lim)
    (hd : (n == ("__debug__" : Str)) = false) : WpT prog w K hb A f l c (.Name n pos) (!xs.isEmpty) c := by
  intro g al s Q E S k
  refine wpAny_isTrue_value (wpP_own O hn hk hl hd g al s _ E S fun u h1 tk1 g1 S1 X1 R1 => ?_)
  have ct := S1.read R1 (a := .list xs) (by simp only [Pl.read, hl])
  simp only [CtR] at ct
  obtain ⟨ad, vs, m, rfl, ho, hr⟩ := ct
  refine wpAny_truthy_list (isList_of ho) (by have := small_fit hz; simpa [hr.len] using this) ?_
  refine k _ h1 _ g1 S1 X1 ?_
  have : vs.toArray.isEmpty = xs.isEmpty := by
    have := hr.len
    cases vs <;> cases xs <;> simp_all
  rw [this]

/-- the rest of an and, of an or -/
noncomputable abbrev WpB (prog : Program) (w : World) (K : Frag) (hb : Heap) (A : Around) (f : Frm) (l : Loc) (c : Cells) (op : BoolOp) (xs : List Expr) (r : Bool) (c' : Cells) : Prop := Wp prog w K hb A f l c (allTrue op xs f.env) (fun _ _ _ _ a b => b = a) r c'
theorem wpB_and_last {r : Bool} (p : WpT prog w K hb A f l c x r c1) : WpB prog w K hb A f l c .And [x] r c1 := by
  intro g al s Q E S k
  refine wpAny_allTrue_And_cons (p g al s _ E S fun u h1 tk1 g1 S1 X1 R1 => ?_)
  subst R1
  cases u
  · exact k _ h1 tk1 g1 S1 X1 rfl
  · exact wpAny_allTrue_And_nil (k _ h1 tk1 g1 S1 X1 rfl)
theorem wpB_and_false {xs : List Expr} (p : WpT prog w K hb A f l c x false c1) : WpB prog w K hb A f l c .And (x :: xs) false c1 := by
  intro g al s Q E S k
  refine wpAny_allTrue_And_cons (p g al s _ E S fun u h1 tk1 g1 S1 X1 R1 => ?_)
  subst R1
  exact k _ h1 tk1 g1 S1 X1 rfl
theorem wpB_and_true {xs : List Expr} {r : Bool} (p : WpT prog w K hb A f l c x true c1) (q : WpB prog w K hb A f l c1 .And xs r c2) : WpB prog w K hb A f l c .And (x :: xs) r c2 := by
  intro g al s Q E S k
  refine wpAny_allTrue_And_cons (p g al s _ E S fun u h1 tk1 g1 S1 X1 R1 => ?_)
  subst R1
  exact q g1 al _ _ E S1 fun v h2 tk2 g2 S2 X2 R2 => k v h2 tk2 g2 S2 (X1.trans X2) R2
theorem wpB_or_last {r : Bool} (p : WpT prog w K hb A f l c x r c1) : WpB prog w K hb A f l c .Or [x] r c1 := by
  intro g al s Q E S k
  refine wpAny_allTrue_Or_cons (p g al s _ E S fun u h1 tk1 g1 S1 X1 R1 => ?_)
  subst R1
  cases u
  · exact wpAny_allTrue_Or_nil (k _ h1 tk1 g1 S1 X1 rfl)
  · exact k _ h1 tk1 g1 S1 X1 rfl
theorem wpB_or_true {xs : List Expr} (p : WpT prog w K hb A f l c x true c1) : WpB prog w K hb A f l c .Or (x :: xs) true c1 := by
  intro g al s Q E S k
  refine wpAny_allTrue_Or_cons (p g al s _ E S fun u h1 tk1 g1 S1 X1 R1 => ?_)
  subst R1
  exact k _ h1 tk1 g1 S1 X1 rfl
theorem wpB_or_false {xs : List Expr} {r : Bool} (p : WpT prog w K hb A f l c x false c1) (q : WpB prog w K hb A f l c1 .Or xs r c2) : WpB prog w K hb A f l c .Or (x :: xs) r c2 := by
  intro g al s Q E S k
  refine wpAny_allTrue_Or_cons (p g al s _ E S fun u h1 tk1 g1 S1 X1 R1 => ?_)
  subst R1
  exact q g1 al _ _ E S1 fun v h2 tk2 g2 S2 X2 R2 => k v h2 tk2 g2 S2 (X1.trans X2) R2
theorem wpT_bool {op : BoolOp} {xs : List Expr} {r : Bool} (q : WpB prog w K hb A f l c op xs r c1) : WpT prog w K hb A f l c (.BoolOp op xs pos) r c1 := fun g al s Q E S k =>
  wpAny_isTrue_BoolOp (q g al s Q E S k)
theorem wpT_not {r : Bool} (p : WpT prog w K hb A f l c x r c1) : WpT prog w K hb A f l c (.UnaryOp .Not x pos) (!r) c1 := fun g al s Q E S k =>
  wpAny_isTrue_Not (p g al s _ E S fun u h1 tk1 g1 S1 X1 R1 => k _ h1 tk1 g1 S1 X1 (by rw [R1]))
theorem wp_and_false (p : WpE prog w K hb A f l c x (.bool false) c1) : WpE prog w K hb A f l c (.BoolOp .And [x, y] pos) (.bool false) c1 := by
  intro g al s Q E S k
  refine wpAny_And2 (p g al s _ E S fun u h1 tk1 g1 S1 X1 R1 => ?_)
  obtain rfl := Rp.bool_iff.mp R1
  exact wpAny_truthy_bool (k _ h1 tk1 g1 S1 X1 R1)
theorem wp_and_true (p : WpE prog w K hb A f l c x (.bool true) c1) (q : WpE prog w K hb A f l c1 y a c2) : WpE prog w K hb A f l c (.BoolOp .And [x, y] pos) a c2 := by
  intro g al s Q E S k
  refine wpAny_And2 (p g al s _ E S fun u h1 tk1 g1 S1 X1 R1 => ?_)
  obtain rfl := Rp.bool_iff.mp R1
  exact wpAny_truthy_bool (q g1 al _ _ E S1 fun v h2 tk2 g2 S2 X2 R2 => k v h2 tk2 g2 S2 (X1.trans X2) R2)
theorem wp_ite {t : Bool} {r : RV} (p : WpT prog w K hb A f l c x t c1) (q : WpR prog w K hb A f l c1 (if t then y else z) r c2) : WpR prog w K hb A f l c (.IfExp x y z pos) r c2 := by
  intro g al s Q E S k
  refine wpAny_IfExp (p g al s _ E S fun u h1 tk1 g1 S1 X1 R1 => ?_)
  subst R1
  cases u
  · exact q g1 al _ _ E S1 fun v h2 tk2 g2 S2 X2 R2 => k v h2 tk2 g2 S2 (X1.trans X2) (R2.fwd X1)
  · exact q g1 al _ _ E S1 fun v h2 tk2 g2 S2 X2 R2 => k v h2 tk2 g2 S2 (X1.trans X2) (R2.fwd X1)

/-! the display of one key -/
theorem wp_dict1 {k : Str} (C : Cx K hb) (p : WpE prog w K hb A f l c x (.str k) c1) (q : WpE prog w K hb A f l c1 y a c2) : WpR prog w K hb A f l c (.Dict [some x] [y] pos) (.o (.dict [k] [a])) c2 := by
  intro g al s Q E S kk
  refine wpAny_Dict_pairs (knd := PySem.strKind prog w) (pairs := [(eval x f.env, do let v ← eval y f.env; standAt pos; pure v)]) rfl (by simp) (by simp) ?_
  have z := S.cold (Heap.none_at_size s.heap)
  have hne := size_ne C S
  have S0 : St w K hb f g al l c (s.heap.push emptyDict) := S.push _
  have X0 : Ext g (MutA f al g.cs l) s.heap g (MutA f al g.cs l) (s.heap.push emptyDict) := .push ..
  have live0 : (s.heap.push emptyDict).get? s.heap.objs.size ≠ none := by rw [Heap.get?_push_size _ rfl]; exact fun q => nomatch q
  refine evalPairs_cons (p g al { s with heap := s.heap.push emptyDict } _ E S0 fun u h1 tk1 g1 S1 X1 R1 => ?_)
  refine wpAny_bind (q g1 al _ _ E S1 fun v h2 tk2 g2 S2 X2 R2 => wpAny_bind (wpAny_standAt (wpAny_pure ?_)))
  obtain ⟨t, rfl⟩ := Rp.str_iff.mp R1
  have X12 := X1.trans X2
  have cold2 : g2.φ s.heap.objs.size = none := X12.cool _ z.1 z.2 live0
  have nm2 : ¬ MutA f al g2.cs l s.heap.objs.size := fun m => (X12.grow _ m).elim z.2 live0
  have at2 : h2.get? s.heap.objs.size = some emptyDict := X12.keep _ _ (Heap.get?_push_size _ rfl) z.2
  refine wpAny_pure ⟨[(k, v)], ⟨by simp [PySem.strKind, Value.isStrOf], rfl, trivial⟩, ?_, fun h3 D3 hs3 => ?_⟩
  · exact dictOf_lib (ks := []) (es := []) (n := 0) at2 rfl .nil
  · have hk3 : ∀ b o, g2.φ b ≠ none ∨ MutA f al g2.cs l b → h2.get? b = some o → h3.get? b = some o := fun b o m e => by
      have : b ≠ s.heap.objs.size := by
        rintro rfl
        rcases m with m | m
        · exact m cold2
        · exact nm2 m
      rw [hs3.2 b this]; exact e
    have hl3 : ∀ b, h2.get? b ≠ none → h3.get? b ≠ none := fun b e => by
      by_cases q : b = s.heap.objs.size
      · subst q
        refine ex_3_2 (D3) fun o _ _ ho _ => ?_
        rw [ho]; exact fun q => nomatch q
      · rw [hs3.2 b q]; exact e
    have S3 := S2.touch hk3
    have X3 : Ext g (MutA f al g.cs l) s.heap g2 (MutA f al g2.cs l) h3 :=
      ⟨fun b o e n => by
        have e' := (X0.trans X12).keep b o e n
        have : b ≠ s.heap.objs.size := Nat.ne_of_lt (Heap.lt_size e)
        rw [hs3.2 b this]; exact e', (X0.trans X12).grow, X12.le, fun b e => hl3 b ((X0.trans X12).live b e), (X0.trans X12).cool⟩
    refine ex_2_4 (dictOf_mine D3) fun es' n' ho' he' hv' nd' => ?_
    have em : merged ([] : List (Str × Value)) [(k, v)] = [(k, v)] := by simp [PySem.merged, stored]
    rw [em] at he' hv'
    refine kk _ h3 _ g2 S3 X3 ⟨_, _, rfl, cold2, ho', ?_, nm2, Heap.none_at_size _, hne⟩
    simp only [ObR]
    refine ⟨es', n', rfl, he', ?_, by simp⟩
    rw [hv']
    simp only [List.map_cons, List.map_nil, RpL]
    exact ⟨v, [], rfl, R2, rfl⟩

/-! sorted -/
noncomputable abbrev SLe (a b : Str) : Prop := a.cps.toList ≤ b.cps.toList
theorem SLe.anti {a b : Str} (h : SLe a b) (h' : SLe b a) : a = b := by
  have e := List.le_antisymm h h'
  obtain ⟨a⟩ := a
  obtain ⟨b⟩ := b
  have : a = b := Array.toList_inj.mp e
  rw [this]
theorem SLe.of_lt {a b : Str} (h : Spec.ltCps b.cps.toList a.cps.toList = false) : SLe a b := by
  rw [ltCps_eq, decide_eq_false_iff_not] at h
  exact h
theorem SLe.total (a b : Str) : SLe a b ∨ SLe b a := List.le_total _ _
theorem SLe.trans {a b c : Str} (h : SLe a b) (h' : SLe b c) : SLe a c := List.le_trans h h'
theorem rising_pw : ∀ (l : List Str) (p : Str), risingS p l = true → (p :: l).Pairwise SLe
  | [], p, _ => by simp
  | x :: l, p, h => by
    simp only [risingS, Bool.and_eq_true, Bool.not_eq_true'] at h
    have ih := rising_pw l x h.2
    have h1 := SLe.of_lt h.1
    refine List.pairwise_cons.mpr ⟨fun y hy => ?_, ih⟩
    rcases List.mem_cons.mp hy with rfl | hy
    · exact h1
    · exact h1.trans ((List.pairwise_cons.mp ih).1 y hy)
theorem sorted_pw : ∀ {l : List Str}, sortedS l = true → l.Pairwise SLe
  | [], _ => .nil
  | x :: l, h => rising_pw l x h
theorem insS_perm (x : Str) : ∀ l : List Str, (insS x l).Perm (x :: l)
  | [] => .refl _
  | y :: l => by
    unfold insS
    split
    · exact .refl _
    · exact ((insS_perm x l).cons y).trans (.swap ..)
theorem sortS_perm : ∀ l : List Str, (sortS l).Perm l
  | [] => .refl _
  | x :: l => (insS_perm x _).trans ((sortS_perm l).cons x)
theorem insS_pw (x : Str) : ∀ {l : List Str}, l.Pairwise SLe → (insS x l).Pairwise SLe
  | [], _ => by simp [insS]
  | y :: l, h => by
    unfold insS
    split
    · rename_i e
      refine List.pairwise_cons.mpr ⟨fun z hz => ?_, h⟩
      rcases List.mem_cons.mp hz with rfl | hz
      · exact e
      · exact SLe.trans e ((List.pairwise_cons.mp h).1 z hz)
    · rename_i e
      have e' : SLe y x := (SLe.total x y).resolve_left e
      refine List.pairwise_cons.mpr ⟨fun z hz => ?_, insS_pw x (List.pairwise_cons.mp h).2⟩
      rcases List.mem_cons.mp ((insS_perm x l).mem_iff.mp hz) with rfl | hz
      · exact e'
      · exact (List.pairwise_cons.mp h).1 z hz
theorem sortS_pw : ∀ l : List Str, (sortS l).Pairwise SLe
  | [] => .nil
  | x :: l => insS_pw x (sortS_pw l)
theorem sortS_uniq {l ks : List Str} (p : l.Perm ks) (h : sortedS l = true) : l = sortS ks :=
  (p.trans (sortS_perm ks).symm).eq_of_pairwise (fun _ _ _ _ h1 h2 => SLe.anti h1 h2) (sorted_pw h) (sortS_pw ks)
theorem strsAre_rpl {g : Gh} : ∀ {vs : List Value} {ss : List Str}, StrsAre vs ss → RpL w K g (ss.map .str) vs
  | _, _, .nil => by simp [RpL]
  | _, _, .cons y t h => by simp only [List.map_cons, RpL]; exact ⟨_, _, rfl, Rp.str_iff.mpr ⟨t, rfl⟩, strsAre_rpl h⟩
theorem strsAre_of : ∀ {vs : List Value} {ks : List Str}, vs.length = ks.length → (∀ (j : Nat) v, vs[j]? = some v → ∃ k, ks[j]? = some k ∧ ∃ t, v = .str k t) → StrsAre vs ks
  | [], [], _, _ => .nil
  | v :: vs, k :: ks, hl, h => by
    obtain ⟨k', e, t, rfl⟩ := h 0 v rfl
    simp only [List.getElem?_cons_zero, Option.some.injEq] at e
    subst e
    exact .cons k t (strsAre_of (by simpa using hl) fun j u hu => by simpa using h (j + 1) u (hu))
theorem wp_sorted {pl : Pl} {ks : List Str} {as : List AV} {np : Pos} {d : Nat} (C : Cx K hb) (O : EnvOk f) (hA : AOk A d) (hbn : BuiltIn K f "sorted" = true) (hs : noStar [x] = true) (hz : ks.length ≤ 3) (p : WpP prog w K hb A f l c x pl c1) (hr : pl.read l c1 = some (.dict ks as)) :
    WpR prog w K hb A f l c (.Call (.Name "sorted" np) [x] [] pos) (.o (.list ((sortS ks).map .str))) c1 := by
  intro g al s Q E S k
  refine call1 (fv := .builtin "sorted") C O S (.inl ⟨_, rfl⟩) hbn (by decide +kernel) (by decide +kernel) (by decide +kernel) hs (p g al s _ E S fun u h1 tk1 g1 S1 X1 R1 => ?_)
  have ct := S1.read R1 hr
  simp only [CtR] at ct
  refine ex_3_6 (ct) fun ad es m eq0 ho he hl nd hsy => ?_
  subst eq0
  have D := dictOf_lib (prog := prog) ho he nd
  have hlen : (ks.zip (es.map (·.val))).length = ks.length := by simp [he.len]
  obtain ⟨ep, hat⟩ := D.dictAt
  refine call_function_entry kind_sorted plain_sorted entry_sorted (args_sorted1 _) ?_
  unfold Builtin.«sorted»
  refine wpAny_bind (m := checkCount "sorted" 1 1 _) (wpAny_pure ?_)
  refine wpAny_bind (kdu_collect (A := A.in1) (kdl_dict (knd := PySem.strKind prog w) (d := ad) (kvs := ks.zip (es.map (·.val))) (ep := ep) (by simpa using hsy)) hA.hd hat (by rw [hlen, sizeLine_eq]; lia) fun h2 tk2 acc hk hacc => ?_)
  have hal : acc.toList.length = ks.length := by rw [Array.length_toList, hacc.1, hlen]
  have hS : StrsAre acc.toList ks := strsAre_of hal fun j v hv => by
    obtain ⟨k', x', hx, hk'⟩ := hacc.2 j v (by rw [← Array.getElem?_toList]; exact hv)
    obtain ⟨t, rfl⟩ := Value.isStrOf_shape hk'
    refine ⟨k', ?_, t, rfl⟩
    have e1 := congrArg (Option.map (·.1)) hx
    rw [← List.getElem?_map, zip_keys he] at e1
    simpa using e1
  refine wpAny_bind (wpAny_newList ?_ (by rw [hal, sizeLine_eq]; lia))
  have S2 := S1.keeps hk
  have X2 := X1.trans (.of_keeps hk g1 _)
  have ho3 : (h2.push (seqObj "list" acc.toList.toArray 0)).get? h2.objs.size = some (seqObj "list" acc.toList.toArray 0) := Heap.get?_push_size _ rfl
  refine wpAny_bind (wpAny_holding (wpAny_call_entry PyProof.Rows.slot_list_sort ⟨_, ho3, rfl⟩ PyProof.Rows.entry_list_sort
    (list_sort_treeK (s := { s with heap := h2.push (seqObj "list" acc.toList.toArray 0), toks := tk2 }) strKind_oneLt ho3 hS.keysOf (fun v₁ v₂ rest e => keyKind_strs (by rw [← e]; exact hS)) (by rw [hal]; lia) fun st' a1 a2 => ⟨_, rfl, wpAny_pure ⟨_, rfl, ?_⟩⟩) (args_list_sort _)))
  refine ex_1_3 (sorted_out_str hS a1 a2) fun ss' q1 q2 q3 => ?_
  obtain ⟨e4, he4⟩ := sortedHeap_at (out := (arrOf st').map (·.2)) ho3
  have hk4 : ∀ b o, h2.get? b = some o → (sortedHeap (h2.push (seqObj "list" acc.toList.toArray 0)) h2.objs.size acc.toList ((arrOf st').map (·.2))).get? b = some o := fun b o e => by
    have hlt := Heap.lt_size e
    rw [sortedHeap_old (Nat.ne_of_lt hlt) (by rw [Heap.size_push]; exact Nat.lt_succ_of_lt hlt)]
    exact Heap.get?_push_of_some _ e
  have z := S2.cold (Heap.none_at_size h2)
  refine k _ _ _ g1 (S2.keeps hk4) (X2.trans (.of_keeps hk4 ..)) ⟨_, _, rfl, z.1, he4, ?_, z.2, Classical.byContradiction fun e => X2.live _ e (Heap.none_at_size h2), size_ne C S2⟩
  simp only [ObR]
  refine ⟨((arrOf st').map (·.2)).toList, e4, rfl, ?_⟩
  rw [← sortS_uniq q2 q3]
  exact strsAre_rpl q1
end Mine
end
section
open PySem PySem.W PySem.Calls PyProof.Rows
set_option Elab.async false
set_option maxRecDepth 100000
set_option linter.unusedVariables false
namespace Mine
variable {prog : Program} {w : World} {K : Frag} {hb : Heap} {A : Around} {f : Frm} {l : Loc} {c c' c1 c2 c3 : Cells} {x y z : Expr} {pos : Pos} {a b : AV}

/-! what a loop walks -/
noncomputable def Itr (prog : Program) (w : World) (K : Frag) (A : Around) (g : Gh) (mu : Addr → Prop) (h0 h : Heap) (xs : List AV) (it : Value) : Prop :=
  ∃ I fp wr P Sx, it = .ref I ∧ Walks prog w A I fp wr xs.length P Sx ∧ Sx 0 h ∧ (∀ (i : Nat) v, i < xs.length → P i v → ∃ a, xs[i]? = some a ∧ Rp w K g a v) ∧ (∀ b ∈ wr, g.φ b = none ∧ h0.get? b = none) ∧ (∀ b ∈ fp, ¬ mu b ∧ h.get? b ≠ none) ∧
    (∀ (i : Nat) (s' : Shared) v tgt (Q' : Unit → Shared → Prop) (E' : Value → Shared → Prop), Sx i s'.heap → Q' () s' → wpAny (model prog w) A (letOwnedTupleGo tgt (.ref I) v) Q' E' s') ∧ (∀ (i : Nat) (h : Heap), Sx i h → ∀ b ∈ fp, h.get? b ≠ none)
noncomputable def WpI (prog : Program) (w : World) (K : Frag) (hb : Heap) (A : Around) (f : Frm) (l : Loc) (c : Cells) (x : Expr) (xs : List AV) (c' : Cells) : Prop :=
  ∀ (g : Gh) (al : Nat → Addr) (s : Shared) (Q : Value → Shared → Prop) (E : Value → Shared → Prop), St w K hb f g al l c s.heap →
    (∀ v h' tk g', St w K hb f g' al l c' h' → Ext g (MutA f al g.cs l) s.heap g' (MutA f al g'.cs l) h' → Itr prog w K A g' (MutA f al g'.cs l) s.heap h' xs v → Q v { s with heap := h', toks := tk }) →
    wpAny (model prog w) A (eval x f.env) (fun x s₁ => wpAny (model prog w) A (pyIter x) Q E s₁) E s

theorem toArray_get {vs : List Value} {i : Nat} {v : Value} (h : vs.toArray[i]? = some v) : vs[i]? = some v := by simpa using h
theorem RpL.at' {g : Gh} : ∀ {as : List AV} {vs : List Value} {i : Nat} {v : Value}, RpL w K g as vs → vs[i]? = some v → ∃ a, as[i]? = some a ∧ Rp w K g a v
  | [], vs, i, v, r, h => by simp only [RpL] at r; subst r; simp at h
  | x :: as, vs, i, v, r, h => by
    simp only [RpL] at r
    obtain ⟨u, t, rfl, hv, r⟩ := r
    cases i with
    | zero => simp only [List.getElem?_cons_zero, Option.some.injEq] at h; subst h; exact ⟨x, rfl, hv⟩
    | succ i => simpa using RpL.at' r (by simpa using h)
theorem letGo_list {E : Value → Shared → Prop} {target : Expr} {I t : Addr} {i : Nat} {v : Value} {Q' : Unit → Shared → Prop} {s' : Shared} (hit : s'.heap.IsListIter I t i) (h : Q' () s') :
    wpAny (model prog w) A (letOwnedTupleGo target (.ref I) v) Q' E s' := by
  obtain ⟨o, ho, hc, hd⟩ := hit
  unfold letOwnedTupleGo
  cases target <;> first
    | exact wpAny_pure h
    | (cases v <;> first
        | exact wpAny_pure h
        | (refine wpAny_bind (wpAny_load ho ?_)
           rw [hc, hd]
           exact wpAny_pure h))
theorem letGo_rev {E : Value → Shared → Prop} {target : Expr} {I t : Addr} {i : Int} {v : Value} {Q' : Unit → Shared → Prop} {s' : Shared} (hit : s'.heap.IsRevIter I t i) (h : Q' () s') :
    wpAny (model prog w) A (letOwnedTupleGo target (.ref I) v) Q' E s' := by
  obtain ⟨o, ho, hc, hd⟩ := hit
  unfold letOwnedTupleGo
  cases target <;> first
    | exact wpAny_pure h
    | (cases v <;> first
        | exact wpAny_pure h
        | (refine wpAny_bind (wpAny_load ho ?_)
           rw [hc, hd]
           exact wpAny_pure h))
theorem letGo_range {E : Value → Shared → Prop} {target : Expr} {I : Addr} {i j k : Int} {v : Value} {Q' : Unit → Shared → Prop} {s' : Shared} (ho : IsRangeIter s'.heap I i j k) (h : Q' () s') :
    wpAny (model prog w) A (letOwnedTupleGo target (.ref I) v) Q' E s' := by
  unfold letOwnedTupleGo
  cases target <;> first
    | exact wpAny_pure h
    | (cases v <;> first
        | exact wpAny_pure h
        | (refine wpAny_bind (wpAny_load ho ?_)
           exact wpAny_pure h))

/-- a list that nobody turns, walked -/
theorem iter_list {g : Gh} {al : Nat → Addr} {h0 : Heap} {g0 : Gh} {mu0 : Addr → Prop} {s : Shared} {ad : Addr} {vs : List Value} {m : Nat} {xs : List AV} {d : Nat} {Q : Value → Shared → Prop} {E : Value → Shared → Prop} (hA : AOk A d) (S : St w K hb f g al l c s.heap) (X : Ext g0 mu0 h0 g (MutA f al g.cs l) s.heap)
    (ho : s.heap.get? ad = some (listO vs m)) (hl : RpL w K g xs vs) (hn : ¬ MutA f al g.cs l ad)
    (k : ∀ v h' tk, St w K hb f g al l c h' → Ext g0 mu0 h0 g (MutA f al g.cs l) h' → Itr prog w K A g (MutA f al g.cs l) h0 h' xs v → Q v { s with heap := h', toks := tk }) : wpAny (model prog w) A (pyIter (.ref ad)) Q E s := by
  have hlst := isList_of ho
  have hlt := Heap.lt_size ho
  refine wpAny_pyIter_list hlst ?_
  have z := S.cold (Heap.none_at_size s.heap)
  refine k _ _ s.toks (S.push _) (X.trans (.push ..)) ⟨s.heap.objs.size, [s.heap.objs.size, ad], [s.heap.objs.size], fun i v => vs.toArray[i]? = some v, fun i h => h.IsListIter s.heap.objs.size ad i ∧ h.IsList ad vs.toArray, rfl, ?_, ?_, ?_, ?_, ?_, fun i s' v tgt Q' E' st hq => letGo_list st.1 hq, fun i h st b hb => by
    rcases List.mem_cons.mp hb with rfl | hb
    · obtain ⟨o, e, _⟩ := st.1; rw [e]; exact fun q => nomatch q
    · rw [List.mem_singleton.mp hb]; obtain ⟨o, e, _⟩ := st.2; rw [e]; exact fun q => nomatch q⟩
  · have e : vs.toArray.size = xs.length := by simp [hl.len]
    rw [← e]
    exact Walks.list hA.hd s.heap.objs.size ad (Nat.ne_of_lt hlt) vs.toArray
  · exact ⟨⟨_, Heap.get?_push_size _ rfl, rfl, rfl⟩, hlst.at fun o e => Heap.get?_push_of_some _ e⟩
  · exact fun i v _ hv => hl.at' (toArray_get hv)
  · intro b hb
    rw [List.mem_singleton.mp hb]
    exact ⟨z.1, Classical.byContradiction fun e => X.live _ e (Heap.none_at_size _)⟩
  · intro b hb
    rcases List.mem_cons.mp hb with rfl | hb
    · exact ⟨z.2, by rw [Heap.get?_push_size _ rfl]; exact fun q => nomatch q⟩
    · rw [List.mem_singleton.mp hb]
      exact ⟨hn, by rw [Heap.get?_push_of_some _ ho]; exact fun q => nomatch q⟩
theorem iter_tup {g : Gh} {al : Nat → Addr} {h0 : Heap} {g0 : Gh} {mu0 : Addr → Prop} {s : Shared} {ad : Addr} {vs : List Value} {m : Nat} {xs : List AV} {d : Nat} {Q : Value → Shared → Prop} {E : Value → Shared → Prop} (hA : AOk A d) (S : St w K hb f g al l c s.heap) (X : Ext g0 mu0 h0 g (MutA f al g.cs l) s.heap)
    (ho : s.heap.get? ad = some (tupO vs m)) (hl : RpL w K g xs vs) (hn : ¬ MutA f al g.cs l ad)
    (k : ∀ v h' tk, St w K hb f g al l c h' → Ext g0 mu0 h0 g (MutA f al g.cs l) h' → Itr prog w K A g (MutA f al g.cs l) h0 h' xs v → Q v { s with heap := h', toks := tk }) : wpAny (model prog w) A (pyIter (.ref ad)) Q E s := by
  have hlst := isTuple_of ho
  have hlt := Heap.lt_size ho
  refine wpAny_pyIter_tuple hlst ?_
  have z := S.cold (Heap.none_at_size s.heap)
  refine k _ _ s.toks (S.push _) (X.trans (.push ..)) ⟨s.heap.objs.size, [s.heap.objs.size, ad], [s.heap.objs.size], fun i v => vs.toArray[i]? = some v, fun i h => h.IsTupleIter s.heap.objs.size ad i ∧ h.IsTuple ad vs.toArray, rfl, ?_, ?_, ?_, ?_, ?_, fun i s' v tgt Q' E' st hq => letGo_tupleiter st.1 hq, fun i h st b hb => by
    rcases List.mem_cons.mp hb with rfl | hb
    · obtain ⟨o, e, _⟩ := st.1; rw [e]; exact fun q => nomatch q
    · rw [List.mem_singleton.mp hb]; obtain ⟨o, e, _⟩ := st.2; rw [e]; exact fun q => nomatch q⟩
  · have e : vs.toArray.size = xs.length := by simp [hl.len]
    rw [← e]
    exact Walks.tuple hA.hd s.heap.objs.size ad (Nat.ne_of_lt hlt) vs.toArray
  · exact ⟨⟨_, Heap.get?_push_size _ rfl, rfl, rfl⟩, hlst.at fun o e => Heap.get?_push_of_some _ e⟩
  · exact fun i v _ hv => hl.at' (toArray_get hv)
  · intro b hb
    rw [List.mem_singleton.mp hb]
    exact ⟨z.1, Classical.byContradiction fun e => X.live _ e (Heap.none_at_size _)⟩
  · intro b hb
    rcases List.mem_cons.mp hb with rfl | hb
    · exact ⟨z.2, by rw [Heap.get?_push_size _ rfl]; exact fun q => nomatch q⟩
    · rw [List.mem_singleton.mp hb]
      exact ⟨hn, by rw [Heap.get?_push_of_some _ ho]; exact fun q => nomatch q⟩
theorem St.notMu {g : Gh} {al : Nat → Addr} {h : Heap} (S : St w K hb f g al l c h) {ad : Addr} {o : Obj} (e : g.φ ad = some o) : ¬ MutA f al g.cs l ad := fun m => by rw [S.mfree _ m] at e; cases e
theorem wpI_of {r : RV} {xs : List AV} {d : Nat} (hA : AOk A d) (p : WpR prog w K hb A f l c x r c1) (h : itemsOf r = some xs) : WpI prog w K hb A f l c x xs c1 := by
  intro g al s Q E S k
  refine p g al s _ E S fun u h1 tk1 g1 S1 X1 R1 => ?_
  revert R1
  refine itemsOf.on (P := fun r => RVR _ K g1 (MutA f al g1.cs l) s.heap h1 r u → _) h ?_ ?_ ?_
  · rintro ⟨ad, vs, n, rfl, hf, hl⟩
    exact iter_list hA S1 X1 (S1.fz _ _ hf) hl (S1.notMu hf) fun v h' tk S' X' I => k v h' tk g1 S' X' I
  · rintro ⟨ad, vs, n, rfl, hf, hl⟩
    exact iter_tup hA S1 X1 (S1.fz _ _ hf) hl (S1.notMu hf) fun v h' tk S' X' I => k v h' tk g1 S' X' I
  · rintro ⟨ad, o, rfl, hf, ho, ⟨vs, n, rfl, hl⟩, hn, hh, hs⟩
    exact iter_list hA S1 X1 ho hl hn fun v h' tk S' X' I => k v h' tk g1 S' X' I

theorem args3 {e1 e2 e3 : Expr} {fv : Value} {first : List Value} {s : Shared} {Q : Value → Shared → Prop} {E : Value → Shared → Prop} {id : String} (hf : fv = .type id) (hs : noStar [e1, e2, e3] = true)
    (p : wpAny (model prog w) A (eval e1 f.env) (fun u s1 => wpAny (model prog w) A (eval e2 f.env) (fun v s2 => wpAny (model prog w) A (eval e3 f.env) (fun t s3 => wpAny (model prog w) A (call fv (first ++ [u, v, t])) Q E s3) E s2) E s1) E s) :
    wpAny (model prog w) A (callWith pos fv first (backTo pos (starEach [e1, e2, e3] f.env)) []) Q E s := by
  obtain ⟨q1, h2⟩ := noStar_cons (x := e1) (xs := [e2, e3]) (env := f.env) hs
  obtain ⟨q2, h3⟩ := noStar_cons (x := e2) (xs := [e3]) (env := f.env) h2
  obtain ⟨q3, _⟩ := noStar_cons (x := e3) (xs := []) (env := f.env) h3
  subst hf
  refine PyProof.Rows.callWith_type (noStar_any hs) ?_
  rw [q1, q2, q3]
  exact evalArgs_plain (spliced_cons (wpAny_mono p (fun u s1 h => spliced_cons (wpAny_mono h (fun v s2 h => spliced_cons (wpAny_mono h (fun t s3 h => spliced_nil h) fun _ _ e => e)) fun _ _ e => e)) fun _ _ e => e))

theorem range_itr {g : Gh} {mu : Addr → Prop} {h0 h : Heap} {I : Addr} {n k : Int} {xs : List AV} {d : Nat} {F : Nat → Int} (hA : AOk A d) (hF : ∀ j, F j = n + j * k) (hx : ∀ j, j < xs.length → xs[j]? = some (.int (F j))) (h1 : g.φ I = none) (h2 : ¬ mu I) (h3 : h0.get? I = none) (h4 : IsRangeIter h I n xs.length k) :
    Itr prog w K A g mu h0 h xs (.ref I) := by
  refine ⟨I, [I], [I], fun i v => ∃ t, v = .int (n + (i : Int) * k) t, fun i h => IsRangeIter h I (n + (i : Nat) * k) ((xs.length : Int) - (i : Nat)) k, rfl, Walks.range hA.hd _ n k xs.length, ?_, ?_, ?_, ?_, fun i s' v tgt Q' E' st hq => letGo_range st hq, fun i h st b hb => by rw [List.mem_singleton.mp hb, show h.get? I = _ from st]; exact fun q => nomatch q⟩
  · show IsRangeIter _ _ _ _ _
    have e1 : n + ((0 : Nat) : Int) * k = n := by simp
    have e2 : ((xs.length : Int) - ((0 : Nat) : Int)) = xs.length := by lia
    rw [e1, e2]
    exact h4
  · rintro i v hi ⟨t', rfl⟩
    refine ⟨_, hx i hi, ?_⟩
    rw [hF]
    exact Rp.int_iff.mpr ⟨_, rfl⟩
  · intro b hb
    rw [List.mem_singleton.mp hb]
    exact ⟨h1, h3⟩
  · intro b hb
    rw [List.mem_singleton.mp hb]
    exact ⟨h2, by rw [h4]; exact fun q => nomatch q⟩
theorem wpI_range1 {n : Int} {np : Pos} {d : Nat} (C : Cx K hb) (O : EnvOk f) (hA : AOk A d) (hbn : BuiltIn K f "range" = true) (hs : noStar [x] = true) (hz : n ≤ lim) (hlo : -(lim : Int) ≤ n) (p : WpE prog w K hb A f l c x (.int n) c1) :
    WpI prog w K hb A f l c (.Call (.Name "range" np) [x] [] pos) ((List.range n.toNat).map fun j : Nat => AV.int (j : Int)) c1 := by
  intro g al s Q E S k
  refine call1 (fv := .type "range") C O S (.inr ⟨_, rfl⟩) hbn (by decide +kernel) (by decide +kernel) (by decide +kernel) hs (p g al s _ E S fun u h1 tk1 g1 S1 X1 R1 => ?_)
  obtain ⟨t, rfl⟩ := Rp.int_iff.mp R1
  refine call_range_1 ?_
  have S2 := S1.push ⟨.type "range", none, .fields #[.int 0 tk1, .int n t, .int 1 (tk1 + 1)], #[]⟩
  have X2 := X1.trans (.push g1 _ h1 ⟨.type "range", none, .fields #[.int 0 tk1, .int n t, .int 1 (tk1 + 1)], #[]⟩)
  have esz : Builtin.Range.rangeSize 0 n 1 = (n.toNat : Int) := by rw [rangeSize_one]; split <;> grind
  refine wpAny_pyIter_range (IsRange.new ..) (small_one (by lia) (by lia) (by unfold lim at hlo; lia) (by unfold lim at hz; lia)) ?_
  rw [esz]
  have z := S2.cold (Heap.none_at_size _)
  refine k _ _ _ g1 (S2.push _) (X2.trans (.push ..)) (range_itr (F := fun j => (j : Int)) (n := 0) (k := 1) hA (fun j => by lia) (fun j hj => by rw [List.getElem?_map, List.getElem?_range (by simpa using hj)]; rfl) z.1 z.2 (Classical.byContradiction fun e => X2.live _ e (Heap.none_at_size _)) (by
    have e2 : (((List.range n.toNat).map fun j : Nat => AV.int (j : Int)).length : Int) = n.toNat := by simp
    rw [e2]
    exact Heap.get?_push_size _ rfl))
theorem range3_size {n : Int} (h : -1 ≤ n) : Builtin.Range.rangeSize n (-1) (-1) = ((n + 1).toNat : Int) := by
  unfold Builtin.Range.rangeSize
  rw [if_neg (by decide)]
  have e : (-(-1 : Int)) = 1 := by decide
  rw [e, Int.ediv_one]
  split <;> grind
theorem wpI_range3 {n : Int} {np : Pos} {d : Nat} (C : Cx K hb) (O : EnvOk f) (hA : AOk A d) (hbn : BuiltIn K f "range" = true) (hs : noStar [x, y, z] = true) (hz : n ≤ lim) (hlo : -1 ≤ n) (p : WpE prog w K hb A f l c x (.int n) c1) (p2 : WpE prog w K hb A f l c1 y (.int (-1)) c2) (p3 : WpE prog w K hb A f l c2 z (.int (-1)) c3) :
    WpI prog w K hb A f l c (.Call (.Name "range" np) [x, y, z] [] pos) ((List.range (n + 1).toNat).map fun j : Nat => AV.int (n - (j : Int))) c3 := by
  intro g al s Q E S k
  simp only [BuiltIn, Bool.and_eq_true, beq_iff_eq] at hbn
  refine wpAny_Call_NameR (name_built C O S hbn.1 (v := .type "range") (by decide +kernel) (by decide +kernel) hbn.2 (by decide +kernel) (args3 (first := []) rfl hs ?_))
  refine p g al s _ E S fun u h1 tk1 g1 S1 X1 R1 => p2 g1 al _ _ E S1 fun v h2 tk2 g2 S2 X2 R2 => p3 g2 al _ _ E S2 fun v3 h3 tk3 g3 S3 X3 R3 => ?_
  obtain ⟨t, rfl⟩ := Rp.int_iff.mp R1
  obtain ⟨t2, rfl⟩ := Rp.int_iff.mp R2
  obtain ⟨t3, rfl⟩ := Rp.int_iff.mp R3
  refine call_range_3 (by decide) ?_ (.inl (PyProof.noPylong_small (by lia)))
  have S4 := S3.push ⟨.type "range", none, .fields #[.int n t, .int (-1) t2, .int (-1) t3], #[]⟩
  have X4 := ((X1.trans X2).trans X3).trans (.push g3 _ h3 ⟨.type "range", none, .fields #[.int n t, .int (-1) t2, .int (-1) t3], #[]⟩)
  refine wpAny_pyIter_range (IsRange.new ..) ?_ ?_
  · unfold Builtin.Range.small
    rw [range3_size hlo]
    unfold lim at hz
    simp only [Builtin.Range.rangeFitsLong, Bool.and_eq_true, Bool.or_eq_true, decide_eq_true_eq, beq_iff_eq, show ¬ ((-1 : Int) > 0) by decide, if_false]
    lia
  · rw [range3_size hlo]
    have z := S4.cold (Heap.none_at_size _)
    refine k _ _ _ g3 (S4.push _) (X4.trans (.push ..)) (range_itr (F := fun j => n - (j : Int)) (n := n) (k := -1) hA (fun j => by lia) (fun j hj => by rw [List.getElem?_map, List.getElem?_range (by simpa using hj)]; rfl) z.1 z.2 (Classical.byContradiction fun e => X4.live _ e (Heap.none_at_size _)) (by
      have e2 : (((List.range (n + 1).toNat).map fun j : Nat => AV.int (n - (j : Int))).length : Int) = (n + 1).toNat := by simp
      rw [e2]
      exact Heap.get?_push_size _ rfl))
theorem wpI_rev {xs : List AV} {np : Pos} {d : Nat} (C : Cx K hb) (O : EnvOk f) (hA : AOk A d) (hbn : BuiltIn K f "reversed" = true) (hs : noStar [x] = true) (p : WpE prog w K hb A f l c x (.list xs) c1) :
    WpI prog w K hb A f l c (.Call (.Name "reversed" np) [x] [] pos) xs.reverse c1 := by
  intro g al s Q E S k
  refine call1 (fv := .type "reversed") C O S (.inr ⟨_, rfl⟩) hbn (by decide +kernel) (by decide +kernel) (by decide +kernel) hs (p g al s _ E S fun u h1 tk1 g1 S1 X1 R1 => ?_)
  simp only [Rp] at R1
  refine ex_3_3 (R1) fun ad vs m eq0 hf hl => ?_
  subst eq0
  have ho := S1.fz _ _ hf
  have hlst := isList_of ho
  have hlt := Heap.lt_size ho
  have hn := S1.notMu hf
  refine call_reversed_list hlst ?_
  have z := S1.cold (Heap.none_at_size h1)
  have st0 : (fun (i : Nat) (h : Heap) => i ≤ vs.toArray.size ∧ h.IsRevIter h1.objs.size ad ((vs.toArray.size : Int) - 1 - (i : Int)) ∧ h.IsList ad vs.toArray) 0 (h1.push (revObj ad ((vs.toArray.size : Int) - 1))) :=
    ⟨Nat.zero_le _, ⟨_, Heap.get?_push_size _ rfl, rfl, congrArg (fun i => Data.fields #[.ref ad, rawInt i]) (Int.sub_zero _).symm⟩, hlst.at fun o e => Heap.get?_push_of_some _ e⟩
  have W := Walks.listRev (prog := prog) (w := w) (A := A) hA.hd h1.objs.size ad (Nat.ne_of_lt hlt) vs.toArray
  refine W.self 0 _ _ _ st0 ?_
  have e : vs.toArray.size = xs.reverse.length := by simp [hl.len]
  rw [e] at W
  refine k _ _ _ g1 (S1.push _) (X1.trans (.push ..)) ⟨h1.objs.size, [h1.objs.size, ad], [h1.objs.size], _, _, rfl, W, by rw [← e]; exact st0, ?_, ?_, ?_, fun i s' v tgt Q' E' st hq => letGo_rev st.2.1 hq, fun i h st b hb => by
    rcases List.mem_cons.mp hb with rfl | hb
    · obtain ⟨o, e, _⟩ := st.2.1; rw [e]; exact fun q => nomatch q
    · rw [List.mem_singleton.mp hb]; obtain ⟨o, e, _⟩ := st.2.2; rw [e]; exact fun q => nomatch q⟩
  · intro i v hi hv
    have hv := toArray_get hv
    refine ex_1_2 (hl.at' hv) fun a ha ra => ?_
    refine ⟨a, ?_, ra⟩
    rw [List.getElem?_reverse (by simpa using hi)]
    rw [← ha]
    simp
  · intro b hb
    rw [List.mem_singleton.mp hb]
    exact ⟨z.1, Classical.byContradiction fun e => X1.live _ e (Heap.none_at_size _)⟩
  · intro b hb
    rcases List.mem_cons.mp hb with rfl | hb
    · exact ⟨z.2, by rw [Heap.get?_push_size _ rfl]; exact fun q => nomatch q⟩
    · rw [List.mem_singleton.mp hb]
      exact ⟨hn, by rw [Heap.get?_push_of_some _ ho]; exact fun q => nomatch q⟩
end Mine
end
section
open PySem PySem.W PySem.Calls PyProof.Rows
set_option Elab.async false
set_option maxRecDepth 100000
set_option linter.unusedVariables false
namespace Mine
variable {prog : Program} {w : World} {K : Frag} {hb : Heap} {A : Around} {f : Frm} {l l' : Loc} {c c' c1 c2 c3 : Cells} {x y z : Expr} {pos : Pos} {a b : AV}

theorem Loc.at_set {l : Loc} {i j : Nat} {v : LV} : Loc.at (l.set i v) j = if i = j ∧ i < l.length then v else l.at j := by
  unfold Loc.at
  rw [List.getElem?_set]
  by_cases h : i = j
  · subst h
    by_cases h2 : i < l.length
    · simp [h2]
    · simp [h2]
  · simp [h]
theorem Loc.own_lt {l : Loc} {i : Nat} {a : AV} (h : l.at i = .own a) : i < l.length := by
  unfold Loc.at at h
  cases q : l[i]? with
  | none => rw [q] at h; cases h
  | some v => exact (List.getElem?_eq_some_iff.mp q).1

/-- who holds what: a change at one container -/
theorem St.write {g : Gh} {al : Nat → Addr} {h h' : Heap} {p : Pl} {ad : Addr} {o : Obj} (S : St w K hb f g al l c h) (R : PlR w K g al p (.ref ad)) (hw : p.write l c b = some (l', c')) (ho : h'.get? ad = some o) (hr : ObR w K g b o)
    (same : ∀ d, d ≠ ad → h'.get? d = h.get? d) : St w K hb f g al l' c' h' ∧ Ext g (MutA f al g.cs l) h g (MutA f al g.cs l') h' := by
  have lift : ∀ (mu : MutA f al g.cs l ad) (mm : ∀ d, MutA f al g.cs l' d → MutA f al g.cs l d), Ext g (MutA f al g.cs l) h g (MutA f al g.cs l') h' := fun mu mm =>
    ⟨fun d o e n => by rw [same d (fun q => n (q ▸ mu))]; exact e, fun d m => .inl (mm d m), .refl g, fun d e => by
      by_cases q : d = ad
      · rw [q, ho]; exact fun q => nomatch q
      · rw [same d q]; exact e, fun d e _ _ => e⟩
  have fzk : ∀ (mu : MutA f al g.cs l ad) d o, g.φ d = some o → h'.get? d = some o := fun mu d o e => by
    have : d ≠ ad := fun q => by rw [q, S.mfree _ mu] at e; cases e
    rw [same d this]; exact S.fz d o e
  cases p with
  | own i =>
    have R : Value.ref ad = .ref (al i) := R
    cases R
    simp only [Pl.write] at hw
    cases hl : l.at i with
    | un => rw [hl] at hw; cases hw
    | val _ => rw [hl] at hw; cases hw
    | own a0 =>
      rw [hl] at hw
      cases hw
      have hi := Loc.own_lt hl
      have mu : MutA f al g.cs l (al i) := .own hl
      have at_i : Loc.at (l.set i (.own b)) i = .own b := by rw [Loc.at_set, if_pos ⟨rfl, hi⟩]
      have at_j : ∀ j, j ≠ i → Loc.at (l.set i (.own b)) j = l.at j := fun j hj => by rw [Loc.at_set, if_neg fun q => hj q.1.symm]
      have ownAt : ∀ j a, Loc.at (l.set i (.own b)) j = .own a → ∃ a', l.at j = .own a' := fun j a e => by
        by_cases q : j = i
        · rw [q]; exact ⟨_, hl⟩
        · rw [at_j j q] at e; exact ⟨a, e⟩
      have mm : ∀ d, MutA f al g.cs (l.set i (.own b)) d → MutA f al g.cs l d := fun d m => by
        cases m with
        | loc => exact .loc
        | cv e => exact .cv e
        | own e => obtain ⟨a', e'⟩ := ownAt _ _ e; exact .own e'
        | cell e => exact .cell e
      refine ⟨?_, lift mu mm⟩
      have lvr : ∀ j ov, LVR w K g al j (l.at j) ov → LVR w K g al j (Loc.at (l.set i (.own b)) j) ov := fun j ov r => by
        by_cases q : j = i
        · rw [q, hl] at r; rw [q, at_i]; exact r
        · rw [at_j j q]; exact r
      exact {
        fz := fzk mu, base := S.base, mfree := fun d m => S.mfree d (mm d m)
        ns := by
          refine ex_1_2 (S.ns) fun m hm hv => ?_
          exact ⟨m, hm.at' fun o e => by rw [same _ (S.own_loc i _ hl).symm]; exact e, fun j x hx hk => lvr j _ (hv j x hx hk)⟩
        cv := fun x k e => by
          obtain ⟨v, ⟨o, ho', hd⟩, hv⟩ := S.cv x k e
          exact ⟨v, ⟨o, by rw [same _ (S.own_cv i _ x k hl e).symm]; exact ho', hd⟩, fun j hx hk => lvr j _ (hv j hx hk)⟩
        len := by rw [List.length_set]; exact S.len
        own := fun j a e => by
          by_cases q : j = i
          · rw [q, at_i] at e; cases e
            rw [q]; exact ⟨o, ho, hr⟩
          · rw [at_j j q] at e
            refine ex_1_2 (S.own j a e) fun o' ho' hr' => ?_
            exact ⟨o', by rw [same _ fun z => q (S.own_ne j i a a0 e hl z)]; exact ho', hr'⟩
        clen := S.clen
        cel := fun k a e => by
          refine ex_2_3 (S.cel k a e) fun d o' hd ho' hr' => ?_
          exact ⟨d, o', hd, by rw [same _ fun z => S.own_cell i _ hl (z ▸ List.mem_of_getElem? hd)]; exact ho', hr'⟩
        own_ne := fun j k a a' e e' z => by
          obtain ⟨_, e⟩ := ownAt _ _ e; obtain ⟨_, e'⟩ := ownAt _ _ e'; exact S.own_ne j k _ _ e e' z
        own_loc := fun j a e => by obtain ⟨_, e⟩ := ownAt _ _ e; exact S.own_loc j _ e
        own_cv := fun j a x k e => by obtain ⟨_, e⟩ := ownAt _ _ e; exact S.own_cv j _ x k e
        own_cell := fun j a e => by obtain ⟨_, e⟩ := ownAt _ _ e; exact S.own_cell j _ e
        loc_cell := S.loc_cell, cv_cell := S.cv_cell, cv_loc := S.cv_loc, cv_inj := S.cv_inj, cnd := S.cnd
        sys := fun d m => S.sys d (mm d m) }
  | «at» a0 =>
    cases a0 <;> simp only [Pl.write] at hw <;> try (cases hw; done)
    rename_i k
    split at hw
    case isFalse => cases hw
    rename_i hk
    cases hw
    simp only [PlR, Rp] at R
    obtain ⟨ad', e, hc⟩ := R
    cases e
    have mu : MutA f al g.cs l ad := .cell (List.mem_of_getElem? hc)
    have hne : ∀ {d : Addr}, d ∉ g.cs → d ≠ ad := fun n q => n (q ▸ List.mem_of_getElem? hc)
    refine ⟨?_, lift mu fun d m => m⟩
    exact {
      fz := fzk mu, base := S.base, mfree := S.mfree
      ns := by
        refine ex_1_2 (S.ns) fun m hm hv => ?_
        exact ⟨m, hm.at' fun o e => by rw [same _ (hne S.loc_cell)]; exact e, hv⟩
      cv := fun x k e => by
        obtain ⟨v, ⟨o, ho', hd⟩, hv⟩ := S.cv x k e
        exact ⟨v, ⟨o, by rw [same _ (hne (S.cv_cell x k e))]; exact ho', hd⟩, hv⟩
      len := S.len
      own := fun j a e => by
        refine ex_1_2 (S.own j a e) fun o' ho' hr' => ?_
        exact ⟨o', by rw [same _ (hne (S.own_cell j a e))]; exact ho', hr'⟩
      clen := by rw [List.length_set]; exact S.clen
      cel := fun j a e => by
        rw [List.getElem?_set] at e
        by_cases q : k = j
        · subst q
          rw [if_pos rfl, if_pos hk] at e
          cases e
          exact ⟨ad, o, hc, ho, hr⟩
        · rw [if_neg q] at e
          refine ex_2_3 (S.cel j a e) fun d o' hd ho' hr' => ?_
          refine ⟨d, o', hd, ?_, hr'⟩
          rw [same]
          · exact ho'
          · rintro rfl
            have l1 := (List.getElem?_eq_some_iff.mp hc)
            have l2 := (List.getElem?_eq_some_iff.mp hd)
            exact q ((List.getElem_inj S.cnd).mp (l1.2.trans l2.2.symm))
      own_ne := S.own_ne, own_loc := S.own_loc, own_cv := S.own_cv, own_cell := S.own_cell, loc_cell := S.loc_cell, cv_cell := S.cv_cell, cv_loc := S.cv_loc, cv_inj := S.cv_inj, cnd := S.cnd, sys := S.sys }

/-! storing a local -/
noncomputable def refA : Value → Addr
  | .ref a => a
  | _ => 0
noncomputable def alSet (al : Nat → Addr) (i : Nat) (v : Value) : Nat → Addr := fun j => if j = i then refA v else al j
theorem RVR.keep {g g' : Gh} {mu mu' : Addr → Prop} {h0 h1 h2 : Heap} {r : RV} {v : Value} (R : RVR w K g mu h0 h1 r v) (X : Ext g mu h1 g' mu' h2) : RVR w K g' mu' h0 h2 r v := by
  cases r with
  | v a => exact Rp.mono w K X.le _ _ R
  | o a =>
    refine ex_2_7 (R) fun d o e hf ho hr nm h0 hs => ?_
    have lv : h1.get? d ≠ none := by rw [ho]; exact fun q => nomatch q
    exact ⟨d, o, e, X.cool d hf nm lv, X.keep d o ho nm, hr.mono w K X.le, fun m => (X.grow d m).elim nm lv, h0, hs⟩

theorem St.put {g : Gh} {al : Nat → Addr} {h h' h0 : Heap} {i : Nat} {d : Addr} {n : Str} {r : RV} {v : Value} {g0 : Gh} {mu0 : Addr → Prop} (S : St w K hb f g al l c h) (X : Ext g0 mu0 h0 g (MutA f al g.cs l) h) (R : RVR w K g (MutA f al g.cs l) h0 h r v) (O : EnvOk f)
    (hn : f.nm[i]? = some n) (same : ∀ b, b ≠ d → h'.get? b = h.get? b) (dlive : h'.get? d ≠ none)
    (ns' : (f.env.kindOf n = some .local ∧ d = f.env.locals ∧ ∀ m, h.Ns f.env.locals m → h'.Ns f.env.locals (fun x => if x = n then some v else m x)) ∨ (f.env.kindOf n = some .cell ∧ f.env.cells.lookup n = some d ∧ h'.IsCell d (some v))) :
    St w K hb f g (alSet al i v) (l.set i r.lv) c h' ∧ Ext g0 mu0 h0 g (MutA f (alSet al i v) g.cs (l.set i r.lv)) h' := by
  have hi : i < l.length := by rw [S.len]; exact (List.getElem?_eq_some_iff.mp hn).1
  have at_i : Loc.at (l.set i r.lv) i = r.lv := by rw [Loc.at_set, if_pos ⟨rfl, hi⟩]
  have at_j : ∀ j, j ≠ i → Loc.at (l.set i r.lv) j = l.at j := fun j hj => by rw [Loc.at_set, if_neg fun q => hj q.1.symm]
  have mu : MutA f al g.cs l d := by
    rcases ns' with ⟨_, rfl, _⟩ | ⟨_, e, _⟩
    · exact .loc
    · exact .cv e
  -- the new owner
  let nw := alSet al i v i
  have ownI : ∀ a, r.lv = .own a → (∃ o, h.get? nw = some o ∧ ObR w K g a o) ∧ v = .ref nw ∧ g.φ nw = none ∧ ¬ MutA f al g.cs l nw ∧ h0.get? nw = none ∧ nw ≠ sysModules := fun a e => by
    cases r with
    | v _ => cases e
    | o a' =>
      cases e
      refine ex_2_5 (R) fun b o eq0 r1 r2 r3 r4 => ?_
      subst eq0
      have : nw = b := if_pos rfl
      rw [this]
      exact ⟨⟨o, r2, r3⟩, rfl, r1, r4⟩
  have new : ∀ {a d}, r.lv = .own a → MutA f al g.cs l d → alSet al i v i ≠ d := fun e m q => (ownI _ e).2.2.2.1 (by rw [show nw = _ from q]; exact m)
  have al_j : ∀ j, j ≠ i → alSet al i v j = al j := fun j hj => if_neg hj
  have ownJ : ∀ j a, j ≠ i → Loc.at (l.set i r.lv) j = .own a → l.at j = .own a := fun j a hj e => by rw [at_j j hj] at e; exact e
  have hkeep : ∀ b o, b ≠ d → h.get? b = some o → h'.get? b = some o := fun b o q e => by rw [same b q]; exact e
  have mm : ∀ b, MutA f (alSet al i v) g.cs (l.set i r.lv) b → MutA f al g.cs l b ∨ ((∃ a, r.lv = .own a) ∧ b = alSet al i v i) := fun b m => by
    cases m with
    | loc => exact .inl .loc
    | cv e => exact .inl (.cv e)
    | @own j a e =>
      by_cases q : j = i
      · rw [q, at_i] at e; exact .inr ⟨⟨a, e⟩, by rw [q]⟩
      · rw [al_j j q]; exact .inl (.own (ownJ j a q e))
    | cell e => exact .inl (.cell e)
  have lvr : ∀ j ov, j ≠ i → LVR w K g al j (l.at j) ov → LVR w K g (alSet al i v) j (Loc.at (l.set i r.lv) j) ov := fun j ov q z => by
    rw [at_j j q]
    cases e : l.at j with
    | un => trivial
    | val a => rw [e] at z; exact z
    | own a =>
      rw [e] at z
      show ov = some (.ref (alSet al i v j))
      rw [al_j j q]; exact z
  have lvi : LVR w K g (alSet al i v) i (Loc.at (l.set i r.lv) i) (some v) := by
    rw [at_i]
    cases r with
    | v a => exact ⟨v, rfl, R⟩
    | o a => exact congrArg some (ownI a rfl).2.1
  have nodup : ∀ j x, f.nm[j]? = some x → x = n → j = i := fun j x hx e => by
    cases e
    have l1 := List.getElem?_eq_some_iff.mp hx
    have l2 := List.getElem?_eq_some_iff.mp hn
    exact (List.getElem_inj O.nd).mp (l1.2.trans l2.2.symm)
  have nodup' : ∀ j x, f.nm[j]? = some x → x ≠ n → j ≠ i := fun j x hx e q => by rw [q, hn] at hx; exact e (Option.some.inj hx).symm
  have hX : Ext g0 mu0 h0 g (MutA f (alSet al i v) g.cs (l.set i r.lv)) h' :=
    ⟨fun b o e nb => by
      by_cases q : b = d
      · exact absurd (X.grow b (q ▸ mu)) (not_or.mpr ⟨nb, by rw [e]; exact fun q => nomatch q⟩)
      · exact hkeep b o q (X.keep b o e nb),
     fun b m => by
      rcases mm b m with m | ⟨⟨a, e⟩, rfl⟩
      · exact X.grow b m
      · exact .inr (ownI a e).2.2.2.2.1, X.le,
     fun b e => by
      by_cases q : b = d
      · rw [q]; exact dlive
      · rw [same b q]; exact X.live b e, X.cool⟩
  refine ⟨{
    fz := fun b o e => hkeep b o (fun q => by rw [q, S.mfree _ mu] at e; cases e) (S.fz b o e)
    base := S.base
    mfree := fun b m => by
      rcases mm b m with m | ⟨⟨a, e⟩, rfl⟩
      · exact S.mfree b m
      · exact (ownI a e).2.2.1
    ns := by
      refine ex_1_2 (S.ns) fun m hm hv => ?_
      rcases ns' with ⟨hk, rfl, hm'⟩ | ⟨hk, he, hc'⟩
      · refine ⟨_, hm' m hm, fun j x hx hkx => ?_⟩
        by_cases q : x = n
        · rw [if_pos q, nodup j x hx q]; exact lvi
        · rw [if_neg q]; exact lvr j _ (nodup' j x hx q) (hv j x hx hkx)
      · refine ⟨m, hm.at' fun o e => hkeep _ o (S.cv_loc n d he).symm e, fun j x hx hkx => ?_⟩
        have q : x ≠ n := fun q => by subst q; rw [hk] at hkx; cases hkx
        exact lvr j _ (nodup' j x hx q) (hv j x hx hkx)
    cv := fun x k e => by
      obtain ⟨v', ⟨o, ho, hd⟩, hv⟩ := S.cv x k e
      rcases ns' with ⟨hk, rfl, hm'⟩ | ⟨hk, he, hc'⟩
      · refine ⟨v', ⟨o, hkeep _ o (S.cv_loc x k e) ho, hd⟩, fun j hx hkx => ?_⟩
        have q : x ≠ n := fun q => by subst q; rw [hk] at hkx; cases hkx
        exact lvr j _ (nodup' j x hx q) (hv j hx hkx)
      · by_cases q : x = n
        · subst q
          rw [he] at e; cases e
          exact ⟨some v, hc', fun j hx hkx => by rw [nodup j x hx rfl]; exact lvi⟩
        · refine ⟨v', ⟨o, hkeep _ o (fun z => q (S.cv_inj x n d (z ▸ e) he)) ho, hd⟩, fun j hx hkx => lvr j _ (nodup' j x hx q) (hv j hx hkx)⟩
    len := by rw [List.length_set]; exact S.len
    own := fun j a e => by
      by_cases q : j = i
      · rw [q, at_i] at e
        rw [q]
        obtain ⟨⟨o, h3, h4⟩, h5⟩ := ownI a e
        exact ⟨o, hkeep _ o (new e mu) h3, h4⟩
      · have e' := ownJ j a q e
        obtain ⟨o, ho, hr⟩ := S.own j a e'
        rw [al_j j q]
        refine ⟨o, hkeep _ o ?_ ho, hr⟩
        rcases ns' with ⟨_, q, _⟩ | ⟨_, he, _⟩
        · rw [q]; exact S.own_loc j a e'
        · exact S.own_cv j a n d e' he
    clen := S.clen
    cel := fun k a e => by
      refine ex_2_3 (S.cel k a e) fun b o hb' ho hr => ?_
      refine ⟨b, o, hb', hkeep _ o (fun q => ?_) ho, hr⟩
      rcases ns' with ⟨_, q2, _⟩ | ⟨_, he, _⟩
      · exact S.loc_cell (q2 ▸ q ▸ List.mem_of_getElem? hb')
      · exact S.cv_cell n _ he (q ▸ List.mem_of_getElem? hb')
    own_ne := fun j k a a' e e' z => by
      by_cases q : j = i
      · by_cases q' : k = i
        · rw [q, q']
        · rw [q, al_j k q'] at z
          rw [q, at_i] at e
          exact absurd z (new e (.own (ownJ k a' q' e')))
      · by_cases q' : k = i
        · rw [q', al_j j q] at z
          rw [q', at_i] at e'
          exact absurd z.symm (new e' (.own (ownJ j a q e)))
        · rw [al_j j q, al_j k q'] at z
          exact S.own_ne j k a a' (ownJ j a q e) (ownJ k a' q' e') z
    own_loc := fun j a e => by
      by_cases q : j = i
      · rw [q, at_i] at e
        rw [q]
        exact new e .loc
      · rw [al_j j q]; exact S.own_loc j a (ownJ j a q e)
    own_cv := fun j a x k e e' => by
      by_cases q : j = i
      · rw [q, at_i] at e
        rw [q]
        exact new e (.cv e')
      · rw [al_j j q]; exact S.own_cv j a x k (ownJ j a q e) e'
    own_cell := fun j a e => by
      by_cases q : j = i
      · rw [q, at_i] at e
        rw [q]
        exact fun z => new e (.cell z) rfl
      · rw [al_j j q]; exact S.own_cell j a (ownJ j a q e)
    loc_cell := S.loc_cell, cv_cell := S.cv_cell, cv_loc := S.cv_loc, cv_inj := S.cv_inj, cnd := S.cnd
    sys := fun b m => by
      rcases mm b m with m | ⟨⟨a, e⟩, rfl⟩
      · exact S.sys b m
      · exact (ownI a e).2.2.2.2.2 }, hX⟩

theorem wp_store {g : Gh} {al : Nat → Addr} {s : Shared} {h0 : Heap} {i : Nat} {n : Str} {r : RV} {v : Value} {g0 : Gh} {mu0 : Addr → Prop} {Q : Unit → Shared → Prop} {E : Value → Shared → Prop} (S : St w K hb f g al l c s.heap) (X : Ext g0 mu0 h0 g (MutA f al g.cs l) s.heap) (R : RVR w K g (MutA f al g.cs l) h0 s.heap r v) (O : EnvOk f)
    (hn : f.nm[i]? = some n) (hk : f.env.kindOf n = some .local ∨ f.env.kindOf n = some .cell)
    (k : ∀ h' tk, St w K hb f g (alSet al i v) (l.set i r.lv) c h' → Ext g0 mu0 h0 g (MutA f (alSet al i v) g.cs (l.set i r.lv)) h' → Q () { s with heap := h', toks := tk }) : wpAny (model prog w) A (storeName f.env n v) Q E s := by
  rcases hk with hk | hk
  · refine ex_1_2 (S.ns) fun m hm hv => ?_
    refine wpAny_storeName_local hk hm (fun h' hm' hs' => ?_) (by rw [O.fn]; rfl)
    have live : h'.get? f.env.locals ≠ none := by obtain ⟨o, _, _, ho, _⟩ := hm'; rw [ho]; exact fun q => nomatch q
    obtain ⟨S', X'⟩ := S.put (h' := h') X R O hn hs'.2 live (.inl ⟨hk, rfl, fun m2 hm2 => by
      have : m2 = m := funext fun x => Heap.Ns.agree hm2 hm x
      rw [this]; exact hm'⟩)
    exact k h' _ S' X'
  · obtain ⟨ad, hc⟩ := O.cvn n hk
    refine ex_1_2 (S.cv n ad hc) fun v0 hv _ => ?_
    refine wpAny_storeName_cell O.fn hk hc hv fun h' hc' hs' => ?_
    have live : h'.get? ad ≠ none := by obtain ⟨o, ho, _⟩ := hc'; rw [ho]; exact fun q => nomatch q
    obtain ⟨S', X'⟩ := S.put (h' := h') X R O hn hs'.2 live (.inr ⟨hk, hc, hc'⟩)
    exact k h' s.toks S' X'
end Mine
end
section
open PySem PySem.W PySem.Calls PyProof.Rows
set_option Elab.async false
set_option maxRecDepth 100000
set_option linter.unusedVariables false
namespace Mine
variable {prog : Program} {w : World} {K : Frag} {hb : Heap} {A : Around} {f : Frm} {l l' : Loc} {c c' c1 c2 c3 : Cells} {x y z : Expr} {pos : Pos} {a b : AV}

/-! lists and dicts, turned -/
theorem mapSeq_list (F : Array Value → Array Value) (vs us : List Value) (n : Nat) (h : F vs.toArray = us.toArray) : ∃ m, Obj.mapSeq F (listO vs n) = listO us m := by
  exact ⟨if us.toArray.size == vs.toArray.size then n else n + 1, by simp only [listO, Obj.mapSeq, h]⟩
theorem upd_list {s : Heap} {ad : Addr} {vs us : List Value} {n : Nat} (F : Array Value → Array Value) (ho : s.get? ad = some (listO vs n)) (h : F vs.toArray = us.toArray) : ∃ m, (s.update ad (Obj.mapSeq F)).get? ad = some (listO us m) := by
  obtain ⟨m, e⟩ := mapSeq_list F vs us n h
  refine ⟨m, ?_⟩
  rw [← e]
  exact Heap.get?_update_self _ ho (by rw [e]; rfl)
theorem heap_append {s : Shared} {ad : Addr} {vs : List Value} {v : Value} {n : Nat} {Q : Value → Shared → Prop} {E : Value → Shared → Prop} (ho : s.heap.get? ad = some (listO vs n)) (hz : vs.length ≤ lim)
    (h : ∀ h' m, h'.get? ad = some (listO (vs ++ [v]) m) → (∀ d, d ≠ ad → h'.get? d = s.heap.get? d) → Q .none { s with heap := h' }) : wpAny (model prog w) A (call (.builtin "list.append") [.ref ad, v]) Q E s := by
  refine wpAny_call_entry PySem.slot_list_append (isList_of ho).typeIs PySem.entry_list_append ?_ (PySem.args_list_append _ _)
  show wpAny _ _ (updateSeq ad (·.push v) >>= fun _ => ret .none) _ _ s
  obtain ⟨m, hm⟩ := upd_list (us := vs ++ [v]) (fun xs => xs.push v) ho (by simp)
  exact wpAny_bind (wpAny_updateSeq (xs := vs.toArray) ho rfl (wpAny_pure ⟨.none, rfl, h _ m hm (Heap.SameBut.update ..).2⟩) (by simpa using sizeLine_lim hz) (by simp; exact sizeLine_lim hz))
theorem heap_pop {s : Shared} {ad : Addr} {vs : List Value} {v : Value} {n : Nat} {Q : Value → Shared → Prop} {E : Value → Shared → Prop} (ho : s.heap.get? ad = some (listO vs n)) (hv : vs.getLast? = some v) (hz : vs.length ≤ lim)
    (h : ∀ h' m, h'.get? ad = some (listO vs.dropLast m) → (∀ d, d ≠ ad → h'.get? d = s.heap.get? d) → Q v { s with heap := h' }) : wpAny (model prog w) A (call (.builtin "list.pop") [.ref ad]) Q E s := by
  have hy : vs.toArray[vs.toArray.size - 1]? = some v := by
    rw [List.getElem?_toArray, List.size_toArray, ← List.getLast?_eq_getElem?]; exact hv
  refine call_meets PySem.F.slot_list_pop ⟨_, ho, rfl⟩ PySem.F.entry_list_pop (PySem.F.args_list_pop_1 _) (PySem.MeetsSeq.list_pop_last ad vs.toArray n v hy (by simpa using sizeLine_lim hz)) ⟨ho, ?_⟩
  obtain ⟨m, hm⟩ := upd_list (us := vs.dropLast) (fun xs => xs.eraseIdxIfInBounds (vs.toArray.size - 1)) ho (by
    show vs.toArray.eraseIdxIfInBounds _ = _
    apply Array.toList_inj.mp
    rw [Array.toList_eraseIdxIfInBounds]
    simp [List.eraseIdx_length_sub_one])
  exact h _ m hm (Heap.SameBut.update ..).2
theorem heap_setList {s : Shared} {ad : Addr} {vs : List Value} {v : Value} {n : Nat} {i : Int} {t : Tok} {Q : Unit → Shared → Prop} {E : Value → Shared → Prop} (ho : s.heap.get? ad = some (listO vs n)) (h0 : 0 ≤ i) (h1 : i < vs.length) (hz : vs.length ≤ lim)
    (h : ∀ h' m, h'.get? ad = some (listO (vs.set i.toNat v) m) → (∀ d, d ≠ ad → h'.get? d = s.heap.get? d) → Q () { s with heap := h' }) : wpAny (model prog w) A (setItem (.ref ad) (.int i t) v) Q E s := by
  have hl := isList_of ho
  unfold setItem
  try with_reducible refine wpAny_holding ?_
  first | refine wpAny_bind (wpAny_pure ?_) | skip
  refine wpAny_bind (wpAny_sequenceKey hl.typeIs (by decide) ?_)
  refine wpAny_bind (wpAny_callSpecial?_slot (name := Str.ofString "__setitem__") hl.typeIs PySem.slot_list_setitem
    (wpAny_call_entry PySem.slot_list_setitem hl.typeIs PySem.entry_list_setitem ?_ (PySem.args_list_setitem _ _ _)))
  show wpAny _ _ (Builtin.List.listSubscript? (.int i t) >>= _) _ _ s
  refine wpAny_bind (wpAny_listSubscript_int (fitsIndex_of h0 (by unfold lim at hz; lia)) ?_)
  obtain ⟨j, rfl⟩ := Int.eq_ofNat_of_zero_le h0
  have hj : j < vs.toArray.size := by simp; lia
  have hx' : vs.toArray[j]? = some vs.toArray[j] := Array.getElem?_eq_getElem hj
  show wpAny _ _ ((seqItemAt ad j >>= fun r => pure (r.map (j, ·))) >>= _) _ _ s
  refine wpAny_bind (wpAny_bind (wpAny_seqItemAt (items := vs.toArray) ho rfl (wpAny_pure ?_)))
  rw [hx']
  show wpAny _ _ (setSeqItemAt ad j v >>= _) _ _ s
  obtain ⟨m, hm⟩ := upd_list (us := vs.set j v) (fun xs => xs.setIfInBounds j v) ho (by simp)
  refine wpAny_bind (wpAny_setSeqItemAt (items := vs.toArray) ho rfl ?_)
  first
    | exact wpAny_bind (wpAny_pure (wpAny_pure ⟨.none, rfl, wpAny_pure (h _ m hm (Heap.SameBut.update ..).2)⟩))
    | exact wpAny_pure ⟨.none, rfl, wpAny_pure (h _ m hm (Heap.SameBut.update ..).2)⟩

theorem dput_stored : ∀ {ks : List Str} {vs : List Value} {s : Str} {v : Value} {as : List AV} {g : Gh} {a : AV}, vs.length = ks.length → RpL w K g as vs → ks.Nodup → Rp w K g a v →
    (PySem.stored (ks.zip vs) s v).map (·.1) = (dput ks as s a).1 ∧ RpL w K g (dput ks as s a).2 ((PySem.stored (ks.zip vs) s v).map (·.2))
  | [], vs, s, v, as, g, a, hl, hr, nd, ha => by
    have : vs = [] := List.length_eq_zero_iff.mp hl
    subst this
    cases as with
    | nil => simp only [dput, PySem.stored]; simp [RpL]; exact ha
    | cons _ _ => simp [RpL] at hr
  | k :: ks, vs, s, v, as, g, a, hl, hr, nd, ha => by
    cases vs with
    | nil => simp at hl
    | cons u vs =>
      cases as with
      | nil => simp [RpL] at hr
      | cons a0 as =>
        simp only [RpL] at hr
        refine ex_2_3 (hr) fun u' vs' e hu hr => ?_
        cases e
        have nd' := List.nodup_cons.mp nd
        have ih := dput_stored (s := s) (v := v) (a := a) (by simpa using hl) hr nd'.2 ha
        by_cases q : k = s
        · subst q
          simp only [dput, if_true]
          have e : PySem.stored ((k :: ks).zip (u :: vs)) k v = (k, v) :: ks.zip vs := by
            simp only [PySem.stored, List.zip_cons_cons, List.any_cons, decide_true, Bool.true_or, if_true, List.map_cons]
            congr 1
            have hno : ∀ p ∈ ks.zip vs, p.1 ≠ k := fun p hp e => nd'.1 (e ▸ (List.of_mem_zip hp).1)
            have e2 := List.map_congr_left (f := fun kv : Str × Value => if kv.1 = k then (kv.1, v) else kv) (g := id) fun p hp => if_neg (hno p hp)
            rw [e2]
            simp
          rw [e]
          have hlen : vs.length = ks.length := by simpa using hl
          refine ⟨by rw [List.map_cons, List.map_fst_zip (by grind)], ?_⟩
          rw [List.map_cons, List.map_snd_zip (by grind)]
          simp only [RpL]
          exact ⟨v, vs, rfl, ha, hr⟩
        · simp only [dput, if_neg q]
          have e : PySem.stored ((k :: ks).zip (u :: vs)) s v = (k, u) :: PySem.stored (ks.zip vs) s v := by
            simp only [PySem.stored, List.zip_cons_cons, List.any_cons, q, decide_false, Bool.false_or]
            split <;> simp [q]
          rw [e]
          refine ⟨by rw [List.map_cons, ih.1], ?_⟩
          rw [List.map_cons]
          simp only [RpL]
          exact ⟨u, _, rfl, hu, ih.2⟩
theorem heap_setDict {s : Shared} {ad : Addr} {ks : List Str} {as : List AV} {es : List DictEntry} {n : Nat} {k : Str} {t : Tok} {v : Value} {g : Gh} {Q : Unit → Shared → Prop} {E : Value → Shared → Prop} (ho : s.heap.get? ad = some (dictOf es n)) (he : EntL w ks es) (hl : RpL w K g as (es.map (·.val))) (nd : ks.Nodup) (hs : ad ≠ sysModules) (hz : ks.length ≤ lim) (ha : Rp w K g a v)
    (h : ∀ h' o tk, h'.get? ad = some o → ObR w K g (.dict (dput ks as k a).1 (dput ks as k a).2) o → (∀ d, d ≠ ad → h'.get? d = s.heap.get? d) → Q () { s with heap := h', toks := tk }) : wpAny (model prog w) A (setItem (.ref ad) (.str k t) v) Q E s := by
  have D := dictOf_lib (prog := prog) ho he nd
  refine wpAny_setItem_pairs (knd := PySem.strKind prog w) (k := k) (by simp [PySem.strKind, Value.isStrOf]) D (fun h' D' hs' => ?_) (hsz := by have := sizeLine_lim hz; simpa [he.len] using this)
  refine ex_2_4 (dictOf_mine D') fun es' n' ho' he' hv' nd' => ?_
  have hd := dput_stored (s := k) (v := v) (by simpa using he.len) hl nd ha
  rw [hd.1] at he' nd'
  refine h h' _ _ ho' ?_ hs'.2
  skip
  exact ⟨es', n', rfl, he', by rw [hv']; exact hd.2, nd'⟩

theorem filt_take {α : Type} (sel : Nat → Bool) (n : Nat) : ∀ (xs : List α) (i : Nat), (∀ k, k < xs.length → sel (i + k) = decide (n ≤ i + k)) → ((xs.zipIdx i).filterMap fun p => if sel p.2 then none else some p.1) = xs.take (n - i)
  | [], i, h => by simp
  | x :: xs, i, h => by
    have h0 := h 0 (by simp)
    simp only [Nat.add_zero] at h0
    have ih := filt_take sel n xs (i + 1) fun k hk => by
      have := h (k + 1) (by simpa using hk)
      rw [show i + 1 + k = i + (k + 1) by grind]; exact this
    rw [List.zipIdx_cons, List.filterMap_cons]
    by_cases q : n ≤ i
    · simp only [h0, q, decide_true, if_true]
      rw [ih]
      rw [show n - (i + 1) = 0 by grind, show n - i = 0 by grind]; simp
    · simp only [h0, q, decide_false, Bool.false_eq_true, if_false]
      rw [ih, show n - i = (n - (i + 1)) + 1 by lia]; simp
noncomputable def selOk (j n : Nat) (F : Nat → Bool) : Prop := ∀ k : Nat, F k = (if (1 : Int) > 0 then ((j : Int) ≤ k && (k : Int) < (n : Int) && ((k : Int) - j) % 1 == 0) else ((n : Int) < k && (k : Int) ≤ j && ((j : Int) - k) % (-1) == 0))
theorem sel_take {α : Type} {vs : List α} {j : Nat} {F : Nat → Bool} (hF : selOk j vs.length F) : (vs.zipIdx.filterMap fun p => if F p.2 = true then none else some p.1) = vs.take j := by
  refine filt_take F j vs 0 fun k hk => ?_
  rw [hF, if_pos (by decide)]
  simp only [Nat.zero_add, Int.emod_one, beq_self_eq_true, Bool.and_true]
  by_cases q : j ≤ k
  · simp [q]; omega
  · simp [q]
theorem sel_fin {s : Heap} {ad : Addr} {vs : List Value} {n j : Nat} {F : Nat → Bool} {R : Heap → Prop} (ho : s.get? ad = some (listO vs n)) (hF : selOk j vs.length F)
    (h : ∀ h' m, h'.get? ad = some (listO (vs.take j) m) → (∀ d, d ≠ ad → h'.get? d = s.get? d) → R h') : R (s.update ad (Obj.mapSeq fun xs : Array Value => (xs.toList.zipIdx.filterMap fun p => if F p.2 = true then none else some p.1).toArray)) := by
  obtain ⟨m, hm⟩ := upd_list (us := vs.take j) (fun xs : Array Value => (xs.toList.zipIdx.filterMap fun p => if F p.2 = true then none else some p.1).toArray) ho (by rw [List.toList_toArray, sel_take hF])
  exact h _ m hm (Heap.SameBut.update ..).2
theorem heap_delFrom {s : Shared} {ad sl : Addr} {vs : List Value} {n j : Nat} {t : Tok} {Q : Unit → Shared → Prop} {E : Value → Shared → Prop} (ho : s.heap.get? ad = some (listO vs n)) (hs : s.heap.IsSliceOf sl (.int j t) .none .none) (hj : j ≤ vs.length) (hz : vs.length ≤ lim)
    (h : ∀ h' m, h'.get? ad = some (listO (vs.take j) m) → (∀ d, d ≠ ad → h'.get? d = s.heap.get? d) → Q () { s with heap := h' }) : wpAny (model prog w) A (delItem (.ref ad) (.ref sl)) Q E s := by
  refine ex_1_3 (id hs) fun os hos hcs hds => ?_
  have hTs : s.TypeIs (.ref sl) "slice" := ⟨os, hos, hcs⟩
  refine wpAny_delItem_slot (isList_of ho).typeIs (by decide) PySem.F.slot_list_delitem (wpAny_call_entry PySem.F.slot_list_delitem (isList_of ho).typeIs PySem.F.entry_list_delitem ?_ (PySem.F.args_list_delitem_2 _ _))
  show wpAny _ _ (Builtin.List.listSubscript? (.ref sl) >>= _) _ _ s
  refine wpAny_bind ?_
  unfold Builtin.List.listSubscript?
  refine wpAny_bind (wpAny_specialOf hTs slice_no_index ?_)
  simp only [Option.isNone_none, if_true]
  refine wpAny_pure ?_
  show wpAny _ _ (typeOf (.ref sl) >>= _) _ _ s
  refine wpAny_bind (wpAny_typeOf hTs ?_)
  rw [if_neg (by decide)]
  rw [listSliceParts_eq]
  refine wpAny_bind (wpAny_bind (wpAny_field hos hds (x := .none) rfl (wpAny_bind (wpAny_listPart .none ?_))))
  rw [if_neg (by decide)]
  refine wpAny_bind (wpAny_field hos hds (x := .int j t) rfl (wpAny_bind (wpAny_listPart (.int _ _) ?_)))
  refine wpAny_bind (wpAny_field hos hds (x := .none) rfl (wpAny_bind (wpAny_listPart .none (wpAny_pure ?_))))
  refine wpAny_bind (m := Builtin.List.listItems (.ref ad)) ?_
  unfold Builtin.List.listItems
  refine wpAny_bind (wpAny_seqItems (items := vs.toArray) ho rfl (wpAny_pure ?_))
  refine wpAny_bind (wpAny_of_eq (sliceIndices_raw (some (j : Int)) none none vs.toArray.size (by decide)) ?_)
  have eb : sliceBounds (some (j : Int)) none none vs.toArray.size = ((j : Int), (vs.length : Int), 1) := by
    simp only [sliceBounds, List.size_toArray]
    have h1 : ¬ ((j : Int) < 0) := by grind
    have h2 : max (0 : Int) (min (j : Int) (vs.length : Int)) = j := by grind
    simp [h1, h2]
  rw [eb]
  refine wpAny_bind (wpAny_rule ?_)
  refine wpAny_bind (m := updateSeq ad _) (wpAny_updateSeq (xs := vs.toArray) ho rfl ?_ (by simpa using sizeLine_lim hz) ?_)
  · refine wpAny_bind (wpAny_letGo (wpAny_pure ⟨_, rfl, ?_⟩))
    refine sel_fin (R := fun h' => Q () { s with heap := h' }) (j := j) ho ?_ h
    exact fun k => rfl
  · rw [List.toList_toArray]
    refine Nat.le_succ_of_le ?_
    rw [List.size_toArray]
    exact Nat.le_trans (List.length_filterMap_le _ _) (by simpa using sizeLine_lim hz)
end Mine
end
section
open PySem PySem.W PySem.Calls PyProof.Rows
set_option Elab.async false
set_option maxRecDepth 100000
set_option linter.unusedVariables false
namespace Mine
variable {prog : Program} {w : World} {K : Frag} {hb : Heap} {A : Around} {f : Frm} {l l' l1 l2 : Loc} {c c' c1 c2 c3 : Cells} {x y z : Expr} {pos : Pos} {a b : AV}

/-! statements -/
noncomputable def FlR (w : World) (K : Frag) (g : Gh) (mu : Addr → Prop) (h0 h : Heap) : Fl → Flow → Prop
  | .next, .next => True
  | .cont, .cont => True
  | .ret r, .ret v => RVR w K g mu h0 h r v
  | _, _ => False
@[elab_as_elim] theorem FlR.on {g : Gh} {mu : Addr → Prop} {h0 h : Heap} {P : Fl → Flow → Prop} {r : Fl} {v : Flow} (R : FlR w K g mu h0 h r v) (g1 : P .next .next) (g2 : P .cont .cont) (g3 : ∀ r v, RVR w K g mu h0 h r v → P (.ret r) (.ret v)) : P r v := by
  cases r <;> cases v <;> first | exact g1 | exact g2 | exact g3 _ _ R | exact R.elim
noncomputable def WpX {α β : Type} (prog : Program) (w : World) (K : Frag) (hb : Heap) (A : Around) (f : Frm) (l : Loc) (c : Cells) (t : Sem α) (R : Gh → (Addr → Prop) → Heap → Heap → β → α → Prop) (r : β) (l' : Loc) (c' : Cells) : Prop :=
  ∀ (g : Gh) (al : Nat → Addr) (s : Shared) (Q : α → Shared → Prop) (E : Value → Shared → Prop), St w K hb f g al l c s.heap →
    (∀ v h' tk g' al', St w K hb f g' al' l' c' h' → Ext g (MutA f al g.cs l) s.heap g' (MutA f al' g'.cs l') h' → R g' (MutA f al' g'.cs l') s.heap h' r v → Q v { s with heap := h', toks := tk }) →
    wpAny (model prog w) A t Q E s
noncomputable abbrev WpS (prog : Program) (w : World) (K : Frag) (hb : Heap) (A : Around) (f : Frm) (l : Loc) (c : Cells) (t : Sem Flow) (r : Fl) (l' : Loc) (c' : Cells) : Prop := WpX prog w K hb A f l c t (FlR w K) r l' c'
noncomputable abbrev WpU (prog : Program) (w : World) (K : Frag) (hb : Heap) (A : Around) (f : Frm) (l : Loc) (c : Cells) (t : Sem Unit) (l' : Loc) (c' : Cells) : Prop := WpX prog w K hb A f l c t (fun _ _ _ _ (_ : Unit) _ => True) () l' c'

noncomputable def vk (kd : Str → Option NameKind) (nm : List Str) (i : Nat) (n : Str) : Bool := nm[i]? == some n && (kd n == some .local || kd n == some .cell) && !(n == ("__debug__" : Str))
structure VK (f : Frm) (i : Nat) (n : Str) : Prop where
  nm : f.nm[i]? = some n
  kd : f.env.kindOf n = some .local ∨ f.env.kindOf n = some .cell
  db : (n == ("__debug__" : Str)) = false
theorem VK.of {i : Nat} {n : Str} (h : vk f.env.kindOf f.nm i n = true) : VK f i n := by
  simp only [vk, Bool.and_eq_true, beq_iff_eq, Bool.or_eq_true, Bool.not_eq_true'] at h
  exact ⟨h.1.1, h.1.2, h.2⟩

theorem FlR.fwd {g g' g'' : Gh} {mu mu' mu'' : Addr → Prop} {h0 h1 h2 : Heap} {r : Fl} {v : Flow} (X : Ext g mu h0 g' mu' h1) (R : FlR w K g'' mu'' h1 h2 r v) : FlR w K g'' mu'' h0 h2 r v := by
  refine FlR.on (P := fun r v => FlR w K g'' mu'' h0 h2 r v) R trivial trivial fun r v R => RVR.fwd X R
theorem WpX.bindS {α β γ δ : Type} {t : Sem α} {R : Gh → (Addr → Prop) → Heap → Heap → β → α → Prop} {r : β} {t' : Sem γ} {R' : Gh → (Addr → Prop) → Heap → Heap → δ → γ → Prop} {r' : δ} (p : WpX prog w K hb A f l c t R r l1 c1) (q : WpX prog w K hb A f l1 c1 t' R' r' l2 c2)
    (hR : ∀ g g' g'' mu mu' mu'' h0 h1 h2 v, Ext g mu h0 g' mu' h1 → R' g'' mu'' h1 h2 r' v → R' g'' mu'' h0 h2 r' v) {g : Gh} {al : Nat → Addr} {s : Shared} {Q : γ → Shared → Prop} {E : Value → Shared → Prop} (S : St w K hb f g al l c s.heap)
    (k : ∀ v h' tk g' al', St w K hb f g' al' l2 c2 h' → Ext g (MutA f al g.cs l) s.heap g' (MutA f al' g'.cs l2) h' → R' g' (MutA f al' g'.cs l2) s.heap h' r' v → Q v { s with heap := h', toks := tk }) :
    wpAny (model prog w) A t (fun _ s' => wpAny (model prog w) A t' Q E s') E s :=
  p g al s _ E S fun v h1 tk1 g1 al1 S1 X1 _ => q g1 al1 _ Q E S1 fun v' h2 tk2 g2 al2 S2 X2 R2 => k v' h2 tk2 g2 al2 S2 (X1.trans X2) (hR _ _ _ _ _ _ _ _ _ _ X1 R2)

/-! blocks -/
theorem wpS_nil : WpS prog w K hb A f l c (execs [] f.env) .next l c := fun g al s Q E S k => wpAny_execs_nil (k _ s.heap s.toks g al S (.refl ..) trivial)
theorem wpS_cons {st : Stmt} {rest : List Stmt} {r : Fl} (p : WpS prog w K hb A f l c (exec st f.env) .next l1 c1) (q : WpS prog w K hb A f l1 c1 (execs rest f.env) r l2 c2) : WpS prog w K hb A f l c (execs (st :: rest) f.env) r l2 c2 := by
  intro g al s Q E S k
  refine wpAny_execs_cons (p g al s _ E S fun v h1 tk1 g1 al1 S1 X1 R1 => ?_)
  cases v <;> try exact R1.elim
  exact q g1 al1 _ Q E S1 fun v' h2 tk2 g2 al2 S2 X2 R2 => k v' h2 tk2 g2 al2 S2 (X1.trans X2) (R2.fwd X1)
theorem wpS_stop {st : Stmt} {rest : List Stmt} {r : Fl} (hr : r ≠ .next) (p : WpS prog w K hb A f l c (exec st f.env) r l1 c1) : WpS prog w K hb A f l c (execs (st :: rest) f.env) r l1 c1 := by
  intro g al s Q E S k
  refine wpAny_execs_cons (p g al s _ E S fun v h1 tk1 g1 al1 S1 X1 R1 => ?_)
  have k := k v h1 tk1 g1 al1 S1 X1 R1
  revert hr k
  exact FlR.on (P := fun r v => r ≠ .next → Q v _ → match (generalizing := false) v with | .next => wpAny (model prog w) A (execs rest f.env) Q E _ | v => Q v _) R1 (fun hr => absurd rfl hr) (fun _ k => k) (fun r v R hr k => k)

/-! assignments -/
noncomputable def plainVal (x : Expr) : Bool := x.ctorIdx != 8 && (x.ctorIdx != 9 && x.ctorIdx != 10)
theorem swaps_plain {e : Expr} {t : Option Expr} {n : Nat} {env : Env} (h : plainVal e = true) : swapsWith e t n env = pure false := by
  cases e <;> first | rfl | exact noB h
theorem wpS_asg {i : Nat} {n : Str} {np : Pos} {r : RV} (O : EnvOk f) (V : VK f i n) (hv : plainVal x = true) (p : WpR prog w K hb A f l c x r c1) : WpS prog w K hb A f l c (exec (.Assign [.Name n np] x pos) f.env) .next (l.set i r.lv) c1 := by
  intro g al s Q E S k
  refine wpAny_Assign_Name (p g al s _ E S fun v h1 tk1 g1 S1 X1 R1 => ?_) (swaps_plain hv)
  exact wp_store S1 X1 R1 O V.nm V.kd fun h' tk S' X' => k _ h' tk g1 _ S' X' trivial

inductive Tgts (f : Frm) : List Nat → List Expr → Prop
  | nil : Tgts f [] []
  | cons {i is n p es} : VK f i n → Tgts f is es → Tgts f (i :: is) (.Name n p :: es)
theorem Tgts.len {is : List Nat} {es : List Expr} (h : Tgts f is es) : es.length = is.length := by
  induction h with
  | nil => rfl
  | cons _ _ ih => simp [ih]
theorem Tgts.each {is : List Nat} {es : List Expr} (h : Tgts f is es) : assignEach es f.env = es.map fun e => (false, assign e f.env) := by
  induction h with
  | nil => rfl
  | cons _ _ ih => rw [List.map_cons, ← ih]; rfl
theorem setAll_len : ∀ {is : List Nat} {ts : List AV} {l l' : Loc}, setAll is ts l = some l' → ts.length = is.length
  | [], [], _, _, _ => rfl
  | [], _ :: _, _, _, h => by simp [setAll] at h
  | _ :: _, [], _, _, h => by simp [setAll] at h
  | _ :: is, _ :: ts, _, _, h => by simp only [setAll] at h; simp [setAll_len h]
theorem wp_setAll (O : EnvOk f) {is : List Nat} {es : List Expr} (h : Tgts f is es) : ∀ {ts : List AV} {vs : List Value} {l l' : Loc} {g : Gh} {al : Nat → Addr} {s : Shared} {Q : Unit → Shared → Prop} {E : Value → Shared → Prop}, setAll is ts l = some l' → St w K hb f g al l c s.heap → RpL w K g ts vs →
    (∀ h' tk al', St w K hb f g al' l' c h' → Ext g (MutA f al g.cs l) s.heap g (MutA f al' g.cs l') h' → Q () { s with heap := h', toks := tk }) → wpAny (model prog w) A (assignInOrder (es.map fun e => assign e f.env) vs) Q E s := by
  induction h with
  | nil =>
    intro ts vs l l' g al s Q E hs S R k
    cases ts with
    | cons _ _ => simp [setAll] at hs
    | nil =>
      cases hs
      simp only [RpL] at R
      subst R
      exact PyProof.Rows.assignInOrder_nil (k s.heap s.toks al S (.refl ..))
  | cons V T ih =>
    intro ts vs l l' g al s Q E hs S R k
    cases ts with
    | nil => simp [setAll] at hs
    | cons t ts =>
      simp only [RpL] at R
      obtain ⟨v, r, rfl, hv, R⟩ := R
      simp only [setAll] at hs
      refine PyProof.Rows.assignInOrder_cons (wpAny_assign_Name ?_)
      refine wp_store (r := .v t) S (.refl ..) hv O V.nm V.kd fun h' tk S' X' => ?_
      exact ih hs S' R fun h'' tk' al' S'' X'' => k h'' tk' al' S'' (X'.trans X'')

/-- binding a loop's target -/
noncomputable def WpBind (prog : Program) (w : World) (K : Frag) (hb : Heap) (A : Around) (f : Frm) (tgt : Expr) (bind : AV → Loc → Option Loc) : Prop :=
  ∀ (l l' : Loc) (c : Cells) (g : Gh) (al : Nat → Addr) (s : Shared) (Q : Unit → Shared → Prop) (E : Value → Shared → Prop) (a : AV) (v : Value), bind a l = some l' → St w K hb f g al l c s.heap → Rp w K g a v →
    (∀ h' tk al', St w K hb f g al' l' c h' → Ext g (MutA f al g.cs l) s.heap g (MutA f al' g.cs l') h' → Q () { s with heap := h', toks := tk }) → wpAny (model prog w) A (assign tgt f.env v) Q E s
theorem wpBind1 {i : Nat} {n : Str} {np : Pos} (O : EnvOk f) (V : VK f i n) : WpBind prog w K hb A f (.Name n np) (bind1 i) := by
  intro l l' c g al s Q E a v hl S R k
  cases hl
  exact wpAny_assign_Name (wp_store (r := .v a) S (.refl ..) R O V.nm V.kd fun h' tk S' X' => k h' tk _ S' X')
theorem wpBindT {is : List Nat} {es : List Expr} {k1 : Nat} {np : Pos} {d : Nat} (O : EnvOk f) (hA : AOk A d) (T : Tgts f is es) : WpBind prog w K hb A f (.Tuple es k1 np) (bindT is) := by
  intro l l' c g al s Q E a v hl S R k
  cases a <;> simp only [bindT] at hl <;> try (cases hl; done)
  rename_i ts
  simp only [Rp] at R
  refine ex_3_3 (R) fun ad vs m eq0 hf hr => ?_
  subst eq0
  have ho := S.fz _ _ hf
  refine wpAny_assign_Tuple hA.hd (isTuple_of ho) (by rw [T.each]; simp [T.len, hr.len, setAll_len hl]) (by rw [T.each]; simp) fun h' he => ?_
  have hk : ∀ b o, s.heap.get? b = some o → h'.get? b = some o := fun b o e => he b o (Nat.ne_of_lt (Heap.lt_size e)) e
  have e : (assignEach es f.env).map (·.2) = es.map fun e => assign e f.env := by rw [T.each, List.map_map]; rfl
  rw [e]
  have S1 := S.keeps hk
  exact wp_setAll O T hl S1 hr fun h'' tk al' S'' X'' => k h'' tk al' S'' ((Ext.of_keeps hk g _).trans X'')

theorem wpS_asgT {is : List Nat} {es : List Expr} {k1 : Nat} {np : Pos} {d : Nat} {tu : AV} {l' : Loc} (O : EnvOk f) (hA : AOk A d) (T : Tgts f is es) (hv : plainVal x = true) (hx : ∀ a b c, x ≠ .Tuple a b c) (p : WpE prog w K hb A f l c x tu c1) (hl : bindT is tu l = some l') :
    WpS prog w K hb A f l c (exec (.Assign [.Tuple es k1 np] x pos) f.env) .next l' c1 := by
  intro g al s Q E S k
  refine wpAny_Assign_stores (p g al s _ E S fun v h1 tk1 g1 S1 X1 R1 => ?_) (by unfold swapsWithSole; exact swaps_plain hv) ?_
  · show wpAny _ _ (assign (.Tuple es k1 np) f.env v) _ _ _
    exact wpBindT O hA T l l' c1 g1 al _ _ E tu v hl S1 R1 fun h' tk al' S' X' => k _ h' tk g1 al' S' (X1.trans X') trivial
  · unfold swappedStores
    cases x <;> first | rfl | exact absurd rfl (hx _ _ _)

theorem RVR.ne {g g' : Gh} {mu mu' mu'' : Addr → Prop} {h0 h1 h2 : Heap} {r : RV} {v : Value} {d : Addr} (R : RVR w K g' mu' h1 h2 r v) (hd : h1.get? d ≠ none) (a : AV) (hr : r = .o a) : v ≠ .ref d := by
  subst hr
  refine ex_2_7 (R) fun b o eq0 _ _ _ _ h0 _ => ?_
  subst eq0
  exact fun e => by cases e; exact hd h0

noncomputable def swapOk (kd : Str → Option NameKind) (n1 : Str) (p1 : Pos) (n2 : Str) (p2 : Pos) (e1 e2 : Expr) : Bool :=
  kd n1 == some .local && kd n2 == some .local && p1.line == p2.line && n1 != n2 && noStar [e1, e2] && !([e1, e2].all (foldedForSure 8)) && !([e1, e2].all (constantsAlone 8))
theorem no_any {a b : Expr} {g : Expr → Bool} (hg : ∀ x : Expr, (x.ctorIdx != 22) = true → g x = false) (h : noStar [a, b] = true) : ¬ [a, b].any g = true :=
  and3 h fun h1 h2 _ => by rw [List.any_cons, List.any_cons, hg a h1, hg b h2]; exact Bool.false_ne_true
theorem swapOk_ands {kd : Str → Option NameKind} {n1 n2 : Str} {p1 p2 : Pos} {e1 e2 : Expr} (h : swapOk kd n1 p1 n2 p2 e1 e2 = true) : kd n1 = some .local ∧ kd n2 = some .local ∧ p1.line = p2.line ∧ n1 ≠ n2 ∧ noStar [e1, e2] = true ∧ [e1, e2].all (foldedForSure 8) = false ∧ [e1, e2].all (constantsAlone 8) = false :=
  and2 h fun h h7 => and2 h fun h h6 => and2 h fun h h5 => and2 h fun h h4 => and2 h fun h h3 => and2 h fun h1 h2 => ⟨beqT h1, beqT h2, beqT h3, bne_iff_ne.mp h4, h5, notT h6, notT h7⟩
theorem names_two {g : Expr → Option Str} {x y : Expr} {a b : Str} (h1 : g x = some a) (h2 : g y = some b) : List.filterMap g [x, y] = [a, b] := by
  rw [List.filterMap_cons_some h1, List.filterMap_cons_some h2]; rfl
theorem dups_two {a b : Str} (h : a ≠ b) : ([a, b] : List Str).eraseDups = [a, b] := by
  have : (b == a) = false := by simpa using fun e => h e.symm
  simp [List.eraseDups, List.eraseDupsBy, List.eraseDupsBy.loop, this]
theorem swapped_of {n1 n2 : Str} {p1 p2 : Pos} {e1 e2 : Expr} {k1 k2 : Nat} {q1 q2 : Pos} (O : EnvOk f) (h : swapOk f.env.kindOf n1 p1 n2 p2 e1 e2 = true) :
    swappedStores [.Tuple [.Name n1 p1, .Name n2 p2] k1 q1] (.Tuple [e1, e2] k2 q2) f.env = pure (some [n1, n2]) := by
  obtain ⟨h1, h2, h3, h4, h5, h6, h7⟩ := swapOk_ands h
  have hbk : f.env.blockKind = .function := by unfold Env.blockKind; rw [O.fn]; rfl
  refine (if_neg ?c1).trans ((if_neg ?c2).trans ((if_neg ?c3).trans ((if_neg ?c4).trans ((if_neg ?c5).trans ?_))))
  case c1 => rw [hbk]; exact Bool.false_ne_true
  case c2 => exact no_any (fun x hx => by cases x <;> first | rfl | exact noB hx) h5
  case c3 =>
    rw [names_two (a := n1) (b := n2) ?a ?b, dups_two h4]
    case a => exact if_pos (by rw [h1]; exact beq_self_eq_true _)
    case b => exact if_pos (by rw [h2, ← h3]; exact beq_self_eq_true _)
    exact Bool.false_ne_true
  case c4 => rw [h6]; exact Bool.false_ne_true
  case c5 => rw [h7]; exact Bool.false_ne_true
  rw [names_two (a := n1) (b := n2) ?a ?b]
  case a => exact if_pos (by rw [h1]; exact beq_self_eq_true _)
  case b => exact if_pos (by rw [h2, ← h3]; exact beq_self_eq_true _)
end Mine
end
section
open PySem PySem.W PySem.Calls PyProof.Rows
set_option Elab.async false
set_option maxRecDepth 100000
set_option linter.unusedVariables false
namespace Mine
variable {prog : Program} {w : World} {K : Frag} {hb : Heap} {A : Around} {f : Frm} {l l' l1 l2 : Loc} {c c' c1 c2 c3 : Cells} {x y z : Expr} {pos : Pos} {a b : AV}

theorem wpS_asg2 {i j : Nat} {n1 n2 : Str} {p1 p2 q1 q2 : Pos} {k1 k2 : Nat} {r1 r2 : RV} {d : Nat} (O : EnvOk f) (hA : AOk A d) (V1 : VK f i n1) (V2 : VK f j n2) (hsw : swapOk f.env.kindOf n1 p1 n2 p2 x y = true)
    (p : WpR prog w K hb A f l c x r1 c1) (q : WpR prog w K hb A f l c1 y r2 c2) :
    WpS prog w K hb A f l c (exec (.Assign [.Tuple [.Name n1 p1, .Name n2 p2] k1 q1] (.Tuple [x, y] k2 q2) pos) f.env) .next ((l.set i r1.lv).set j r2.lv) c2 := by
  intro g al s Q E S k
  have sw := swapped_of (k1 := k1) (k2 := k2) (q1 := q1) (q2 := q2) O hsw
  simp only [swapOk, Bool.and_eq_true, beq_iff_eq, bne_iff_ne, ne_eq, Bool.not_eq_true'] at hsw
  have hne : n1 ≠ n2 := hsw.1.1.1.2
  have hst : noStar [x, y] = true := hsw.1.1.2
  have hij : j ≠ i := fun e => hne (by have h1 := V1.nm; have h2 := V2.nm; rw [e] at h2; rw [h1] at h2; exact Option.some.inj h2)
  obtain ⟨e1, hst2⟩ := noStar_cons (x := x) (xs := [y]) (env := f.env) hst
  obtain ⟨e2, _⟩ := noStar_cons (x := y) (xs := []) (env := f.env) hst2
  rw [exec_Assign_arm]
  refine wpAny_bind (wpAny_standAt (wpAny_bind (wpAny_pure ?_)))
  rw [if_neg (by decide)]
  refine wpAny_bind (Tuple_ ?_)
  rw [e1, e2]
  refine spliced_cons (p g al s _ E S fun u h1 tk1 g1 S1 X1 R1 => ?_)
  refine spliced_cons (q g1 al _ _ E S1 fun v h2 tk2 g2 S2 X2 R2 => ?_)
  refine spliced_nil (wpAny_newTuple ?_ (by rw [sizeLine_eq]; simp))
  rw [sw]
  refine wpAny_bind (wpAny_pure ?_)
  show wpAny _ _ (rule "assign.swapped-stores" >>= fun _ => unpackItems (.ref h2.objs.size) 2 none >>= fun items => assignInOrder [fun v => bindName f.env n2 v, fun v => bindName f.env n1 v] items.reverse >>= fun _ => pure Flow.next) _ _ _
  refine wpAny_bind (wpAny_rule ?_)
  have S3 := S2.push (tupO [u, v] 0)
  have X3 := X2.trans (.push g2 _ h2 (tupO [u, v] 0))
  have ht : IsTup (h2.push (tupO [u, v] 0)) h2.objs.size #[u, v] := ⟨_, Heap.get?_push_size _ rfl, rfl, 0, rfl⟩
  refine wpAny_bind (PyProof.Rows.unpackItems_tuple (items := #[u, v]) hA.hd ht fun h4 he => ?_)
  have hk : ∀ b o, (h2.push (tupO [u, v] 0)).get? b = some o → h4.get? b = some o := fun b o e => he b o (Nat.ne_of_lt (Heap.lt_size e)) e
  have S4 := S3.keeps hk
  have X4 := X3.trans (.of_keeps hk g2 _)
  show wpAny _ _ (assignInOrder [fun v => bindName f.env n2 v, fun v => bindName f.env n1 v] [v, u] >>= fun _ => pure Flow.next) _ _ _
  have R2' : RVR w K g2 (MutA f al g2.cs l) h1 h4 r2 v := (R2.keep (.push ..)).keep (.of_keeps hk ..)
  refine wpAny_bind (PyProof.Rows.assignInOrder_cons (wpAny_bindName (wp_store S4 X4 R2' O V2.nm V2.kd fun h5 tk5 S5 X5 => ?_)))
  have R1' := R1.keep X5
  refine PyProof.Rows.assignInOrder_cons (wpAny_bindName (wp_store S5 (X1.trans X5) R1' O V1.nm V1.kd fun h6 tk6 S6 X6 => ?_))
  refine PyProof.Rows.assignInOrder_nil (wpAny_pure ?_)
  have el : List.set (List.set l j r2.lv) i r1.lv = List.set (List.set l i r1.lv) j r2.lv := List.set_comm _ _ hij
  rw [el] at S6 X6
  exact k _ h6 tk6 g2 _ S6 X6 trivial

theorem wpS_ret {r : RV} (p : WpR prog w K hb A f l c x r c1) : WpS prog w K hb A f l c (exec (.Return (some x) pos) f.env) (.ret r) l c1 := fun g al s Q E S k =>
  wpAny_Return_some (p g al s _ E S fun v h1 tk1 g1 S1 X1 R1 => k _ h1 tk1 g1 al S1 X1 R1)
theorem wpS_if {t : Bool} {r : Fl} {sa sb : List Stmt} (p : WpT prog w K hb A f l c x t c1) (q : WpS prog w K hb A f l c1 (execs (if t then sa else sb) f.env) r l2 c2) : WpS prog w K hb A f l c (exec (.If x sa sb pos) f.env) r l2 c2 := by
  intro g al s Q E S k
  refine wpAny_If (p g al s _ E S fun u h1 tk1 g1 S1 X1 R1 => ?_)
  subst R1
  cases u
  · exact q g1 al _ _ E S1 fun v h2 tk2 g2 al2 S2 X2 R2 => k v h2 tk2 g2 al2 S2 (X1.trans X2) (R2.fwd X1)
  · exact q g1 al _ _ E S1 fun v h2 tk2 g2 al2 S2 X2 R2 => k v h2 tk2 g2 al2 S2 (X1.trans X2) (R2.fwd X1)
theorem wpS_cont : WpS prog w K hb A f l c (exec (.Continue pos) f.env) .cont l c := fun g al s Q E S k => wpAny_Continue (k _ s.heap s.toks g al S (.refl ..) trivial)
theorem noInter (O : EnvOk f) : interactive f.env = false := by unfold interactive; rw [O.fn]; rfl
theorem wpS_expr (O : EnvOk f) (hv : plainVal x = true) (p : WpE prog w K hb A f l c x .none c1) : WpS prog w K hb A f l c (exec (.Expr x pos) f.env) .next l c1 := by
  intro g al s Q E S k
  refine wpAny_Expr (p g al s _ E S fun v h1 tk1 g1 S1 X1 R1 => ?_) (noInter O) (swaps_plain hv)
  obtain rfl := Rp.none_iff.mp R1
  exact k _ h1 tk1 g1 al S1 X1 trivial
theorem wp_load {i : Nat} {n : Str} (O : EnvOk f) (V : VK f i n) (hl : l.at i = .val a) : Wp prog w K hb A f l c (loadName f.env n) (fun g _ _ _ => Rp w K g) a c := by
  intro g al s Q E S k
  rcases V.kd with hk | hk
  · refine ex_1_2 (S.ns) fun m hm hv => ?_
    obtain ⟨v, e, r⟩ : LVR w K g al i (.val a) (m n) := hl ▸ hv i n V.nm hk
    exact wpAny_loadName_local O.fn hk hm e (k v s.heap s.toks g S (.refl ..) r)
  · obtain ⟨ad, hc⟩ := O.cvn n hk
    refine ex_1_2 (S.cv n ad hc) fun v hv r => ?_
    obtain ⟨u, e, r'⟩ : LVR w K g al i (.val a) v := hl ▸ r i V.nm hk
    subst e
    exact wpAny_loadName_cell O.fn hk hc hv (k u s.heap s.toks g S (.refl ..) r')
theorem wpS_aug {i : Nat} {n : Str} {np : Pos} {u v : Int} (O : EnvOk f) (V : VK f i n) (hl : l.at i = .val (.int u)) (p : WpE prog w K hb A f l c x (.int v) c1) : WpS prog w K hb A f l c (exec (.AugAssign (.Name n np) .Add x pos) f.env) .next (l.set i (.val (.int (u + v)))) c1 := by
  intro g al s Q E S k
  refine wpAny_AugAssign_Name (wp_load O V hl g al s _ E S fun u' h1 tk1 g1 S1 X1 R1 => p g1 al _ _ E S1 fun v' h2 tk2 g2 S2 X2 R2 => ?_)
  obtain ⟨t, rfl⟩ := Rp.int_iff.mp R1
  obtain ⟨t', rfl⟩ := Rp.int_iff.mp R2
  refine wpAny_iadd_int ?_
  have RR : RVR w K g2 (MutA f al g2.cs l) s.heap h2 (.v (.int (u + v))) (Value.int (u + v) tk2) := by show Rp w K g2 (.int (u + v)) _; exact Rp.int_iff.mpr ⟨_, rfl⟩
  refine wp_store S2 (X1.trans X2) RR O V.nm V.kd fun h' tk S' X' => k _ h' tk g2 _ S' X' trivial

/-! turning what a place holds -/
theorem St.wr {g : Gh} {al : Nat → Addr} {h h' : Heap} {p : Pl} {ad : Addr} {o : Obj} {g0 : Gh} {mu0 : Addr → Prop} {h0 : Heap} (S : St w K hb f g al l c h) (X : Ext g0 mu0 h0 g (MutA f al g.cs l) h) (R : PlR w K g al p (.ref ad)) (hw : p.write l c b = some (l', c')) (ho : h'.get? ad = some o) (hr : ObR w K g b o)
    (same : ∀ d, d ≠ ad → h'.get? d = h.get? d) : St w K hb f g al l' c' h' ∧ Ext g0 mu0 h0 g (MutA f al g.cs l') h' :=
  let ⟨S', X'⟩ := S.write R hw ho hr same
  ⟨S', X.trans X'⟩
theorem RpL.snoc {g : Gh} {as : List AV} {vs : List Value} {v : Value} (r : RpL w K g as vs) (h : Rp w K g a v) : RpL w K g (as ++ [a]) (vs ++ [v]) :=
  r.append (by simp only [RpL]; exact ⟨v, [], rfl, h, rfl⟩)
theorem list_meth {ad : Addr} {s : Shared} {vs : List Value} {n : Nat} {pl : Sem Bool} {nm : Str} {id : String} {Q : Value × List Value → Shared → Prop} {E : Value → Shared → Prop} (ho : s.heap.get? ad = some (listO vs n)) (slot : Slot "list" nm id) (ty : typeOf (.builtin id) = pure (.type "method_descriptor")) (h : Q (.builtin id, [.ref ad]) s) :
    wpAny (model prog w) A (getMethod (.ref ad) nm pl) Q E s :=
  getMethod_builtin (isList_of ho).typeIs PySem.F.plainAttrs_list slot ty (fun a e => by cases e; exact ⟨_, ho, rfl⟩) h
theorem wpS_append {p : Pl} {us : List AV} {apos p2 : Pos} (O : EnvOk f) (hb' : notBare x = true) (hs : noStar [y] = true) (hline : (apos.endLine == p2.line) = true) (hp : WpP prog w K hb A f l c x p c1) (hq : WpE prog w K hb A f l c1 y a c2) {us0 : List AV} (hr0 : p.read l c1 = some (.list us0)) (hr : p.read l c2 = some (.list us)) (hz : us.length ≤ lim)
    (hw : p.write l c2 (.list (us ++ [a])) = some (l', c')) : WpS prog w K hb A f l c (exec (.Expr (.Call (.Attribute x "append" apos) [y] [] p2) pos) f.env) .next l' c' := by
  intro g al s Q E S k
  refine wpAny_Expr ?_ (noInter O) (swaps_plain rfl)
  refine call_attr hb' hs (by simp) hline (hp g al s _ E S fun u h1 tk1 g1 S1 X1 R1 _ => ?_)
  have ct0 := S1.read R1 hr0
  simp only [CtR] at ct0
  refine ex_3_3 (ct0) fun ad vs n eq0 ho _ => ?_
  subst eq0
  refine list_meth ho PySem.slot_list_append PySem.type_list_append (args1 (.inl ⟨_, rfl⟩) hs (hq g1 al _ _ E S1 fun v h2 tk2 g2 S2 X2 R2 => ?_))
  have ct := S2.read (R1.mono X2.le) hr
  simp only [CtR] at ct
  refine ex_3_3 (ct) fun ad' vs' n' e ho' hl' => ?_
  cases e
  refine heap_append ho' (by rw [hl'.len]; exact hz) fun h3 m ho3 same => ?_
  obtain ⟨S3, X3⟩ := S2.wr (h' := h3) (X1.trans X2) (R1.mono X2.le) hw ho3 (by simp only [ObR]; exact ⟨_, m, rfl, hl'.snoc R2⟩) same
  exact k _ h3 tk2 g2 al S3 X3 trivial
theorem wpS_setIdx_list {p : Pl} {us : List AV} {n : Int} {q1 : Pos} (hv : plainVal z = true) (hx : WpE prog w K hb A f l c z a c1) (hp : WpP prog w K hb A f l c1 x p c2) (hq : WpE prog w K hb A f l c2 y (.int n) c3) (hr : p.read l c3 = some (.list us)) (h0 : 0 ≤ n) (h1 : n < us.length) (hz : us.length ≤ lim)
    (hw : p.write l c3 (.list (us.set n.toNat a)) = some (l', c')) : WpS prog w K hb A f l c (exec (.Assign [.Subscript x y q1] z pos) f.env) .next l' c' := by
  intro g al s Q E S k
  refine wpAny_Assign_Subscript (hx g al s _ E S fun v h1' tk1 g1 S1 X1 R1 => hp g1 al _ _ E S1 fun u h2 tk2 g2 S2 X2 R2 => hq g2 al _ _ E S2 fun i h3 tk3 g3 S3 X3 R3 => ?_) (swaps_plain hv)
  have R2' := R2.mono X3.le
  have ct := S3.read R2' hr
  simp only [CtR] at ct
  refine ex_3_3 (ct) fun ad vs m eq0 ho hl => ?_
  subst eq0
  obtain ⟨t, rfl⟩ := Rp.int_iff.mp R3
  refine heap_setList ho h0 (by rw [hl.len]; exact h1) (by rw [hl.len]; exact hz) fun h4 m' ho4 same => ?_
  have hset : ∀ {as : List AV} {vs : List Value} (j : Nat) {a : AV} {v : Value}, RpL w K g3 as vs → Rp w K g3 a v → RpL w K g3 (as.set j a) (vs.set j v) := by
    intro as
    induction as with
    | nil => intro vs j a v h _; simp only [RpL] at h; subst h; simp [RpL]
    | cons b as ih =>
      intro vs j a v h ha
      simp only [RpL] at h
      obtain ⟨u, r, rfl, hu, h⟩ := h
      cases j with
      | zero => simp only [List.set_cons_zero, RpL]; exact ⟨v, r, rfl, ha, h⟩
      | succ j => simp only [List.set_cons_succ, RpL]; exact ⟨u, _, rfl, hu, ih j h ha⟩
  obtain ⟨S4, X4⟩ := S3.wr (h' := h4) ((X1.trans X2).trans X3) R2' hw ho4 (by simp only [ObR]; exact ⟨_, m', rfl, hset _ hl (R1.mono w K (X2.trans X3).le _ _)⟩) same
  exact k _ h4 tk3 g3 al S4 X4 trivial
theorem wpS_setIdx_dict {p : Pl} {ks : List Str} {us : List AV} {n : Str} {q1 : Pos} (hv : plainVal z = true) (hx : WpE prog w K hb A f l c z a c1) (hp : WpP prog w K hb A f l c1 x p c2) (hq : WpE prog w K hb A f l c2 y (.str n) c3) (hr : p.read l c3 = some (.dict ks us)) (hz : ks.length ≤ lim)
    (hw : p.write l c3 (.dict (dput ks us n a).1 (dput ks us n a).2) = some (l', c')) : WpS prog w K hb A f l c (exec (.Assign [.Subscript x y q1] z pos) f.env) .next l' c' := by
  intro g al s Q E S k
  refine wpAny_Assign_Subscript (hx g al s _ E S fun v h1' tk1 g1 S1 X1 R1 => hp g1 al _ _ E S1 fun u h2 tk2 g2 S2 X2 R2 => hq g2 al _ _ E S2 fun i h3 tk3 g3 S3 X3 R3 => ?_) (swaps_plain hv)
  have R2' := R2.mono X3.le
  have ct := S3.read R2' hr
  simp only [CtR] at ct
  refine ex_3_6 (ct) fun ad es m eq0 ho he hl nd hsy => ?_
  subst eq0
  obtain ⟨t, rfl⟩ := Rp.str_iff.mp R3
  refine heap_setDict (prog := prog) (w := w) (K := K) ho he hl nd hsy hz (R1.mono w K (X2.trans X3).le _ _) fun h4 o tk4 ho4 hr4 same => ?_
  obtain ⟨S4, X4⟩ := S3.wr (h' := h4) ((X1.trans X2).trans X3) R2' hw ho4 hr4 same
  exact k _ h4 tk4 g3 al S4 X4 trivial

theorem RpL.dropLast {g : Gh} {as : List AV} {vs : List Value} (r : RpL w K g as vs) : RpL w K g as.dropLast vs.dropLast := by
  rw [List.dropLast_eq_take, List.dropLast_eq_take, r.len]
  exact r.take _
theorem RpL.last {g : Gh} {as : List AV} {vs : List Value} (r : RpL w K g as vs) (h : as.getLast? = some a) : ∃ v, vs.getLast? = some v ∧ Rp w K g a v := by
  rw [List.getLast?_eq_getElem?] at h ⊢
  rw [r.len]
  exact r.at h
theorem wpS_popT {is : List Nat} {es : List Expr} {k1 : Nat} {np apos p2 : Pos} {d : Nat} {p : Pl} {us ts : List AV} {lm : Loc} (O : EnvOk f) (hA : AOk A d) (T : Tgts f is es) (hb' : notBare x = true) (hline : (apos.endLine == p2.line) = true) (hp : WpP prog w K hb A f l c x p c1) (hr : p.read l c1 = some (.list us)) (hz : us.length ≤ lim) (ht : lastTup us = some ts)
    (hw : p.write l c1 (.list us.dropLast) = some (lm, c')) (hl : setAll is ts lm = some l') :
    WpS prog w K hb A f l c (exec (.Assign [.Tuple es k1 np] (.Call (.Attribute x "pop" apos) [] [] p2) pos) f.env) .next l' c' := by
  intro g al s Q E S k
  refine wpAny_Assign_stores ?_ (by unfold swapsWithSole; exact swaps_plain rfl) (by unfold swappedStores; rfl)
  refine call_attr hb' rfl (by decide) hline (hp g al s _ E S fun u h1 tk1 g1 S1 X1 R1 _ => ?_)
  have ct := S1.read R1 hr
  simp only [CtR] at ct
  refine ex_3_3 (ct) fun ad vs n eq0 ho hl' => ?_
  subst eq0
  refine list_meth ho PySem.F.slot_list_pop PySem.F.type_list_pop ?_
  unfold lastTup at ht
  split at ht
  case h_2 => cases ht
  rename_i tt hlast
  cases ht
  refine ex_1_2 (hl'.last hlast) fun v hv rv => ?_
  refine callWith_b (as := []) rfl wpL_nil S1 fun ws h2 tk2 g2 S2 X2 R2 => ?_
  simp only [RpL] at R2
  subst R2
  -- nothing has happened between
  have ct2 := S2.read (R1.mono X2.le) hr
  simp only [CtR] at ct2
  refine ex_3_3 (ct2) fun ad' vs2 n2 e ho2 hl2 => ?_
  cases e
  refine ex_1_2 (hl2.last hlast) fun v2 hv2 rv2 => ?_
  refine heap_pop ho2 hv2 (by rw [hl2.len]; exact hz) fun h3 m ho3 same => ?_
  obtain ⟨S3, X3⟩ := S2.wr (h' := h3) (X1.trans X2) (R1.mono X2.le) hw ho3 (by simp only [ObR]; exact ⟨_, m, rfl, hl2.dropLast⟩) same
  show wpAny _ _ (assign (.Tuple es k1 np) f.env v2) _ _ _
  exact wpBindT O hA T lm l' c' g2 al _ _ E (.tup ts) v2 hl S3 rv2 fun h' tk al' S' X' => k _ h' tk g2 al' S' (X3.trans X') trivial

theorem wpS_delFrom {p : Pl} {us : List AV} {n : Int} {nm : Str} {np q1 q2 : Pos} (hp : WpP prog w K hb A f l c (.Name nm np) p c1) (hq : WpE prog w K hb A f l c1 y (.int n) c2) (hr : p.read l c2 = some (.list us)) (h0 : 0 ≤ n) (h1 : n ≤ us.length) (hz : us.length ≤ lim)
    (hw : p.write l c2 (.list (us.take n.toNat)) = some (l', c')) : WpS prog w K hb A f l c (exec (.Delete [.Subscript (.Name nm np) (.Slice (some y) none none q1) q2] pos) f.env) .next l' c' := by
  intro g al s Q E S k
  refine wpAny_Delete (wpAny_bind ?_)
  show wpAny _ _ (eval (.Name nm np) f.env >>= _) _ _ _
  refine wpAny_bind (hp g al s _ E S fun u h1' tk1 g1 S1 X1 R1 => ?_)
  refine wpAny_bind (wpAny_holding (wpAny_Slice (wpAny_evalPart_some (hq g1 al _ _ E S1 fun v h2 tk2 g2 S2 X2 R2 => wpAny_evalPart_none (wpAny_evalPart_none ?_)))))
  have R1' := R1.mono X2.le
  have ct := S2.read R1' hr
  simp only [CtR] at ct
  refine ex_3_3 (ct) fun ad vs m eq0 ho hl => ?_
  subst eq0
  obtain ⟨t', rfl⟩ := Rp.int_iff.mp R2
  obtain ⟨j, rfl⟩ : ∃ j : Nat, n = j := ⟨n.toNat, by lia⟩
  have S3 := S2.push ⟨.type "slice", none, .fields #[.int j t', .none, .none], #[]⟩
  have X3 := (X1.trans X2).trans (.push g2 _ h2 ⟨.type "slice", none, .fields #[.int j t', .none, .none], #[]⟩)
  have hslice : (h2.push ⟨.type "slice", none, .fields #[.int j t', .none, .none], #[]⟩).IsSliceOf h2.objs.size (.int j t') .none .none := Heap.IsSliceOf.new ..
  refine wpAny_bind (wpAny_standAt (wpAny_bind (wpAny_holding (heap_delFrom (j := j) (Heap.get?_push_of_some _ ho) hslice (by rw [hl.len]; lia) (by rw [hl.len]; exact hz) fun h4 m' ho4 same => ?_))))
  obtain ⟨S4, X4⟩ := S3.wr (h' := h4) X3 R1' hw ho4 (by simp only [ObR, Int.toNat_natCast]; exact ⟨_, m', rfl, hl.take j⟩) same
  refine wpAny_mono (wpAny_release ?_) (fun _ _ e => e) fun _ _ e => e
  exact wpAny_pure (k _ h4 tk2 g2 al S4 X4 trivial)
end Mine
end
section
open PySem PySem.W PySem.Calls PyProof.Rows
set_option Elab.async false
set_option maxRecDepth 100000
set_option linter.unusedVariables false
namespace Mine
variable {prog : Program} {w : World} {K : Frag} {hb : Heap} {A : Around} {f : Frm} {l l' l1 l2 : Loc} {c c' c1 c2 c3 : Cells} {x y z : Expr} {pos : Pos} {a b : AV}

/-! ghosts: what is turned no more; what is shared from now on -/
theorem St.unown {g g' : Gh} {al : Nat → Addr} {h : Heap} {i : Nat} {b : AV} (S : St w K hb f g al l c h) (hl : l.at i = .own a) (le : g.Le g') (hb' : Rp w K g' b (.ref (al i))) (hφ : ∀ d o, g'.φ d = some o → g.φ d = some o ∨ (d = al i ∧ h.get? d = some o)) (hcs : g'.cs = g.cs) :
    St w K hb f g' al (l.set i (.val b)) c h := by
  have hi := Loc.own_lt hl
  have at_i : Loc.at (l.set i (.val b)) i = .val b := by rw [Loc.at_set, if_pos ⟨rfl, hi⟩]
  have at_j : ∀ j, j ≠ i → Loc.at (l.set i (.val b)) j = l.at j := fun j hj => by rw [Loc.at_set, if_neg fun q => hj q.1.symm]
  have ownJ : ∀ j a', Loc.at (l.set i (.val b)) j = .own a' → j ≠ i ∧ l.at j = .own a' := fun j a' e => by
    by_cases q : j = i
    · cases q; rw [at_i] at e; cases e
    · exact ⟨q, by rw [at_j j q] at e; exact e⟩
  have mm : ∀ d, MutA f al g'.cs (l.set i (.val b)) d → MutA f al g.cs l d ∧ d ≠ al i := fun d m => by
    rw [hcs] at m
    cases m with
    | loc => exact ⟨.loc, (S.own_loc i a hl).symm⟩
    | cv e => exact ⟨.cv e, (S.own_cv i a _ _ hl e).symm⟩
    | own e => obtain ⟨q, e⟩ := ownJ _ _ e; exact ⟨.own e, fun z => q (S.own_ne _ i _ a e hl z)⟩
    | cell e => exact ⟨.cell e, fun z => S.own_cell i a hl (z ▸ e)⟩
  have lvr : ∀ j ov, LVR w K g al j (l.at j) ov → LVR w K g' al j (Loc.at (l.set i (.val b)) j) ov := fun j ov r => by
    by_cases q : j = i
    · cases q
      rw [at_i]; rw [hl] at r
      exact ⟨_, r, hb'⟩
    · rw [at_j j q]; exact LVR.mono w K le r
  exact {
    fz := fun d o e => (hφ d o e).elim (fun e => S.fz d o e) fun e => e.2
    base := fun d o e => le.φ d o (S.base d o e)
    mfree := fun d m => by
      obtain ⟨m, ne⟩ := mm d m
      cases q : g'.φ d with
      | none => rfl
      | some o =>
        rcases hφ d o q with e | ⟨e, _⟩
        · rw [S.mfree d m] at e; cases e
        · exact absurd e ne
    ns := by
      refine ex_1_2 (S.ns) fun m hm hv => ?_
      exact ⟨m, hm, fun j x hx hk => lvr j _ (hv j x hx hk)⟩
    cv := fun x k e => by
      refine ex_1_2 (S.cv x k e) fun v hc hv => ?_
      exact ⟨v, hc, fun j hx hk => lvr j _ (hv j hx hk)⟩
    len := by rw [List.length_set]; exact S.len
    own := fun j a' e => by
      obtain ⟨q, e⟩ := ownJ j a' e
      refine ex_1_2 (S.own j a' e) fun o ho hr => ?_
      exact ⟨o, ho, hr.mono w K le⟩
    clen := by rw [hcs]; exact S.clen
    cel := fun k a' e => by
      refine ex_2_3 (S.cel k a' e) fun d o hd ho hr => ?_
      exact ⟨d, o, by rw [hcs]; exact hd, ho, hr.mono w K le⟩
    own_ne := fun j k a' b' e e' z => S.own_ne j k _ _ (ownJ j a' e).2 (ownJ k b' e').2 z
    own_loc := fun j a' e => S.own_loc j a' (ownJ j a' e).2
    own_cv := fun j a' x k e e' => S.own_cv j a' x k (ownJ j a' e).2 e'
    own_cell := fun j a' e => by rw [hcs]; exact S.own_cell j a' (ownJ j a' e).2
    loc_cell := by rw [hcs]; exact S.loc_cell
    cv_cell := by rw [hcs]; exact S.cv_cell
    cv_loc := S.cv_loc, cv_inj := S.cv_inj
    cnd := by rw [hcs]; exact S.cnd
    sys := fun d m => S.sys d (mm d m).1 }
theorem unown_mm {g : Gh} {al : Nat → Addr} {i : Nat} {b : AV} : ∀ d, MutA f al g.cs (l.set i (.val b)) d → MutA f al g.cs l d := fun d m => by
  cases m with
  | loc => exact .loc
  | cv e => exact .cv e
  | @own j a e =>
    rw [Loc.at_set] at e
    split at e
    · cases e
    · exact .own e
  | cell e => exact .cell e
theorem St.freezeI {g : Gh} {al : Nat → Addr} {h : Heap} {i : Nat} (S : St w K hb f g al l c h) (hl : l.at i = .own a) : ∃ g', St w K hb f g' al (l.set i (.val a)) c h ∧ Ext g (MutA f al g.cs l) h g' (MutA f al g'.cs (l.set i (.val a))) h := by
  refine ex_1_2 (S.own i a hl) fun o ho hr => ?_
  have mu : MutA f al g.cs l (al i) := .own hl
  have hf := S.mfree _ mu
  have le := frz_le (o := o) hf
  refine ⟨frz g (al i) o, S.unown hl le (hr.rp hf (S.sys _ mu)) (fun d o' e => ?_) rfl, fun _ _ e _ => e, fun d m => .inl (unown_mm d m), le, fun _ e => e, fun d e n _ => ?_⟩
  · have e : (if d = al i then some o else g.φ d) = some o' := e
    by_cases q : d = al i
    · rw [if_pos q] at e; cases e; exact .inr ⟨q, q ▸ ho⟩
    · rw [if_neg q] at e; exact .inl e
  · show (if d = al i then some o else g.φ d) = none
    rw [if_neg fun q : d = al i => n (q ▸ mu)]; exact e
noncomputable def addC (g : Gh) (a : Addr) : Gh := { g with cs := g.cs ++ [a] }
theorem addC_le (g : Gh) (a : Addr) : g.Le (addC g a) := ⟨fun _ _ e => e, [a], rfl⟩
theorem St.promoteI {g : Gh} {al : Nat → Addr} {h : Heap} {i : Nat} (S : St w K hb f g al l c h) (hl : l.at i = .own a) :
    St w K hb f (addC g (al i)) al (l.set i (.val (.cell c.length))) (c ++ [a]) h ∧ Ext g (MutA f al g.cs l) h (addC g (al i)) (MutA f al (addC g (al i)).cs (l.set i (.val (.cell c.length)))) h := by
  refine ex_1_2 (S.own i a hl) fun o ho hr => ?_
  have mu : MutA f al g.cs l (al i) := .own hl
  have hi := Loc.own_lt hl
  have le := addC_le g (al i)
  have at_i : Loc.at (l.set i (.val (.cell c.length))) i = .val (.cell c.length) := by rw [Loc.at_set, if_pos ⟨rfl, hi⟩]
  have at_j : ∀ j, j ≠ i → Loc.at (l.set i (.val (.cell c.length))) j = l.at j := fun j hj => by rw [Loc.at_set, if_neg fun q => hj q.1.symm]
  have ownJ : ∀ j a', Loc.at (l.set i (.val (.cell c.length))) j = .own a' → j ≠ i ∧ l.at j = .own a' := fun j a' e => by
    by_cases q : j = i
    · cases q; rw [at_i] at e; cases e
    · exact ⟨q, by rw [at_j j q] at e; exact e⟩
  have mm : ∀ d, MutA f al (g.cs ++ [al i]) (l.set i (.val (.cell c.length))) d → MutA f al g.cs l d := fun d m => by
    cases m with
    | loc => exact .loc
    | cv e => exact .cv e
    | own e => exact .own (ownJ _ _ e).2
    | cell e =>
      rcases List.mem_append.mp e with e | e
      · exact .cell e
      · rw [List.mem_singleton.mp e]; exact mu
  have lvr : ∀ j ov, LVR w K g al j (l.at j) ov → LVR w K (addC g (al i)) al j (Loc.at (l.set i (.val (.cell c.length))) j) ov := fun j ov r => by
    by_cases q : j = i
    · subst q
      rw [at_i]; rw [hl] at r
      refine ⟨_, r, ?_⟩
      simp only [Rp]
      refine ⟨_, rfl, ?_⟩
      show (g.cs ++ [al j])[c.length]? = some (al j)
      rw [S.clen]; simp
    · rw [at_j j q]; exact LVR.mono w K le r
  refine ⟨{
    fz := S.fz, base := S.base, mfree := fun d m => S.mfree d (mm d m)
    ns := by
      refine ex_1_2 (S.ns) fun m hm hv => ?_
      exact ⟨m, hm, fun j x hx hk => lvr j _ (hv j x hx hk)⟩
    cv := fun x k e => by
      refine ex_1_2 (S.cv x k e) fun v hc hv => ?_
      exact ⟨v, hc, fun j hx hk => lvr j _ (hv j hx hk)⟩
    len := by rw [List.length_set]; exact S.len
    own := fun j a' e => by
      obtain ⟨q, e⟩ := ownJ j a' e
      refine ex_1_2 (S.own j a' e) fun o ho hr => ?_
      exact ⟨o, ho, hr.mono w K le⟩
    clen := by show (c ++ [a]).length = (g.cs ++ [al i]).length; rw [List.length_append, List.length_append, S.clen]; rfl
    cel := fun k a' e => by
      show ∃ b o, (g.cs ++ [al i])[k]? = some b ∧ _
      by_cases q : k < c.length
      · rw [List.getElem?_append_left q] at e
        refine ex_2_3 (S.cel k a' e) fun d o hd ho hr => ?_
        exact ⟨d, o, by rw [List.getElem?_append_left (by rw [← S.clen]; exact q)]; exact hd, ho, hr.mono w K le⟩
      · rw [List.getElem?_append_right (by lia)] at e
        have hk : k = c.length := by
          have := (List.getElem?_eq_some_iff.mp e).1
          simp at this; grind
        subst hk
        simp only [Nat.sub_self, List.getElem?_cons_zero, Option.some.injEq] at e
        subst e
        exact ⟨al i, o, by rw [S.clen]; simp, ho, hr.mono w K le⟩
    own_ne := fun j k a' b' e e' z => S.own_ne j k _ _ (ownJ j a' e).2 (ownJ k b' e').2 z
    own_loc := fun j a' e => S.own_loc j a' (ownJ j a' e).2
    own_cv := fun j a' x k e e' => S.own_cv j a' x k (ownJ j a' e).2 e'
    own_cell := fun j a' e z => by
      obtain ⟨q, e⟩ := ownJ j a' e
      rcases List.mem_append.mp z with z | z
      · exact S.own_cell j a' e z
      · exact q (S.own_ne j i _ _ e hl (List.mem_singleton.mp z))
    loc_cell := fun z => by
      rcases List.mem_append.mp z with z | z
      · exact S.loc_cell z
      · exact S.own_loc i a hl (List.mem_singleton.mp z).symm
    cv_cell := fun x k e z => by
      rcases List.mem_append.mp z with z | z
      · exact S.cv_cell x k e z
      · exact S.own_cv i a x k hl e (List.mem_singleton.mp z).symm
    cv_loc := S.cv_loc, cv_inj := S.cv_inj
    cnd := by
      show (g.cs ++ [al i]).Nodup
      rw [List.nodup_append]
      exact ⟨S.cnd, by simp, fun p hp q hq e => S.own_cell i a hl (by rw [List.mem_singleton.mp hq] at e; exact e ▸ hp)⟩
    sys := fun d m => S.sys d (mm d m) }, fun _ _ e _ => e, fun d m => .inl (mm d m), le, fun _ e => e, fun d e _ _ => e⟩
/-- ghost steps stand ahead of any block -/
theorem WpX.ghost {α β : Type} {t : Sem α} {R : Gh → (Addr → Prop) → Heap → Heap → β → α → Prop} {r : β} (hR : ∀ g g' g'' mu mu' mu'' h0 h1 h2 v, Ext g mu h0 g' mu' h1 → R g'' mu'' h1 h2 r v → R g'' mu'' h0 h2 r v)
    (hs : ∀ (g : Gh) (al : Nat → Addr) (h : Heap), St w K hb f g al l c h → ∃ g', St w K hb f g' al l1 c1 h ∧ Ext g (MutA f al g.cs l) h g' (MutA f al g'.cs l1) h) (q : WpX prog w K hb A f l1 c1 t R r l2 c2) : WpX prog w K hb A f l c t R r l2 c2 := by
  intro g al s Q E S k
  refine ex_1_2 (hs g al s.heap S) fun g1 S1 X1 => ?_
  exact q g1 al s Q E S1 fun v h2 tk2 g2 al2 S2 X2 R2 => k v h2 tk2 g2 al2 S2 (X1.trans X2) (hR _ _ _ _ _ _ _ _ _ _ X1 R2)

/-! loops -/
structure LoopSt (prog : Program) (w : World) (K : Frag) (hb : Heap) (A : Around) (f : Frm) (g0 : Gh) (mu0 : Addr → Prop) (h0 : Heap) (l : Loc) (c : Cells) (h : Heap) (g : Gh) (al : Nat → Addr) : Prop where
  st : St w K hb f g al l c h
  ext : Ext g0 mu0 h0 g (MutA f al g.cs l) h
/-- what an iterator is, while the loop goes on -/
noncomputable def ItrAt (prog : Program) (w : World) (K : Frag) (A : Around) (g : Gh) (mu : Addr → Prop) (B : Addr → Prop) (h : Heap) (xs : List AV) (I : Addr) (fp wr : List Addr) (P : Nat → Value → Prop) (Sx : Nat → Heap → Prop) (i : Nat) : Prop :=
  Sx i h ∧ (∀ (i : Nat) v, i < xs.length → P i v → ∃ a, xs[i]? = some a ∧ Rp w K g a v) ∧ (∀ b ∈ wr, g.φ b = none ∧ B b) ∧ (∀ b ∈ fp, ¬ mu b ∧ h.get? b ≠ none)
theorem ItrAt.ext {g g' : Gh} {mu mu' : Addr → Prop} {B : Addr → Prop} {h h' : Heap} {xs : List AV} {I : Addr} {fp wr : List Addr} {P : Nat → Value → Prop} {Sx : Nat → Heap → Prop} {i : Nat} (W : Walks prog w A I fp wr xs.length P Sx) (T : ItrAt prog w K A g mu B h xs I fp wr P Sx i) (X : Ext g mu h g' mu' h') :
    ItrAt prog w K A g' mu' B h' xs I fp wr P Sx i := by
  refine ex_0_4 (T) fun t1 t2 t3 t4 => ?_
  refine ⟨W.frame i _ _ t1 fun b hb o e => X.keep b o e (t4 b hb).1, fun j v hj hv => ?_, fun b hb => ?_, fun b hb => ?_⟩
  · refine ex_1_2 (t2 j v hj hv) fun a ha r => ?_
    exact ⟨a, ha, r.mono w K X.le _ _⟩
  · exact ⟨X.cool b (t3 b hb).1 (t4 b (W.sub b hb)).1 (t4 b (W.sub b hb)).2, (t3 b hb).2⟩
  · exact ⟨fun m => (X.grow b m).elim (t4 b hb).1 (t4 b hb).2, X.live b (t4 b hb).2⟩
/-- one pull at the iterator -/
theorem pull_st {g g0 : Gh} {mu0 : Addr → Prop} {al : Nat → Addr} {h0 h h' : Heap} {fp wr : List Addr} (S : St w K hb f g al l c h) (X : Ext g0 mu0 h0 g (MutA f al g.cs l) h) (sub : ∀ b ∈ wr, b ∈ fp) (t3 : ∀ b ∈ wr, g.φ b = none ∧ h0.get? b = none) (t4 : ∀ b ∈ fp, ¬ MutA f al g.cs l b ∧ h.get? b ≠ none)
    (k : ∀ b o, b ∉ wr → h.get? b = some o → h'.get? b = some o) : St w K hb f g al l c h' ∧ Ext g0 mu0 h0 g (MutA f al g.cs l) h' := by
  refine ⟨S.touch fun b o m e => k b o (fun hb => ?_) e, fun b o e n => ?_, X.grow, X.le, fun b e => ?_, X.cool⟩
  · rcases m with m | m
    · exact m (t3 b hb).1
    · exact (t4 b (sub b hb)).1 m
  · exact k b o (fun hb => by rw [(t3 b hb).2] at e; cases e) (X.keep b o e n)
  · have l1 := X.live b e
    cases q : h.get? b with
    | none => exact absurd q l1
    | some o =>
      rw [k b o (fun hb => e (t3 b hb).2) q]; exact fun z => nomatch z
noncomputable def plainIter (x : Expr) : Bool := x.ctorIdx != 7
theorem folded_plain {e : Expr} {env : Env} (h : plainIter e = true) : ∀ x, foldedSetIterable e env x = pure x := by
  intro x
  cases e <;> first | rfl | exact noB h
/-- the loop's state ahead of turn i -/
structure FAt (prog : Program) (w : World) (K : Frag) (hb : Heap) (A : Around) (f : Frm) (l' : Loc) (c' : Cells) (bind : AV → Loc → Option Loc) (F : Loc → Cells → Option (Fl × Loc × Cells)) (r : Fl) (xs : List AV) (g0 : Gh) (mu0 : Addr → Prop) (s : Shared) (I : Addr) (fp wr : List Addr) (P : Nat → Value → Prop) (Sx : Nat → Heap → Prop) (i : Nat) (g : Gh) (al : Nat → Addr) (li : Loc) (ci : Cells) (h : Heap) : Prop where
  le : i ≤ xs.length
  st : St w K hb f g al li ci h
  ext : Ext g0 mu0 s.heap g (MutA f al g.cs li) h
  itr : ItrAt prog w K A g (MutA f al g.cs li) (fun b => s.heap.get? b = none) h xs I fp wr P Sx i
  run : forL F bind (xs.drop i) li ci = some (r, l', c')
noncomputable def FInv (prog : Program) (w : World) (K : Frag) (hb : Heap) (A : Around) (f : Frm) (l' : Loc) (c' : Cells) (bind : AV → Loc → Option Loc) (F : Loc → Cells → Option (Fl × Loc × Cells)) (r : Fl) (xs : List AV) (g0 : Gh) (mu0 : Addr → Prop) (s : Shared) (I : Addr) (fp wr : List Addr) (P : Nat → Value → Prop) (Sx : Nat → Heap → Prop) (n : Nat) (s' : Shared) : Prop :=
  ∃ (i : Nat) (g : Gh) (al : Nat → Addr) (li : Loc) (ci : Cells) (h : Heap) (tk : Nat), s' = { s with heap := h, toks := tk } ∧ n = xs.length + 1 - i ∧ FAt prog w K hb A f l' c' bind F r xs g0 mu0 s I fp wr P Sx i g al li ci h
section
variable {bind : AV → Loc → Option Loc} {F : Loc → Cells → Option (Fl × Loc × Cells)} {r : Fl} {xs : List AV} {g0 : Gh} {mu0 : Addr → Prop} {s : Shared} {I : Addr} {fp wr : List Addr} {P : Nat → Value → Prop} {Sx : Nat → Heap → Prop}
theorem FInv.on {n : Nat} {s' : Shared} {G : Prop} (H : FInv prog w K hb A f l' c' bind F r xs g0 mu0 s I fp wr P Sx n s') (k : ∀ i g al li ci h tk, s' = { s with heap := h, toks := tk } → n = xs.length + 1 - i → FAt prog w K hb A f l' c' bind F r xs g0 mu0 s I fp wr P Sx i g al li ci h → G) : G := by
  refine ex_7_3 (H) fun i g al li ci h tk e hn C => ?_
  exact k i g al li ci h tk e hn C
theorem turn_lt {i j m : Nat} (h : i + 1 ≤ m) (hj : j = m + 1 - i) : m + 1 - (i + 1) < j := by grind
theorem FAt.next {i j : Nat} {g : Gh} {al : Nat → Addr} {li : Loc} {ci : Cells} {h : Heap} {tk : Nat} (C : FAt prog w K hb A f l' c' bind F r xs g0 mu0 s I fp wr P Sx (i + 1) g al li ci h) (hj : j = xs.length + 1 - i) : ∃ m, m < j ∧ FInv prog w K hb A f l' c' bind F r xs g0 mu0 s I fp wr P Sx m { s with heap := h, toks := tk } :=
  ⟨_, turn_lt C.le hj, i + 1, g, al, li, ci, h, tk, rfl, rfl, C⟩
theorem drop_at {i : Nat} {a : AV} (hlt : i < xs.length) (ha : xs[i]? = some a) : xs.drop i = a :: xs.drop (i + 1) := by
  rw [List.drop_eq_getElem_cons hlt]
  rw [List.getElem?_eq_getElem hlt] at ha
  rw [Option.some.inj ha]
end
theorem wpS_for {tgt it : Expr} {body : List Stmt} {xs : List AV} {bind : AV → Loc → Option Loc} {F : Loc → Cells → Option (Fl × Loc × Cells)} {r : Fl} (hit : plainIter it = true) (hI : WpI prog w K hb A f l c it xs c1) (B : WpBind prog w K hb A f tgt bind)
    (hbody : ∀ l c r l2 c2, F l c = some (r, l2, c2) → WpS prog w K hb A f l c (execs body f.env) r l2 c2) (hr : forL F bind xs l c1 = some (r, l', c')) : WpS prog w K hb A f l c (exec (.For tgt it body [] pos) f.env) r l' c' := by
  intro g0 al0 s Q E S0 k
  refine wpAny_For (hI g0 al0 s _ E S0 fun iv h1 tk1 g1 S1 X1 T1 => ?_) (folded_plain hit)
  refine ex_5_8 (T1) fun I fp wr P Sx eq0 W st0 t2 t3 t4 hgo hlive => ?_
  subst eq0
  refine codeAny_forLoop_any (I := FInv prog w K hb A f l' c' bind F r xs g0 (MutA f al0 g0.cs l) s I fp wr P Sx) (fun n s' hinv => ?_) (xs.length + 1) ⟨0, g1, al0, l, c1, h1, tk1, rfl, rfl, Nat.zero_le _, S1, X1, ⟨st0, t2, t3, t4⟩, hr⟩
  refine hinv.on fun i g al li ci h tk e hn C => ?_
  subst e
  clear hinv
  have u3 := C.itr.2.2.1
  have u4 := C.itr.2.2.2
  by_cases hlt : i < xs.length
  · refine W.item i _ _ _ hlt C.itr.1 fun v h2 tk2 hP st2 hk => ?_
    have SX := pull_st (h' := h2) C.st C.ext W.sub u3 u4 hk
    have T2 : ItrAt prog w K A g (MutA f al g.cs li) (fun b => s.heap.get? b = none) h2 xs I fp wr P Sx (i + 1) := ⟨st2, C.itr.2.1, u3, fun b hb => ⟨(u4 b hb).1, hlive _ _ st2 b hb⟩⟩
    refine hgo (i + 1) _ v tgt _ _ st2 ?_
    refine (C.itr.2.1 i v hlt hP).elim fun a ha => ?_
    refine ob.on ((congrArg (fun q => forL F bind q li ci) (drop_at hlt ha.1)).symm.trans C.run) fun l2 hb2 hF => ?_
    refine B li l2 ci g al _ _ _ a v hb2 SX.1 ha.2 fun h3 tk3 al3 S3 X3 => ?_
    refine bd.on hF fun fl y hb3 hF => ?_
    refine hbody l2 ci fl y.1 y.2 hb3 g al3 _ _ _ S3 fun fv h4 tk4 g4 al4 S4 X4 R4 => ?_
    have X34 := X3.trans X4
    have X5 := SX.2.trans X34
    have T5 := T2.ext W X34
    revert hF
    refine FlR.on R4 ?_ ?_ ?_
    · exact fun hF => FAt.next ⟨hlt, S4, X5, T5, hF⟩ hn
    · exact fun hF => FAt.next ⟨hlt, S4, X5, T5, hF⟩ hn
    · intro rr vv R4 hF
      cases hF
      exact k _ h4 tk4 g4 al4 S4 X5 (RVR.fwd (SX.2.trans X3) R4)
  · have hie : xs.length = i := Nat.le_antisymm (Nat.le_of_not_lt hlt) C.le
    refine W.done _ _ _ (hie ▸ C.itr.1) fun h2 tk2 hk => ?_
    have SX := pull_st (h' := h2) C.st C.ext W.sub u3 u4 hk
    have hF := C.run
    rw [← hie, List.drop_length] at hF
    cases hF
    exact wpAny_execs_nil (k _ h2 tk2 g al SX.1 SX.2 trivial)
theorem wpS_while {body : List Stmt} {F : Loc → Cells → Option (Fl × Loc × Cells)} {T : Loc → Cells → Option (Bool × Cells)} {r : Fl} {n : Nat} (ht : ∀ l c b c2, T l c = some (b, c2) → WpT prog w K hb A f l c x b c2)
    (hbody : ∀ l c r l2 c2, F l c = some (r, l2, c2) → WpS prog w K hb A f l c (execs body f.env) r l2 c2) (hr : whileL T F n l c = some (r, l', c')) : WpS prog w K hb A f l c (exec (.While x body [] pos) f.env) r l' c' := by
  intro g0 al0 s Q E S0 k
  refine wpAny_While (codeAny_whileLoop (I := fun n s' => ∃ (g : Gh) (al : Nat → Addr) (li : Loc) (ci : Cells) (h : Heap) (tk : Nat), s' = { s with heap := h, toks := tk } ∧ St w K hb f g al li ci h ∧ Ext g0 (MutA f al0 g0.cs l) s.heap g (MutA f al g.cs li) h ∧
      whileL T F n li ci = some (r, l', c')) (fun n s' hinv => ?_) n ⟨g0, al0, l, c, s.heap, s.toks, rfl, S0, .refl .., hr⟩)
  refine ex_6_4 (hinv) fun g al li ci h tk eq0 S X hF => ?_
  subst eq0
  cases n with
  | zero => cases hF
  | succ n =>
    refine bd.on hF fun b c2 ht1 hF => ?_
    refine ht li ci b c2 ht1 g al _ _ _ S fun bv h1 tk1 g1 S1 X1 R1 => ?_
    subst R1
    cases bv with
    | false =>
      cases hF
      exact wpAny_execs_nil (k _ h1 tk1 g1 al S1 (X.trans X1) trivial)
    | true =>
      refine bd.on ((if_pos rfl).symm.trans hF) fun fl y hb3 hF => ?_
      refine hbody li c2 fl y.1 y.2 hb3 g1 al _ _ _ S1 fun fv h4 tk4 g4 al4 S4 X4 R4 => ?_
      have X5 := (X.trans X1).trans X4
      revert hF
      refine FlR.on R4 ?_ ?_ ?_
      · exact fun hF => ⟨n, Nat.lt_succ_self n, g4, al4, y.1, y.2, h4, tk4, rfl, S4, X5, hF⟩
      · exact fun hF => ⟨n, Nat.lt_succ_self n, g4, al4, y.1, y.2, h4, tk4, rfl, S4, X5, hF⟩
      · intro rr vv R4 hF
        cases hF
        exact k _ h4 tk4 g4 al4 S4 X5 (RVR.fwd (X.trans X1) R4)
end Mine
end
section
open PySem PySem.W PySem.Calls PyProof.Rows
set_option Elab.async false
set_option maxRecDepth 100000
set_option linter.unusedVariables false
namespace Mine
variable {prog : Program} {w : World} {K : Frag} {hb : Heap} {A : Around} {f f' : Frm} {l l' l1 l2 : Loc} {c c' c1 c2 c3 : Cells} {x y z : Expr} {pos : Pos} {a b : AV}

/-- as Ext, from a view of a heap -/
structure VExt (g : Gh) (mu : Addr → Prop) (v : Addr → Option Obj) (g' : Gh) (mu' : Addr → Prop) (h' : Heap) : Prop where
  keep : ∀ b o, v b = some o → ¬ mu b → h'.get? b = some o
  grow : ∀ b, mu' b → mu b ∨ v b = none
  le : g.Le g'
  live : ∀ b, v b ≠ none → h'.get? b ≠ none
  cool : ∀ b, g.φ b = none → ¬ mu b → v b ≠ none → g'.φ b = none
theorem VExt.trans {g g' g'' : Gh} {mu mu' mu'' : Addr → Prop} {v : Addr → Option Obj} {h' h'' : Heap} (x : VExt g mu v g' mu' h') (y : Ext g' mu' h' g'' mu'' h'') : VExt g mu v g'' mu'' h'' := by
  have nm : ∀ b, ¬ mu b → v b ≠ none → ¬ mu' b := fun b n e m => (x.grow b m).elim n e
  refine ⟨fun b o e n => ?_, fun b m => ?_, x.le.trans y.le, fun b e => y.live b (x.live b e), fun b e n k => ?_⟩
  · exact y.keep b o (x.keep b o e n) (nm b n (by rw [e]; exact fun q => nomatch q))
  · rcases y.grow b m with m | e
    · exact x.grow b m
    · refine .inr ?_
      cases q : v b with
      | none => rfl
      | some o => exact absurd e (x.live b (by rw [q]; exact fun q => nomatch q))
  · exact y.cool b (x.cool b e n k) (nm b n k) (x.live b k)
theorem Ext.view {g g' : Gh} {mu mu' : Addr → Prop} {h h' : Heap} (x : Ext g mu h g' mu' h') : VExt g mu h.get? g' mu' h' := ⟨x.keep, x.grow, x.le, x.live, x.cool⟩
theorem pull_v {g g0 : Gh} {mu0 : Addr → Prop} {al : Nat → Addr} {v : Addr → Option Obj} {h h' : Heap} {fp wr : List Addr} (S : St w K hb f g al l c h) (X : VExt g0 mu0 v g (MutA f al g.cs l) h) (sub : ∀ b ∈ wr, b ∈ fp) (t3 : ∀ b ∈ wr, g.φ b = none ∧ v b = none) (t4 : ∀ b ∈ fp, ¬ MutA f al g.cs l b ∧ h.get? b ≠ none)
    (k : ∀ b o, b ∉ wr → h.get? b = some o → h'.get? b = some o) : St w K hb f g al l c h' ∧ VExt g0 mu0 v g (MutA f al g.cs l) h' := by
  refine ⟨S.touch fun b o m e => k b o (fun hb => ?_) e, fun b o e n => ?_, X.grow, X.le, fun b e => ?_, X.cool⟩
  · rcases m with m | m
    · exact m (t3 b hb).1
    · exact (t4 b (sub b hb)).1 m
  · exact k b o (fun hb => by rw [(t3 b hb).2] at e; cases e) (X.keep b o e n)
  · have l1 := X.live b e
    cases q : h.get? b with
    | none => exact absurd q l1
    | some o =>
      rw [k b o (fun hb => e (t3 b hb).2) q]; exact fun z => nomatch z

/-! a block in a block -/
theorem St.leave {g g' gs : Gh} {al al' : Nat → Addr} {h0 h' hs : Heap} {mu0 mus : Addr → Prop} {v : Addr → Option Obj} (S : St w K hb f g al l c h0) (X0 : Ext gs mus hs g (MutA f al g.cs l) h0) (S' : St w K hb f' g' al' l' c' h') (X : VExt g mu0 v g' (MutA f' al' g'.cs l') h')
    (hv1 : ∀ d, MutA f al g.cs l d → v d = h0.get? d) (hv2 : ∀ d, hs.get? d ≠ none → v d = h0.get? d) (hmu : ∀ b, mu0 b → v b = none ∨ b ∈ g.cs ∨ ∃ x, f.env.cells.lookup x = some b)
    (hcv : ∀ x k, f.env.cells.lookup x = some k → mu0 k → k ∉ g'.cs ∧ g'.φ k = none ∧ ∃ v, h'.IsCell k v ∧ ∀ i, f.nm[i]? = some x → f.env.kindOf x = some .cell → LVR w K g' al i (l.at i) v) :
    St w K hb f g' al l c' h' ∧ Ext gs mus hs g' (MutA f al g'.cs l) h' := by
  have vl : ∀ {d}, MutA f al g.cs l d → v d ≠ none := fun m => by rw [hv1 _ m]; exact S.live m
  have nloc : ¬ mu0 f.env.locals := fun m => by
    rcases hmu _ m with e | e | ⟨x, e⟩
    · exact vl .loc e
    · exact S.loc_cell e
    · exact S.cv_loc x _ e rfl
  have nown : ∀ i a, l.at i = .own a → ¬ mu0 (al i) := fun i a hi m => by
    rcases hmu _ m with e | e | ⟨x, e⟩
    · exact vl (.own hi) e
    · exact S.own_cell i a hi e
    · exact S.own_cv i a x _ hi e rfl
  have newcs : ∀ b, b ∈ g'.cs → v b ≠ none → mu0 b := fun b hb lv => (X.grow b (.cell hb)).elim id fun e => absurd e lv
  have keepL : ∀ {d o}, MutA f al g.cs l d → ¬ mu0 d → h0.get? d = some o → h'.get? d = some o := fun m n e => X.keep _ _ (by rw [hv1 _ m]; exact e) n
  have cool : ∀ {d}, MutA f al g.cs l d → ¬ mu0 d → g'.φ d = none := fun m n => X.cool _ (S.mfree _ m) n (vl m)
  have hmut : ∀ d, MutA f al g'.cs l d → MutA f al g.cs l d ∨ v d = none := fun d m => by
    cases m with
    | loc => exact .inl .loc
    | cv e => exact .inl (.cv e)
    | own e => exact .inl (.own e)
    | cell e =>
      by_cases q : v d = none
      · exact .inr q
      · rcases hmu d (newcs d e q) with z | z | ⟨x, z⟩
        · exact absurd z q
        · exact .inl (.cell z)
        · exact .inl (.cv z)
  refine ⟨{
    fz := S'.fz
    base := S'.base
    mfree := fun d m => by
      cases m with
      | loc => exact cool .loc nloc
      | @cv x k e =>
        by_cases q : mu0 d
        · exact (hcv x d e q).2.1
        · exact cool (.cv e) q
      | own e => exact cool (.own e) (nown _ _ e)
      | cell e => exact S'.mfree d (.cell e)
    ns := by
      refine ex_1_2 (S.ns) fun m hm hv => ?_
      exact ⟨m, hm.at' fun o e => keepL .loc nloc e, fun i x hx hk => LVR.mono w K X.le (hv i x hx hk)⟩
    cv := fun x k e => by
      by_cases q : mu0 k
      · obtain ⟨_, _, v, hv⟩ := hcv x k e q
        exact ⟨v, hv⟩
      · obtain ⟨v, ⟨o, ho, hd⟩, hv⟩ := S.cv x k e
        exact ⟨v, ⟨o, keepL (.cv e) q ho, hd⟩, fun i hx hk => LVR.mono w K X.le (hv i hx hk)⟩
    len := S.len
    own := fun i a e => by
      refine ex_1_2 (S.own i a e) fun o ho hr => ?_
      exact ⟨o, keepL (.own e) (nown i a e) ho, hr.mono w K X.le⟩
    clen := S'.clen
    cel := S'.cel
    own_ne := S.own_ne, own_loc := S.own_loc, own_cv := S.own_cv
    own_cell := fun i a e m => nown i a e (newcs _ m (vl (.own e)))
    loc_cell := fun m => nloc (newcs _ m (vl .loc))
    cv_cell := fun x k e m => by
      by_cases q : mu0 k
      · exact (hcv x k e q).1 m
      · exact q (newcs _ m (vl (.cv e)))
    cv_loc := S.cv_loc, cv_inj := S.cv_inj, cnd := S'.cnd
    sys := fun d m => by
      cases m with
      | loc => exact S.sys _ .loc
      | cv e => exact S.sys _ (.cv e)
      | own e => exact S.sys _ (.own e)
      | cell e => exact S'.sys d (.cell e) }, ?_⟩
  have sv : ∀ {d}, hs.get? d ≠ none → v d ≠ none := fun e => by rw [hv2 _ e]; exact X0.live _ e
  have nmu : ∀ {d}, ¬ mus d → hs.get? d ≠ none → ¬ MutA f al g.cs l d := fun n e m => (X0.grow _ m).elim n e
  have nmu0 : ∀ {d}, ¬ mus d → hs.get? d ≠ none → ¬ mu0 d := fun n e m => by
    rcases hmu _ m with z | z | ⟨x, z⟩
    · exact sv e z
    · exact nmu n e (.cell z)
    · exact nmu n e (.cv z)
  refine ⟨fun d o e n => ?_, fun d m => ?_, X0.le.trans X.le, fun d e => X.live d (sv e), fun d e n lv => X.cool d (X0.cool d e n lv) (nmu0 n lv) (sv lv)⟩
  · have lv : hs.get? d ≠ none := by rw [e]; exact fun q => nomatch q
    exact X.keep d o (by rw [hv2 d lv]; exact X0.keep d o e n) (nmu0 n lv)
  · rcases hmut d m with m | z
    · exact X0.grow d m
    · exact .inr (Classical.byContradiction fun q => sv q z)

theorem St.forget {g : Gh} {al : Nat → Addr} {h : Heap} (S : St w K hb f g al l c h) (hlen : l'.length = l.length) (hl : ∀ j, l'.at j = l.at j ∨ l'.at j = .un) : St w K hb f g al l' c h ∧ ∀ d, MutA f al g.cs l' d → MutA f al g.cs l d := by
  have own : ∀ j a, l'.at j = .own a → l.at j = .own a := fun j a e => by
    rcases hl j with q | q
    · rw [← q]; exact e
    · rw [q] at e; cases e
  have mm : ∀ d, MutA f al g.cs l' d → MutA f al g.cs l d := fun d m => by
    cases m with
    | loc => exact .loc
    | cv e => exact .cv e
    | own e => exact .own (own _ _ e)
    | cell e => exact .cell e
  have lvr : ∀ j ov, LVR w K g al j (l.at j) ov → LVR w K g al j (l'.at j) ov := fun j ov r => by
    rcases hl j with q | q
    · rw [q]; exact r
    · rw [q]; trivial
  refine ⟨{ S with
    mfree := fun d m => S.mfree d (mm d m)
    ns := by
      refine ex_1_2 (S.ns) fun m hm hv => ?_
      exact ⟨m, hm, fun j x hx hk => lvr j _ (hv j x hx hk)⟩
    cv := fun x k e => by
      refine ex_1_2 (S.cv x k e) fun v hc hv => ?_
      exact ⟨v, hc, fun j hx hk => lvr j _ (hv j hx hk)⟩
    len := hlen.trans S.len
    own := fun j a e => S.own j a (own j a e)
    own_ne := fun j k a b e e' z => S.own_ne j k a b (own j a e) (own k b e') z
    own_loc := fun j a e => S.own_loc j a (own j a e)
    own_cv := fun j a x k e => S.own_cv j a x k (own j a e)
    own_cell := fun j a e => S.own_cell j a (own j a e)
    sys := fun d m => S.sys d (mm d m) }, mm⟩

/-! what a comprehension's block sees -/
theorem mapM_at {α β : Type} {F : α → Option β} : ∀ {xs : List α} {ys : List β}, xs.mapM F = some ys → ys.length = xs.length ∧ ∀ (j : Nat) x, xs[j]? = some x → ∃ y, ys[j]? = some y ∧ F x = some y
  | [], ys, h => by simp at h; subst h; exact ⟨rfl, fun j x e => by simp at e⟩
  | x :: xs, ys, h => by
    rw [List.mapM_cons] at h
    cases q : F x with
    | none => rw [q] at h; cases h
    | some y =>
      rw [q] at h
      cases q2 : xs.mapM F with
      | none => rw [q2] at h; cases h
      | some zs =>
        rw [q2] at h
        cases h
        obtain ⟨h1, h2⟩ := mapM_at q2
        refine ⟨by simp [h1], fun j x' e => ?_⟩
        cases j with
        | zero => simp only [List.getElem?_cons_zero, Option.some.injEq] at e; subst e; exact ⟨y, rfl, q⟩
        | succ j => simpa using h2 j x' (by simpa using e)
theorem capt_at {caps : List Nat} (h : capt l caps = some l') : l'.length = l.length ∧ (∀ j, (j ∈ caps ∧ ∃ a, l.at j = .val a ∧ l'.at j = .val a) ∨ l'.at j = .un) ∧ (∀ j, j ∉ caps → l'.at j = .un) := by
  unfold capt at h
  obtain ⟨h1, h2⟩ := mapM_at h
  have key : ∀ j, (j ∈ caps ∧ ∃ a, l.at j = .val a ∧ l'.at j = .val a) ∨ (l'.at j = .un ∧ (j < l.length → j ∉ caps)) := fun j => by
    by_cases hj : j < l.length
    · refine ex_1_2 (h2 j j (by rw [List.getElem?_range hj])) fun y hy hF => ?_
      have e : l'.at j = y := by unfold Loc.at; rw [hy]; rfl
      rw [e]
      by_cases hc : caps.contains j = true
      · rw [if_pos hc] at hF
        cases hl : l.at j with
        | un => rw [hl] at hF; cases hF
        | own _ => rw [hl] at hF; cases hF
        | val a =>
          rw [hl] at hF
          cases hF
          exact .inl ⟨by simpa using hc, a, rfl, rfl⟩
      · rw [if_neg hc] at hF
        cases hF
        exact .inr ⟨rfl, fun _ => by simpa using hc⟩
    · have : l'.at j = .un := by
        unfold Loc.at
        rw [List.getElem?_eq_none (by rw [h1]; simpa using hj)]; rfl
      exact .inr ⟨this, fun q => absurd q hj⟩
  refine ⟨by rw [h1]; simp, fun j => ?_, fun j hj => ?_⟩
  · rcases key j with q | q
    · exact .inl q
    · exact .inr q.1
  · rcases key j with q | q
    · exact absurd q.1 hj
    · exact q.1

theorem capt_mem {caps : List Nat} (h : capt l caps = some l') {j : Nat} (hj : j ∈ caps) (hl : j < l.length) (e : l'.at j = .un) : False := by
  unfold capt at h
  obtain ⟨h1, h2⟩ := mapM_at h
  refine ex_1_2 (h2 j j (by rw [List.getElem?_range hl])) fun y hy hF => ?_
  have e' : l'.at j = y := by unfold Loc.at; rw [hy]; rfl
  rw [e] at e'
  rw [if_pos (by simpa using hj)] at hF
  split at hF
  · cases hF; cases e'
  · cases hF
noncomputable def clOf (env : Env) : List (Str × NameKind) → List (Str × Addr) → List (Str × Addr)
  | [], acc => acc
  | (n, .free) :: r, acc => clOf env r ((n, (env.cells.lookup n).getD 0) :: acc)
  | _ :: r, acc => clOf env r acc
theorem clOf_mem {env : Env} {p : Str × Addr} : ∀ {names : List (Str × NameKind)} {acc : List (Str × Addr)}, p ∈ clOf env names acc ↔ p ∈ acc ∨ ((p.1, NameKind.free) ∈ names ∧ p.2 = (env.cells.lookup p.1).getD 0)
  | [], acc => by simp [clOf]
  | (n, k) :: r, acc => by
    have ih := @clOf_mem env p r
    cases k <;> simp only [clOf, ih, List.mem_cons, Prod.mk.injEq, reduceCtorEq, and_false, false_or, and_true]
    constructor
    · rintro ((e | h) | ⟨h1, h2⟩)
      · subst e; exact .inr ⟨.inl rfl, rfl⟩
      · exact .inl h
      · exact .inr ⟨.inr h1, h2⟩
    · rintro (h | ⟨h1 | h1, h2⟩)
      · exact .inl (.inr h)
      · subst h1
        exact .inl (.inl (Prod.ext rfl h2))
      · exact .inr ⟨h1, h2⟩
theorem closure_loop {env : Env} : ∀ {names : List (Str × NameKind)} {acc : List (Str × Addr)}, (∀ p ∈ names, p.2 = .free → ∃ a, env.cells.lookup p.1 = some a) →
    (forIn names acc fun (x : Str × NameKind) (r : List (Str × Addr)) => (match x with | (name, kind) => if kind == .free then do let a ← cellOf env name; pure (ForInStep.yield ((name, a) :: r)) else pure (ForInStep.yield r) : Sem (ForInStep (List (Str × Addr))))) = pure (clOf env names acc)
  | [], acc, _ => rfl
  | (n, k) :: r, acc, h => by
    have ih := fun acc => @closure_loop env r acc fun p hp => h p (.tail _ hp)
    rw [List.forIn_cons]
    cases k
    case free =>
      obtain ⟨a, ha⟩ := h _ (.head _) rfl
      have e : cellOf env n = pure a := by unfold cellOf; rw [ha]
      simp only [beq_self_eq_true, if_true, e, pure_bind, clOf, ha, Option.getD_some]
      exact ih _
    all_goals
      simp only [clOf]
      exact ih _
theorem closure_ok {scope : Scope} {env : Env} (h : ∀ p ∈ scope.names, p.2 = .free → ∃ a, env.cells.lookup p.1 = some a) : closureFor scope env = pure (clOf env scope.names []) := by
  unfold closureFor
  simp only [closure_loop h, pure_bind]
end Mine
end
section
open PySem PySem.W PySem.Calls PyProof.Rows
set_option Elab.async false
set_option maxRecDepth 100000
set_option linter.unusedVariables false
namespace Mine
variable {prog : Program} {w : World} {K : Frag} {hb : Heap} {A : Around} {f f' : Frm} {l l' l1 l2 : Loc} {c c' c1 c2 c3 : Cells} {x y z : Expr} {pos : Pos} {a b : AV}

/-! comprehensions -/
noncomputable def compFrm (f : Frm) (scope : Scope) (C : Addr) : Frm := ⟨compEnvC scope (clOf f.env scope.names []) C f.env, f.nm⟩
structure CompOk (f : Frm) (scope : Scope) (caps : List Nat) : Prop where
  kind : scope.kind = .function
  nocell : ∀ p ∈ scope.names, p.2 ≠ .cell
  loc : ∀ p ∈ scope.names, p.2 = .local → scope.names.lookup p.1 = some .local
  free : ∀ p ∈ scope.names, p.2 = .free → f.env.kindOf p.1 = some .cell ∧ (∃ i, i ∈ caps ∧ f.nm[i]? = some p.1) ∧ (relabel scope f.env).names.lookup p.1 = some .cell
  ncap : ∀ i x, f.nm[i]? = some x → (relabel scope f.env).names.lookup x = some .local → i ∉ caps
theorem mem_of_lookup {α β : Type} [BEq α] [LawfulBEq α] {x : α} {v : β} : ∀ {l : List (α × β)}, l.lookup x = some v → (x, v) ∈ l
  | [], h => by simp at h
  | (y, u) :: l, h => by
    rw [List.lookup_cons] at h
    by_cases q : x = y
    · subst q; simp only [beq_self_eq_true] at h; cases h; exact .head _
    · rw [show (x == y) = false from by simpa using q] at h
      exact .tail _ (mem_of_lookup h)
theorem lookup_of_mem {α β : Type} [BEq α] [LawfulBEq α] {x : α} {v : β} : ∀ {l : List (α × β)}, (x, v) ∈ l → ∃ u, l.lookup x = some u
  | [], h => nomatch h
  | (y, u) :: l, h => by
    rw [List.lookup_cons]
    by_cases q : x = y
    · subst q; exact ⟨u, by simp⟩
    · rw [show (x == y) = false from by simpa using q]
      rcases List.mem_cons.mp h with e | h
      · cases e; exact absurd rfl q
      · exact lookup_of_mem h
variable {scope : Scope} {caps : List Nat} {C : Addr}
theorem comp_cell (CO : CompOk f scope caps) {n : Str} (h : (compFrm f scope C).env.kindOf n = some .cell) : (n, NameKind.free) ∈ scope.names ∧ f.env.kindOf n = some .cell := by
  have h : (relabel scope f.env).names.lookup n = some .cell := h
  have m := mem_of_lookup h
  unfold relabel at m
  simp only [List.mem_map] at m
  obtain ⟨⟨n', k⟩, hp, e⟩ := m
  dsimp only at e
  split at e
  · rename_i q
    simp only [Bool.and_eq_true, beq_iff_eq] at q
    cases e
    exact ⟨q.1.1 ▸ hp, q.2⟩
  · cases e
    exact absurd rfl (CO.nocell _ hp)
theorem comp_cl (O : EnvOk f) (CO : CompOk f scope caps) {n : Str} {k : Addr} (h : (compFrm f scope C).env.cells.lookup n = some k) : f.env.cells.lookup n = some k ∧ (n, NameKind.free) ∈ scope.names := by
  have m := mem_of_lookup (show (clOf f.env scope.names []).lookup n = some k from h)
  rw [clOf_mem] at m
  rcases m with m | ⟨m1, m2⟩
  · exact nomatch m
  · dsimp only at m1 m2
    obtain ⟨hk, _⟩ := CO.free _ m1 rfl
    obtain ⟨a, ha⟩ := O.cvn n hk
    rw [ha] at m2
    exact ⟨by rw [ha, m2]; rfl, m1⟩
theorem comp_closed (O : EnvOk f) (CO : CompOk f scope caps) : closureFor scope f.env = pure (clOf f.env scope.names []) :=
  closure_ok fun p hp e => O.cvn _ (CO.free p hp e).1
theorem compEnvOk (O : EnvOk f) (CO : CompOk f scope caps) : EnvOk (compFrm f scope C) where
  fn := by show (relabel scope f.env).kind = _; unfold relabel; exact CO.kind
  gl := O.gl
  bl := O.bl
  nd := O.nd
  cvn := fun n h => by
    obtain ⟨h1, h2⟩ := comp_cell CO h
    exact lookup_of_mem (show (n, (f.env.cells.lookup n).getD 0) ∈ clOf f.env scope.names [] from clOf_mem.mpr (.inr ⟨h1, rfl⟩))
theorem comp_enter {g : Gh} {al : Nat → Addr} {h h1 : Heap} (O : EnvOk f) (CO : CompOk f scope caps) (S : St w K hb f g al l c h) (hcap : capt l caps = some l') (hC : h.get? C = none) (hs : C ≠ sysModules) (keep : ∀ b o, h.get? b = some o → h1.get? b = some o) (hns : h1.Ns C fun _ => none) :
    St w K hb (compFrm f scope C) g al l' c h1 ∧ ∀ b, MutA (compFrm f scope C) al g.cs l' b → b = C ∨ b ∈ g.cs ∨ ∃ x, (compFrm f scope C).env.cells.lookup x = some b := by
  refine ex_0_3 (capt_at hcap) fun c1 c2 c3 => ?_
  have noown : ∀ j a, l'.at j ≠ .own a := fun j a e => by
    rcases c2 j with ⟨_, _, _, q⟩ | q <;> rw [q] at e <;> cases e
  have z := S.cold hC
  have mm : ∀ b, MutA (compFrm f scope C) al g.cs l' b → b = C ∨ b ∈ g.cs ∨ ∃ x, (compFrm f scope C).env.cells.lookup x = some b := fun b m => by
    cases m with
    | loc => exact .inl rfl
    | cv e => exact .inr (.inr ⟨_, e⟩)
    | own e => exact absurd e (noown _ _)
    | cell e => exact .inr (.inl e)
  refine ⟨{
    fz := fun b o e => keep b o (S.fz b o e)
    base := S.base
    mfree := fun b m => by
      rcases mm b m with rfl | e | ⟨x, e⟩
      · exact z.1
      · exact S.mfree b (.cell e)
      · exact S.mfree b (.cv (comp_cl O CO e).1)
    ns := ⟨fun _ => none, hns, fun i x hx hk => by rw [c3 i (CO.ncap i x hx hk)]; trivial⟩
    cv := fun x k e => by
      obtain ⟨e', e2⟩ := comp_cl O CO e
      obtain ⟨v, ⟨o, ho, hd⟩, hv⟩ := S.cv x k e'
      refine ⟨v, ⟨o, keep _ o ho, hd⟩, fun i hx hk => ?_⟩
      have r := hv i hx (comp_cell CO hk).2
      rcases c2 i with ⟨_, a, q1, q2⟩ | q
      · rw [q1] at r; rw [q2]; exact r
      · rw [q]; trivial
    len := c1.trans S.len
    own := fun i a e => absurd e (noown i a)
    clen := S.clen
    cel := fun k a e => by
      refine ex_2_3 (S.cel k a e) fun b o hb' ho hr => ?_
      exact ⟨b, o, hb', keep _ o ho, hr⟩
    own_ne := fun i j a b e _ _ => absurd e (noown i a)
    own_loc := fun i a e => absurd e (noown i a)
    own_cv := fun i a x k e _ => absurd e (noown i a)
    own_cell := fun i a e => absurd e (noown i a)
    loc_cell := fun m => z.2 (.cell m)
    cv_cell := fun x k e => S.cv_cell x k (comp_cl O CO e).1
    cv_loc := fun x k e q => by
      have e' := (comp_cl O CO e).1
      have q : k = C := q
      exact S.live (.cv e') (q ▸ hC)
    cv_inj := fun x y k e e' => S.cv_inj x y k (comp_cl O CO e).1 (comp_cl O CO e').1
    cnd := S.cnd
    sys := fun b m => by
      rcases mm b m with rfl | e | ⟨x, e⟩
      · exact hs
      · exact S.sys b (.cell e)
      · exact S.sys b (.cv (comp_cl O CO e).1) }, mm⟩

theorem compLoop_any {elt target iter : Expr} {ifs : List Expr} {scope : Scope} {pos : Pos} {it acc : Value} {env : Env} {R : Result → Shared → Prop} {s : Shared} (I : Nat → Shared → Prop)
    (turn : ∀ n s, I n s → wpAny (model prog w) A (pyNext it) (fun r s₁ => match r with
      | none => R (.ok .next) s₁
      | some v => wpAny (model prog w) A (letOwnedTupleGo target it v) (fun _ s₁' => wpAny (model prog w) A (assign target env v) (fun _ s₂ =>
          wpAny (model prog w) A (forIn ifs true fun c r => if r = true then do let ok ← isTrue c env (eval c env); pure (ForInStep.yield ok) else pure (ForInStep.yield r)) (fun ok s₃ =>
            if ok = true then wpAny (model prog w) A (eval elt env) (fun x s₄ =>
              wpAny (model prog w) A (call (.builtin "list.append") [acc, x]) (fun _ s₅ => ∃ m, m < n ∧ I m s₅) (notedBy (model prog w) A env fun e s' => R (.error e) s') s₄) (notedBy (model prog w) A env fun e s' => R (.error e) s') s₃
            else ∃ m, m < n ∧ I m s₃) (notedBy (model prog w) A env fun e s' => R (.error e) s') s₂) (notedBy (model prog w) A env fun e s' => R (.error e) s') s₁') (notedBy (model prog w) A env fun e s' => R (.error e) s') s₁) (notedBy (model prog w) A env fun e s' => R (.error e) s') s)
    (n : Nat) (h : I n s) :
    codeAny (model prog w) A (.compLoop (.ListComp elt [⟨target, iter, ifs, 0⟩] scope pos) 0 it acc env) R s := by
  refine codeAny_loop rfl I (fun n s hI => ?_) n h
  show wpAny _ A ((compTurn (.ListComp elt [⟨target, iter, ifs, 0⟩] scope pos) 0 it acc env).onRaise (fun x => do noteFrame x env; theTreesLotGoes x)) _ _ s
  refine wpAny_noted ?_
  rw [compTurn_list]
  refine wpAny_bind (wpAny_standAt (wpAny_bind (wpAny_mono (turn n s hI) (fun r s₁ h₁ => ?_) fun _ _ h' => h')))
  cases r with
  | none => exact wpAny_pure h₁
  | some v =>
    refine wpAny_bind (wpAny_mono h₁ (fun _ s₁' h₁' => ?_) fun _ _ h' => h')
    refine wpAny_bind (wpAny_mono h₁' (fun _ s₂ h₂ => wpAny_bind (wpAny_mono h₂ (fun ok s₃ h₃ => ?_) fun _ _ h' => h')) fun _ _ h' => h')
    cases ok with
    | false => exact wpAny_pure ⟨rfl, h₃⟩
    | true =>
      exact wpAny_bind (wpAny_bind (wpAny_mono h₃ (fun x s₄ h₄ => wpAny_bind (wpAny_mono h₄ (fun _ s₅ h₅ => wpAny_pure (wpAny_pure ⟨rfl, h₅⟩)) fun _ _ h' => h')) fun _ _ h' => h'))
end Mine
end
section
open PySem PySem.W PySem.Calls PyProof.Rows
set_option Elab.async false
set_option maxRecDepth 100000
set_option linter.unusedVariables false
namespace Mine
variable {prog : Program} {w : World} {K : Frag} {hb : Heap} {A : Around} {f f' : Frm} {l l' l1 l2 : Loc} {c c' c1 c2 c3 : Cells} {x y z : Expr} {pos : Pos} {a b : AV}
variable {scope : Scope} {caps : List Nat} {C : Addr}

noncomputable def IfsOk (prog : Program) (w : World) (K : Frag) (hb : Heap) (A : Around) (f : Frm) (ifs : List Expr) (T : Loc → Cells → Option (Bool × Cells)) : Prop :=
  (ifs = [] ∧ ∀ l c, T l c = some (true, c)) ∨ ∃ cond, ifs = [cond] ∧ ∀ l c b c2, T l c = some (b, c2) → WpT prog w K hb A f l c cond b c2
theorem ifs_run {ifs : List Expr} {T : Loc → Cells → Option (Bool × Cells)} {t : Bool} (hi : IfsOk prog w K hb A f ifs T) (h : T l c = some (t, c1)) : Wp prog w K hb A f l c (forIn ifs true fun e r => if r = true then do let ok ← isTrue e f.env (eval e f.env); pure (ForInStep.yield ok) else pure (ForInStep.yield r)) (fun _ _ _ _ a b => b = a) t c1 := by
  intro g al s Q E S k
  rcases hi with ⟨rfl, e⟩ | ⟨cond, rfl, e⟩
  · rw [e] at h
    cases h
    exact wpAny_tests_nil (k _ s.heap s.toks g S (.refl ..) rfl)
  · exact wpAny_tests_one (e l c t c1 h g al s Q E S k)

/-- the loop's state ahead of turn i -/
structure CAt (prog : Program) (w : World) (K : Frag) (hb : Heap) (A : Around) (f : Frm) (l' : Loc) (c' : Cells) (bind : AV → Loc → Option Loc) (F : Loc → Cells → Option (AV × Cells)) (T : Loc → Cells → Option (Bool × Cells)) (xs zs : List AV) (g0 : Gh) (mu0 : Addr → Prop) (v0 : Addr → Option Obj) (I : Addr) (fp wr : List Addr) (P : Nat → Value → Prop) (Sx : Nat → Heap → Prop) (D : Addr)
    (i : Nat) (g : Gh) (al : Nat → Addr) (ci : Cells) (h : Heap) (done rest : List AV) (vs : List Value) (m : Nat) : Prop where
  le : i ≤ xs.length
  st : St w K hb f g al l' ci h
  ext : VExt g0 mu0 v0 g (MutA f al g.cs l') h
  itr : ItrAt prog w K A g (MutA f al g.cs l') (fun b => v0 b = none) h xs I fp wr P Sx i
  run : compL F T bind (xs.drop i) l' ci = some (rest, c')
  zs : zs = done ++ rest
  len : done.length ≤ i
  atD : h.get? D = some (listO vs m)
  rp : RpL w K g done vs
  cold : g.φ D = none
  nm : ¬ MutA f al g.cs l' D
noncomputable def CInv (prog : Program) (w : World) (K : Frag) (hb : Heap) (A : Around) (f : Frm) (l' : Loc) (c' : Cells) (bind : AV → Loc → Option Loc) (F : Loc → Cells → Option (AV × Cells)) (T : Loc → Cells → Option (Bool × Cells)) (xs zs : List AV) (g0 : Gh) (mu0 : Addr → Prop) (v0 : Addr → Option Obj) (I : Addr) (fp wr : List Addr) (P : Nat → Value → Prop) (Sx : Nat → Heap → Prop) (D : Addr) (s : Shared) (n : Nat) (s' : Shared) : Prop :=
  ∃ (i : Nat) (g : Gh) (al : Nat → Addr) (ci : Cells) (h : Heap) (tk : Nat) (done rest : List AV) (vs : List Value) (m : Nat), s' = { s with heap := h, toks := tk } ∧ n = xs.length + 1 - i ∧ CAt prog w K hb A f l' c' bind F T xs zs g0 mu0 v0 I fp wr P Sx D i g al ci h done rest vs m
section
variable {bind : AV → Loc → Option Loc} {F : Loc → Cells → Option (AV × Cells)} {T : Loc → Cells → Option (Bool × Cells)} {xs zs : List AV} {g0 : Gh} {mu0 : Addr → Prop} {v0 : Addr → Option Obj} {I : Addr} {fp wr : List Addr} {P : Nat → Value → Prop} {Sx : Nat → Heap → Prop} {D : Addr} {s : Shared}
theorem CInv.on {n : Nat} {s' : Shared} {G : Prop} (H : CInv prog w K hb A f l' c' bind F T xs zs g0 mu0 v0 I fp wr P Sx D s n s')
    (k : ∀ i g al ci h tk done rest vs m, s' = { s with heap := h, toks := tk } → n = xs.length + 1 - i → CAt prog w K hb A f l' c' bind F T xs zs g0 mu0 v0 I fp wr P Sx D i g al ci h done rest vs m → G) : G := by
  obtain ⟨i, g, al, ci, h, tk, done, rest, vs, m, e, hn, C⟩ := H
  exact k i g al ci h tk done rest vs m e hn C
theorem CAt.next {i j : Nat} {g : Gh} {al : Nat → Addr} {ci : Cells} {h : Heap} {done rest : List AV} {vs : List Value} {m tk : Nat} (C : CAt prog w K hb A f l' c' bind F T xs zs g0 mu0 v0 I fp wr P Sx D (i + 1) g al ci h done rest vs m) (hj : j = xs.length + 1 - i) : ∃ m, m < j ∧ CInv prog w K hb A f l' c' bind F T xs zs g0 mu0 v0 I fp wr P Sx D s m { s with heap := h, toks := tk } :=
  ⟨_, turn_lt C.le hj, i + 1, g, al, ci, h, tk, done, rest, vs, m, rfl, rfl, C⟩
end

theorem comp_loop {D : Addr} {elt iter tgt : Expr} {ifs : List Expr} {bind : AV → Loc → Option Loc} {F : Loc → Cells → Option (AV × Cells)} {T : Loc → Cells → Option (Bool × Cells)} {xs zs : List AV} {g0 : Gh} {mu0 : Addr → Prop} {v0 : Addr → Option Obj} {s : Shared} {R : Result → Shared → Prop} {I : Addr} {fp wr : List Addr} {P : Nat → Value → Prop} {Sx : Nat → Heap → Prop} {g1 : Gh} {al1 : Nat → Addr}
    (W : Walks prog w A I fp wr xs.length P Sx) (hgo : ∀ (i : Nat) (s' : Shared) v tgt (Q' : Unit → Shared → Prop) (E' : Value → Shared → Prop), Sx i s'.heap → Q' () s' → wpAny (model prog w) A (letOwnedTupleGo tgt (.ref I) v) Q' E' s') (hlive : ∀ (i : Nat) (h : Heap), Sx i h → ∀ b ∈ fp, h.get? b ≠ none)
    (B : WpBind prog w K hb A f tgt bind) (hbl : ∀ a l2, bind a l' = some l2 → l2.length = l'.length ∧ ∀ j, l'.at j = l2.at j ∨ l'.at j = .un) (he : ∀ l c a c2, F l c = some (a, c2) → WpE prog w K hb A f l c elt a c2) (hi : IfsOk prog w K hb A f ifs T) (hz : xs.length ≤ lim)
    (hr : compL F T bind xs l' c = some (zs, c')) (S1 : St w K hb f g1 al1 l' c s.heap) (X1 : VExt g0 mu0 v0 g1 (MutA f al1 g1.cs l') s.heap) (T1 : ItrAt prog w K A g1 (MutA f al1 g1.cs l') (fun b => v0 b = none) s.heap xs I fp wr P Sx 0)
    (hD : s.heap.get? D = some (listO [] 0)) (hD1 : g1.φ D = none) (hD2 : ¬ MutA f al1 g1.cs l' D) (hD3 : v0 D = none) (hD4 : D ∉ fp)
    (k : ∀ h' tk g al vs m, St w K hb f g al l' c' h' → VExt g0 mu0 v0 g (MutA f al g.cs l') h' → h'.get? D = some (listO vs m) → RpL w K g zs vs → g.φ D = none → ¬ MutA f al g.cs l' D → R (.ok .next) { s with heap := h', toks := tk }) :
    codeAny (model prog w) A (.compLoop (.ListComp elt [⟨tgt, iter, ifs, 0⟩] scope pos) 0 (.ref I) (.ref D) f.env) R s := by
  refine compLoop_any (I := CInv prog w K hb A f l' c' bind F T xs zs g0 mu0 v0 I fp wr P Sx D s) (fun n s' hinv => ?_) (xs.length + 1) ⟨0, g1, al1, c, s.heap, s.toks, [], zs, [], 0, rfl, rfl, Nat.zero_le _, S1, X1, T1, hr, rfl, Nat.le_refl _, hD, rfl, hD1, hD2⟩
  refine hinv.on fun i g al ci h tk done rest vs m e hn C => ?_
  subst e
  clear hinv
  have u1 := C.itr.1
  have u3 := C.itr.2.2.1
  have u4 := C.itr.2.2.2
  have Dwr : D ∉ wr := fun q => hD4 (W.sub _ q)
  by_cases hlt : i < xs.length
  · refine W.item i _ _ _ hlt u1 fun v h2 tk2 hP st2 hk => ?_
    have SX := pull_v (h' := h2) C.st C.ext W.sub u3 u4 hk
    have d12 := hk D _ Dwr C.atD
    have T2 : ItrAt prog w K A g (MutA f al g.cs l') (fun b => v0 b = none) h2 xs I fp wr P Sx (i + 1) := ⟨st2, C.itr.2.1, u3, fun b hb => ⟨(u4 b hb).1, hlive _ _ st2 b hb⟩⟩
    have lvD : h2.get? D ≠ none := by rw [d12]; exact fun q => nomatch q
    refine hgo (i + 1) _ v tgt _ _ st2 ?_
    refine (C.itr.2.1 i v hlt hP).elim fun a ha => ?_
    refine ob.on (((congrArg (fun q => compL F T bind q l' ci) (drop_at hlt ha.1)).symm.trans C.run)) fun l2 hb2 hF => ?_
    have hl2 := hbl a l2 hb2
    -- back to the block's own start
    have back : ∀ {g3 : Gh} {al3 : Nat → Addr} {c3 : Cells} {h3 : Heap}, St w K hb f g3 al3 l2 c3 h3 → Ext g (MutA f al g.cs l') h2 g3 (MutA f al3 g3.cs l2) h3 →
        St w K hb f g3 al3 l' c3 h3 ∧ Ext g (MutA f al g.cs l') h2 g3 (MutA f al3 g3.cs l') h3 := fun S3 X3 => by
      have S4 := S3.forget (l' := l') hl2.1.symm hl2.2
      exact ⟨S4.1, X3.keep, fun b q => X3.grow b (S4.2 b q), X3.le, X3.live, X3.cool⟩
    refine B l' l2 ci g al _ _ _ a v hb2 SX.1 ha.2 fun h3 tk3 al3 S3 X3 => ?_
    refine bd.on hF fun t c2 ht3 hF => ?_
    refine ifs_run hi ht3 g al3 _ _ _ S3 fun tv h4 tk4 g4 S4 X4 R4 => ?_
    subst R4
    cases tv with
    | false =>
      have Q5 := back S4 (X3.trans X4)
      exact CAt.next (done := done) (rest := rest) (vs := vs) (m := m) ⟨hlt, Q5.1, SX.2.trans Q5.2, T2.ext W Q5.2, hF, C.zs, Nat.le_succ_of_le C.len, Q5.2.keep D _ d12 C.nm, C.rp.mono w K Q5.2.le _ _, Q5.2.cool D C.cold C.nm lvD, fun q => (Q5.2.grow D q).elim C.nm lvD⟩ hn
    | true =>
      refine bd.on ((if_pos rfl).symm.trans hF) fun zz c3 hf3 hF => bd.on hF fun rest' c4 hc3 hF => ?_
      cases hF
      refine he l2 c2 zz c3 hf3 g4 al3 _ _ _ S4 fun ev h5 tk5 g5 S5 X5 R5 => ?_
      have Q6 := back S5 ((X3.trans X4).trans X5)
      have e1 := Q6.2.keep D _ d12 C.nm
      have e2 := Q6.2.cool D C.cold C.nm lvD
      have e3 : ¬ MutA f al3 g5.cs l' D := fun q => (Q6.2.grow D q).elim C.nm lvD
      have d2' := C.rp.mono w K Q6.2.le _ _
      refine heap_append e1 (by rw [d2'.len]; exact Nat.le_trans C.len (Nat.le_trans C.le hz)) fun h7 m7 ho7 same => ?_
      have keep7 : ∀ b o, b ∉ [D] → h5.get? b = some o → h7.get? b = some o := fun b o hb e => by rw [same b fun q => hb (List.mem_singleton.mpr q)]; exact e
      have SX7 := pull_v (h' := h7) (wr := [D]) (fp := [D]) Q6.1 (SX.2.trans Q6.2) (fun b q => q) (fun b q => by rw [List.mem_singleton.mp q]; exact ⟨e2, hD3⟩) (fun b q => by rw [List.mem_singleton.mp q]; exact ⟨e3, by rw [e1]; exact fun q => nomatch q⟩) keep7
      have T6 := T2.ext W Q6.2
      have T7 : ItrAt prog w K A g5 (MutA f al3 g5.cs l') (fun b => v0 b = none) h7 xs I fp wr P Sx (i + 1) := ⟨W.frame _ _ _ T6.1 fun b q o e => keep7 b o (fun z => hD4 (List.mem_singleton.mp z ▸ q)) e, T6.2.1, T6.2.2.1, fun b q => ⟨(T6.2.2.2 b q).1, by
        rw [same b fun z => hD4 (z ▸ q)]; exact (T6.2.2.2 b q).2⟩⟩
      exact CAt.next (done := done ++ [zz]) (rest := rest') (m := m7) ⟨hlt, SX7.1, SX7.2, T7, hc3, by rw [C.zs, List.append_assoc]; rfl, by rw [List.length_append]; exact Nat.succ_le_succ C.len, ho7, d2'.snoc R5, e2, e3⟩ hn
  · have hie : xs.length = i := Nat.le_antisymm (Nat.le_of_not_lt hlt) C.le
    refine W.done _ _ _ (hie ▸ u1) fun h2 tk2 hk => ?_
    have SX := pull_v (h' := h2) C.st C.ext W.sub u3 u4 hk
    have hF := C.run
    rw [← hie, List.drop_length] at hF
    cases hF
    exact k h2 tk2 g al vs m SX.1 SX.2 (hk D _ Dwr C.atD) (by rw [C.zs, List.append_nil]; exact C.rp) C.cold C.nm
end Mine
end
section
open PySem PySem.W PySem.Calls PyProof.Rows
set_option Elab.async false
set_option maxRecDepth 100000
set_option linter.unusedVariables false
namespace Mine
variable {prog : Program} {w : World} {K : Frag} {hb : Heap} {A : Around} {f f' : Frm} {l l' l1 l2 : Loc} {c c' c1 c2 c3 : Cells} {x y z : Expr} {pos : Pos} {a b : AV}
variable {scope : Scope} {caps : List Nat}

theorem comp_core {elt iter tgt : Expr} {ifs : List Expr} {bind : AV → Loc → Option Loc} {F : Loc → Cells → Option (AV × Cells)} {T : Loc → Cells → Option (Bool × Cells)} {xs zs : List AV} {RR : Value → Addr → Result → Shared → Prop} {g : Gh} {al : Nat → Addr} {s : Shared} {E : Value → Shared → Prop}
    (Cc : Cx K hb) (O : EnvOk f) (CO : CompOk f scope caps) (hI : WpI prog w K hb A f l c iter xs c1) (hcap : capt l caps = some l')
    (B : ∀ C, WpBind prog w K hb A (compFrm f scope C) tgt bind) (hbl : ∀ a l2, bind a l' = some l2 → l2.length = l'.length ∧ ∀ j, l'.at j = l2.at j ∨ l'.at j = .un) (he : ∀ C l c a c2, F l c = some (a, c2) → WpE prog w K hb A (compFrm f scope C) l c elt a c2) (hi : ∀ C, IfsOk prog w K hb A (compFrm f scope C) ifs T)
    (hz : xs.length ≤ lim) (hr : compL F T bind xs l' c1 = some (zs, c2)) (S : St w K hb f g al l c s.heap)
    (k : ∀ D C h' tk g' m, St w K hb f g' al l c2 h' → Ext g (MutA f al g.cs l) s.heap g' (MutA f al g'.cs l) h' → RVR w K g' (MutA f al g'.cs l) s.heap h' (.o (.list zs)) (.ref D) → h'.Ns C m → g'.φ C = none → ¬ MutA f al g'.cs l C → s.heap.get? C = none → D ≠ C → RR (.ref D) C (.ok .next) { s with heap := h', toks := tk }) :
    wpAny (model prog w) A (eval iter f.env) (fun x s₁ => wpAny (model prog w) A (pyIter x) (fun it s₂ => wpAny (model prog w) A (newList []) (fun acc s₃ => wpAny (model prog w) A (newFunctionEnv scope f.env.globals (clOf f.env scope.names []) [] f.env.qual none .none (some f.env)) (fun cenv s₄ =>
      codeAny (model prog w) A (.compStart (.ListComp elt [⟨tgt, iter, ifs, 0⟩] scope pos) 0 it acc { cenv with scope := relabel scope f.env }) (RR acc cenv.locals) s₄) E s₃) E s₂) E s₁) E s := by
  refine hI g al s _ E S fun iv h1 tk1 g1 S1 X1 T1 => ?_
  refine ex_5_8 (T1) fun I fp wr P Sx eq0 W st0 t2 t3 t4 hgo hlive => ?_
  subst eq0
  refine wpAny_newObj_type (wpAny_newFunctionEnv CO.nocell (by intro y hy; simp at hy) (fun h₁ hns₁ hsb₁ => ?_) CO.kind)
  dsimp only at hns₁ hsb₁ ⊢
  generalize hH2 : h1.push { cls := .type "list", dict := none, data := .seq ([] : List Value).toArray } = H2 at hns₁ hsb₁ ⊢
  have hC : H2.objs.size = h1.objs.size + 1 := by rw [← hH2, Heap.size_push]
  have dead : ∀ n, h1.get? (h1.objs.size + n) = none := fun n => Heap.get?_none_of_le (Nat.le_add_right _ n)
  have hDC : h1.objs.size ≠ H2.objs.size := by rw [hC]; exact Nat.ne_of_lt (Nat.lt_succ_self _)
  have deadC : h1.get? H2.objs.size = none := by rw [hC]; exact dead 1
  have keep1 : ∀ b o, h1.get? b = some o → h₁.get? b = some o := fun b o e => by
    have hlt := Heap.lt_size e
    rw [hsb₁.2 b (by rw [hC]; exact Nat.ne_of_lt (Nat.lt_succ_of_lt hlt))]
    refine Heap.get?_push_of_some _ ?_
    rw [← hH2]
    exact Heap.get?_push_of_some _ e
  have hns₁ : h₁.Ns H2.objs.size fun _ => none := hns₁
  have sysC : H2.objs.size ≠ sysModules := by
    refine ex_4_2 (Cc.gl) fun mg o es ep ho _ => ?_
    have := Heap.lt_size (S1.fz _ _ (S1.base _ _ ho))
    intro e
    rw [hC] at e
    have this : mainGlobals < sysModules := Nat.lt_trans this (by rw [← e]; exact Nat.lt_succ_self _)
    exact absurd this (by decide)
  obtain ⟨S2, mm⟩ := comp_enter (C := H2.objs.size) O CO S1 hcap deadC sysC keep1 hns₁
  have lvm : ∀ {b}, h1.get? b = none → b ≠ H2.objs.size → ¬ MutA (compFrm f scope H2.objs.size) al g1.cs l' b := fun e ne m => by
    rcases mm _ m with q | q | ⟨x, q⟩
    · exact ne q
    · exact S1.live (.cell q) e
    · exact S1.live (.cv (comp_cl O CO q).1) e
  let v : Addr → Option Obj := fun b => if b ∈ wr then none else h1.get? b
  have vwr : ∀ b ∈ wr, v b = none := fun b hb => if_pos hb
  have vof : ∀ {b}, b ∉ wr → v b = h1.get? b := fun hb => if_neg hb
  have vsome : ∀ {b o}, v b = some o → h1.get? b = some o := fun {b o} e => by
    by_cases q : b ∈ wr
    · rw [vwr b q] at e; cases e
    · rw [vof q] at e; exact e
  have vnone : ∀ {b}, h1.get? b = none → v b = none := fun {b} e => by
    by_cases q : b ∈ wr
    · exact vwr b q
    · rw [vof q]; exact e
  have X2 : VExt g1 (MutA (compFrm f scope H2.objs.size) al g1.cs l') v g1 (MutA (compFrm f scope H2.objs.size) al g1.cs l') h₁ :=
    ⟨fun b o e _ => keep1 b o (vsome e), fun b m => .inl m, .refl g1, (fun b e => by
      cases q : v b with
      | none => exact absurd q e
      | some o => rw [keep1 b o (vsome q)]; exact fun z => nomatch z), fun b e _ _ => e⟩
  have fpne : ∀ b ∈ fp, b ≠ H2.objs.size := fun b hb e => (t4 b hb).2 (e ▸ deadC)
  have live1 : ∀ b, h1.get? b ≠ none → h₁.get? b ≠ none := fun b e => by
    cases q : h1.get? b with
    | none => exact absurd q e
    | some o => rw [keep1 b o q]; exact fun z => nomatch z
  have st1 : Sx 0 h₁ := W.frame _ _ _ st0 fun b _ o e => keep1 b o e
  have T2 : ItrAt prog w K A g1 (MutA (compFrm f scope H2.objs.size) al g1.cs l') (fun b => v b = none) h₁ xs I fp wr P Sx 0 :=
    ⟨st1, t2, fun b hb => ⟨(t3 b hb).1, vwr b hb⟩, fun b hb => ⟨fun m => by
      rcases mm b m with q | q | ⟨x, q⟩
      · exact fpne b hb q
      · exact (t4 b hb).1 (.cell q)
      · exact (t4 b hb).1 (.cv (comp_cl O CO q).1), live1 b (t4 b hb).2⟩⟩
  have hD0 : h₁.get? h1.objs.size = some (listO [] 0) := by
    rw [hsb₁.2 _ hDC]
    refine Heap.get?_push_of_some _ ?_
    rw [← hH2]
    exact Heap.get?_push_size _ rfl
  have loop : codeAny (model prog w) A (.compLoop (.ListComp elt [⟨tgt, iter, ifs, 0⟩] scope pos) 0 (.ref I) (.ref h1.objs.size) (compFrm f scope H2.objs.size).env) (RR (.ref h1.objs.size) H2.objs.size) { s with heap := h₁, toks := tk1 + ([] : List (Str × Value)).length } := by
    refine comp_loop (f := compFrm f scope H2.objs.size) (s := { s with heap := h₁, toks := tk1 + ([] : List (Str × Value)).length }) W hgo hlive (B _) hbl (he _) (hi _) hz hr S2 X2 T2 hD0 (S1.cold (dead 0)).1 (lvm (dead 0) hDC) (vnone (dead 0)) (fun q => (t4 _ q).2 (dead 0)) fun h' tk g' al' vs m S' X' ho' hl' hφ' hm' => ?_
    have wrnot : ∀ {d}, MutA f al g1.cs l d → d ∉ wr := fun m q => (t4 _ (W.sub _ q)).1 m
    obtain ⟨S3, X3⟩ := S1.leave X1 S' X' (fun d m => vof (wrnot m)) (fun d e => vof fun q => e (t3 d q).2) (fun b m => by
        rcases mm b m with q | q | ⟨x, q⟩
        · exact .inl (vnone (q ▸ deadC))
        · exact .inr (.inl q)
        · exact .inr (.inr ⟨x, (comp_cl O CO q).1⟩)) (fun x kk e m => by
        rcases mm kk m with q | q | ⟨x', q⟩
        · exact absurd (q ▸ deadC) (S1.live (.cv e))
        · exact absurd q (S1.cv_cell x kk e)
        · obtain ⟨q1, q2⟩ := comp_cl O CO q
          have : x' = x := S1.cv_inj x' x kk q1 e
          subst this
          refine ex_1_2 (S'.cv x' kk q) fun v' hv1 hv2 => ?_
          refine ⟨S'.cv_cell x' kk q, S'.mfree _ (.cv q), v', hv1, fun i hx hk => ?_⟩
          obtain ⟨_, ⟨i0, hi0, hx0⟩, hk'⟩ := CO.free _ q2 rfl
          have r := hv2 i hx hk'
          have ei : i = i0 := by
            have l1 := List.getElem?_eq_some_iff.mp hx
            have l2 := List.getElem?_eq_some_iff.mp hx0
            exact (List.getElem_inj O.nd).mp (l1.2.trans l2.2.symm)
          subst ei
          refine ex_0_3 (capt_at hcap) fun _ c2' _ => ?_
          rcases c2' i with ⟨_, a, r1, r2⟩ | r2
          · rw [r2] at r; rw [r1]; exact r
          · -- a captured index is a value
            exact (capt_mem hcap hi0 (by rw [S1.len]; exact (List.getElem?_eq_some_iff.mp hx).1) r2).elim)
    have nm : ∀ {d}, h1.get? d = none → d ∉ g'.cs → ¬ MutA f al g'.cs l d := fun e n m => by
      cases m with
      | loc => exact S1.live .loc e
      | cv q => exact S1.live (.cv q) e
      | own q => exact S1.live (.own q) e
      | cell q => exact n q
    have hs0 : ∀ {d}, h1.get? d = none → s.heap.get? d = none := fun e => Classical.byContradiction fun q => X1.live _ q e
    refine ex_1_2 (S'.ns) fun m' hm1 _ => ?_
    refine k h1.objs.size H2.objs.size h' tk g' m' S3 X3 ⟨_, _, rfl, hφ', ho', by simp only [ObR]; exact ⟨vs, m, rfl, hl'⟩, nm (dead 0) (fun q => hm' (.cell q)), hs0 (dead 0), size_ne Cc S1⟩ hm1 (S'.mfree _ .loc) (nm deadC fun q => S'.loc_cell q) (hs0 deadC) hDC
  exact codeAny_compStart_list loop (W.self 0 _ _ _ st1 loop)
end Mine
end
section
open PySem PySem.W PySem.Calls PyProof.Rows
set_option Elab.async false
set_option maxRecDepth 100000
set_option linter.unusedVariables false
namespace Mine
variable {prog : Program} {w : World} {K : Frag} {hb : Heap} {A : Around} {f f' : Frm} {l l' l1 l2 : Loc} {c c' c1 c2 c3 : Cells} {x y z : Expr} {pos : Pos} {a b : AV}
variable {scope : Scope} {caps : List Nat}

/-- freezing what came back new -/
theorem RVR.frozen {g : Gh} {al : Nat → Addr} {h0 h : Heap} {gs : Gh} {mus : Addr → Prop} {v : Value} (S : St w K hb f g al l c h) (X : Ext gs mus h0 g (MutA f al g.cs l) h) (R : RVR w K g (MutA f al g.cs l) h0 h (.o a) v) :
    ∃ g', St w K hb f g' al l c h ∧ Ext gs mus h0 g' (MutA f al g'.cs l) h ∧ Rp w K g' a v ∧ (∀ d, v ≠ .ref d → g.φ d = none → g'.φ d = none) ∧ g'.cs = g.cs := by
  refine ex_2_7 (R) fun b o eq0 hf ho hr nm h0' hs => ?_
  subst eq0
  refine ⟨frz g b o, S.more ho hf nm, X.freezeNew hf h0', hr.rp hf hs, fun d hd e => ?_, rfl⟩
  show (if d = b then some o else g.φ d) = none
  rw [if_neg fun q => hd (by rw [q])]; exact e
theorem wp_comp {elt iter tgt : Expr} {ifs : List Expr} {bind : AV → Loc → Option Loc} {F : Loc → Cells → Option (AV × Cells)} {T : Loc → Cells → Option (Bool × Cells)} {xs zs : List AV}
    (Cc : Cx K hb) (O : EnvOk f) (CO : CompOk f scope caps) (hit : plainIter iter = true) (hI : WpI prog w K hb A f l c iter xs c1) (hcap : capt l caps = some l')
    (B : ∀ C, WpBind prog w K hb A (compFrm f scope C) tgt bind) (hbl : ∀ a l2, bind a l' = some l2 → l2.length = l'.length ∧ ∀ j, l'.at j = l2.at j ∨ l'.at j = .un) (he : ∀ C l c a c2, F l c = some (a, c2) → WpE prog w K hb A (compFrm f scope C) l c elt a c2) (hi : ∀ C, IfsOk prog w K hb A (compFrm f scope C) ifs T)
    (hz : xs.length ≤ lim) (hr : compL F T bind xs l' c1 = some (zs, c2)) : WpE prog w K hb A f l c (.ListComp elt [⟨tgt, iter, ifs, 0⟩] scope pos) (.list zs) c2 := by
  intro g al s Q E S k
  rw [eval_ListComp]
  refine wpAny_comprehension_free (cl := clOf f.env scope.names []) rfl (folded_plain hit) (comp_closed O CO) CO.kind CO.loc ?_
  refine comp_core Cc O CO hI hcap B hbl he hi hz hr S fun D C h' tk g' m S' X' R' hns hφ hm hd hDC => ?_
  refine ex_1_5 (RVR.frozen S' X' R') fun g2 S2 X2 r2 h2 h3 => ?_
  refine ⟨m, hns, fun h'' hs => ?_⟩
  have hφ2 : g2.φ C = none := h2 C (fun e => hDC (by cases e; rfl)) hφ
  have hm2 : ¬ MutA f al g2.cs l C := by rw [h3]; exact hm
  have S3 : St w K hb f g2 al l c2 h'' := S2.touch fun b o q e => by
    have : b ≠ C := by
      rintro rfl
      rcases q with q | q
      · exact q hφ2
      · exact hm2 q
    rw [hs.2 b this]; exact e
  refine k _ h'' tk g2 S3 ⟨fun b o e n => ?_, X2.grow, X2.le, fun b e => ?_, X2.cool⟩ r2
  · have : b ≠ C := by rintro rfl; rw [hd] at e; cases e
    rw [hs.2 b this]; exact X2.keep b o e n
  · have : b ≠ C := by rintro rfl; exact e hd
    rw [hs.2 b this]; exact X2.live b e
noncomputable def swapsNow (kd : Str → Option NameKind) (scope : Scope) (n : Str) (np vp : Pos) : Bool :=
  kd n == some .local && np.line == vp.line && !(scope.names.any fun (n', k) => n' == n && (k == .local || k == .cell))
theorem sw_true {n : Str} {np p2 : Pos} {elt : Expr} {gens : List Comprehension} {line : Nat} (O : EnvOk f) (hsw : swapsNow f.env.kindOf scope n np p2 = true) : swapsWithSole [.Name n np] (.ListComp elt gens scope p2) line f.env = pure true := by
  have hbk : f.env.blockKind = .function := by unfold Env.blockKind; rw [O.fn]; rfl
  unfold swapsNow at hsw
  have e : swapsWithSole [.Name n np] (.ListComp elt gens scope p2) line f.env = pure (f.env.blockKind == .function && f.env.kindOf n == some .local && np.line == p2.line && !(scope.names.any fun (n', k) => n' == n && (k == .local || k == .cell))) := by
    unfold swapsWithSole swapsWith
    rfl
  rw [e, hbk]
  simp only [beq_self_eq_true, Bool.true_and]
  rw [hsw]
theorem thenUse {elt : Expr} {gens : List Comprehension} {p2 : Pos} {env : Env} {use : Value → Sem Unit} : evalThenUse (.ListComp elt gens scope p2) env use = (do let _ ← comprehension (.ListComp elt gens scope p2) scope env (firstIterPos gens p2) (newList []) (firstAsync gens) (firstIter gens env) (some use); pure ()) := by
  unfold evalThenUse
  rfl
theorem wpS_asgComp {i : Nat} {n : Str} {np : Pos} {elt iter tgt : Expr} {ifs : List Expr} {bind : AV → Loc → Option Loc} {F : Loc → Cells → Option (AV × Cells)} {T : Loc → Cells → Option (Bool × Cells)} {xs zs : List AV} {p2 : Pos}
    (Cc : Cx K hb) (O : EnvOk f) (V : VK f i n) (CO : CompOk f scope caps) (hsw : swapsNow f.env.kindOf scope n np p2 = true) (hit : plainIter iter = true) (hI : WpI prog w K hb A f l c iter xs c1) (hcap : capt l caps = some l')
    (B : ∀ C, WpBind prog w K hb A (compFrm f scope C) tgt bind) (hbl : ∀ a l2, bind a l' = some l2 → l2.length = l'.length ∧ ∀ j, l'.at j = l2.at j ∨ l'.at j = .un) (he : ∀ C l c a c2, F l c = some (a, c2) → WpE prog w K hb A (compFrm f scope C) l c elt a c2) (hi : ∀ C, IfsOk prog w K hb A (compFrm f scope C) ifs T)
    (hz : xs.length ≤ lim) (hr : compL F T bind xs l' c1 = some (zs, c2)) : WpS prog w K hb A f l c (exec (.Assign [.Name n np] (.ListComp elt [⟨tgt, iter, ifs, 0⟩] scope p2) pos) f.env) .next (l.set i (.val (.list zs))) c2 := by
  intro g al s Q E S k
  rw [exec_Assign_arm, sw_true O hsw]
  refine wpAny_bind (wpAny_standAt (wpAny_bind (wpAny_pure ?_)))
  rw [if_pos rfl]
  refine wpAny_bind ?_
  rw [thenUse]
  refine wpAny_bind (wpAny_comprehension_free (cl := clOf f.env scope.names []) rfl (folded_plain hit) (comp_closed O CO) CO.kind CO.loc ?_)
  refine comp_core Cc O CO hI hcap B hbl he hi hz hr S fun D C h' tk g' m S' X' R' hns hφ hm hd hDC => ?_
  refine ex_1_5 (RVR.frozen S' X' R') fun g2 S2 X2 r2 h2 h3 => ?_
  have hφ2 : g2.φ C = none := h2 C (fun e => hDC (by cases e; rfl)) hφ
  have hm2 : ¬ MutA f al g2.cs l C := by rw [h3]; exact hm
  show wpAny _ _ (assign (.Name n np) f.env (.ref D)) _ _ _
  refine wpAny_assign_Name (wp_store (r := .v (.list zs)) (h0 := h') S2 (.refl ..) r2 O V.nm V.kd fun h4 tk4 S4 X4 => ?_)
  have lvC : h'.get? C ≠ none := by obtain ⟨o, _, _, ho, _⟩ := hns; rw [ho]; exact fun q => nomatch q
  have hφ4 : g2.φ C = none := hφ2
  have hm4 : ¬ MutA f (alSet al i (.ref D)) g2.cs (l.set i (.val (.list zs))) C := fun q => (X4.grow C q).elim hm2 lvC
  refine ⟨m, hns.at' fun o e => X4.keep C o e hm2, fun h5 hs => wpAny_pure ?_⟩
  have X5 := X2.trans X4
  have S5 : St w K hb f g2 (alSet al i (.ref D)) (l.set i (.val (.list zs))) c2 h5 := S4.touch fun b o q e => by
    have : b ≠ C := by
      rintro rfl
      rcases q with q | q
      · exact q hφ4
      · exact hm4 q
    rw [hs.2 b this]; exact e
  refine wpAny_pure (k _ h5 tk4 g2 _ S5 ⟨fun b o e n => ?_, X5.grow, X5.le, fun b e => ?_, X5.cool⟩ trivial)
  · have : b ≠ C := by rintro rfl; rw [hd] at e; cases e
    rw [hs.2 b this]; exact X5.keep b o e n
  · have : b ≠ C := by rintro rfl; exact e hd
    rw [hs.2 b this]; exact X5.live b e
/-- a comprehension, as a value or stored under a name -/
structure CompR (prog : Program) (w : World) (K : Frag) (hb : Heap) (A : Around) (f : Frm) (l : Loc) (c : Cells) (x : Expr) (zs : List AV) (c' : Cells) : Prop where
  e : WpE prog w K hb A f l c x (.list zs) c'
  s : ∀ {i : Nat} {n : Str} {np pos : Pos}, VK f i n → (compB x fun _ _ scope p2 => swapsNow f.env.kindOf scope n np p2) = true → WpS prog w K hb A f l c (exec (.Assign [.Name n np] x pos) f.env) .next (l.set i (.val (.list zs))) c'
theorem compR_of {elt iter tgt : Expr} {ifs : List Expr} {bind : AV → Loc → Option Loc} {F : Loc → Cells → Option (AV × Cells)} {T : Loc → Cells → Option (Bool × Cells)} {xs zs : List AV}
    (Cc : Cx K hb) (O : EnvOk f) (CO : CompOk f scope caps) (hit : plainIter iter = true) (hI : WpI prog w K hb A f l c iter xs c1) (hcap : capt l caps = some l')
    (B : ∀ C, WpBind prog w K hb A (compFrm f scope C) tgt bind) (hbl : ∀ a l2, bind a l' = some l2 → l2.length = l'.length ∧ ∀ j, l'.at j = l2.at j ∨ l'.at j = .un) (he : ∀ C l c a c2, F l c = some (a, c2) → WpE prog w K hb A (compFrm f scope C) l c elt a c2) (hi : ∀ C, IfsOk prog w K hb A (compFrm f scope C) ifs T)
    (hz : xs.length ≤ lim) (hr : compL F T bind xs l' c1 = some (zs, c2)) : CompR prog w K hb A f l c (.ListComp elt [⟨tgt, iter, ifs, 0⟩] scope pos) zs c2 :=
  ⟨wp_comp Cc O CO hit hI hcap B hbl he hi hz hr, fun V hsw => wpS_asgComp Cc O V CO hsw hit hI hcap B hbl he hi hz hr⟩
end Mine
end
section
open PySem PySem.W PySem.Calls PyProof.Rows
set_option Elab.async false
set_option maxRecDepth 100000
set_option linter.unusedVariables false
namespace Mine
variable {prog : Program} {w : World} {K : Frag} {hb : Heap} {A : Around} {f f' : Frm} {l l' l1 l2 : Loc} {c c' c1 c2 c3 : Cells} {x y z : Expr} {pos : Pos} {a b : AV}

theorem cells_keep {x : Str} : ∀ {names : List (Str × NameKind)} {n : Nat} {acc : List (Str × Addr)}, (∃ k, acc.lookup x = some k) → ∃ k, (cellsFrom n names acc).lookup x = some k
  | [], _, _, h => h
  | (y, kd) :: r, n, acc, h => by
    unfold cellsFrom
    split
    · refine cells_keep ?_
      rw [List.lookup_cons]
      by_cases q : x = y
      · subst q; exact ⟨n, by simp⟩
      · rw [show (x == y) = false from by simpa using q]; exact h
    · exact cells_keep h
theorem cells_some {x : Str} : ∀ {names : List (Str × NameKind)} {n : Nat} {acc : List (Str × Addr)}, (x, NameKind.cell) ∈ names → ∃ k, (cellsFrom n names acc).lookup x = some k
  | [], _, _, h => nomatch h
  | (y, kd) :: r, n, acc, h => by
    unfold cellsFrom
    rcases List.mem_cons.mp h with e | h
    · cases e
      rw [if_pos (by rfl)]
      exact cells_keep ⟨n, by simp⟩
    · split
      · exact cells_some h
      · exact cells_some h

noncomputable def fnFrm (fd : FuncData) (L a : Addr) (nm : List Str) : Frm := ⟨callEnvC fd L a, nm⟩
theorem fnEnvOk {fd : FuncData} {L a : Addr} {nm ps : List Str} (M : FnMeta K fd ps) (nd : nm.Nodup) : EnvOk (fnFrm fd L a nm) where
  fn := M.kd
  gl := M.gl
  bl := M.bl
  nd := nd
  cvn := fun x h => cells_some (mem_of_lookup (show fd.scope.names.lookup x = some .cell from h))

noncomputable def loc0 (as : List AV) (nv : Nat) : Loc := as.map .val ++ List.replicate (nv - as.length) .un
theorem loc0_at {as : List AV} {nv i : Nat} : (loc0 as nv).at i = match as[i]? with | some a => .val a | none => .un := by
  unfold loc0 Loc.at
  by_cases h : i < as.length
  · rw [List.getElem?_append_left (by simpa using h), List.getElem?_map, List.getElem?_eq_getElem h]; rfl
  · rw [List.getElem?_append_right (by simpa using h), List.getElem?_eq_none (l := as) (by lia)]
    rw [List.getElem?_replicate]
    split <;> rfl

theorem fn_enter {g : Gh} {al : Nat → Addr} {s s1 : Shared} {fd : FuncData} {ad : Addr} {nm : List Str} {np : Nat} {as : List AV} {vs : List Value} (Cc : Cx K hb) (S : St w K hb f g al l c s.heap) (R : RpL w K g as vs) (M : FnMeta K fd (nm.take np)) (nd : nm.Nodup) (hnp : np ≤ nm.length) (hlen : as.length = np)
    (I : InCallC s (callEnvC fd s.heap.objs.size ad).locals (bindL (callEnvC fd s.heap.objs.size ad).kindOf ((nm.take np).zip vs) fun _ => none) (callEnvC fd s.heap.objs.size ad).cells (bindC (callEnvC fd s.heap.objs.size ad).kindOf ((nm.take np).zip vs) fun _ => none) s1) :
    St w K hb (fnFrm fd s.heap.objs.size ad nm) g (fun _ => 0) (loc0 as nm.length) c s1.heap ∧ (∀ b, MutA (fnFrm fd s.heap.objs.size ad nm) (fun _ => 0) g.cs (loc0 as nm.length) b → s.heap.get? b = none ∨ b ∈ g.cs) := by
  have keep := I.toInCall.keep
  have deadL : ∀ b, s.heap.objs.size ≤ b → s.heap.get? b = none := fun b h => Heap.get?_none_of_le h
  have cvd : ∀ x k, (callEnvC fd s.heap.objs.size ad).cells.lookup x = some k → s.heap.objs.size < k := fun x k e => I.above x k (mem_of_lookup e)
  have noown : ∀ j a, (loc0 as nm.length).at j ≠ .own a := fun j a e => by
    rw [loc0_at] at e
    split at e <;> cases e
  have mm : ∀ b, MutA (fnFrm fd s.heap.objs.size ad nm) (fun _ => 0) g.cs (loc0 as nm.length) b → (s.heap.objs.size ≤ b) ∨ b ∈ g.cs := fun b m => by
    cases m with
    | loc => exact .inl (Nat.le_refl _)
    | cv e => exact .inl (Nat.le_of_lt (cvd _ _ e))
    | own e => exact absurd e (noown _ _)
    | cell e => exact .inr e
  have mg : mainGlobals < s.heap.objs.size := by
    refine ex_4_2 (Cc.gl) fun mg o es ep ho _ => ?_
    exact Heap.lt_size (S.fz _ _ (S.base _ _ ho))
  have vlen : vs.length = (nm.take np).length := by rw [R.len, hlen, List.length_take]; lia
  have ndt : (nm.take np).Nodup := nd.sublist (List.take_sublist ..)
  have at_take : ∀ i x, nm[i]? = some x → i < np → (nm.take np)[i]? = some x := fun i x hx hi => by rw [List.getElem?_take, if_pos hi]; exact hx
  refine ⟨{
    fz := fun b o e => keep b o (S.fz b o e)
    base := S.base
    mfree := fun b m => by
      rcases mm b m with e | e
      · exact (S.cold (deadL b e)).1
      · exact S.mfree b (.cell e)
    ns := by
      refine ⟨_, I.toInCall.ns, fun i x hx hk => ?_⟩
      rw [loc0_at]
      split
      · rename_i a ha
        have hi : i < np := by rw [← hlen]; exact (List.getElem?_eq_some_iff.mp ha).1
        rw [bindL_loc (kd := (callEnvC fd s.heap.objs.size ad).kindOf) hk ndt vlen (at_take i x hx hi)]
        refine ex_1_2 (R.at ha) fun v hv r => ?_
        exact ⟨v, hv, r⟩
      · trivial
    cv := fun x k e => by
      refine ⟨_, I.cell x k e, fun i hx hk => ?_⟩
      rw [loc0_at]
      split
      · rename_i a ha
        have hi : i < np := by rw [← hlen]; exact (List.getElem?_eq_some_iff.mp ha).1
        rw [bindC_loc (kd := (callEnvC fd s.heap.objs.size ad).kindOf) (by have hk : (callEnvC fd s.heap.objs.size ad).kindOf x = some .cell := hk; rw [hk]; exact fun q => nomatch q) ndt vlen (at_take i x hx hi)]
        refine ex_1_2 (R.at ha) fun v hv r => ?_
        exact ⟨v, hv, r⟩
      · trivial
    len := by show (loc0 as nm.length).length = nm.length; unfold loc0; simp; lia
    own := fun i a e => absurd e (noown i a)
    clen := S.clen
    cel := fun k a e => by
      refine ex_2_3 (S.cel k a e) fun b o hb' ho hr => ?_
      exact ⟨b, o, hb', keep _ o ho, hr⟩
    own_ne := fun i j a b e _ _ => absurd e (noown i a)
    own_loc := fun i a e => absurd e (noown i a)
    own_cv := fun i a x k e _ => absurd e (noown i a)
    own_cell := fun i a e => absurd e (noown i a)
    loc_cell := fun m => (S.cold (deadL _ (Nat.le_refl _))).2 (.cell m)
    cv_cell := fun x k e m => (S.cold (deadL k (Nat.le_of_lt (cvd x k e)))).2 (.cell m)
    cv_loc := fun x k e => Nat.ne_of_gt (cvd x k e)
    cv_inj := fun x y k e e' => PySem.name_of_addr I.apart (mem_of_lookup e) (mem_of_lookup e')
    cnd := S.cnd
    sys := fun b m => by
      rcases mm b m with e | e
      · intro q
        have : mainGlobals < sysModules := Nat.lt_of_lt_of_le mg (q ▸ e)
        exact absurd this (by decide)
      · exact S.sys b (.cell e) }, fun b m => (mm b m).imp (deadL b) id⟩

/-- as AOk, in a body: there is room for one thing more -/
structure AOkB (A : Around) (d : Nat) : Prop where
  hd : A.handled = none
  dp : A.depth + 3 * d + 2 ≤ 600
  un : A.units + 20 * d + 17 ≤ 9000
theorem AOkB.ok {d : Nat} (h : AOkB A d) : AOk A d := ⟨h.hd, by have := h.dp; lia, by have := h.un; lia⟩
theorem Around.deeper_ok {d : Nat} {env : Env} (h : AOk A (d + 1)) : AOkB (A.deeper env) d where
  hd := h.hd
  dp := by have := h.dp; show A.depth + 1 + 3 * d + 2 ≤ 600; lia
  un := by have := h.un; show A.units + 3 + 20 * d + 17 ≤ 9000; lia

theorem call_run {g : Gh} {al : Nat → Addr} {s : Shared} {Q : Value → Shared → Prop} {E : Value → Shared → Prop} {fd : FuncData} {ad : Addr} {nm : List Str} {np : Nat} {as : List AV} {vs : List Value} {body : List Stmt} {d : Nat} {oc : Value} {od : Option Addr} {sl : Array (Option Value)} {fl : Fl} {lf : Loc} {r : RV}
    (Cc : Cx K hb) (hA : AOk A (d + 1)) (S : St w K hb f g al l c s.heap) (R : RpL w K g as vs) (hlk : K.lookup ad = some ⟨oc, od, .func fd, sl⟩) (M : FnMeta K fd (nm.take np)) (hbd : fd.body = .stmts body) (nd : nm.Nodup) (hnp : np ≤ nm.length) (hlen : as.length = np)
    (hbody : WpS prog w K hb (A.deeper (callEnvC fd s.heap.objs.size ad)) (fnFrm fd s.heap.objs.size ad nm) (loc0 as nm.length) c (execs body (callEnvC fd s.heap.objs.size ad)) fl lf c') (hfl : match (generalizing := false) fl with | .ret q => r = q | .next => r = .v .none | .cont => False)
    (k : ∀ v h' tk g', St w K hb f g' al l c' h' → Ext g (MutA f al g.cs l) s.heap g' (MutA f al g'.cs l) h' → RVR w K g' (MutA f al g'.cs l) s.heap h' r v → Q v { s with heap := h', toks := tk }) :
    wpAny (model prog w) A (call (.ref ad) vs) Q E s := by
  have X := S.kin Cc
  have vlen : vs.length = (nm.take np).length := by rw [R.len, hlen, List.length_take]; lia
  have ndt : (nm.take np).Nodup := nd.sublist (List.take_sublist ..)
  refine wpAny_call ?_
  refine codeAny_call_cells (by have := hA.dp; unfold recursionLimit; lia) (X _ _ hlk) rfl (Cc.nolimit.keeps S.hbk) (codeRec_of X M.cd) hbd (binds_simple M.po M.as M.va M.ko M.kw M.df vlen ndt) M.cl (fun x hx => ?_) (fun s₁ I => ?_) M.co M.ge M.kd
  · have hm := (List.of_mem_zip hx).1
    rcases M.lc _ hm with e | e
    · exact .inl e
    · obtain ⟨k', hk'⟩ := cells_some (n := s.heap.objs.size + 1) (acc := []) (mem_of_lookup e)
      exact .inr ⟨e, by rw [hk']; rfl⟩
  · obtain ⟨S1, mm⟩ := fn_enter Cc S R M nd hnp hlen I
    refine ex_2_1 (I.toInCall.same) fun h1 tk1 e1 => ?_
    have keep := I.toInCall.keep
    refine hbody g (fun _ => 0) s₁ _ _ S1 fun v h' tk g' al' S' X' R' => ?_
    have XV : VExt g (MutA (fnFrm fd s.heap.objs.size ad nm) (fun _ => 0) g.cs (loc0 as nm.length)) s.heap.get? g' (MutA (fnFrm fd s.heap.objs.size ad nm) al' g'.cs lf) h' :=
      (Ext.of_keeps keep g (MutA (fnFrm fd s.heap.objs.size ad nm) (fun _ => 0) g.cs (loc0 as nm.length))).view.trans X'
    obtain ⟨S3, X3⟩ := S.leave (.refl ..) S' XV (fun _ _ => rfl) (fun _ _ => rfl) (fun b m => (mm b m).imp id fun q => .inl q) (fun x kk e m => by
      rcases mm kk m with q | q
      · exact absurd q (S.live (.cv e))
      · exact absurd q (S.cv_cell x kk e))
    have es : ({ s₁ with heap := h', toks := tk } : Shared) = { s with heap := h', toks := tk } := by rw [e1]
    rw [es]
    have rv : ∀ {rr : RV} {u : Value}, RVR w K g' (MutA (fnFrm fd s.heap.objs.size ad nm) al' g'.cs lf) s₁.heap h' rr u → RVR w K g' (MutA f al g'.cs l) s.heap h' rr u := fun {rr u} q => by
      cases rr with
      | v a => exact q
      | o a =>
        refine ex_2_7 (q) fun b o eq0 hφ ho hr nm' hd hs => ?_
        subst eq0
        have hd0 : s.heap.get? b = none := by
          cases z : s.heap.get? b with
          | none => rfl
          | some o' => rw [keep b o' z] at hd; cases hd
        refine ⟨b, o, rfl, hφ, ho, hr, fun m => ?_, hd0, hs⟩
        cases m with
        | loc => exact S.live .loc hd0
        | cv e => exact S.live (.cv e) hd0
        | own e => exact S.live (.own e) hd0
        | cell e => exact nm' (.cell e)
    cases fl with
    | ret q =>
      cases v <;> try exact R'.elim
      have hfl : r = q := hfl
      subst hfl
      exact k _ h' tk g' S3 X3 (rv R')
    | next =>
      cases v <;> try exact R'.elim
      have hfl : r = .v .none := hfl
      subst hfl
      exact k _ h' tk g' S3 X3 (show Rp w K g' .none Value.none from Rp.none_iff.mpr rfl)
    | cont => exact hfl.elim
end Mine
end
section
open PySem PySem.W PySem.Calls PyProof.Rows
set_option Elab.async false
set_option maxRecDepth 100000
set_option linter.unusedVariables false
namespace Mine
variable {prog : Program} {w : World} {K : Frag} {hb : Heap} {A : Around} {f f' : Frm} {l l' l1 l2 : Loc} {c c' c1 c2 c3 : Cells} {x y z : Expr} {pos : Pos} {a b : AV}

/-! Fresh() -/
theorem St.addCell {g gs : Gh} {al : Nat → Addr} {h h0 : Heap} {mus : Addr → Prop} {ad : Addr} {o : Obj} (S : St w K hb f g al l c h) (X : Ext gs mus h0 g (MutA f al g.cs l) h) (ho : h.get? ad = some o) (hr : ObR w K g b o) (hφ : g.φ ad = none) (hm : ¬ MutA f al g.cs l ad) (hd : h0.get? ad = none) (hs : ad ≠ sysModules) :
    St w K hb f (addC g ad) al l (c ++ [b]) h ∧ Ext gs mus h0 (addC g ad) (MutA f al (addC g ad).cs l) h := by
  have le := addC_le g ad
  have mm : ∀ d, MutA f al (g.cs ++ [ad]) l d → MutA f al g.cs l d ∨ d = ad := fun d m => by
    cases m with
    | loc => exact .inl .loc
    | cv e => exact .inl (.cv e)
    | own e => exact .inl (.own e)
    | cell e =>
      rcases List.mem_append.mp e with e | e
      · exact .inl (.cell e)
      · exact .inr (List.mem_singleton.mp e)
  refine ⟨{
    fz := S.fz, base := S.base
    mfree := fun d m => by
      rcases mm d m with m | rfl
      · exact S.mfree d m
      · exact hφ
    ns := by
      refine ex_1_2 (S.ns) fun m hm hv => ?_
      exact ⟨m, hm, fun j x hx hk => LVR.mono w K le (hv j x hx hk)⟩
    cv := fun x k e => by
      refine ex_1_2 (S.cv x k e) fun v hc hv => ?_
      exact ⟨v, hc, fun j hx hk => LVR.mono w K le (hv j hx hk)⟩
    len := S.len
    own := fun j a' e => by
      refine ex_1_2 (S.own j a' e) fun o ho hr => ?_
      exact ⟨o, ho, hr.mono w K le⟩
    clen := by show (c ++ [b]).length = (g.cs ++ [ad]).length; rw [List.length_append, List.length_append, S.clen]; rfl
    cel := fun k a' e => by
      show ∃ b o, (g.cs ++ [ad])[k]? = some b ∧ _
      by_cases q : k < c.length
      · rw [List.getElem?_append_left q] at e
        refine ex_2_3 (S.cel k a' e) fun d o hd ho hr => ?_
        exact ⟨d, o, by rw [List.getElem?_append_left (by rw [← S.clen]; exact q)]; exact hd, ho, hr.mono w K le⟩
      · rw [List.getElem?_append_right (by lia)] at e
        have hk : k = c.length := by
          have := (List.getElem?_eq_some_iff.mp e).1
          simp at this; grind
        subst hk
        simp only [Nat.sub_self, List.getElem?_cons_zero, Option.some.injEq] at e
        subst e
        exact ⟨ad, o, by rw [S.clen]; simp, ho, hr.mono w K le⟩
    own_ne := S.own_ne, own_loc := S.own_loc, own_cv := S.own_cv
    own_cell := fun j a' e z => by
      rcases List.mem_append.mp z with z | z
      · exact S.own_cell j a' e z
      · exact hm (List.mem_singleton.mp z ▸ .own e)
    loc_cell := fun z => by
      rcases List.mem_append.mp z with z | z
      · exact S.loc_cell z
      · exact hm (List.mem_singleton.mp z ▸ .loc)
    cv_cell := fun x k e z => by
      rcases List.mem_append.mp z with z | z
      · exact S.cv_cell x k e z
      · exact hm (List.mem_singleton.mp z ▸ .cv e)
    cv_loc := S.cv_loc, cv_inj := S.cv_inj
    cnd := by
      show (g.cs ++ [ad]).Nodup
      rw [List.nodup_append]
      exact ⟨S.cnd, by simp, fun p hp q hq e => hm (by rw [List.mem_singleton.mp hq] at e; exact .cell (e ▸ hp))⟩
    sys := fun d m => by
      rcases mm d m with m | rfl
      · exact S.sys d m
      · exact hs }, X.keep, fun d m => ?_, X.le.trans le, X.live, X.cool⟩
  rcases mm d m with m | rfl
  · exact X.grow d m
  · exact .inr hd

noncomputable def avoidB (st : Stmt) : Bool := exprB st fun e _ => callB e fun f xs ks p2 => attrB f fun y m p1 => nameB y fun s3 _ => oneB xs fun x => nameB x fun v _ => nilB ks && (s3 == "self" && (m == "avoid" && (v == "avoided" && p1.endLine == p2.line)))
@[elab_as_elim] theorem avoidB.on {st : Stmt} {P : Stmt → Prop} (h : avoidB st = true) (g : ∀ a p1 b p2 c, (p1.endLine == p2.line) = true → P (.Expr (.Call (.Attribute (.Name "self" a) "avoid" p1) [.Name "avoided" b] [] p2) c)) : P st :=
  exprB.on h fun e c h => callB.on (P := fun e => P (.Expr e c)) h fun f xs ks p2 h => attrB.on (P := fun f => P (.Expr (.Call f xs ks p2) c)) h fun y m p1 h => nameB.on (P := fun y => P (.Expr (.Call (.Attribute y m p1) xs ks p2) c)) h fun s3 a h =>
    oneB.on (P := fun xs => P (.Expr (.Call (.Attribute (.Name s3 a) m p1) xs ks p2) c)) h fun x h => nameB.on (P := fun x => P (.Expr (.Call (.Attribute (.Name s3 a) m p1) [x] ks p2) c)) h fun v b h => and5 h fun h1 h2 h3 h4 h5 => by
      cases beqT h2; cases beqT h3; cases beqT h4
      exact nilB.on (P := fun ks => P (.Expr (.Call (.Attribute (.Name "self" a) "avoid" p1) [.Name "avoided" b] ks p2) c)) h1 (g a p1 b p2 c h5)
noncomputable def dict0B (e : Expr) : Bool := dictB e fun ks vs _ => nilB ks && nilB vs
@[elab_as_elim] theorem dict0B.on {e : Expr} {P : Expr → Prop} (h : dict0B e = true) (g : ∀ p, P (.Dict [] [] p)) : P e :=
  dictB.on h fun ks vs p h => and2 h fun h1 h2 => nilB.on (P := fun ks => P (.Dict ks vs p)) h1 (nilB.on (P := fun vs => P (.Dict [] vs p)) h2 (g p))
noncomputable def freshBody (l : List Stmt) : Bool := threeB l fun s1 s2 s3 => selfB "avoided" s1 dict0B && (selfB "numbers" s2 dict0B && avoidB s3)
@[elab_as_elim] theorem freshBody.on {l : List Stmt} {P : List Stmt → Prop} (h : freshBody l = true)
    (g : ∀ p q r t p' q' r' t' a p1 b p2 c, (p1.endLine == p2.line) = true → P [.Assign [.Attribute (.Name "self" p) "avoided" q] (.Dict [] [] t) r, .Assign [.Attribute (.Name "self" p') "numbers" q'] (.Dict [] [] t') r', .Expr (.Call (.Attribute (.Name "self" a) "avoid" p1) [.Name "avoided" b] [] p2) c]) : P l :=
  threeB.on h fun s1 s2 s3 h => and3 h fun h1 h2 h3 => selfB.on (P := fun s1 => P [s1, s2, s3]) h1 fun p q v r h1 => dict0B.on (P := fun v => P [.Assign [.Attribute (.Name "self" p) "avoided" q] v r, s2, s3]) h1 fun t =>
    selfB.on (P := fun s2 => P [_, s2, s3]) h2 fun p' q' v' r' h2 => dict0B.on (P := fun v => P [_, .Assign [.Attribute (.Name "self" p') "numbers" q'] v r', s3]) h2 fun t' => avoidB.on (P := fun s3 => P [_, _, s3]) h3 fun a p1 b p2 c e => g p q r t p' q' r' t' a p1 b p2 c e
/-- an own tuple of the written part -/
noncomputable def tupAt (K : Frag) (v : Value) (k : List Value → Bool) : Bool := match v with
  | .ref e => match K.lookup e with
    | some ⟨.type t, none, .seq its _, sl⟩ => t == "tuple" && (sl.isEmpty && k its.toList)
    | _ => false
  | _ => false
theorem tupAt.on {K : Frag} {v : Value} {k : List Value → Bool} {G : Prop} (h : tupAt K v k = true) (g : ∀ e its n, v = .ref e → K.lookup e = some ⟨.type "tuple", none, .seq its n, #[]⟩ → k its.toList = true → G) : G := by
  cases v <;> try exact noB h
  rename_i e
  cases q : K.lookup e with
  | none => simp only [tupAt, q] at h; cases h
  | some o =>
    obtain ⟨cl, od, d, sl⟩ := o
    have h : (match (some ⟨cl, od, d, sl⟩ : Option Obj) with
    | some ⟨.type t, none, .seq its _, sl⟩ => t == "tuple" && (sl.isEmpty && k its.toList)
    | _ => false) = true := q ▸ h
    cases cl <;> try exact noB h
    cases od <;> try exact noB h
    cases d <;> try exact noB h
    rename_i its n
    refine and3 h fun h1 h2 h3 => g e its n rfl ?_ h3
    rw [q, beqT h1, Array.isEmpty_iff.mp h2]
noncomputable def emptyTup (K : Frag) (v : Value) : Bool := tupAt K v nilB
noncomputable def dfltTup (K : Frag) (v : Value) : Bool := tupAt K v fun l => oneB l (emptyTup K)
noncomputable def freshOk (K : Frag) : Bool :=
  nsIn K mainGlobals "Fresh" == some (some (.ref (clsA K 9))) && (keepIn K (.ref (clsA K 9)) && (makesIn K (clsA K 9) && (findIn K (.ref (clsA K 9)) "__init__" == some (some (.ref (initA K 9))) && (typeIn K (.ref (initA K 9)) == some (.type "function") && (
  findIn K (.ref (clsA K 9)) "__setattr__" == some (some (.builtin "object.__setattr__")) && (plainOver K (clsA K 9) && (hasDictIn K (clsA K 9) && (takerIn K (clsA K 9) "avoided" == some none && (takerIn K (clsA K 9) "numbers" == some none && (methOk K 9 "avoid" (fnA K 36) &&
  funcB (K.lookup (initA K 9)) fun fd => fd.params.posonlyargs.isEmpty && (fd.params.args.map (·.arg) == [("self" : Str), "avoided"] && (fd.params.vararg.isNone && (fd.params.kwonlyargs.isEmpty && (fd.params.kwarg.isNone && (fd.closure.isEmpty && (fd.globals == mainGlobals && (fd.builtins == builtinsNs && (
      fd.scope.kind == .function && (!fd.scope.isCoroutine && (!fd.scope.isGenerator && (codeIn K fd.code fd.qualname && (fd.scope.names.all (fun p => p.2 != .cell) && (fd.scope.names.lookup ("self" : Str) == some .local && (fd.scope.names.lookup ("avoided" : Str) == some .local && (stmtsB fd.body freshBody &&
      dfltTup K fd.defaults)))))))))))))))))))))))))
theorem binds_fresh {s : Shared} {fd : FuncData} {self d : Value} {T : Addr} {o : Obj} {n : Nat} (h1 : fd.params.posonlyargs = []) (h2 : fd.params.args.map (·.arg) = [("self" : Str), "avoided"]) (h3 : fd.params.vararg = none) (h4 : fd.params.kwonlyargs = []) (h5 : fd.params.kwarg = none) (h6 : fd.defaults = .ref T)
    (ho : s.heap.get? T = some o) (hs : o.data = .seq #[d] n) : BindsTo s fd ⟨[self], []⟩ [("self", self), ("avoided", d)] := by
  rcases fd with ⟨_, _, ⟨po, as, va, ko, _, kw, _⟩, _, _, _, _, _, df⟩
  dsimp only at h1 h2 h3 h4 h5 h6
  subst h1 h3 h4 h5 h6
  match as, h2 with
  | [⟨a1, _, _⟩, ⟨a2, _, _⟩], h2 =>
    obtain ⟨rfl, rfl⟩ : a1 = ("self" : Str) ∧ a2 = ("avoided" : Str) := by
      injection h2 with h2 h3; injection h3 with h3; exact ⟨h2, h3⟩
    exact BindsTo.of_defaults rfl ho hs (by rfl) (by kernel_rfl)

theorem under_units (A : Around) (C : Addr) (vals : List Value) : (A.under (.builtin "type.__call__" ⟨.ref C :: vals, []⟩)).units ≤ A.units + 10 := by
  show A.units + Code.cUnits _ ≤ _
  have : Code.cUnits (.builtin "type.__call__" ⟨.ref C :: vals, []⟩) ≤ 10 := by
    have hf : Code.frames (.builtin "type.__call__" ⟨.ref C :: vals, []⟩) = 0 := rfl
    show 1 + 3 * Code.frames _ ≤ 10
    lia
  lia
theorem set_new {C dx xa L : Addr} {h₀ : Heap} {m : Str → Option Value} {ox : Obj} {n : Str} {v : Value} {s : Shared} {es : List DictEntry} {n0 : Nat} {news : List (Addr × Obj)} {news' : List DictEntry → Nat → List (Addr × Obj)} {done : List Str} {Q : Unit → Shared → Prop} {E : Value → Shared → Prop} (F : Fr h₀ L s.heap m) (X : K.In h₀) (N : News h₀ L s.heap news)
    (I : PySem.W.InstAt s.heap xa ox C (some (dictOf es n0))) (hd : ox.dict = some dx) (hs : findIn K (.ref C) "__setattr__" = some (some (.builtin "object.__setattr__"))) (hp : plainOver K C = true) (ht : takerIn K C n = some none) (hh : hasDictIn K C = true) (he : EntL w done es) (hn : n ∉ done)
    (U : ∀ es' n', Upd dx (dictOf es n0) (dictOf es' n') news (news' es' n')) (hz : done.length ≤ 10)
    (h : ∀ h' tk es' n', Fr h₀ L h' m → News h₀ L h' (news' es' n') → EntL w (done ++ [n]) es' → es'.map (·.val) = es.map (·.val) ++ [v] → Q () { s with heap := h', toks := tk }) : wpAny (model prog w) A (setAttr (.ref xa) n v) Q E s := by
  have hp1 := putL_new (hs := PyData.keyHash w.params n) (k := .str n (s.toks + 1)) (v := v) he hn
  refine set_dict F X N I hd hs hp ht hh (by rw [EntL.get_none he hn]; rfl) (es' := es ++ [⟨PyData.keyHash w.params n, .str n (s.toks + 1), v⟩]) (n' := n0 + 1) (by rw [hp1.1]; simp [putN_new hp1.2]) (U _ _) (by have := he.len; simp; lia) fun h' F' N' => ?_
  exact h h' _ _ _ F' N' he.snoc (by simp)
theorem wp_fresh {Φ : CallF} {d : Nat} {np : Pos} (Cc : Cx K hb) (O : EnvOk f) (FF : CallOk prog w K hb Φ d) (hA : AOkB A d) (hi : freshOk K = true) (hk : f.env.kindOf "Fresh" = some .globalImplicit)
    (hΦ : Φ 36 [.obj 9 [.cell c.length, .cell (c.length + 1)], .tup []] (c ++ [.dict [] [], .dict [] []]) = some (.v .none, c2)) : WpE prog w K hb A f l c (.Call (.Name "Fresh" np) [] [] pos) (.obj 9 [.cell c.length, .cell (c.length + 1)]) c2 := by
  intro g al s Q E S k
  unfold freshOk at hi
  refine and7 hi fun i1 i2 i3 i4 i5 i6 hi => and6 hi fun i7 i8 i9 i10 i11 hi => funcB.on hi fun oc od fd sl hlk hi => and7 hi fun j1 j2 j3 j4 j5 j6 hi => and7 hi fun j7 j8 j9 j10 j11 j12 hi => and5 hi fun j13 j14 j15 j16 j17 => ?_
  clear hi
  have j1 := List.isEmpty_iff.mp j1
  have j2 := beqT j2
  have j3 := Option.isNone_iff_eq_none.mp j3
  have j4 := List.isEmpty_iff.mp j4
  have j5 := Option.isNone_iff_eq_none.mp j5
  have j9 := beqT j9
  have j10 := notT j10
  have j11 := notT j11
  have j14 := beqT j14
  have j15 := beqT j15
  have i6 := beqT i6
  have i9 := beqT i9
  have i10 := beqT i10
  -- the default
  refine tupAt.on j17 fun T its nn hT hlT hits => ?_
  generalize hl : its.toList = il at hits
  revert hl
  refine oneB.on hits fun d0 hits hl => tupAt.on hits fun e0 its2 nn2 he0 hle hits2 => ?_
  have hits' : its = #[d0] := Array.toList_inj.mp hl
  have hits3 : its2 = #[] := Array.toList_inj.mp (nilB.on (P := fun l => l = []) hits2 rfl)
  subst he0 hits' hits3
  clear hits hl hits2 j17
  refine stmtsB.on j16 fun body hbd j16' => ?_
  clear j16
  revert hbd
  refine freshBody.on j16' fun s1 q1 a1 q2 q3 q4 s2 q5 a2 q6 q7 q8 s3 hline hbd => ?_
  clear j16'
  refine wpAny_Call_NameR (name_top Cc O S (beqT i1) hk (by decide +kernel) ?_)
  refine callWith_L (xs := []) (as := []) Cc rfl i2 wpL_nil S fun vs h' tk g' S' X R => ?_
  simp only [RpL] at R
  subst R
  refine wpAny_call ?_
  have KX := S'.kin Cc
  refine make_core (rest := []) (makes_of KX i3) (looks_findIn KX (beqT i4)) (fun self => bind_fn KX self (beqT i5)) (.inl rfl) ?_
  have keep1 : ∀ b o, h'.get? b = some o → ((h'.push emptyDict).push (instObj (clsA K 9) h'.objs.size)).get? b = some o := fun b o e => Heap.get?_push_of_some _ (Heap.get?_push_of_some _ e)
  have KX1 := KX.keeps keep1
  have hroom : (A.under (.builtin "type.__call__" ⟨[.ref (clsA K 9)], []⟩)).depth < recursionLimit := by
    rw [depth_under_kw]
    have := hA.dp
    unfold recursionLimit; lia
  refine codeAny_call_def hroom (KX1 _ _ hlk) rfl ((Cc.nolimit.keeps S'.hbk).keeps keep1) (codeRec_of KX1 j12) hbd (binds_fresh j1 j2 j3 j4 j5 hT (KX1 _ _ hlT) rfl) (fun p hp => bne_iff_ne.mp (List.all_eq_true.mp j13 p hp)) (fun p hp => ?_) (fun h0 hns hkeep => ?_) j10 j11 j9
  · simp only [List.mem_cons, List.not_mem_nil, or_false] at hp
    rcases hp with rfl | rfl
    · exact j14
    · exact j15
  let L := ((h'.push emptyDict).push (instObj (clsA K 9) h'.objs.size)).objs.size
  let env := callEnv fd L (initA K 9)
  let xa := h'.objs.size + 1
  let dx := h'.objs.size
  have Lsz : L = h'.objs.size + 2 := by show ((h'.push emptyDict).push _).objs.size = _; rw [Heap.size_push, Heap.size_push]
  have kd : ∀ y, y = Str.ofString "self" ∨ y = Str.ofString "avoided" → env.kindOf y = some .local := fun y hy => by
    rcases hy with rfl | rfl
    · exact j14
    · exact j15
  have hkind : env.scope.kind = .function := j9
  have F0 : Fr h' env.locals h0 (fun x => ([(Str.ofString "self", Value.ref xa), (Str.ofString "avoided", Value.ref e0)] : List (Str × Value)).reverse.lookup x) :=
    ⟨hns, fun b o e => hkeep b o (keep1 b o e), by show h'.objs.size ≤ L; rw [Lsz]; exact Nat.le_add_right _ 2⟩
  have fresh : ∀ n, h'.get? (h'.objs.size + n) = none := fun n => Heap.get?_none_of_le (Nat.le_add_right _ n)
  have hx1 : ((h'.push emptyDict).push (instObj (clsA K 9) h'.objs.size)).get? (h'.objs.size + 1) = some (instObj (clsA K 9) h'.objs.size) := by heap_get
  have hd1 : ((h'.push emptyDict).push (instObj (clsA K 9) h'.objs.size)).get? h'.objs.size = some emptyDict := by heap_get
  have neL : ∀ n, n < 2 → h'.objs.size + n ≠ env.locals := fun n hn => by show h'.objs.size + n ≠ L; rw [Lsz]; lia
  have N0 : News h' env.locals h0 [(xa, instObj (clsA K 9) dx), (dx, dictOf [] 0)] := by
    intro p hp
    rcases List.mem_cons.mp hp with rfl | hp
    · exact ⟨hkeep _ _ hx1, neL 1 (by decide), fresh 1⟩
    · rcases List.mem_cons.mp hp with rfl | hp
      · exact ⟨hkeep _ _ hd1, neL 0 (by decide), fresh 0⟩
      · exact nomatch hp
  have mself : ([(Str.ofString "self", Value.ref xa), (Str.ofString "avoided", Value.ref e0)] : List (Str × Value)).reverse.lookup (Str.ofString "self") = some (.ref xa) := by
    simp only [List.reverse_cons, List.reverse_nil, List.nil_append, List.cons_append, List.lookup_cons]
    rw [show ((Str.ofString "self") == (Str.ofString "avoided")) = false from by decide +kernel]
    rfl
  have mav : ([(Str.ofString "self", Value.ref xa), (Str.ofString "avoided", Value.ref e0)] : List (Str × Value)).reverse.lookup (Str.ofString "avoided") = some (.ref e0) := by
    simp only [List.reverse_cons, List.reverse_nil, List.nil_append, List.cons_append, List.lookup_cons]
    rfl
  have g0 : getL (Str.ofString "avoided") [] = some none := rfl
  have xne : xa ≠ dx := Nat.succ_ne_self _
  suffices key : ∀ (Q' : Flow → Shared → Prop) (E' : Value → Shared → Prop) (tk : Nat), (∀ h9 tk9 g9, St w K hb f g9 al l c2 h9 → Ext g (MutA f al g.cs l) s.heap g9 (MutA f al g9.cs l) h9 → Rp w K g9 (.obj 9 [.cell c.length, .cell (c.length + 1)]) (.ref xa) → Q' .next { s with heap := h9, toks := tk9 }) →
      wpAny (model prog w) ((A.under (.builtin "type.__call__" ⟨[.ref (clsA K 9)], []⟩)).deeper env) (execs [.Assign [.Attribute (.Name "self" s1) "avoided" q1] (.Dict [] [] q2) a1, .Assign [.Attribute (.Name "self" q3) "numbers" q4] (.Dict [] [] q5) s2, .Expr (.Call (.Attribute (.Name "self" a2) "avoid" q6) [.Name "avoided" q7] [] q8) s3] env) Q' E' { s with heap := h0, toks := tk } from
    key _ _ _ fun h9 tk9 g9 S9 X9 R9 => ⟨rfl, k (.ref xa) h9 tk9 g9 S9 X9 R9⟩
  clear k
  intro Q' E' tk k
  -- self.avoided = {}
  refine wpAny_execs_cons (plainObj_wpAny_Assign_Attribute (wpAny_Dict_empty ?_) (by rfl))
  have F1 := F0.push emptyDict
  have N1 := News.push F0 N0 emptyDict
  refine wpAny_Name (wpAny_loadName_local hkind (kd _ (.inl rfl)) F1.ns mself ?_) (by decide +kernel)
  generalize he1 : h0.objs.size = e1 at N1 ⊢
  have e1x : e1 ≠ xa := by rw [← he1]; exact fun q => absurd (Heap.lt_size (N0 _ (.head _)).1) (by rw [q]; exact Nat.lt_irrefl _)
  have e1d : e1 ≠ dx := by rw [← he1]; exact fun q => absurd (Heap.lt_size (N0 _ (.tail _ (.head _))).1) (by rw [q]; exact Nat.lt_irrefl _)
  refine set_new (w := w) (es := []) (n0 := 0) (done := []) (news' := fun es n => [(e1, emptyDict), (xa, instObj (clsA K 9) dx), (dx, dictOf es n)]) F1 KX N1 (.of_news N1 (.tail _ (.head _)) (.tail _ (.tail _ (.head _)))) rfl i6 i7 i9 i8 rfl (fun q => nomatch q) (fun es' n' => .tail e1d (.tail xne (.head (fun _ q => nomatch q)))) (by decide) fun h2 tk2 es2 n2 F2 N2 he2 hv2 => ?_
  -- self.numbers = {}
  refine wpAny_execs_cons (plainObj_wpAny_Assign_Attribute (wpAny_Dict_empty ?_) (by rfl))
  have F3 := F2.push emptyDict
  have N3 := News.push F2 N2 emptyDict
  refine wpAny_Name (wpAny_loadName_local hkind (kd _ (.inl rfl)) F3.ns mself ?_) (by decide +kernel)
  generalize he2' : h2.objs.size = e2 at N3 ⊢
  have e2x : e2 ≠ xa := by rw [← he2']; exact fun q => absurd (Heap.lt_size (N2 _ (.tail _ (.head _))).1) (by rw [q]; exact Nat.lt_irrefl _)
  have e2d : e2 ≠ dx := by rw [← he2']; exact fun q => absurd (Heap.lt_size (N2 _ (.tail _ (.tail _ (.head _)))).1) (by rw [q]; exact Nat.lt_irrefl _)
  have e21 : e2 ≠ e1 := by rw [← he2']; exact fun q => absurd (Heap.lt_size (N2 _ (.head _)).1) (by rw [q]; exact Nat.lt_irrefl _)
  refine set_new (w := w) (es := es2) (n0 := n2) (done := [Str.ofString "avoided"]) (news' := fun es n => [(e2, emptyDict), (e1, emptyDict), (xa, instObj (clsA K 9) dx), (dx, dictOf es n)]) F3 KX N3 (.of_news N3 (.tail _ (.tail _ (.head _))) (.tail _ (.tail _ (.tail _ (.head _))))) rfl i6 i7 i10 i8 he2 (by decide +kernel)
    (fun es' n' => .tail e2d (.tail e1d (.tail xne (.head (fun _ q => nomatch q))))) (by decide) fun h4 tk4 es4 n4 F4 N4 he4 hv4 => ?_
  -- the ghosts
  have vals : es4.map (·.val) = [.ref e1, .ref e2] := by rw [hv4, hv2]; rfl
  have S4 := S'.keeps F4.keep
  have X4 := X.trans (Ext.of_keeps F4.keep g' (MutA f al g'.cs l))
  have n2' := N4 _ (.head _)
  have n1' := N4 _ (.tail _ (.head _))
  have nx' := N4 _ (.tail _ (.tail _ (.head _)))
  have nd' := N4 _ (.tail _ (.tail _ (.tail _ (.head _))))
  have dead : ∀ {b}, h'.get? b = none → g'.φ b = none ∧ ¬ MutA f al g'.cs l b ∧ s.heap.get? b = none := fun e => ⟨(S'.cold e).1, (S'.cold e).2, Classical.byContradiction fun q => X.live _ q e⟩
  have mgl : mainGlobals < h'.objs.size := by obtain ⟨mg, o, es, ep, ho, _⟩ := Cc.gl; exact Heap.lt_size (S'.fz _ _ (S'.base _ _ ho))
  have nsys : ∀ {b}, h'.objs.size ≤ b → b ≠ sysModules := fun {b} hle q => by
    have : mainGlobals < sysModules := Nat.lt_of_lt_of_le mgl (q ▸ hle)
    exact absurd this (by decide)
  have Lle : h'.objs.size ≤ env.locals := F0.above
  have e1ge : h'.objs.size ≤ e1 := by rw [← he1]; exact Nat.le_trans Lle (Nat.le_of_lt F0.ns.lt)
  have e2ge : h'.objs.size ≤ e2 := by rw [← he2']; exact Nat.le_trans Lle (Nat.le_of_lt F2.ns.lt)
  have d1 := dead n1'.2.2
  have d2 := dead n2'.2.2
  have d3 := dead nx'.2.2
  have d4 := dead nd'.2.2
  have emp : ∀ g : Gh, ObR w K g (.dict [] []) emptyDict := fun g => by simp only [ObR]; exact ⟨[], 0, rfl, rfl, by simp only [RpL, List.map_nil], .nil⟩
  obtain ⟨S5, X5⟩ := S4.addCell X4 n1'.1 (emp _) d1.1 d1.2.1 d1.2.2 (nsys e1ge)
  have mu5 : ∀ {b}, b ≠ e1 → ¬ MutA f al g'.cs l b → ¬ MutA f al (addC g' e1).cs l b := fun ne n m => by
    cases m with
    | loc => exact n .loc
    | cv e => exact n (.cv e)
    | own e => exact n (.own e)
    | cell e =>
      rcases List.mem_append.mp e with e | e
      · exact n (.cell e)
      · exact ne (List.mem_singleton.mp e)
  obtain ⟨S6, X6⟩ := S5.addCell X5 n2'.1 (emp _) d2.1 (mu5 e21 d2.2.1) d2.2.2 (nsys e2ge)
  have mu6 : ∀ {b}, b ≠ e1 → b ≠ e2 → ¬ MutA f al g'.cs l b → ¬ MutA f al (addC (addC g' e1) e2).cs l b := fun ne ne2 n m => by
    cases m with
    | loc => exact n .loc
    | cv e => exact n (.cv e)
    | own e => exact n (.own e)
    | cell e =>
      rcases List.mem_append.mp e with e | e
      · rcases List.mem_append.mp e with e | e
        · exact n (.cell e)
        · exact ne (List.mem_singleton.mp e)
      · exact ne2 (List.mem_singleton.mp e)
  have S7 := S6.more nd'.1 d4.1 (mu6 e1d.symm e2d.symm d4.2.1)
  have X7 := X6.freezeNew (o := dictOf es4 n4) d4.1 d4.2.2
  have hφx : (frz (addC (addC g' e1) e2) dx (dictOf es4 n4)).φ xa = none := by
    show (if xa = dx then some _ else g'.φ xa) = none
    rw [if_neg xne]; exact d3.1
  have S8 := S7.more nx'.1 hφx (mu6 e1x.symm e2x.symm d3.2.1)
  have X8 : Ext g (MutA f al g.cs l) s.heap (frz (frz (addC (addC g' e1) e2) dx (dictOf es4 n4)) xa (instObj (clsA K 9) dx)) (MutA f al (frz (frz (addC (addC g' e1) e2) dx (dictOf es4 n4)) xa (instObj (clsA K 9) dx)).cs l) h4 := X7.freezeNew (o := instObj (clsA K 9) dx) hφx d3.2.2
  generalize hg8 : frz (frz (addC (addC g' e1) e2) dx (dictOf es4 n4)) xa (instObj (clsA K 9) dx) = g8 at S8 X8
  have fx : g8.φ xa = some (instObj (clsA K 9) dx) := by rw [← hg8]; exact if_pos rfl
  have fd' : g8.φ dx = some (dictOf es4 n4) := by
    rw [← hg8]
    show (if dx = xa then some _ else if dx = dx then some _ else _) = _
    rw [if_neg xne.symm, if_pos rfl]
  have cs8 : g8.cs = g'.cs ++ [e1] ++ [e2] := by rw [← hg8]; rfl
  have Rself : Rp w K g8 (.obj 9 [.cell c.length, .cell (c.length + 1)]) (.ref xa) := by
    skip
    refine ⟨xa, dx, es4, n4, rfl, fx, fd', he4, .ref e1, [.ref e2], vals, ⟨e1, rfl, ?_⟩, .ref e2, [], rfl, ⟨e2, rfl, ?_⟩, rfl⟩
    · rw [cs8, S'.clen]; simp
    · rw [cs8, S'.clen]; simp
  have Rdef : Rp w K g8 (.tup []) (.ref e0) := by
    simp only [Rp, RpL]
    refine ⟨e0, [], nn2, rfl, ?_, rfl⟩
    exact S8.base _ _ (Cc.X _ _ hle)
  have ccat : c ++ [AV.dict [] []] ++ [AV.dict [] []] = c ++ [.dict [] [], .dict [] []] := by simp
  rw [ccat] at S8
  -- self.avoid(avoided)
  have KX4 := KX.keeps F4.keep
  simp only [methOk, Bool.and_eq_true, beq_iff_eq, Bool.not_eq_true', List.contains_eq_mem, decide_eq_false_iff_not] at i11
  obtain ⟨⟨⟨⟨m1, m2⟩, m3⟩, m4⟩, m5⟩ := i11
  refine wpAny_execs_cons (wpAny_Expr (call_attr rfl rfl (by simp) (hline) (wpAny_Name (wpAny_loadName_local hkind (kd _ (.inl rfl)) F4.ns mself ?_) (by decide +kernel))) (by unfold interactive; rw [hkind]; rfl) (swaps_plain rfl))
  intro pl
  have I4 : PySem.W.InstAt h4 xa (instObj (clsA K 9) dx) (clsA K 9) (some (dictOf es4 n4)) := ⟨nx'.1, rfl, rfl, nd'.1⟩
  refine method_fn KX4 I4 (plainGet_of m1).1 (plainGet_of m1).2 m2 (beq_iff_eq.mp m3) (by show (lookIn "avoid" (dictOf es4 n4)).map _ = _; rw [lookIn_dict, EntL.get_none he4 m5]; rfl) ?_
  refine callWith_K (h₀ := h4) KX4 m4 (spliced_cons (wpAny_Name (wpAny_loadName_local hkind (kd _ (.inr rfl)) F4.ns mav (spliced_nil ⟨KX4, ?_⟩)) (by decide +kernel))) rfl rfl
  have hAA : AOk ((A.under (.builtin "type.__call__" ⟨[.ref (clsA K 9)], []⟩)).deeper env) d := by
    refine ⟨hA.hd, ?_, ?_⟩
    · have := hA.dp
      show (A.under _).depth + 1 + 3 * d ≤ 600
      rw [depth_under_kw]; lia
    · have := hA.un
      have u := under_units A (clsA K 9) []
      show (A.under _).units + 3 + 20 * d ≤ 9000
      lia
  refine FF 36 _ _ _ _ hΦ _ hAA f l g8 al _ _ _ [.ref xa, .ref e0] S8 (by simp only [RpL]; exact ⟨_, _, rfl, Rself, _, _, rfl, Rdef, rfl⟩) fun v h9 tk9 g9 S9 X9 R9 => ?_
  have R9 : Rp w K g9 .none v := R9
  obtain rfl := Rp.none_iff.mp R9
  refine wpAny_execs_nil ?_
  exact k h9 tk9 g9 S9 (X8.trans X9) (Rself.mono w K X9.le _ _)
end Mine
end
section
open PySem PySem.W PySem.Calls PyProof.Rows
set_option Elab.async false
set_option maxRecDepth 100000
set_option linter.unusedVariables false
namespace Mine

/-! the check of the small language against the written text -/
structure Sg where
  names : List (Str × NameKind)
  nm : List Str
noncomputable def Sg.kd (sg : Sg) (n : Str) : Option NameKind := sg.names.lookup n
noncomputable def Sg.vk (sg : Sg) (i : Nat) (n : Str) : Bool := Mine.vk sg.kd sg.nm i n
noncomputable def Sg.glob (sg : Sg) (n : Str) : Bool := sg.kd n == some .globalImplicit && !(n == ("__debug__" : Str))
noncomputable def Sg.built (K : Frag) (sg : Sg) (n : Str) : Bool := nsIn K mainGlobals n == some none && sg.kd n == some .globalImplicit
noncomputable def relabS (kd : Str → Option NameKind) (names : List (Str × NameKind)) : List (Str × NameKind) := names.map fun (n, k) => if (k == .free && kd n == some .cell) then (n, .cell) else (n, k)
noncomputable def Sg.inner (sg : Sg) (scope : Scope) : Sg := ⟨relabS sg.kd scope.names, sg.nm⟩
noncomputable def compOkS (sg : Sg) (scope : Scope) (caps : List Nat) : Bool :=
  scope.kind == .function && scope.names.all (fun p => p.2 != .cell && (p.2 != .local || scope.names.lookup p.1 == some .local) && (p.2 != .free || (sg.kd p.1 == some .cell && caps.any (fun i => sg.nm[i]? == some p.1) && (relabS sg.kd scope.names).lookup p.1 == some .cell))) &&
  (List.range sg.nm.length).all fun i => match sg.nm[i]? with
    | some x => !((relabS sg.kd scope.names).lookup x == some .local) || !caps.contains i
    | none => true
noncomputable def callOk (K : Frag) (sg : Sg) (n : Nat) (nm : Str) (xs : List Expr) : Bool :=
  noStar xs && (nsIn K mainGlobals nm == some (some (.ref (fnA K n))) && (sg.glob nm && keepIn K (.ref (fnA K n))))

structure Ck where
  e : Sg → Expr → Bool
  t : Sg → Expr → Bool
  l : Sg → List Expr → Bool
  i : Sg → Expr → Bool
  b : BoolOp → Sg → List Expr → Bool
noncomputable def bOne (t : Sg → Expr → Bool) (_ : BoolOp) (sg : Sg) (l : List Expr) : Bool := oneB l (t sg)
noncomputable def Ck.ofE (e : Sg → Expr → Bool) : Ck where
  e := e
  t := fun sg x => plainTruth x && e sg x
  l := fun _ _ => false
  i := e
  b := bOne fun sg x => plainTruth x && e sg x
noncomputable def Ck.ofT (e t : Sg → Expr → Bool) : Ck where
  e := e
  t := t
  l := fun _ _ => false
  i := e
  b := bOne t
noncomputable def Ck.ofI (i : Sg → Expr → Bool) : Ck where
  e := fun _ _ => false
  t := fun _ _ => false
  l := fun _ _ => false
  i := i
  b := fun _ _ _ => false
noncomputable def opA : Op → Operator
  | .add => .Add
  | .sub => .Sub
  | .mul => .Mult
  | .fdiv => .FloorDiv
  | .mod => .Mod
  | .pow => .Pow
noncomputable def tgtsS (sg : Sg) : List Nat → List Expr → Bool
  | [] => nilB
  | i :: is => fun l => match l with
    | e :: es => nameB e (fun n _ => sg.vk i n) && tgtsS sg is es
    | [] => false
/-- a first item and more -/
noncomputable def moreB (l : List Expr) (k : Expr → List Expr → Bool) : Bool := match l with
  | x :: r => !nilB r && k x r
  | [] => false
noncomputable def andB (o : BoolOp) (ta : Sg → Expr → Bool) (bb : BoolOp → Sg → List Expr → Bool) (sg : Sg) (l : List Expr) : Bool := moreB l fun x r => ta sg x && bb o sg r
/-! a call of a name, of a built-in; of an attribute -/
section
variable {K : Frag} {sg : Sg} {x : Expr} {P : Expr → Prop}
noncomputable def nmCall (x : Expr) (k : Str → List Expr → Bool) : Bool := callB x fun f xs ks _ => nameB f fun nm _ => nilB ks && k nm xs
@[elab_as_elim] theorem nmCall.on {k : Str → List Expr → Bool} (h : nmCall x k = true) (g : ∀ nm np xs pos, k nm xs = true → P (.Call (.Name nm np) xs [] pos)) : P x :=
  callB.on h fun f xs ks pos h => nameB.on (P := fun f => P (.Call f xs ks pos)) h fun nm np h => and2 h fun h1 h2 => nilB.on (P := fun ks => P (.Call (.Name nm np) xs ks pos)) h1 (g nm np xs pos h2)
noncomputable def built (K : Frag) (sg : Sg) (b : Str) (x : Expr) (k : List Expr → Bool) : Bool := nmCall x fun nm xs => nm == b && (sg.built K b && (noStar xs && k xs))
@[elab_as_elim] theorem built.on {b : Str} {k : List Expr → Bool} (h : built K sg b x k = true) (g : ∀ np xs pos, sg.built K b = true → noStar xs = true → k xs = true → P (.Call (.Name b np) xs [] pos)) : P x :=
  nmCall.on h fun nm np xs pos h => and4 h fun h1 h2 h3 h4 => by
    cases beqT h1; exact g np xs pos h2 h3 h4
noncomputable def built1 (K : Frag) (sg : Sg) (b : Str) (x : Expr) (k : Expr → Bool) : Bool := built K sg b x fun xs => oneB xs k
@[elab_as_elim] theorem built1.on {b : Str} {k : Expr → Bool} (h : built1 K sg b x k = true) (g : ∀ np y pos, sg.built K b = true → noStar [y] = true → k y = true → P (.Call (.Name b np) [y] [] pos)) : P x :=
  built.on h fun np xs pos h1 h2 h3 => oneB.on (P := fun xs => noStar xs = true → P (.Call (.Name b np) xs [] pos)) h3 (fun y h3 h2 => g np y pos h1 h2 h3) h2
noncomputable def atCall (x : Expr) (b : Str) (k : Expr → List Expr → Bool) : Bool := callB x fun f xs ks pos => attrB f fun y nm apos => nilB ks && (nm == b && (notBare y && (noStar xs && (apos.endLine == pos.line && k y xs))))
@[elab_as_elim] theorem atCall.on {b : Str} {k : Expr → List Expr → Bool} (h : atCall x b k = true) (g : ∀ y apos xs pos, notBare y = true → noStar xs = true → (apos.endLine == pos.line) = true → k y xs = true → P (.Call (.Attribute y b apos) xs [] pos)) : P x :=
  callB.on h fun f xs ks pos h => attrB.on (P := fun f => P (.Call f xs ks pos)) h fun y nm apos h => and6 h fun h1 h2 h3 h4 h5 h6 => nilB.on (P := fun ks => P (.Call (.Attribute y nm apos) xs ks pos)) h1 (by
    cases beqT h2; exact g y apos xs pos h3 h4 h5 h6)
noncomputable def nmSlice (x : Expr) (k : Expr → Option Expr → Option Expr → Bool) : Bool := subB x fun y z _ => nameB y fun nm np => sliceB z fun lo hi st _ => noneB st && k (.Name nm np) lo hi
@[elab_as_elim] theorem nmSlice.on {k : Expr → Option Expr → Option Expr → Bool} (h : nmSlice x k = true) (g : ∀ nm np lo hi p2 pos, k (.Name nm np) lo hi = true → P (.Subscript (.Name nm np) (.Slice lo hi none p2) pos)) : P x :=
  subB.on h fun y z pos h => nameB.on (P := fun y => P (.Subscript y z pos)) h fun nm np h => sliceB.on (P := fun z => P (.Subscript (.Name nm np) z pos)) h fun lo hi st p2 h => and2 h fun h1 h2 => noneB.on (P := fun st => P (.Subscript (.Name nm np) (.Slice lo hi st p2) pos)) h1 (g nm np lo hi p2 pos h2)
noncomputable def fromB (x : Expr) (k : Expr → Expr → Bool) : Bool := nmSlice x fun y lo hi => noneB hi && someB lo (k y)
@[elab_as_elim] theorem fromB.on {k : Expr → Expr → Bool} (h : fromB x k = true) (g : ∀ nm np y p2 pos, k (.Name nm np) y = true → P (.Subscript (.Name nm np) (.Slice (some y) none none p2) pos)) : P x :=
  nmSlice.on h fun nm np lo hi p2 pos h => and2 h fun h1 h2 => noneB.on (P := fun hi => P (.Subscript (.Name nm np) (.Slice lo hi none p2) pos)) h1 (someB.on (P := fun lo => P (.Subscript (.Name nm np) (.Slice lo none none p2) pos)) h2 fun y h => g nm np y p2 pos h)
/-- a list comprehension of one part -/
noncomputable def lcB (x : Expr) (k : Expr → Expr → Expr → List Expr → Scope → Bool) : Bool := compB x fun y gens scope _ => oneB gens fun c => c.is_async == 0 && k y c.target c.iter c.ifs scope
@[elab_as_elim] theorem lcB.on {k : Expr → Expr → Expr → List Expr → Scope → Bool} (h : lcB x k = true) (g : ∀ y t z ifs scope pos, k y t z ifs scope = true → P (.ListComp y [⟨t, z, ifs, 0⟩] scope pos)) : P x :=
  compB.on h fun y gens scope pos h => oneB.on (P := fun gens => P (.ListComp y gens scope pos)) h fun c h => and2 h fun h1 h2 => by
    obtain ⟨t, z, ifs, a⟩ := c
    cases beqT h1; exact g y t z ifs scope pos h2
noncomputable def cnst (x : Expr) (m : Const) : Bool := constB x fun c _ _ => c == m
@[elab_as_elim] theorem cnst.on {m : Const} (h : cnst x m = true) (g : ∀ k pos, P (.Constant m k pos)) : P x :=
  constB.on h fun c k pos h => by cases beqT h; exact g k pos
theorem moreB.on {l : List Expr} {k : Expr → List Expr → Bool} {P : List Expr → Prop} (h : moreB l k = true) (g : ∀ x y r, k x (y :: r) = true → P (x :: y :: r)) : P l := match l, h with
  | x :: y :: r, h => and2 (show (!nilB (y :: r) && k x (y :: r)) = true from h) fun _ h => g x y r h
  | [x], h => and2 (show (!nilB ([] : List Expr) && k x []) = true from h) fun h _ => noB h
end

/-- the checks of comprehensions, their parts told -/
noncomputable def comp1C (sg : Sg) (v : Nat) (caps : List Nat) (ki ke : Sg → Expr → Bool) (kc : Sg → List Expr → Bool) (x : Expr) : Bool := lcB x fun y t z ifs scope => nameB t fun n _ => compOkS sg scope caps && (!caps.contains v && (plainIter z && ((sg.inner scope).vk v n && (ki sg z && (ke (sg.inner scope) y && kc (sg.inner scope) ifs)))))
noncomputable def comp2C (sg : Sg) (v v2 : Nat) (caps : List Nat) (ki ke : Sg → Expr → Bool) (x : Expr) : Bool := lcB x fun y t z ifs scope => tupB t fun es _ _ => nilB ifs && (compOkS sg scope caps && (!caps.contains v && (!caps.contains v2 && (plainIter z && (tgtsS (sg.inner scope) [v, v2] es && (ki sg z && ke (sg.inner scope) y))))))
noncomputable def chk (K : Frag) : IE → Ck
  | .nil => { Ck.ofI (fun _ _ => false) with l := fun _ xs => nilB xs }
  | .cons e es => { Ck.ofI (fun _ _ => false) with l := fun sg xs => match xs with
      | x :: r => noStar [x] && ((chk K e).e sg x && (chk K es).l sg r)
      | [] => false }
  | .loc i => .ofE fun sg x => nameB x fun n _ => sg.vk i n
  | .int n => .ofE fun _ x => cnst x (.int n)
  | .str s => .ofE fun _ x => cnst x (.str s)
  | .bool b => .ofE fun _ x => cnst x (.bool b)
  | .none => .ofE fun _ x => cnst x .none
  | .attr e f => .ofE fun sg x => attrB x fun y n _ => notBare y && (attrNames[f]? == some n && (chk K e).e sg y)
  | .call f es => .ofE fun sg x => nmCall x fun nm xs => callOk K sg f nm xs && (chk K es).l sg xs
  | .callO f es => .ofE fun sg x => nmCall x fun nm xs => callOk K sg f nm xs && (chk K es).l sg xs
  | .meth e m es => .ofE fun sg x => atCall x ((methNames[m]?).getD "") fun y xs => decide (xs.length < 29) && (methNames[m]? == some ((methNames[m]?).getD "") && ((chk K e).e sg y && (chk K es).l sg xs))
  | .new k es => .ofE fun sg x => nmCall x fun nm xs => clsNames[k]? == some nm && (initOk K k && (noStar xs && (sg.glob nm && (decide ((clsFields k).length ≤ 10) && (nFields k == (clsFields k).length && (chk K es).l sg xs)))))
  | .fresh => .ofE fun sg x => nmCall x fun nm xs => nilB xs && (nm == "Fresh" && (freshOk K && sg.kd "Fresh" == some .globalImplicit))
  | .isi e k => .ofE fun sg x => built K sg "isinstance" x fun xs => twoB xs fun y z => nameB z fun cn _ => sg.glob cn && (clsNames[k]? == some cn && (decide (k < 10) && (chk K e).e sg y))
  | .len e => .ofE fun sg x => built1 K sg "len" x ((chk K e).e sg)
  | .copy e => .ofE fun sg x => built1 K sg "dict" x ((chk K e).e sg)
  | .sorted e => .ofE fun sg x => built1 K sg "sorted" x ((chk K e).e sg)
  | .strOf e => .ofE fun sg x => built1 K sg "str" x ((chk K e).e sg)
  | .intOf e => .ofE fun sg x => built1 K sg "int" x ((chk K e).e sg)
  | .max a b => .ofE fun sg x => built K sg "max" x fun xs => twoB xs fun y z => (chk K a).e sg y && (chk K b).e sg z
  | .tupOf e => .ofE fun sg x => built1 K sg "tuple" x ((chk K e).e sg)
  | .rfind e a => .ofE fun sg x => atCall x "rfind" fun y xs => oneB xs fun z => (chk K e).e sg y && (chk K a).e sg z
  | .isdigit e => .ofE fun sg x => atCall x "isdigit" fun y xs => nilB xs && (chk K e).e sg y
  | .get1 e k => .ofE fun sg x => atCall x "get" fun y xs => oneB xs fun z => (chk K e).e sg y && (chk K k).e sg z
  | .get2 e k d => .ofE fun sg x => atCall x "get" fun y xs => twoB xs fun z u => (chk K e).e sg y && ((chk K k).e sg z && (chk K d).e sg u)
  | .bin o a b => .ofE fun sg x => binB x fun y p z _ => p == opA o && ((chk K a).e sg y && (chk K b).e sg z)
  | .neg e => .ofE fun sg x => unB x fun p y _ => p == .USub && (chk K e).e sg y
  | .cmp o a b =>
    let c := fun (sg : Sg) (x : Expr) => cmpB x fun y ps zs _ => oneB ps fun p => oneB zs fun z => p == opOf o && ((chk K a).e sg y && (if (nnone o).isSome = true then cnst z .none else plainCmp z && (chk K b).e sg z))
    .ofT c c
  | .and a b =>
    let t := fun (sg : Sg) (x : Expr) => boolB x fun p xs _ => p == .And && andB .And (chk K a).t (chk K b).b sg xs
    { Ck.ofT (fun sg x => boolB x fun p xs _ => p == .And && twoB xs fun y z => (chk K a).e sg y && (chk K b).e sg z) t with b := fun op sg xs => (op == .And && andB .And (chk K a).t (chk K b).b sg xs) || bOne t op sg xs }
  | .or a b =>
    let t := fun (sg : Sg) (x : Expr) => boolB x fun p xs _ => p == .Or && andB .Or (chk K a).t (chk K b).b sg xs
    { Ck.ofT (fun _ _ => false) t with b := fun op sg xs => (op == .Or && andB .Or (chk K a).t (chk K b).b sg xs) || bOne t op sg xs }
  | .not a => .ofT (fun _ _ => false) fun sg x => unB x fun p y _ => p == .Not && (chk K a).t sg y
  | .ite t a b => .ofE fun sg x => iteB x fun y u v _ => (chk K t).t sg y && ((chk K a).e sg u && (chk K b).e sg v)
  | .list es => .ofE fun sg x => listB x fun xs _ => (chk K es).l sg xs
  | .tup es => .ofE fun sg x => tupB x fun xs _ _ => (chk K es).l sg xs
  | .dict0 => .ofE fun _ x => dict0B x
  | .dict1 k v => .ofE fun sg x => dictB x fun ks vs _ => oneB ks fun oy => someB oy fun y => oneB vs fun z => (chk K k).e sg y && (chk K v).e sg z
  | .idx e i => .ofE fun sg x => subB x fun y z _ => notSlice z && ((chk K e).e sg y && (chk K i).e sg z)
  | .sliceTo e b => .ofE fun sg x => nmSlice x fun y lo hi => noneB lo && someB hi fun z => (chk K e).e sg y && (chk K b).e sg z
  | .sliceFrom e a => .ofE fun sg x => fromB x fun y z => (chk K e).e sg y && (chk K a).e sg z
  | .range1 e => .ofI fun sg x => built1 K sg "range" x ((chk K e).e sg)
  | .range3 a b c => .ofI fun sg x => built K sg "range" x fun xs => threeB xs fun y z u => (chk K a).e sg y && ((chk K b).e sg z && (chk K c).e sg u)
  | .rev e => .ofI fun sg x => built1 K sg "reversed" x ((chk K e).e sg)
  | .comp1 v caps elt it => .ofE fun sg => comp1C sg v caps (chk K it).i (chk K elt).e fun _ => nilB
  | .comp1if v caps elt it cond => .ofE fun sg => comp1C sg v caps (chk K it).i (chk K elt).e fun sg l => oneB l ((chk K cond).t sg)
  | .comp2 v v2 caps elt it => .ofE fun sg => comp2C sg v v2 caps (chk K it).i (chk K elt).e

noncomputable def isComp (e : IE) : Bool := e.ctorIdx == 42 || (e.ctorIdx == 43 || e.ctorIdx == 44)
noncomputable def asgOk (sg : Sg) (e : IE) (n : Str) (np : Pos) (x : Expr) : Bool := if isComp e = true then compB x fun _ _ scope p2 => swapsNow sg.kd scope n np p2 else plainVal x
noncomputable def isStmt (s : IS) : Bool := Nat.ble 2 s.ctorIdx && Nat.ble s.ctorIdx 16
/-- the one target of an assignment -/
noncomputable def asg1 (st : Stmt) (k : Expr → Expr → Bool) : Bool := asgB st fun ts x _ => oneB ts fun t => k t x
@[elab_as_elim] theorem asg1.on {st : Stmt} {k : Expr → Expr → Bool} {P : Stmt → Prop} (h : asg1 st k = true) (g : ∀ t x pos, k t x = true → P (.Assign [t] x pos)) : P st :=
  asgB.on h fun ts x pos h => oneB.on (P := fun ts => P (.Assign ts x pos)) h fun t h => g t x pos h
noncomputable def asgT1 (st : Stmt) (k : List Expr → Expr → Bool) : Bool := asg1 st fun t x => tupB t fun es _ _ => k es x
@[elab_as_elim] theorem asgT1.on {st : Stmt} {k : List Expr → Expr → Bool} {P : Stmt → Prop} (h : asgT1 st k = true) (g : ∀ es n p x pos, k es x = true → P (.Assign [.Tuple es n p] x pos)) : P st :=
  asg1.on h fun t x pos h => tupB.on (P := fun t => P (.Assign [t] x pos)) h fun es n p h => g es n p x pos h
noncomputable def isGhost (s : IS) : Bool := s.ctorIdx == 17 || s.ctorIdx == 18
noncomputable def headB (l : List Stmt) (k : Stmt → List Stmt → Bool) : Bool := match l with
  | st :: r => k st r
  | [] => false
@[elab_as_elim] theorem headB.on {l : List Stmt} {k : Stmt → List Stmt → Bool} {P : List Stmt → Prop} (h : headB l k = true) (g : ∀ st r, k st r = true → P (st :: r)) : P l := match l, h with
  | st :: r, h => g st r h
noncomputable def chkS (K : Frag) : IS → Sg → List Stmt → Bool
  | .skip, _, sts => nilB sts
  | .seq s rest, sg, sts => if isGhost s = true then chkS K rest sg sts else headB sts fun st r => isStmt s && (chkS K s sg [st] && chkS K rest sg r)
  | .asg i e, sg, sts => oneB sts fun st => asg1 st fun t x => nameB t fun n np => sg.vk i n && (asgOk sg e n np x && (chk K e).e sg x)
  | .asg2 i j a b, sg, sts => oneB sts fun st => asgT1 st fun ts v => tupB v fun vs _ _ => twoB ts fun t1 t2 => twoB vs fun x y => nameB t1 fun n1 p1 => nameB t2 fun n2 p2 => sg.vk i n1 && (sg.vk j n2 && (swapOk sg.kd n1 p1 n2 p2 x y && ((chk K a).e sg x && (chk K b).e sg y)))
  | .asgT is e, sg, sts => oneB sts fun st => asgT1 st fun es x => tgtsS sg is es && (plainVal x && (x.ctorIdx != 25 && (chk K e).e sg x))
  | .popT is p, sg, sts => oneB sts fun st => asgT1 st fun es v => atCall v "pop" fun x xs => nilB xs && (tgtsS sg is es && (chk K p).e sg x)
  | .setIdx p k v, sg, sts => oneB sts fun st => asg1 st fun t z => subB t fun x y _ => plainVal z && ((chk K v).e sg z && ((chk K p).e sg x && (chk K k).e sg y))
  | .aug i e, sg, sts => oneB sts fun st => augB st fun t o x _ => o == .Add && nameB t fun n _ => sg.vk i n && (chk K e).e sg x
  | .ret e, sg, sts => oneB sts fun st => retB st fun v _ => someB v ((chk K e).e sg)
  | .ifs t a b, sg, sts => oneB sts fun st => ifB st fun x sa sb _ => (chk K t).t sg x && (chkS K a sg sa && chkS K b sg sb)
  | .for1 i it body, sg, sts => oneB sts fun st => forB st fun t z sb se _ => nilB se && nameB t fun n _ => sg.vk i n && (plainIter z && ((chk K it).i sg z && chkS K body sg sb))
  | .forT is it body, sg, sts => oneB sts fun st => forB st fun t z sb se _ => nilB se && tupB t fun es _ _ => tgtsS sg is es && (plainIter z && ((chk K it).i sg z && chkS K body sg sb))
  | .whil t body, sg, sts => oneB sts fun st => whileB st fun x sb se _ => nilB se && ((chk K t).t sg x && chkS K body sg sb)
  | .append p e, sg, sts => oneB sts fun st => exprB st fun v _ => atCall v "append" fun x xs => oneB xs fun y => (chk K p).e sg x && (chk K e).e sg y
  | .expr e, sg, sts => oneB sts fun st => exprB st fun x _ => plainVal x && (chk K e).e sg x
  | .delFrom p a, sg, sts => oneB sts fun st => delB st fun ts _ => oneB ts fun t => fromB t fun x y => (chk K p).e sg x && (chk K a).e sg y
  | .cont, _, sts => oneB sts fun st => contB st fun _ => true
  | .freeze _, _, _ => false
  | .promote _, _, _ => false
noncomputable def fnOk (K : Frag) (n : Nat) : Bool := match fun? n with
  | some F => funcB (K.lookup (fnA K n)) fun fd => fnMeta K fd ((varsOf n).take F.np) && (decide (varsOf n).Nodup && ((varsOf n).length == F.nv && (decide (F.np ≤ F.nv) && stmtsB fd.body (chkS K F.body ⟨fd.scope.names, varsOf n⟩))))
  | none => true
end Mine
end
section
open PySem PySem.W PySem.Calls PyProof.Rows
set_option Elab.async false
set_option maxRecDepth 100000
set_option linter.unusedVariables false
namespace Mine
variable {prog : Program} {w : World} {K : Frag} {hb : Heap} {A : Around} {f : Frm} {l l' : Loc} {c c' c1 c2 c3 : Cells} {sg : Sg} {Φ : CallF} {d : Nat}

structure FrOk (f : Frm) (sg : Sg) : Prop where
  ok : EnvOk f
  names : f.env.scope.names = sg.names
  nm : f.nm = sg.nm
theorem FrOk.kd (F : FrOk f sg) : f.env.kindOf = sg.kd := by
  funext n
  show f.env.scope.names.lookup n = sg.names.lookup n
  rw [F.names]
theorem FrOk.vk (F : FrOk f sg) {i : Nat} {n : Str} (h : sg.vk i n = true) : VK f i n := VK.of (by rw [F.kd, F.nm]; exact h)
theorem FrOk.glob (F : FrOk f sg) {n : Str} (h : sg.glob n = true) : f.env.kindOf n = some .globalImplicit ∧ (n == ("__debug__" : Str)) = false := by
  simp only [Sg.glob, Bool.and_eq_true, beq_iff_eq, Bool.not_eq_true'] at h
  rw [F.kd]; exact h
theorem FrOk.built (F : FrOk f sg) {n : Str} (h : sg.built K n = true) : BuiltIn K f n = true := by
  simp only [Sg.built, BuiltIn] at h ⊢
  rw [F.kd]; exact h
theorem FrOk.tgts (F : FrOk f sg) : ∀ {is : List Nat} {es : List Expr}, tgtsS sg is es = true → Tgts f is es
  | [], es, h => nilB.on (P := fun es => Tgts f [] es) h .nil
  | i :: is, [], h => noB h
  | i :: is, e :: es, h => and2 h fun h1 h2 => nameB.on (P := fun e => Tgts f (i :: is) (e :: es)) h1 fun n p h1 => .cons (F.vk h1) (F.tgts h2)
theorem FrOk.relab (F : FrOk f sg) (scope : Scope) : (relabel scope f.env).names = relabS sg.kd scope.names := by
  unfold relabel relabS
  dsimp only
  refine List.map_congr_left fun p _ => ?_
  obtain ⟨n, k⟩ := p
  have e : (f.env.scope.kind == ScopeKind.function) = true := by rw [F.ok.fn]; rfl
  simp only [e, Bool.and_true, F.kd]
theorem FrOk.comp (F : FrOk f sg) {scope : Scope} {caps : List Nat} (h : compOkS sg scope caps = true) : CompOk f scope caps := by
  simp only [compOkS, Bool.and_eq_true, List.all_eq_true] at h
  obtain ⟨⟨h1, h2⟩, h3⟩ := h
  refine ⟨by simpa using h1, fun p hp => ?_, fun p hp e => ?_, fun p hp e => ?_, fun i x hx hk hc => ?_⟩
  · have := (h2 p hp).1.1
    simpa using this
  · have := (h2 p hp).1.2
    rw [e] at this
    simpa using this
  · have := (h2 p hp).2
    rw [e] at this
    simp only [bne_self_eq_false, Bool.false_or, Bool.and_eq_true, beq_iff_eq, List.any_eq_true] at this
    obtain ⟨⟨a1, i, hi, a2⟩, a3⟩ := this
    exact ⟨by rw [F.kd]; exact a1, ⟨i, hi, by rw [F.nm]; exact a2⟩, by rw [F.relab]; exact a3⟩
  · rw [F.nm] at hx
    rw [F.relab] at hk
    have := h3 i (by simpa using (List.getElem?_eq_some_iff.mp hx).1)
    rw [hx] at this
    simp only [hk, beq_self_eq_true, Bool.not_true, Bool.false_or, Bool.not_eq_true', List.contains_eq_mem, decide_eq_false_iff_not] at this
    exact this hc
theorem FrOk.inner (F : FrOk f sg) {scope : Scope} {caps : List Nat} (CO : CompOk f scope caps) (C : Addr) : FrOk (compFrm f scope C) (sg.inner scope) :=
  ⟨compEnvOk F.ok CO, F.relab scope, F.nm⟩

/-- what is to be shown of an expression -/
structure Snd (prog : Program) (w : World) (K : Frag) (hb : Heap) (Φ : CallF) (d : Nat) (e : IE) : Prop where
  r : ∀ {sg : Sg} {x : Expr} {f : Frm} {A : Around} {l : Loc} {c : Cells} {r : RV} {c' : Cells}, (chk K e).e sg x = true → FrOk f sg → AOkB A d → (ev tab Φ e).r l c = some (r, c') → WpR prog w K hb A f l c x r c'
  p : ∀ {sg : Sg} {x : Expr} {f : Frm} {A : Around} {l : Loc} {c : Cells} {r : Pl} {c' : Cells}, (chk K e).e sg x = true → FrOk f sg → AOkB A d → plOf e (ev tab Φ e) l c = some (r, c') → WpP prog w K hb A f l c x r c'
  t : ∀ {sg : Sg} {x : Expr} {f : Frm} {A : Around} {l : Loc} {c : Cells} {r : Bool} {c' : Cells}, (chk K e).t sg x = true → FrOk f sg → AOkB A d → (ev tab Φ e).t l c = some (r, c') → WpT prog w K hb A f l c x r c'
  l : ∀ {sg : Sg} {x : List Expr} {f : Frm} {A : Around} {l : Loc} {c : Cells} {r : List AV} {c' : Cells}, (chk K e).l sg x = true → FrOk f sg → AOkB A d → (ev tab Φ e).l l c = some (r, c') → WpL prog w K hb A f l c x r c'
  i : ∀ {sg : Sg} {x : Expr} {f : Frm} {A : Around} {l : Loc} {c : Cells} {r : List AV} {c' : Cells}, (chk K e).i sg x = true → FrOk f sg → AOkB A d → (ev tab Φ e).i l c = some (r, c') → WpI prog w K hb A f l c x r c'
  b : ∀ {op : BoolOp} {sg : Sg} {x : List Expr} {f : Frm} {A : Around} {l : Loc} {c : Cells} {r : Bool} {c' : Cells}, (chk K e).b op sg x = true → FrOk f sg → AOkB A d → (ev tab Φ e).t l c = some (r, c') → WpB prog w K hb A f l c op x r c'
variable {e e1 e2 e3 : IE}
theorem Snd.ee (s : Snd prog w K hb Φ d e) {x : Expr} {a : AV} (h : (chk K e).e sg x = true) (F : FrOk f sg) (hA : AOkB A d) (he : (ev tab Φ e).e l c = some (a, c')) : WpE prog w K hb A f l c x a c' :=
  bd.on he fun r c2 h1 h2 => by cases h2; exact WpE.ofR (s.r h F hA h1)
theorem wpB_one {r : Bool} {x : Expr} {op : BoolOp} (p : WpT prog w K hb A f l c x r c') : WpB prog w K hb A f l c op [x] r c' := by
  cases op
  · exact wpB_and_last p
  · exact wpB_or_last p
theorem bOne_run {t : Sg → Expr → Bool} {op : BoolOp} {xs : List Expr} {r : Bool} (h : bOne t op sg xs = true) (k : ∀ x, t sg x = true → WpT prog w K hb A f l c x r c') : WpB prog w K hb A f l c op xs r c' :=
  oneB.on (P := fun xs => WpB prog w K hb A f l c op xs r c') h fun x h => wpB_one (k x h)
noncomputable def isLoc (e : IE) : Bool := e.ctorIdx == 2
theorem plOf_other (h : isLoc e = false) (x : Ev) : plOf e x l c = bd (x.e l c) fun y c => some (.at y, c) := dif_neg fun q => by
  rw [isLoc, q] at h; exact absurd h (by decide)
/-- what is shown of the reading -/
noncomputable abbrev SndR (prog : Program) (w : World) (K : Frag) (hb : Heap) (d : Nat) (ce : Sg → Expr → Bool) (re : Loc → Cells → Option (RV × Cells)) : Prop :=
  ∀ {sg : Sg} {x : Expr} {f : Frm} {A : Around} {l : Loc} {c : Cells} {r : RV} {c' : Cells}, ce sg x = true → FrOk f sg → AOkB A d → re l c = some (r, c') → WpR prog w K hb A f l c x r c'
noncomputable abbrev SndT (prog : Program) (w : World) (K : Frag) (hb : Heap) (d : Nat) (ce : Sg → Expr → Bool) (re : Loc → Cells → Option (Bool × Cells)) : Prop :=
  ∀ {sg : Sg} {x : Expr} {f : Frm} {A : Around} {l : Loc} {c : Cells} {r : Bool} {c' : Cells}, ce sg x = true → FrOk f sg → AOkB A d → re l c = some (r, c') → WpT prog w K hb A f l c x r c'
theorem Snd.mkR {re : Loc → Cells → Option (RV × Cells)} {te : Loc → Cells → Option (Bool × Cells)} {b : BoolOp → Sg → List Expr → Bool} {ce ct : Sg → Expr → Bool} (hc : chk K e = { Ck.ofT ce ct with b := b }) (he : ev tab Φ e = { Ev.ofR re with t := te }) (hl : isLoc e = false)
    (h : SndR prog w K hb d ce re) (ht : SndT prog w K hb d ct te) (hB : ∀ {op : BoolOp} {sg : Sg} {x : List Expr} {f : Frm} {A : Around} {l : Loc} {c : Cells} {r : Bool} {c' : Cells}, b op sg x = true → FrOk f sg → AOkB A d → te l c = some (r, c') → WpB prog w K hb A f l c op x r c') : Snd prog w K hb Φ d e where
  r := fun q F hA z => by rw [hc] at q; rw [he] at z; exact h q F hA z
  p := fun q F hA z => by
    rw [hc] at q; rw [plOf_other hl, he] at z
    exact bd.on z fun v c2 z1 z2 => bd.on z1 fun rv c3 z1 z3 => by cases z2; cases z3; exact WpP.ofE (WpE.ofR (h q F hA z1))
  t := fun q F hA z => by rw [hc] at q; rw [he] at z; exact ht q F hA z
  l := fun q F hA z => by rw [hc] at q; cases q
  i := fun q F hA z => by
    rw [hc] at q; rw [he] at z
    exact bd.on (show bd (re _ _) (fun x c => (itemsOf x).map fun b => (b, c)) = _ from z) fun v c2 z1 z2 => om.on z2 fun b z4 z3 => by cases z3; exact wpI_of hA.ok (h q F hA z1) z4
  b := fun q F hA z => by rw [hc] at q; rw [he] at z; exact hB q F hA z
theorem Snd.ofR {ce : Sg → Expr → Bool} {re : Loc → Cells → Option (RV × Cells)} (hc : chk K e = Ck.ofE ce) (he : ev tab Φ e = Ev.ofR re) (hl : isLoc e = false) (h : SndR prog w K hb d ce re) : Snd prog w K hb Φ d e :=
  have ht : SndT prog w K hb d (fun sg x => plainTruth x && ce sg x) (fun l c => bd (re l c) fun x c => (truth x).map fun b => (b, c)) := fun q F hA z => and2 q fun q1 q2 => bd.on z fun v c2 z1 z2 => om.on z2 fun b z4 z3 => by
    cases z3; cases truth.on z4; exact wpT_val q1 (WpE.ofR (h q2 F hA z1))
  Snd.mkR (ct := fun sg x => plainTruth x && ce sg x) (b := bOne fun sg x => plainTruth x && ce sg x) hc he hl h ht fun q F hA z => bOne_run q fun y hy => ht hy F hA z
theorem Snd.ofRT {ce te : Sg → Expr → Bool} {re : Loc → Cells → Option (RV × Cells)} {tt : Loc → Cells → Option (Bool × Cells)} (hc : chk K e = Ck.ofT ce te) (he : ev tab Φ e = { Ev.ofR re with t := tt }) (hl : isLoc e = false) (h : SndR prog w K hb d ce re) (ht : SndT prog w K hb d te tt) : Snd prog w K hb Φ d e :=
  Snd.mkR (b := bOne te) hc he hl h ht fun q F hA z => bOne_run q fun y hy => ht hy F hA z
end Mine
end
section
open PySem PySem.W PySem.Calls PyProof.Rows
set_option Elab.async false
set_option maxRecDepth 100000
set_option linter.unusedVariables false
namespace Mine
variable {prog : Program} {w : World} {K : Frag} {hb : Heap} {A : Around} {f : Frm} {l l' : Loc} {c c' c1 c2 c3 : Cells} {sg : Sg} {Φ : CallF} {d : Nat} {e e1 e2 e3 : IE}

theorem locR (i : Nat) : SndR prog w K hb d (fun sg x => nameB x fun n _ => sg.vk i n) fun l c => valL l i fun a => some (.v a, c) := fun {sg x f A l c r c'} h F hA z =>
  nameB.on (P := fun x => WpR prog w K hb A f l c x r c') h fun n p h => valL.on z fun a q z => by
    cases z; have V := F.vk h; exact wp_loc F.ok V.nm V.kd q V.db
theorem locT (i : Nat) : SndT prog w K hb d (fun sg x => plainTruth x && nameB x fun n _ => sg.vk i n) fun l c => (truL l i).map fun b => (b, c) := fun {sg x f A l c r c'} h F hA z =>
  and2 h fun _ h => nameB.on (P := fun x => WpT prog w K hb A f l c x r c') h fun n p h => om.on z fun b q z => by
    cases z
    have V := F.vk h
    unfold truL at q
    cases ql : l.at i with
    | un => rw [ql] at q; cases q
    | val a =>
      rw [ql] at q
      cases a <;> first | cases q | skip
      exact wpT_val rfl (wp_loc F.ok V.nm V.kd ql V.db)
    | own a =>
      rw [ql] at q
      cases a <;> first | cases q | skip
      exact gd.on q fun hs q => by cases q; exact wpT_own F.ok V.nm V.kd ql (of_decide_eq_true hs) V.db
theorem snd_loc (i : Nat) : Snd prog w K hb Φ d (.loc i) where
  r := fun h F hA z => locR i h F hA z
  p := fun {sg x f A l c r c'} h F hA z => by
    by_cases q : isOwn l i = true
    · cases (if_pos q).symm.trans z
      refine nameB.on (P := fun x => WpP prog w K hb A f l c x (.own i) c) h fun n p h => ?_
      have V := F.vk h
      unfold isOwn at q
      cases ql : l.at i <;> rw [ql] at q <;> first | exact wpP_own F.ok V.nm V.kd ql V.db | cases q
    · exact bd.on ((if_neg q).symm.trans z) fun v c2 z1 z2 => bd.on z1 fun rv c3 z1 z3 => by cases z2; cases z3; exact WpP.ofE (WpE.ofR (locR i h F hA z1))
  t := fun h F hA z => locT i h F hA z
  l := fun h => noB h
  i := fun h F hA z => bd.on (show bd ((ev tab Φ (.loc i)).r _ _) (fun x c => (itemsOf x).map fun b => (b, c)) = _ from z) fun v c2 z1 z2 => om.on z2 fun b z4 z3 => by cases z3; exact wpI_of hA.ok (locR i h F hA z1) z4
  b := fun h F hA z => bOne_run (t := fun sg x => plainTruth x && nameB x fun n _ => sg.vk i n) h fun y hy => locT i hy F hA z
theorem Snd.ofL (h1 : (chk K e).e = fun _ _ => false) (h2 : (chk K e).t = fun _ _ => false) (h3 : (chk K e).i = fun _ _ => false) (h4 : (chk K e).b = fun _ _ _ => false)
    (h : ∀ {sg : Sg} {x : List Expr} {f : Frm} {A : Around} {l : Loc} {c : Cells} {r : List AV} {c' : Cells}, (chk K e).l sg x = true → FrOk f sg → AOkB A d → (ev tab Φ e).l l c = some (r, c') → WpL prog w K hb A f l c x r c') : Snd prog w K hb Φ d e where
  r := fun q => by rw [h1] at q; cases q
  p := fun q => by rw [h1] at q; cases q
  t := fun q => by rw [h2] at q; cases q
  l := h
  i := fun q => by rw [h3] at q; cases q
  b := fun q => by rw [h4] at q; cases q
theorem snd_nil : Snd prog w K hb Φ d .nil := Snd.ofL rfl rfl rfl rfl fun {sg x f A l c r c'} h F hA z => by
  cases z; exact nilB.on (P := fun x => WpL prog w K hb A f l c x [] c) h wpL_nil
theorem snd_cons (s1 : Snd prog w K hb Φ d e1) (s2 : Snd prog w K hb Φ d e2) : Snd prog w K hb Φ d (.cons e1 e2) := Snd.ofL rfl rfl rfl rfl fun {sg x f A l c r c'} h F hA z => match x, h with
  | [], h => noB h
  | y :: ys, h => and3 h fun h0 h1 h2 => bd.on (show bd ((ev tab Φ e1).e l c) (fun x c => bd ((ev tab Φ e2).l l c) fun y c => some (x :: y, c)) = some (r, c') from z) fun a c2 z1 z => bd.on z fun as c3 z2 z => by
    cases z; exact wpL_cons (star_head h0) (s1.ee h1 F hA z1) (s2.l h2 F hA z2)
/-- constants -/
theorem snd_int (n : Int) : Snd prog w K hb Φ d (.int n) := Snd.ofR rfl rfl rfl fun {sg x f A l c r c'} h F hA z => by
  cases z; exact cnst.on (P := fun x => WpR prog w K hb A f l c x _ c) h fun k p => wp_int
theorem snd_str (n : Str) : Snd prog w K hb Φ d (.str n) := Snd.ofR rfl rfl rfl fun {sg x f A l c r c'} h F hA z => by
  cases z; exact cnst.on (P := fun x => WpR prog w K hb A f l c x _ c) h fun k p => wp_str
theorem snd_bool (n : Bool) : Snd prog w K hb Φ d (.bool n) := Snd.ofR rfl rfl rfl fun {sg x f A l c r c'} h F hA z => by
  cases z; exact cnst.on (P := fun x => WpR prog w K hb A f l c x _ c) h fun k p => wp_bool
theorem snd_none : Snd prog w K hb Φ d .none := Snd.ofR rfl rfl rfl fun {sg x f A l c r c'} h F hA z => by
  cases z; exact cnst.on (P := fun x => WpR prog w K hb A f l c x _ c) h fun k p => wp_none
theorem snd_attr (Cc : Cx K hb) (KO : KOk K) {k : Nat} (s1 : Snd prog w K hb Φ d e1) : Snd prog w K hb Φ d (.attr e1 k) := Snd.ofR rfl rfl rfl fun {sg x f A l c r c'} h F hA z =>
  attrB.on (P := fun x => WpR prog w K hb A f l c x r c') h fun y n p h => and3 h fun h0 h1 h2 => bd.on z fun a c2 z1 z => objV.on (P := fun a => WpE prog w K hb A f l c y a c2 → WpR prog w K hb A f l c (.Attribute y n p) r c') z (fun cl fs z p => ob.on z fun j z3 z => om.on z fun a' z4 z => by
    cases z; exact wp_attr Cc KO h0 z3 (beqT h1) z4 p) (s1.ee h2 F hA z1)
theorem call_common (Cc : Cx K hb) (FF : CallOk prog w K hb Φ d) {n : Nat} {nm : Str} {np pos : Pos} {xs : List Expr} {as : List AV} {r : RV} (F : FrOk f sg) (hA : AOkB A d) (h1 : callOk K sg n nm xs = true) (q : WpL prog w K hb A f l c xs as c1) (hΦ : Φ n as c1 = some (r, c2)) :
    WpR prog w K hb A f l c (.Call (.Name nm np) xs [] pos) r c2 :=
  and4 h1 fun a1 a2 a3 a4 => wp_call Cc F.ok FF hA.ok a1 (beqT a2) (F.glob a3).1 (F.glob a3).2 a4 q hΦ
theorem snd_call (Cc : Cx K hb) (FF : CallOk prog w K hb Φ d) {k : Nat} (s1 : Snd prog w K hb Φ d e1) : Snd prog w K hb Φ d (.call k e1) := Snd.ofR rfl rfl rfl fun {sg x f A l c r c'} h F hA z =>
  nmCall.on (P := fun x => WpR prog w K hb A f l c x r c') h fun nm np xs pos h => and2 h fun h1 h2 => bd.on z fun as c2 z1 z => bd.on z fun r2 c3 z2 z => by
    cases z; exact WpR.ofE (WpE.ofR (call_common Cc FF F hA h1 (s1.l h2 F hA z1) z2))
theorem snd_callO (Cc : Cx K hb) (FF : CallOk prog w K hb Φ d) {k : Nat} (s1 : Snd prog w K hb Φ d e1) : Snd prog w K hb Φ d (.callO k e1) := Snd.ofR rfl rfl rfl fun {sg x f A l c r c'} h F hA z =>
  nmCall.on (P := fun x => WpR prog w K hb A f l c x r c') h fun nm np xs pos h => and2 h fun h1 h2 => bd.on z fun as c2 z1 z => call_common Cc FF F hA h1 (s1.l h2 F hA z1) z
theorem snd_meth (Cc : Cx K hb) (KO : KOk K) (FF : CallOk prog w K hb Φ d) {k : Nat} (s1 : Snd prog w K hb Φ d e1) (s2 : Snd prog w K hb Φ d e2) : Snd prog w K hb Φ d (.meth e1 k e2) := Snd.ofR rfl rfl rfl fun {sg x f A l c r c'} h F hA z =>
  atCall.on (P := fun x => WpR prog w K hb A f l c x r c') h fun y apos xs pos h1 h2 h4 h => and4 h fun h3 h5 h6 h7 => bd.on z fun a c2 z1 z => objV.on (P := fun a => WpE prog w K hb A f l c y a c2 → WpR prog w K hb A f l c (.Call (.Attribute y _ apos) xs [] pos) r c') z (fun cl fs z p => ob.on z fun n z3 z => bd.on z fun as c3 z4 z => bd.on z fun r2 c4 z5 z => by
    cases z; exact WpR.ofE (WpE.ofR (wp_meth Cc KO FF hA.ok h1 h2 (of_decide_eq_true h3) h4 z3 (beqT h5) p (s2.l h7 F hA z4) z5))) (s1.ee h6 F hA z1)
theorem snd_new (Cc : Cx K hb) {k : Nat} (s1 : Snd prog w K hb Φ d e1) : Snd prog w K hb Φ d (.new k e1) := Snd.ofR rfl rfl rfl fun {sg x f A l c r c'} h F hA z =>
  nmCall.on (P := fun x => WpR prog w K hb A f l c x r c') h fun nm np xs pos h => and7 h fun h1 h2 h3 h4 h5 h6 h7 => bd.on z fun as c2 z1 z => gd.on z fun hq z => by
    cases z; exact WpR.ofE (wp_new Cc F.ok hA.ok h2 (beqT h1) h3 (F.glob h4).1 (F.glob h4).2 (s1.l h7 F hA z1) (hq.trans (beqT h6)) (of_decide_eq_true h5))
theorem snd_fresh (Cc : Cx K hb) (FF : CallOk prog w K hb Φ d) : Snd prog w K hb Φ d .fresh := Snd.ofR rfl rfl rfl fun {sg x f A l c r c'} h F hA z =>
  nmCall.on (P := fun x => WpR prog w K hb A f l c x r c') h fun nm np xs pos h => and4 h fun h0 h1 h2 h3 => bd.on z fun r2 c2 z1 z => by
    cases r2 with
    | o a => exact no z
    | v a =>
      cases beqT h1
      refine noneV.on (P := fun a => Φ _ _ _ = some (RV.v a, c2) → WpR prog w K hb A f l c (.Call (.Name "Fresh" np) xs [] pos) r c') z (fun z z1 => ?_) z1
      cases z
      exact nilB.on (P := fun xs => WpR prog w K hb A f l c (.Call (.Name "Fresh" np) xs [] pos) _ _) h0 (WpR.ofE (wp_fresh Cc F.ok FF hA h2 (by rw [F.kd]; exact beqT h3) z1))
theorem FrOk.builtK {n : Str} (F : FrOk f sg) (h : sg.built K n = true) : nsIn K mainGlobals n = some none ∧ f.env.kindOf n = some .globalImplicit :=
  and2 (F.built h) fun a b => ⟨beqT a, beqT b⟩
theorem snd_isi (Cc : Cx K hb) (KO : KOk K) {k : Nat} (s1 : Snd prog w K hb Φ d e1) : Snd prog w K hb Φ d (.isi e1 k) := Snd.ofR rfl rfl rfl fun {sg x f A l c r c'} h F hA z =>
  built.on (P := fun x => WpR prog w K hb A f l c x r c') h fun np xs pos h2 h3 h => twoB.on (P := fun xs => noStar xs = true → WpR prog w K hb A f l c (.Call (.Name "isinstance" np) xs [] pos) r c') h (fun y u h h3 => nameB.on (P := fun u => noStar [y, u] = true → WpR prog w K hb A f l c (.Call (.Name "isinstance" np) [y, u] [] pos) r c') h (fun cn p h h3 =>
    and4 h fun h4 h5 h6 h7 => bd.on z fun a c2 z1 z => objV.on (P := fun a => WpE prog w K hb A f l c y a c2 → _) z (fun cl fs z p => gd.on z fun hlt z => by
      cases z; exact WpR.ofE (wp_isi Cc KO F.ok (F.builtK h2).1 (and2 h3 fun a _ => Bool.and_eq_true_iff.mpr ⟨a, rfl⟩) (F.builtK h2).2 (F.glob h4).1 (F.glob h4).2 (beqT h5) hlt (of_decide_eq_true h6) p)) (s1.ee h7 F hA z1)) h3) h3
end Mine
end
section
open PySem PySem.W PySem.Calls PyProof.Rows
set_option Elab.async false
set_option maxRecDepth 100000
set_option linter.unusedVariables false
namespace Mine
variable {prog : Program} {w : World} {K : Frag} {hb : Heap} {A : Around} {f : Frm} {l l' : Loc} {c c' c1 c2 c3 : Cells} {sg : Sg} {Φ : CallF} {d : Nat} {e e1 e2 e3 : IE}

theorem snd_len (Cc : Cx K hb) (s1 : Snd prog w K hb Φ d e1) : Snd prog w K hb Φ d (.len e1) := Snd.ofR rfl rfl rfl fun {sg x f A l c r c'} h F hA z =>
  built1.on (P := fun x => WpR prog w K hb A f l c x r c') h fun np y pos h2 h3 h4 => pl.on z fun p a c2 z1 z2 z => om.on z fun v z3 z => by
    cases z; exact WpR.ofE (wp_len Cc F.ok (F.built h2) h3 (s1.p h4 F hA z1) z2 z3)
theorem snd_copy (Cc : Cx K hb) (s1 : Snd prog w K hb Φ d e1) : Snd prog w K hb Φ d (.copy e1) := Snd.ofR rfl rfl rfl fun {sg x f A l c r c'} h F hA z =>
  built1.on (P := fun x => WpR prog w K hb A f l c x r c') h fun np y pos h2 h3 h4 => bd.on z fun a c2 z1 z => dictV.on (P := fun a => WpE prog w K hb A f l c y a c2 → _) z (fun ks vs z p => gd.on z fun hs z => by
    cases z; exact wp_copy Cc F.ok (F.built h2) h3 hs p) (s1.ee h4 F hA z1)
theorem snd_sorted (Cc : Cx K hb) (s1 : Snd prog w K hb Φ d e1) : Snd prog w K hb Φ d (.sorted e1) := Snd.ofR rfl rfl rfl fun {sg x f A l c r c'} h F hA z =>
  built1.on (P := fun x => WpR prog w K hb A f l c x r c') h fun np y pos h2 h3 h4 => pl.on z fun p a c2 z1 z2 z => dictV.on (P := fun a => p.read l c2 = some a → _) z (fun ks vs z z2 => gd.on z fun hs z => by
    cases z; exact wp_sorted Cc F.ok hA.ok (F.built h2) h3 hs (s1.p h4 F hA z1) z2) z2
theorem snd_strOf (Cc : Cx K hb) (s1 : Snd prog w K hb Φ d e1) : Snd prog w K hb Φ d (.strOf e1) := Snd.ofR rfl rfl rfl fun {sg x f A l c r c'} h F hA z =>
  built1.on (P := fun x => WpR prog w K hb A f l c x r c') h fun np y pos h2 h3 h4 => bd.on z fun a c2 z1 z => intV.on (P := fun a => WpE prog w K hb A f l c y a c2 → _) z (fun n z p => gd.on z fun hs z => by
    cases z; exact WpR.ofE (wp_strOf Cc F.ok (F.built h2) h3 hs.1 hs.2 p)) (s1.ee h4 F hA z1)
theorem snd_intOf (Cc : Cx K hb) (s1 : Snd prog w K hb Φ d e1) : Snd prog w K hb Φ d (.intOf e1) := Snd.ofR rfl rfl rfl fun {sg x f A l c r c'} h F hA z =>
  built1.on (P := fun x => WpR prog w K hb A f l c x r c') h fun np y pos h2 h3 h4 => bd.on z fun a c2 z1 z => om.on z fun v z2 z => toInt.on (P := fun a => WpE prog w K hb A f l c y a c2 → _) z2 (fun n e p => by
    cases z; cases e; exact WpR.ofE (wp_intOf_int Cc F.ok (F.built h2) h3 p)) (fun n e p => by cases z; cases e; exact WpR.ofE (wp_intOf_bool Cc F.ok (F.built h2) h3 p)) (s1.ee h4 F hA z1)
theorem snd_max (Cc : Cx K hb) (s1 : Snd prog w K hb Φ d e1) (s2 : Snd prog w K hb Φ d e2) : Snd prog w K hb Φ d (.max e1 e2) := Snd.ofR rfl rfl rfl fun {sg x f A l c r c'} h F hA z =>
  built.on (P := fun x => WpR prog w K hb A f l c x r c') h fun np xs pos h2 h3 h => twoB.on (P := fun xs => noStar xs = true → WpR prog w K hb A f l c (.Call (.Name "max" np) xs [] pos) r c') h (fun y u h h3 => and2 h fun h4 h5 =>
    bd.on z fun a c2 z1 z => bd.on z fun b c3 z2 z => int2.on (P := fun a b => WpE prog w K hb A f l c y a c2 → WpE prog w K hb A f l c2 u b c3 → _) z (fun n m z p q => by
    cases z; exact WpR.ofE (wp_max Cc F.ok hA.ok (F.built h2) h3 p q)) (s1.ee h4 F hA z1) (s2.ee h5 F hA z2)) h3
theorem snd_tupOf (Cc : Cx K hb) (s1 : Snd prog w K hb Φ d e1) : Snd prog w K hb Φ d (.tupOf e1) := Snd.ofR rfl rfl rfl fun {sg x f A l c r c'} h F hA z =>
  built1.on (P := fun x => WpR prog w K hb A f l c x r c') h fun np y pos h2 h3 h4 => bd.on z fun a c2 z1 z => listV.on (P := fun a => WpE prog w K hb A f l c y a c2 → _) z (fun n z p => gd.on z fun hs z => by
    cases z; exact WpR.ofE (wp_tupOf Cc F.ok (F.built h2) h3 hs p)) (s1.ee h4 F hA z1)
theorem snd_rfind (s1 : Snd prog w K hb Φ d e1) (s2 : Snd prog w K hb Φ d e2) : Snd prog w K hb Φ d (.rfind e1 e2) := Snd.ofR rfl rfl rfl fun {sg x f A l c r c'} h F hA z =>
  atCall.on (P := fun x => WpR prog w K hb A f l c x r c') h fun y apos xs pos h2 h3 h4 h => oneB.on (P := fun xs => noStar xs = true → WpR prog w K hb A f l c (.Call (.Attribute y "rfind" apos) xs [] pos) r c') h (fun u h h3 => and2 h fun h5 h6 =>
    bd.on z fun a c2 z1 z => bd.on z fun b c3 z2 z => strV.on (P := fun a => WpE prog w K hb A f l c y a c2 → _) z (fun n z p => strV.on (P := fun b => WpE prog w K hb A f l c2 u b c3 → _) z (fun m z q => by
    cases z; exact WpR.ofE (wp_rfind h2 h3 h4 p q)) (s2.ee h6 F hA z2)) (s1.ee h5 F hA z1)) h3
theorem snd_isdigit (s1 : Snd prog w K hb Φ d e1) : Snd prog w K hb Φ d (.isdigit e1) := Snd.ofR rfl rfl rfl fun {sg x f A l c r c'} h F hA z =>
  atCall.on (P := fun x => WpR prog w K hb A f l c x r c') h fun y apos xs pos h2 h3 h4 h => and2 h fun h5 h6 => nilB.on (P := fun xs => WpR prog w K hb A f l c (.Call (.Attribute y "isdigit" apos) xs [] pos) r c') h5
    (bd.on z fun a c2 z1 z => strV.on (P := fun a => WpE prog w K hb A f l c y a c2 → _) z (fun n z p => by cases z; exact WpR.ofE (wp_isdigit h2 h4 p)) (s1.ee h6 F hA z1))
theorem isDict_of {a : AV} (h : isDict a = true) : ∃ ks vs, a = .dict ks vs := by
  cases a <;> first | exact ⟨_, _, rfl⟩ | cases h
theorem isList_ofB {a : AV} (h : isList a = true) : ∃ vs, a = .list vs := by
  cases a <;> first | exact ⟨_, rfl⟩ | cases h
theorem snd_get1 (s1 : Snd prog w K hb Φ d e1) (s2 : Snd prog w K hb Φ d e2) : Snd prog w K hb Φ d (.get1 e1 e2) := Snd.ofR rfl rfl rfl fun {sg x f A l c r c'} h F hA z =>
  atCall.on (P := fun x => WpR prog w K hb A f l c x r c') h fun y apos xs pos h2 h3 h4 h => oneB.on (P := fun xs => noStar xs = true → WpR prog w K hb A f l c (.Call (.Attribute y "get" apos) xs [] pos) r c') h (fun u h h3 => and2 h fun h5 h6 =>
    pl.on z fun p a0 c2 z1 z2 z => gd.on z fun hd z => bd.on z fun b c3 z4 z => ob.on z fun a z5 z => dictV.on (P := fun a => p.read l c3 = some a → _) z (fun ks vs z z5 => strV.on (P := fun b => WpE prog w K hb A f l c2 u b c3 → _) z (fun s z q => by
    cases z
    obtain ⟨ks0, vs0, rfl⟩ := isDict_of hd
    exact WpR.ofE (wp_get1 h2 h3 h4 (s1.p h5 F hA z1) q z2 z5)) (s2.ee h6 F hA z4)) z5) h3
theorem snd_get2 (s1 : Snd prog w K hb Φ d e1) (s2 : Snd prog w K hb Φ d e2) (s3 : Snd prog w K hb Φ d e3) : Snd prog w K hb Φ d (.get2 e1 e2 e3) := Snd.ofR rfl rfl rfl fun {sg x f A l c r c'} h F hA z =>
  atCall.on (P := fun x => WpR prog w K hb A f l c x r c') h fun y apos xs pos h2 h3 h4 h => twoB.on (P := fun xs => noStar xs = true → WpR prog w K hb A f l c (.Call (.Attribute y "get" apos) xs [] pos) r c') h (fun u v h h3 => and3 h fun h5 h6 h7 =>
    pl.on z fun p a0 c2 z1 z2 z => gd.on z fun hd z => bd.on z fun b c3 z4 z => bd.on z fun b2 c4 z42 z => ob.on z fun a z5 z => dictV.on (P := fun a => p.read l c4 = some a → _) z (fun ks vs z z5 => strV.on (P := fun b => WpE prog w K hb A f l c2 u b c3 → _) z (fun s z q => by
    cases z
    obtain ⟨ks0, vs0, rfl⟩ := isDict_of hd
    exact WpR.ofE (wp_get2 h2 h3 h4 (s1.p h5 F hA z1) q (s3.ee h7 F hA z42) z2 z5)) (s2.ee h6 F hA z4)) z5) h3
theorem bin_run {o : Op} {x y : Expr} {pos : Pos} {a b v : AV} (z : abin o a b = some v) (p : WpE prog w K hb A f l c x a c1) (q : WpE prog w K hb A f l c1 y b c2) : WpE prog w K hb A f l c (.BinOp x (opA o) y pos) v c2 := by
  have two : ∀ {G : Prop} {k : Int → Int → Option AV}, int2 a b k = some v → (∀ n m, WpE prog w K hb A f l c x (.int n) c1 → WpE prog w K hb A f l c1 y (.int m) c2 → k n m = some v → G) → G := fun {G k} z g =>
    int2.on (P := fun a b => WpE prog w K hb A f l c x a c1 → WpE prog w K hb A f l c1 y b c2 → G) z (fun n m z p q => g n m p q z) p q
  cases o with
  | add =>
    have on : ∀ {a : AV}, WpE prog w K hb A f l c x a c1 → addV a b = some v → WpE prog w K hb A f l c (.BinOp x .Add y pos) v c2 := fun {a} p z => kindV.on (P := fun a => WpE prog w K hb A f l c x a c1 → _) z
      (fun n z p => intV.on (P := fun b => WpE prog w K hb A f l c1 y b c2 → _) z (fun m z q => by cases z; exact wp_add_int p q) q)
      (fun n z p => strV.on (P := fun b => WpE prog w K hb A f l c1 y b c2 → _) z (fun m z q => gd.on z fun h z => by cases z; exact wp_add_str h p q) q)
      (fun n z p => listV.on (P := fun b => WpE prog w K hb A f l c1 y b c2 → _) z (fun m z q => gd.on z fun h z => by cases z; exact wp_add_list h p q) q)
      (fun n z p => tupV.on (P := fun b => WpE prog w K hb A f l c1 y b c2 → _) z (fun m z q => gd.on z fun h z => by cases z; exact wp_add_tup h p q) q) p
    exact on p z
  | sub => exact two z fun n m p q z => by cases z; exact wp_sub_int p q
  | mul => exact two z fun n m p q z => gd.on z fun h z => by cases z; exact wp_mul h p q
  | fdiv => exact two z fun n m p q z => gd.on z fun h z => by cases z; exact wp_fdiv h.1 h.2 p q
  | mod => exact two z fun n m p q z => gd.on z fun h z => by cases z; exact wp_mod h.1 h.2 p q
  | pow => exact two z fun n m p q z => gd.on z fun h z => by cases z; obtain ⟨rfl, rfl⟩ := h; exact wp_pow18 p q
theorem snd_bin {o : Op} (s1 : Snd prog w K hb Φ d e1) (s2 : Snd prog w K hb Φ d e2) : Snd prog w K hb Φ d (.bin o e1 e2) := Snd.ofR rfl rfl rfl fun {sg x f A l c r c'} h F hA z =>
  binB.on (P := fun x => WpR prog w K hb A f l c x r c') h fun y p u pos h => and3 h fun h1 h5 h6 => bd.on z fun a c2 z1 z => bd.on z fun b c3 z2 z => om.on z fun v z3 z => by
    cases beqT h1; cases z; exact WpR.ofE (bin_run z3 (s1.ee h5 F hA z1) (s2.ee h6 F hA z2))
theorem snd_neg (s1 : Snd prog w K hb Φ d e1) : Snd prog w K hb Φ d (.neg e1) := Snd.ofR rfl rfl rfl fun {sg x f A l c r c'} h F hA z =>
  unB.on (P := fun x => WpR prog w K hb A f l c x r c') h fun o y pos h => and2 h fun h1 h2 => bd.on z fun a c2 z1 z => intV.on (P := fun a => WpE prog w K hb A f l c y a c2 → _) z (fun n z p => by
    cases beqT h1; cases z; exact WpR.ofE (wp_neg p)) (s1.ee h2 F hA z1)
end Mine
end
section
open PySem PySem.W PySem.Calls PyProof.Rows
set_option Elab.async false
set_option maxRecDepth 100000
set_option linter.unusedVariables false
namespace Mine
variable {prog : Program} {w : World} {K : Frag} {hb : Heap} {A : Around} {f : Frm} {l l' : Loc} {c c' c1 c2 c3 : Cells} {sg : Sg} {Φ : CallF} {d : Nat} {e e1 e2 e3 : IE}

theorem cmp_run {o : Cm} {y z : Expr} {pos : Pos} {r : RV} (s2 : Snd prog w K hb Φ d e2) {a : AV} (F : FrOk f sg) (hA : AOkB A d) (p : WpE prog w K hb A f l c y a c1) (h : (if (nnone o).isSome = true then cnst z .none else plainCmp z && (chk K e2).e sg z) = true)
    (q : ((nnone o).elim (pl (plOf e2 (ev tab Φ e2) l c1) l fun _ z c => (acmp o a z).map fun v => (RV.v (.bool v), c)) fun q => some (.v (.bool (q (isNone a))), c1)) = some (r, c')) :
    ∃ b, r = .v (.bool b) ∧ WpE prog w K hb A f l c (.Compare y [opOf o] [z] pos) (.bool b) c' ∧ WpT prog w K hb A f l c (.Compare y [opOf o] [z] pos) b c' := by
  have other : nnone o = none → (plainCmp z && (chk K e2).e sg z) = true → (pl (plOf e2 (ev tab Φ e2) l c1) l fun _ z c => (acmp o a z).map fun v => (RV.v (.bool v), c)) = some (r, c') →
      ∃ b, r = .v (.bool b) ∧ WpE prog w K hb A f l c (.Compare y [opOf o] [z] pos) (.bool b) c' ∧ WpT prog w K hb A f l c (.Compare y [opOf o] [z] pos) b c' := fun _ h q =>
    and2 h fun h1 h2 => pl.on q fun pl ct c3 z3 z4 q => om.on q fun b z5 q => by
      cases q; exact ⟨b, rfl, wp_cmp hA.ok h1 p (s2.p h2 F hA z3) z4 z5⟩
  cases o with
  | isN => cases q; exact cnst.on (P := fun z => ∃ b, RV.v (.bool (isNone a)) = .v (.bool b) ∧ WpE prog w K hb A f l c (.Compare y [.Is] [z] pos) (.bool b) _ ∧ WpT prog w K hb A f l c (.Compare y [.Is] [z] pos) b _) h fun k p2 => ⟨_, rfl, wp_isNone p⟩
  | isNotN => cases q; exact cnst.on (P := fun z => ∃ b, RV.v (.bool !isNone a) = .v (.bool b) ∧ WpE prog w K hb A f l c (.Compare y [.IsNot] [z] pos) (.bool b) _ ∧ WpT prog w K hb A f l c (.Compare y [.IsNot] [z] pos) b _) h fun k p2 => ⟨_, rfl, wp_isNotNone p⟩
  | _ => exact other rfl h q
theorem snd_cmp {o : Cm} (s1 : Snd prog w K hb Φ d e1) (s2 : Snd prog w K hb Φ d e2) : Snd prog w K hb Φ d (.cmp o e1 e2) := by
  have key : ∀ {sg : Sg} {x : Expr} {f : Frm} {A : Around} {l : Loc} {c : Cells} {r : RV} {c' : Cells}, (chk K (.cmp o e1 e2)).e sg x = true → FrOk f sg → AOkB A d → (ev tab Φ (.cmp o e1 e2)).r l c = some (r, c') →
      ∃ b, r = .v (.bool b) ∧ WpE prog w K hb A f l c x (.bool b) c' ∧ WpT prog w K hb A f l c x b c' := fun {sg x f A l c r c'} h F hA z =>
    cmpB.on (P := fun x => ∃ b, r = .v (.bool b) ∧ WpE prog w K hb A f l c x (.bool b) c' ∧ WpT prog w K hb A f l c x b c') h fun y ps zs pos h => oneB.on (P := fun ps => ∃ b, r = .v (.bool b) ∧ WpE prog w K hb A f l c (.Compare y ps zs pos) (.bool b) c' ∧ WpT prog w K hb A f l c (.Compare y ps zs pos) b c') h fun p h =>
      oneB.on (P := fun zs => ∃ b, r = .v (.bool b) ∧ WpE prog w K hb A f l c (.Compare y [p] zs pos) (.bool b) c' ∧ WpT prog w K hb A f l c (.Compare y [p] zs pos) b c') h fun u h => and3 h fun h1 h2 h3 =>
      bd.on (show bd ((ev tab Φ e1).e l c) (fun x c => (nnone o).elim (pl (plOf e2 (ev tab Φ e2) l c) l fun _ z c => (acmp o x z).map fun v => (.v (.bool v), c)) fun q => some (.v (.bool (q (isNone x))), c)) = some (r, c') from z) fun a c2 z1 z => by
        cases beqT h1; exact cmp_run s2 F hA (s1.ee h2 F hA z1) h3 z
  refine Snd.ofRT (ce := (chk K (.cmp o e1 e2)).e) (te := (chk K (.cmp o e1 e2)).e) (re := (ev tab Φ (.cmp o e1 e2)).r) (tt := (ev tab Φ (.cmp o e1 e2)).t) rfl rfl rfl (fun {sg x f A l c r c'} h F hA z => ?_) (fun {sg x f A l c r c'} h F hA z => ?_)
  · obtain ⟨b, rfl, q, _⟩ := key h F hA z
    exact WpR.ofE q
  · refine bd.on (show bd ((ev tab Φ (.cmp o e1 e2)).r l c) (fun x c => (truth x).map fun b => (b, c)) = some (r, c') from z) fun v c2 z1 z => om.on z fun b z2 z => ?_
    cases z
    obtain ⟨b', rfl, _, q⟩ := key h F hA z1
    cases z2
    exact q
theorem ifT {α : Type} {b : Bool} {x y : Option α} {r : α} {G : Prop} (h : (if b = true then x else y) = some r) (g1 : b = true → x = some r → G) (g2 : b = false → y = some r → G) : G := match b, h, g1, g2 with
  | true, h, g1, _ => g1 rfl h
  | false, h, _, g2 => g2 rfl h
theorem andB_run {t : Sg → Expr → Bool} {b : BoolOp → Sg → List Expr → Bool} {xs : List Expr} {r : Bool} {T1 T2 : Loc → Cells → Option (Bool × Cells)} (h : andB .And t b sg xs = true) (h1 : ∀ {x r c c'}, t sg x = true → T1 l c = some (r, c') → WpT prog w K hb A f l c x r c')
    (h2 : ∀ {xs r c c'}, b .And sg xs = true → T2 l c = some (r, c') → WpB prog w K hb A f l c .And xs r c') (z : (bd (T1 l c) fun x c => if x = true then T2 l c else some (false, c)) = some (r, c')) : WpB prog w K hb A f l c .And xs r c' :=
  moreB.on (P := fun xs => WpB prog w K hb A f l c .And xs r c') h fun x y ys h => and2 h fun q1 q2 => bd.on z fun b c2 z1 z => ifT z (fun e z => by subst e; exact wpB_and_true (h1 q1 z1) (h2 q2 z)) (fun e z => by subst e; cases z; exact wpB_and_false (h1 q1 z1))
theorem orB_run {t : Sg → Expr → Bool} {b : BoolOp → Sg → List Expr → Bool} {xs : List Expr} {r : Bool} {T1 T2 : Loc → Cells → Option (Bool × Cells)} (h : andB .Or t b sg xs = true) (h1 : ∀ {x r c c'}, t sg x = true → T1 l c = some (r, c') → WpT prog w K hb A f l c x r c')
    (h2 : ∀ {xs r c c'}, b .Or sg xs = true → T2 l c = some (r, c') → WpB prog w K hb A f l c .Or xs r c') (z : (bd (T1 l c) fun x c => if x = true then some (true, c) else T2 l c) = some (r, c')) : WpB prog w K hb A f l c .Or xs r c' :=
  moreB.on (P := fun xs => WpB prog w K hb A f l c .Or xs r c') h fun x y ys h => and2 h fun q1 q2 => bd.on z fun b c2 z1 z => ifT z (fun e z => by subst e; cases z; exact wpB_or_true (h1 q1 z1)) (fun e z => by subst e; exact wpB_or_false (h1 q1 z1) (h2 q2 z))
noncomputable abbrev SndB (prog : Program) (w : World) (K : Frag) (hb : Heap) (d : Nat) (o : BoolOp) (cb : Sg → List Expr → Bool) (re : Loc → Cells → Option (Bool × Cells)) : Prop :=
  ∀ {sg : Sg} {x : List Expr} {f : Frm} {A : Around} {l : Loc} {c : Cells} {r : Bool} {c' : Cells}, cb sg x = true → FrOk f sg → AOkB A d → re l c = some (r, c') → WpB prog w K hb A f l c o x r c'
theorem bool_t {o : BoolOp} {cb : Sg → List Expr → Bool} {te : Loc → Cells → Option (Bool × Cells)} (hB : SndB prog w K hb d o cb te) : SndT prog w K hb d (fun sg x => boolB x fun p xs _ => p == o && cb sg xs) te := fun {sg x f A l c r c'} h F hA z =>
  boolB.on (P := fun x => WpT prog w K hb A f l c x r c') h fun p xs pos h => and2 h fun h1 h2 => by cases beqT h1; exact wpT_bool (hB h2 F hA z)
theorem bool_b {o op : BoolOp} {cb : Sg → List Expr → Bool} {ct : Sg → Expr → Bool} {te : Loc → Cells → Option (Bool × Cells)} (hB : SndB prog w K hb d o cb te) (ht : SndT prog w K hb d ct te) {xs : List Expr} {r : Bool} (h : ((op == o && cb sg xs) || bOne ct op sg xs) = true) (F : FrOk f sg) (hA : AOkB A d) (z : te l c = some (r, c')) : WpB prog w K hb A f l c op xs r c' :=
  or2 h (fun h => and2 h fun h1 h2 => by cases beqT h1; exact hB h2 F hA z) fun h => bOne_run h fun y hy => ht hy F hA z
theorem snd_and (s1 : Snd prog w K hb Φ d e1) (s2 : Snd prog w K hb Φ d e2) : Snd prog w K hb Φ d (.and e1 e2) :=
  have hB : SndB prog w K hb d .And (andB .And (chk K e1).t (chk K e2).b) (ev tab Φ (.and e1 e2)).t := fun h F hA z => andB_run h (fun q z => s1.t q F hA z) (fun q z => s2.b q F hA z) z
  Snd.mkR rfl rfl rfl (fun {sg x f A l c r c'} h F hA z => boolB.on (P := fun x => WpR prog w K hb A f l c x r c') h fun p xs pos h => and2 h fun h1 h => twoB.on (P := fun xs => WpR prog w K hb A f l c (.BoolOp p xs pos) r c') h fun y u h => and2 h fun h2 h3 =>
    bd.on z fun a c2 z1 z => boolV.on (P := fun a => WpE prog w K hb A f l c y a c2 → _) z (fun b z p => ifT z (fun e z => bd.on z fun b2 c3 z3 z5 => by
      cases beqT h1; subst e; cases z5; exact WpR.ofE (wp_and_true p (s2.ee h3 F hA z3))) (fun e z => by cases beqT h1; subst e; cases z; exact WpR.ofE (wp_and_false p))) (s1.ee h2 F hA z1)) (bool_t hB) (bool_b hB (bool_t hB))
theorem Snd.ofTB {te : Loc → Cells → Option (Bool × Cells)} {b : BoolOp → Sg → List Expr → Bool} {ct : Sg → Expr → Bool} (h1 : (chk K e).e = fun _ _ => false) (h2 : (chk K e).t = ct) (h3 : (chk K e).l = fun _ _ => false) (h4 : (chk K e).i = fun _ _ => false) (h5 : (chk K e).b = b) (he : (ev tab Φ e).t = te) (ht : SndT prog w K hb d ct te)
    (hB : ∀ {op : BoolOp} {sg : Sg} {x : List Expr} {f : Frm} {A : Around} {l : Loc} {c : Cells} {r : Bool} {c' : Cells}, b op sg x = true → FrOk f sg → AOkB A d → te l c = some (r, c') → WpB prog w K hb A f l c op x r c') : Snd prog w K hb Φ d e where
  r := fun q => by rw [h1] at q; cases q
  p := fun q => by rw [h1] at q; cases q
  t := fun q F hA z => by rw [h2] at q; rw [he] at z; exact ht q F hA z
  l := fun q => by rw [h3] at q; cases q
  i := fun q => by rw [h4] at q; cases q
  b := fun q F hA z => by rw [h5] at q; rw [he] at z; exact hB q F hA z
theorem snd_or (s1 : Snd prog w K hb Φ d e1) (s2 : Snd prog w K hb Φ d e2) : Snd prog w K hb Φ d (.or e1 e2) :=
  have hB : SndB prog w K hb d .Or (andB .Or (chk K e1).t (chk K e2).b) (ev tab Φ (.or e1 e2)).t := fun h F hA z => orB_run h (fun q z => s1.t q F hA z) (fun q z => s2.b q F hA z) z
  Snd.ofTB rfl rfl rfl rfl rfl rfl (bool_t hB) (bool_b hB (bool_t hB))
theorem snd_not (s1 : Snd prog w K hb Φ d e1) : Snd prog w K hb Φ d (.not e1) :=
  have ht : SndT prog w K hb d (fun sg x => unB x fun p y _ => p == .Not && (chk K e1).t sg y) (ev tab Φ (.not e1)).t := fun {sg x f A l c r c'} h F hA z => unB.on (P := fun x => WpT prog w K hb A f l c x r c') h fun p y pos h => and2 h fun h1 h2 => bd.on (show bd ((ev tab Φ e1).t l c) (fun x c => some (!x, c)) = some (r, c') from z) fun b c2 z1 z => by
    cases beqT h1; cases z; exact wpT_not (s1.t h2 F hA z1)
  Snd.ofTB (b := bOne fun sg x => unB x fun p y _ => p == .Not && (chk K e1).t sg y) rfl rfl rfl rfl rfl rfl ht fun q F hA z => bOne_run q fun y hy => ht hy F hA z
theorem snd_ite (s1 : Snd prog w K hb Φ d e1) (s2 : Snd prog w K hb Φ d e2) (s3 : Snd prog w K hb Φ d e3) : Snd prog w K hb Φ d (.ite e1 e2 e3) := Snd.ofR rfl rfl rfl fun {sg x f A l c r c'} h F hA z =>
  iteB.on (P := fun x => WpR prog w K hb A f l c x r c') h fun y u v pos h => and3 h fun h1 h2 h3 => bd.on z fun b c2 z1 z => wp_ite (s1.t h1 F hA z1) (ifT z (fun e z => by subst e; exact s2.r h2 F hA z) (fun e z => by subst e; exact s3.r h3 F hA z))
theorem snd_list (Cc : Cx K hb) (s1 : Snd prog w K hb Φ d e1) : Snd prog w K hb Φ d (.list e1) := Snd.ofR rfl rfl rfl fun {sg x f A l c r c'} h F hA z =>
  listB.on (P := fun x => WpR prog w K hb A f l c x r c') h fun xs pos h => bd.on z fun as c2 z1 z => gd.on z fun hs z => by cases z; exact wp_list Cc hs (s1.l h F hA z1)
theorem snd_tup (s1 : Snd prog w K hb Φ d e1) : Snd prog w K hb Φ d (.tup e1) := Snd.ofR rfl rfl rfl fun {sg x f A l c r c'} h F hA z =>
  tupB.on (P := fun x => WpR prog w K hb A f l c x r c') h fun xs k pos h => bd.on z fun as c2 z1 z => gd.on z fun hs z => by cases z; exact WpR.ofE (wp_tup hs (s1.l h F hA z1))
theorem snd_dict0 (Cc : Cx K hb) : Snd prog w K hb Φ d .dict0 := Snd.ofR rfl rfl rfl fun {sg x f A l c r c'} h F hA z => by
  cases z; exact dict0B.on (P := fun x => WpR prog w K hb A f l c x _ c) h fun p => wp_dict0 Cc
theorem snd_dict1 (Cc : Cx K hb) (s1 : Snd prog w K hb Φ d e1) (s2 : Snd prog w K hb Φ d e2) : Snd prog w K hb Φ d (.dict1 e1 e2) := Snd.ofR rfl rfl rfl fun {sg x f A l c r c'} h F hA z =>
  dictB.on (P := fun x => WpR prog w K hb A f l c x r c') h fun ks vs pos h => oneB.on (P := fun ks => WpR prog w K hb A f l c (.Dict ks vs pos) r c') h fun oy h => someB.on (P := fun oy => WpR prog w K hb A f l c (.Dict [oy] vs pos) r c') h fun y h => oneB.on (P := fun vs => WpR prog w K hb A f l c (.Dict [some y] vs pos) r c') h fun u h => and2 h fun h1 h2 =>
    bd.on z fun a c2 z1 z => bd.on z fun b c3 z2 z => strV.on (P := fun a => WpE prog w K hb A f l c y a c2 → _) z (fun s z p => by cases z; exact wp_dict1 Cc p (s2.ee h2 F hA z2)) (s1.ee h1 F hA z1)
theorem snd_idx (Cc : Cx K hb) (s1 : Snd prog w K hb Φ d e1) (s2 : Snd prog w K hb Φ d e2) : Snd prog w K hb Φ d (.idx e1 e2) := Snd.ofR rfl rfl rfl fun {sg x f A l c r c'} h F hA z =>
  subB.on (P := fun x => WpR prog w K hb A f l c x r c') h fun y u pos h => and3 h fun h1 h2 h3 => bd.on z fun p c2 z1 z => bd.on z fun b c3 z2 z => ob.on z fun a z3 z => om.on z fun v z4 z => by
    cases z; exact WpR.ofE (wp_idx Cc h1 (s1.p h2 F hA z1) (s2.ee h3 F hA z2) z3 z4)
theorem snd_sliceTo (s1 : Snd prog w K hb Φ d e1) (s2 : Snd prog w K hb Φ d e2) : Snd prog w K hb Φ d (.sliceTo e1 e2) := Snd.ofR rfl rfl rfl fun {sg x f A l c r c'} h F hA z =>
  nmSlice.on (P := fun x => WpR prog w K hb A f l c x r c') h fun nm np lo hi p2 pos h => and2 h fun h1 h => noneB.on (P := fun lo => WpR prog w K hb A f l c (.Subscript (.Name nm np) (.Slice lo hi none p2) pos) r c') h1 (someB.on (P := fun hi => WpR prog w K hb A f l c (.Subscript (.Name nm np) (.Slice none hi none p2) pos) r c') h fun u h => and2 h fun h2 h3 =>
    bd.on z fun a c2 z1 z => bd.on z fun b c3 z2 z => strV.on (P := fun a => WpE prog w K hb A f l c (.Name nm np) a c2 → _) z (fun s z p => intV.on (P := fun b => WpE prog w K hb A f l c2 u b c3 → _) z (fun n z q => gd.on z fun hs z => by
      cases z; exact WpR.ofE (wp_sliceTo_str hs.1 hs.2.1 hs.2.2 p q)) (s2.ee h3 F hA z2)) (s1.ee h2 F hA z1))
theorem no_str {g : Gh} {al : Nat → Addr} {h : Heap} {p : Pl} {v : Value} {t : Str} (S : St w K hb f g al l c h) (R : PlR w K g al p v) (hr : p.read l c = some (.str t)) : p = .at (.str t) := by
  obtain ⟨t', rfl⟩ : ∃ t', v = .str t t' := S.read R hr
  cases p with
  | own i => cases R
  | «at» a => cases a <;> first | (cases hr; done) | (cases hr; rfl) | (obtain ⟨_, e, _⟩ := R; cases e)
theorem wp_sliceFrom_any {nm : Str} {np p2 pos : Pos} {y : Expr} {p : Pl} {n : Int} {t : Str} (h0 : 0 ≤ n) (h1 : n ≤ t.length) (hz : t.length ≤ lim) (q : WpP prog w K hb A f l c (.Name nm np) p c1) (qe : WpE prog w K hb A f l c1 y (.int n) c2) (hr : p.read l c2 = some (.str t)) :
    WpE prog w K hb A f l c (.Subscript (.Name nm np) (.Slice (some y) none none p2) pos) (.str ⟨(t.cps.toList.drop n.toNat).toArray⟩) c2 := by
  by_cases e : p = .at (.str t)
  · subst e; exact wp_sliceFrom_str h0 h1 hz q qe
  · exact fun g al s' Q E S k => wpAny_Subscript_str_slice (upper := none) (q g al s' _ E S fun u h1 tk1 g1 S1 X1 R1 => wpAny_evalPart_some (qe g1 al _ _ E S1 fun v h2 tk2 g2 S2 X2 R2 => absurd (no_str S2 (R1.mono X2.le) hr) e))
theorem snd_sliceFrom (s1 : Snd prog w K hb Φ d e1) (s2 : Snd prog w K hb Φ d e2) : Snd prog w K hb Φ d (.sliceFrom e1 e2) := Snd.ofR rfl rfl rfl fun {sg x f A l c r c'} h F hA z =>
  fromB.on (P := fun x => WpR prog w K hb A f l c x r c') h fun nm np y p2 pos h => and2 h fun h1 h2 => bd.on z fun p c2 z1 z => bd.on z fun b c3 z2 z => ob.on z fun a z3 z => om.on z fun v z4 z =>
    intV.on (P := fun b => WpE prog w K hb A f l c2 y b c3 → _) z4 (fun n z4 q => kindV.on (P := fun a => p.read l c3 = some a → _) z4 (fun _ => no) (fun s z4 z3 => gd.on z4 fun hs z4 => by cases z; cases z4; exact WpR.ofE (wp_sliceFrom_any hs.1 hs.2.1 hs.2.2 (s1.p h1 F hA z1) q z3))
      (fun u z4 z3 => gd.on z4 fun hs z4 => by cases z; cases z4; exact WpR.ofE (wp_sliceFrom_list hs.1 hs.2.1 (of_decide_eq_true hs.2.2) (s1.p h1 F hA z1) q z3)) (fun _ => no) z3) (s2.ee h2 F hA z2)
end Mine
end
section
open PySem PySem.W PySem.Calls PyProof.Rows
set_option Elab.async false
set_option maxRecDepth 100000
set_option linter.unusedVariables false
namespace Mine
variable {prog : Program} {w : World} {K : Frag} {hb : Heap} {A : Around} {f : Frm} {l l' : Loc} {c c' c1 c2 c3 : Cells} {sg : Sg} {Φ : CallF} {d : Nat} {e e1 e2 e3 : IE}

theorem Snd.ofI {ci : Sg → Expr → Bool} (hc : chk K e = Ck.ofI ci)
    (h : ∀ {sg : Sg} {x : Expr} {f : Frm} {A : Around} {l : Loc} {c : Cells} {r : List AV} {c' : Cells}, ci sg x = true → FrOk f sg → AOkB A d → (ev tab Φ e).i l c = some (r, c') → WpI prog w K hb A f l c x r c') : Snd prog w K hb Φ d e where
  r := fun q => by rw [hc] at q; cases q
  p := fun q => by rw [hc] at q; cases q
  t := fun q => by rw [hc] at q; cases q
  l := fun q => by rw [hc] at q; cases q
  i := fun q F hA z => by rw [hc] at q; exact h q F hA z
  b := fun q => by rw [hc] at q; cases q
theorem snd_range1 (Cc : Cx K hb) (s1 : Snd prog w K hb Φ d e1) : Snd prog w K hb Φ d (.range1 e1) := Snd.ofI rfl fun {sg x f A l c r c'} h F hA z =>
  built1.on (P := fun x => WpI prog w K hb A f l c x r c') h fun np y pos h2 h3 h4 => bd.on (show bd ((ev tab Φ e1).e l c) (fun x c => intV x fun n => gd (n ≤ lim ∧ -(lim : Int) ≤ n) (some ((List.range n.toNat).map fun j : Nat => AV.int (j : Int), c))) = some (r, c') from z) fun a c2 z1 z => intV.on (P := fun a => WpE prog w K hb A f l c y a c2 → _) z (fun n z p => gd.on z fun hs z => by
    cases z; exact wpI_range1 Cc F.ok hA.ok (F.built h2) h3 hs.1 hs.2 p) (s1.ee h4 F hA z1)
theorem snd_range3 (Cc : Cx K hb) (s1 : Snd prog w K hb Φ d e1) (s2 : Snd prog w K hb Φ d e2) (s3 : Snd prog w K hb Φ d e3) : Snd prog w K hb Φ d (.range3 e1 e2 e3) := Snd.ofI rfl fun {sg x f A l c r c'} h F hA z =>
  built.on (P := fun x => WpI prog w K hb A f l c x r c') h fun np xs pos h2 h3 h => threeB.on (P := fun xs => noStar xs = true → WpI prog w K hb A f l c (.Call (.Name "range" np) xs [] pos) r c') h (fun y u v h h3 => and3 h fun h4 h5 h6 =>
    bd.on (show bd ((ev tab Φ e1).e l c) (fun x c => bd ((ev tab Φ e2).e l c) fun y c => bd ((ev tab Φ e3).e l c) fun z c => int2 x y fun n m => intV z fun k => gd (m = -1 ∧ k = -1 ∧ n ≤ lim ∧ -1 ≤ n) (some ((List.range (n + 1).toNat).map fun j : Nat => AV.int (n - (j : Int)), c))) = some (r, c') from z) fun a c2 z1 z => bd.on z fun b c3 z2 z => bd.on z fun b2 c4 z3 z =>
    int2.on (P := fun a b => WpE prog w K hb A f l c y a c2 → WpE prog w K hb A f l c2 u b c3 → _) z (fun n m z p q => intV.on (P := fun b2 => WpE prog w K hb A f l c3 v b2 c4 → _) z (fun k z o => gd.on z fun hs z5 => by
      refine ex_0_4 (hs) fun eq0 eq1 hs1 hs2 => ?_
      subst eq0
      subst eq1
      cases z5
      exact wpI_range3 Cc F.ok hA.ok (F.built h2) h3 hs1 hs2 p q o) (s3.ee h6 F hA z3)) (s1.ee h4 F hA z1) (s2.ee h5 F hA z2)) h3
theorem snd_rev (Cc : Cx K hb) (s1 : Snd prog w K hb Φ d e1) : Snd prog w K hb Φ d (.rev e1) := Snd.ofI rfl fun {sg x f A l c r c'} h F hA z =>
  built1.on (P := fun x => WpI prog w K hb A f l c x r c') h fun np y pos h2 h3 h4 => bd.on (show bd ((ev tab Φ e1).e l c) (fun x c => listV x fun y => gd (small y = true) (some (y.reverse, c))) = some (r, c') from z) fun a c2 z1 z => listV.on (P := fun a => WpE prog w K hb A f l c y a c2 → _) z (fun n z p => gd.on z fun hs z => by
    cases z; exact wpI_rev Cc F.ok hA.ok (F.built h2) h3 p) (s1.ee h4 F hA z1)

/-! comprehensions: what they need, in one place -/
theorem bind1_fits {v : Nat} (h : l'.at v = .un) : ∀ a l2, bind1 v a l' = some l2 → l2.length = l'.length ∧ ∀ j, l'.at j = l2.at j ∨ l'.at j = .un := by
  intro a l2 q
  cases q
  refine ⟨List.length_set, fun j => ?_⟩
  rw [Loc.at_set]
  split
  · rename_i hj
    exact .inr (hj.1 ▸ h)
  · exact .inl rfl
theorem setAll_fits : ∀ {is : List Nat} {ts : List AV} {l l2 : Loc}, setAll is ts l = some l2 → l2.length = l.length ∧ ∀ j, j ∉ is → l.at j = l2.at j
  | [], [], l, l2, h => by cases h; exact ⟨rfl, fun _ _ => rfl⟩
  | [], _ :: _, _, _, h => no h
  | _ :: _, [], _, _, h => no h
  | i :: is, t :: ts, l, l2, h => by
    have h : setAll is ts (l.set i (.val t)) = some l2 := h
    obtain ⟨h1, h2⟩ := setAll_fits h
    refine ⟨by rw [h1, List.length_set], fun j hj => ?_⟩
    have := h2 j fun q => hj (.tail _ q)
    rw [← this, Loc.at_set, if_neg]
    exact fun q => hj (q.1 ▸ .head _)
theorem bindT_fits {is : List Nat} (h : ∀ i ∈ is, l'.at i = .un) : ∀ a l2, bindT is a l' = some l2 → l2.length = l'.length ∧ ∀ j, l'.at j = l2.at j ∨ l'.at j = .un := by
  intro a l2 q
  refine tupV.on q fun t q => ?_
  obtain ⟨h1, h2⟩ := setAll_fits q
  refine ⟨h1, fun j => ?_⟩
  by_cases hj : j ∈ is
  · exact .inr (h j hj)
  · exact .inl (h2 j hj)

/-- the evaluator's comprehensions, the target's store told -/
noncomputable def runC (it : Ev) (elt : Loc → Cells → Option (AV × Cells)) (cond : Loc → Cells → Option (Bool × Cells)) (bind : AV → Loc → Option Loc) (caps : List Nat) (l : Loc) (c : Cells) : Option (RV × Cells) :=
  bd (it.i l c) fun y c => gd (small y = true) ((capt l caps).bind fun l' => bd (compL elt cond bind y l' c) fun z c => some (.v (.list z), c))
theorem comp1_R (Cc : Cx K hb) {v : Nat} {caps : List Nat} {kc : Sg → List Expr → Bool} {x : Expr} {r : RV} {T : Loc → Cells → Option (Bool × Cells)} (s1 : Snd prog w K hb Φ d e1) (s2 : Snd prog w K hb Φ d e2)
    (hk : ∀ {sg : Sg} {ifs : List Expr} {f : Frm}, kc sg ifs = true → FrOk f sg → IfsOk prog w K hb A f ifs T) (h : comp1C sg v caps (chk K e2).i (chk K e1).e kc x = true) (F : FrOk f sg) (hA : AOkB A d) (z : runC (ev tab Φ e2) (ev tab Φ e1).e T (bind1 v) caps l c = some (r, c')) :
    ∃ zs, r = .v (.list zs) ∧ CompR prog w K hb A f l c x zs c' :=
  lcB.on (P := fun x => ∃ zs, r = .v (.list zs) ∧ CompR prog w K hb A f l c x zs c') h fun y t u ifs scope pos h => nameB.on (P := fun t => ∃ zs, r = .v (.list zs) ∧ CompR prog w K hb A f l c (.ListComp y [⟨t, u, ifs, 0⟩] scope pos) zs c') h fun n p h => and7 h fun h1 h2 h3 h4 h5 h6 h7 =>
    bd.on z fun xs c2 z1 z => gd.on z fun hs z => ob.on z fun lc z3 z => bd.on z fun zs c3 z4 z => by
      cases z
      have CO := F.comp h1
      have FI := fun C => F.inner CO C
      exact ⟨zs, rfl, compR_of Cc F.ok CO h3 (s2.i h5 F hA z1) z3 (fun C => wpBind1 (FI C).ok ((FI C).vk h4)) (bind1_fits ((capt_at z3).2.2 v fun q => absurd (notT h2) (by rw [List.contains_iff_mem.mpr q]; exact fun q => nomatch q))) (fun C l c a c2 q => s1.ee h6 (FI C) hA q) (fun C => hk h7 (FI C)) (of_decide_eq_true hs) z4⟩
theorem comp2_R (Cc : Cx K hb) {v v2 : Nat} {caps : List Nat} {x : Expr} {r : RV} (s1 : Snd prog w K hb Φ d e1) (s2 : Snd prog w K hb Φ d e2)
    (h : comp2C sg v v2 caps (chk K e2).i (chk K e1).e x = true) (F : FrOk f sg) (hA : AOkB A d) (z : runC (ev tab Φ e2) (ev tab Φ e1).e noCond (bindT [v, v2]) caps l c = some (r, c')) :
    ∃ zs, r = .v (.list zs) ∧ CompR prog w K hb A f l c x zs c' :=
  lcB.on (P := fun x => ∃ zs, r = .v (.list zs) ∧ CompR prog w K hb A f l c x zs c') h fun y t u ifs scope pos h => tupB.on (P := fun t => ∃ zs, r = .v (.list zs) ∧ CompR prog w K hb A f l c (.ListComp y [⟨t, u, ifs, 0⟩] scope pos) zs c') h fun es n p h => and2 h fun h0 h => and7 h fun h1 h2 h22 h3 h4 h5 h6 =>
    nilB.on (P := fun ifs => ∃ zs, r = .v (.list zs) ∧ CompR prog w K hb A f l c (.ListComp y [⟨.Tuple es n p, u, ifs, 0⟩] scope pos) zs c') h0 (bd.on z fun xs c2 z1 z => gd.on z fun hs z => ob.on z fun lc z3 z => bd.on z fun zs c3 z4 z => by
      cases z
      have CO := F.comp h1
      have FI := fun C => F.inner CO C
      have nc : ∀ {v : Nat}, (!caps.contains v) = true → Loc.at lc v = .un := fun {v} h => (capt_at z3).2.2 v fun q => absurd (notT h) (by rw [List.contains_iff_mem.mpr q]; exact fun q => nomatch q)
      have un : ∀ i ∈ [v, v2], Loc.at lc i = .un := fun i hi => by
        rcases List.mem_cons.mp hi with rfl | hi
        · exact nc h2
        · rw [List.mem_singleton.mp hi]; exact nc h22
      exact ⟨zs, rfl, compR_of Cc F.ok CO h3 (s2.i h5 F hA z1) z3 (fun C => wpBindT (FI C).ok hA.ok ((FI C).tgts h4)) (bindT_fits un) (fun C l c a c2 q => s1.ee h6 (FI C) hA q) (fun C => .inl ⟨rfl, fun l c => rfl⟩) (of_decide_eq_true hs) z4⟩)
theorem ifs0 {ifs : List Expr} (h : nilB ifs = true) : IfsOk prog w K hb A f ifs noCond := nilB.on (P := fun ifs => IfsOk prog w K hb A f ifs noCond) h (.inl ⟨rfl, fun l c => rfl⟩)
theorem ifs1 {ifs : List Expr} (s3 : Snd prog w K hb Φ d e3) (hA : AOkB A d) (h : oneB ifs ((chk K e3).t sg) = true) (F : FrOk f sg) : IfsOk prog w K hb A f ifs (ev tab Φ e3).t := oneB.on (P := fun ifs => IfsOk prog w K hb A f ifs (ev tab Φ e3).t) h fun y h => .inr ⟨y, rfl, fun l c b c2 q => s3.t h F hA q⟩
theorem compE {x : Expr} {r : RV} (h : ∃ zs, r = .v (.list zs) ∧ CompR prog w K hb A f l c x zs c') : WpR prog w K hb A f l c x r c' := by
  obtain ⟨zs, rfl, h⟩ := h; exact WpR.ofE h.e
theorem snd_comp1 (Cc : Cx K hb) {v : Nat} {caps : List Nat} (s1 : Snd prog w K hb Φ d e1) (s2 : Snd prog w K hb Φ d e2) : Snd prog w K hb Φ d (.comp1 v caps e1 e2) := Snd.ofR rfl rfl rfl fun h F hA z => compE (comp1_R Cc s1 s2 (fun h _ => ifs0 h) h F hA z)
theorem snd_comp1if (Cc : Cx K hb) {v : Nat} {caps : List Nat} (s1 : Snd prog w K hb Φ d e1) (s2 : Snd prog w K hb Φ d e2) (s3 : Snd prog w K hb Φ d e3) : Snd prog w K hb Φ d (.comp1if v caps e1 e2 e3) := Snd.ofR rfl rfl rfl fun h F hA z => compE (comp1_R Cc s1 s2 (ifs1 s3 hA) h F hA z)
theorem snd_comp2 (Cc : Cx K hb) {v v2 : Nat} {caps : List Nat} (s1 : Snd prog w K hb Φ d e1) (s2 : Snd prog w K hb Φ d e2) : Snd prog w K hb Φ d (.comp2 v v2 caps e1 e2) := Snd.ofR rfl rfl rfl fun h F hA z => compE (comp2_R Cc s1 s2 h F hA z)

theorem snd (Cc : Cx K hb) (KO : KOk K) (FF : CallOk prog w K hb Φ d) : ∀ e : IE, Snd prog w K hb Φ d e
  | .nil => snd_nil
  | .cons e es => snd_cons (snd Cc KO FF e) (snd Cc KO FF es)
  | .loc i => snd_loc i
  | .int n => snd_int n
  | .str s => snd_str s
  | .bool b => snd_bool b
  | .none => snd_none
  | .attr e f => snd_attr Cc KO (snd Cc KO FF e)
  | .call f es => snd_call Cc FF (snd Cc KO FF es)
  | .callO f es => snd_callO Cc FF (snd Cc KO FF es)
  | .meth e m es => snd_meth Cc KO FF (snd Cc KO FF e) (snd Cc KO FF es)
  | .new k es => snd_new Cc (snd Cc KO FF es)
  | .fresh => snd_fresh Cc FF
  | .isi e k => snd_isi Cc KO (snd Cc KO FF e)
  | .len e => snd_len Cc (snd Cc KO FF e)
  | .copy e => snd_copy Cc (snd Cc KO FF e)
  | .sorted e => snd_sorted Cc (snd Cc KO FF e)
  | .strOf e => snd_strOf Cc (snd Cc KO FF e)
  | .intOf e => snd_intOf Cc (snd Cc KO FF e)
  | .max a b => snd_max Cc (snd Cc KO FF a) (snd Cc KO FF b)
  | .tupOf e => snd_tupOf Cc (snd Cc KO FF e)
  | .rfind e a => snd_rfind (snd Cc KO FF e) (snd Cc KO FF a)
  | .isdigit e => snd_isdigit (snd Cc KO FF e)
  | .get1 e k => snd_get1 (snd Cc KO FF e) (snd Cc KO FF k)
  | .get2 e k d => snd_get2 (snd Cc KO FF e) (snd Cc KO FF k) (snd Cc KO FF d)
  | .bin o a b => snd_bin (snd Cc KO FF a) (snd Cc KO FF b)
  | .neg e => snd_neg (snd Cc KO FF e)
  | .cmp o a b => snd_cmp (snd Cc KO FF a) (snd Cc KO FF b)
  | .and a b => snd_and (snd Cc KO FF a) (snd Cc KO FF b)
  | .or a b => snd_or (snd Cc KO FF a) (snd Cc KO FF b)
  | .not a => snd_not (snd Cc KO FF a)
  | .ite t a b => snd_ite (snd Cc KO FF t) (snd Cc KO FF a) (snd Cc KO FF b)
  | .list es => snd_list Cc (snd Cc KO FF es)
  | .tup es => snd_tup (snd Cc KO FF es)
  | .dict0 => snd_dict0 Cc
  | .dict1 k v => snd_dict1 Cc (snd Cc KO FF k) (snd Cc KO FF v)
  | .idx e i => snd_idx Cc (snd Cc KO FF e) (snd Cc KO FF i)
  | .sliceTo e b => snd_sliceTo (snd Cc KO FF e) (snd Cc KO FF b)
  | .sliceFrom e a => snd_sliceFrom (snd Cc KO FF e) (snd Cc KO FF a)
  | .range1 e => snd_range1 Cc (snd Cc KO FF e)
  | .range3 a b c => snd_range3 Cc (snd Cc KO FF a) (snd Cc KO FF b) (snd Cc KO FF c)
  | .rev e => snd_rev Cc (snd Cc KO FF e)
  | .comp1 x caps elt it => snd_comp1 Cc (snd Cc KO FF elt) (snd Cc KO FF it)
  | .comp1if x caps elt it cond => snd_comp1if Cc (snd Cc KO FF elt) (snd Cc KO FF it) (snd Cc KO FF cond)
  | .comp2 x y caps elt it => snd_comp2 Cc (snd Cc KO FF elt) (snd Cc KO FF it)
end Mine
end
section
open PySem PySem.W PySem.Calls PyProof.Rows
set_option Elab.async false
set_option maxRecDepth 100000
set_option linter.unusedVariables false
namespace Mine
variable {prog : Program} {w : World} {K : Frag} {hb : Heap} {A : Around} {f : Frm} {l l' : Loc} {c c' c1 c2 c3 : Cells} {sg : Sg} {Φ : CallF} {d W : Nat} {e e1 e2 e3 : IE} {s s1 s2 : IS}

noncomputable abbrev SndK (prog : Program) (w : World) (K : Frag) (hb : Heap) (d : Nat) (k : Sg → Stmt → Bool) (xe : Loc → Cells → Option (Fl × Loc × Cells)) : Prop :=
  ∀ {sg : Sg} {st : Stmt} {f : Frm} {A : Around} {l : Loc} {c : Cells} {r : Fl} {l' : Loc} {c' : Cells}, k sg st = true → FrOk f sg → AOkB A d → xe l c = some (r, l', c') → WpS prog w K hb A f l c (exec st f.env) r l' c'
structure SndS (prog : Program) (w : World) (K : Frag) (hb : Heap) (Φ : CallF) (d W : Nat) (s : IS) : Prop where
  blk : ∀ {sg : Sg} {sts : List Stmt} {f : Frm} {A : Around} {l : Loc} {c : Cells} {r : Fl} {l' : Loc} {c' : Cells}, chkS K s sg sts = true → FrOk f sg → AOkB A d → exs tab Φ W s l c = some (r, l', c') → WpS prog w K hb A f l c (execs sts f.env) r l' c'
  one : isStmt s = true → SndK prog w K hb d (fun sg st => chkS K s sg [st]) (exs tab Φ W s)
theorem wpS_one {st : Stmt} {r : Fl} (p : WpS prog w K hb A f l c (exec st f.env) r l' c') : WpS prog w K hb A f l c (execs [st] f.env) r l' c' := by
  cases r with
  | next => exact wpS_cons p wpS_nil
  | cont => exact wpS_stop (fun q => by cases q) p
  | ret v => exact wpS_stop (fun q => by cases q) p
theorem SndS.ofOne {k : Sg → Stmt → Bool} (hc : chkS K s = fun sg sts => oneB sts (k sg)) (one : SndK prog w K hb d k (exs tab Φ W s)) : SndS prog w K hb Φ d W s where
  blk := fun {sg sts f A l c r l' c'} h F hA z => by rw [hc] at h; exact oneB.on (P := fun sts => WpS prog w K hb A f l c (execs sts f.env) r l' c') h fun st h => wpS_one (one h F hA z)
  one := fun _ {sg st f A l c r l' c'} h F hA z => by
    have h : chkS K s sg [st] = true := h
    rw [hc] at h; exact and2 (show (nilB ([] : List Stmt) && k sg st) = true from h) fun _ h => one h F hA z
theorem SndS.ofBd {α : Type} {k : Sg → Stmt → Bool} {o : Loc → Cells → Option (α × Cells)} {ke : Loc → Cells → α → Cells → Option (Fl × Loc × Cells)} (hc : chkS K s = fun sg sts => oneB sts (k sg)) (he : exs tab Φ W s = fun l c => bd (o l c) (ke l c)) (one : SndK prog w K hb d k fun l c => bd (o l c) (ke l c)) : SndS prog w K hb Φ d W s :=
  SndS.ofOne hc (he ▸ one)
theorem SndS.ofPl {k : Sg → Stmt → Bool} {o : Loc → Cells → Option (Pl × Cells)} {ke : Loc → Cells → Pl → AV → Cells → Option (Fl × Loc × Cells)} (hc : chkS K s = fun sg sts => oneB sts (k sg)) (he : exs tab Φ W s = fun l c => pl (o l c) l (ke l c)) (one : SndK prog w K hb d k fun l c => pl (o l c) l (ke l c)) : SndS prog w K hb Φ d W s :=
  SndS.ofOne hc (he ▸ one)
theorem isComp.on {P : IE → Prop} (h : isComp e = true) (g1 : ∀ x caps a b, P (.comp1 x caps a b)) (g2 : ∀ x caps a b c, P (.comp1if x caps a b c)) (g3 : ∀ x y caps a b, P (.comp2 x y caps a b)) : P e :=
  or2 h (fun h => IE.comp1.elim (motive := P) e (beqT h) g1) fun h => or2 h (fun h => IE.comp1if.elim (motive := P) e (beqT h) g2) fun h => IE.comp2.elim (motive := P) e (beqT h) g3
theorem sndS_asg (Cc : Cx K hb) (KO : KOk K) (FF : CallOk prog w K hb Φ d) {i : Nat} {e : IE} : SndS prog w K hb Φ d W (.asg i e) := SndS.ofBd rfl rfl fun {sg st f A l c r l' c'} h F hA z =>
  asg1.on (P := fun st => WpS prog w K hb A f l c (exec st f.env) r l' c') h fun t x pos h => nameB.on (P := fun t => WpS prog w K hb A f l c (exec (.Assign [t] x pos) f.env) r l' c') h fun n np h => and3 h fun h1 h2 h3 => bd.on z fun v c2 z1 z => by
    cases z
    have V := F.vk h1
    unfold asgOk at h2
    by_cases hx : isComp e = true
    · rw [if_pos hx, ← F.kd] at h2
      have fin : (∃ zs, v = .v (.list zs) ∧ CompR prog w K hb A f l c x zs c') → WpS prog w K hb A f l c (exec (.Assign [.Name n np] x pos) f.env) .next (l.set i v.lv) c' := by
        rintro ⟨zs, rfl, h⟩
        exact h.s V h2
      have sn := snd (w := w) (prog := prog) (Φ := Φ) Cc KO FF
      exact isComp.on (P := fun e => (chk K e).e sg x = true → (ev tab Φ e).r l c = some (v, c') → WpS prog w K hb A f l c (exec (.Assign [.Name n np] x pos) f.env) .next (l.set i v.lv) c') hx (fun x caps a b h z => fin (comp1_R Cc (sn a) (sn b) (fun h _ => ifs0 h) h F hA z))
        (fun x caps a b c h z => fin (comp1_R Cc (sn a) (sn b) (ifs1 (sn c) hA) h F hA z)) (fun x y caps a b h z => fin (comp2_R Cc (sn a) (sn b) h F hA z)) h3 z1
    · rw [if_neg hx] at h2
      exact wpS_asg F.ok V h2 ((snd Cc KO FF e).r h3 F hA z1)
end Mine
end
section
open PySem PySem.W PySem.Calls PyProof.Rows
set_option Elab.async false
set_option maxRecDepth 100000
set_option linter.unusedVariables false
namespace Mine
variable {prog : Program} {w : World} {K : Frag} {hb : Heap} {A : Around} {f : Frm} {l l' : Loc} {c c' c1 c2 c3 : Cells} {sg : Sg} {Φ : CallF} {d W : Nat} {e e1 e2 e3 : IE} {s s1 s2 : IS}

theorem sndS_asg2 (Cc : Cx K hb) (KO : KOk K) (FF : CallOk prog w K hb Φ d) {i j : Nat} {a b : IE} : SndS prog w K hb Φ d W (.asg2 i j a b) := SndS.ofBd rfl rfl fun {sg st f A l c r l' c'} h F hA z =>
  asgT1.on (P := fun st => WpS prog w K hb A f l c (exec st f.env) r l' c') h fun ts k1 q1 v pos h => tupB.on (P := fun v => WpS prog w K hb A f l c (exec (.Assign [.Tuple ts k1 q1] v pos) f.env) r l' c') h fun vs k2 q2 h => twoB.on (P := fun ts => WpS prog w K hb A f l c (exec (.Assign [.Tuple ts k1 q1] (.Tuple vs k2 q2) pos) f.env) r l' c') h fun t1 t2 h =>
    twoB.on (P := fun vs => WpS prog w K hb A f l c (exec (.Assign [.Tuple [t1, t2] k1 q1] (.Tuple vs k2 q2) pos) f.env) r l' c') h fun x y h => nameB.on (P := fun t1 => WpS prog w K hb A f l c (exec (.Assign [.Tuple [t1, t2] k1 q1] (.Tuple [x, y] k2 q2) pos) f.env) r l' c') h fun n1 p1 h =>
    nameB.on (P := fun t2 => WpS prog w K hb A f l c (exec (.Assign [.Tuple [.Name n1 p1, t2] k1 q1] (.Tuple [x, y] k2 q2) pos) f.env) r l' c') h fun n2 p2 h => and5 h fun h1 h2 h3 h4 h5 => bd.on z fun r1 c2 z1 z => bd.on z fun r2 c3 z2 z => by
      cases z; exact wpS_asg2 F.ok hA.ok (F.vk h1) (F.vk h2) (by rw [F.kd]; exact h3) ((snd Cc KO FF a).r h4 F hA z1) ((snd Cc KO FF b).r h5 F hA z2)
theorem sndS_asgT (Cc : Cx K hb) (KO : KOk K) (FF : CallOk prog w K hb Φ d) {is : List Nat} {e : IE} : SndS prog w K hb Φ d W (.asgT is e) := SndS.ofBd rfl rfl fun {sg st f A l c r l' c'} h F hA z =>
  asgT1.on (P := fun st => WpS prog w K hb A f l c (exec st f.env) r l' c') h fun es k1 q1 x pos h => and4 h fun h1 h2 h3 h4 => bd.on z fun a c2 z1 z => om.on z fun l2 z2 z => by
    cases z; exact wpS_asgT F.ok hA.ok (F.tgts h1) h2 (fun a b c q => by subst q; exact noB h3) ((snd Cc KO FF e).ee h4 F hA z1) z2
theorem sndS_popT (Cc : Cx K hb) (KO : KOk K) (FF : CallOk prog w K hb Φ d) {is : List Nat} {p : IE} : SndS prog w K hb Φ d W (.popT is p) := SndS.ofPl rfl rfl fun {sg st f A l c r l' c'} h F hA z =>
  asgT1.on (P := fun st => WpS prog w K hb A f l c (exec st f.env) r l' c') h fun es k1 q1 v pos h => atCall.on (P := fun v => WpS prog w K hb A f l c (exec (.Assign [.Tuple es k1 q1] v pos) f.env) r l' c') h fun x apos xs p2 h3 _ h4 h => and3 h fun h0 h1 h5 => nilB.on (P := fun xs => WpS prog w K hb A f l c (exec (.Assign [.Tuple es k1 q1] (.Call (.Attribute x "pop" apos) xs [] p2) pos) f.env) r l' c') h0
    (pl.on z fun q a c2 z1 z2 z => listV.on (P := fun a => q.read l c2 = some a → _) z (fun y z z2 => gd.on z fun hs z => ob.on z fun ts z4 z => bd.on z fun lm c3 z5 z => om.on z fun l2 z6 z => by
      cases z; exact wpS_popT F.ok hA.ok (F.tgts h1) h3 h4 ((snd Cc KO FF p).p h5 F hA z1) z2 (of_decide_eq_true hs) z4 z5 z6) z2)
theorem sndS_setIdx (Cc : Cx K hb) (KO : KOk K) (FF : CallOk prog w K hb Φ d) {p k v : IE} : SndS prog w K hb Φ d W (.setIdx p k v) := SndS.ofBd rfl rfl fun {sg st f A l c r l' c'} h F hA z =>
  asg1.on (P := fun st => WpS prog w K hb A f l c (exec st f.env) r l' c') h fun t x pos h => subB.on (P := fun t => WpS prog w K hb A f l c (exec (.Assign [t] x pos) f.env) r l' c') h fun u y q1 h => and4 h fun h1 h2 h3 h4 => bd.on z fun a c2 z1 z => bd.on z fun pl c3 z2 z => bd.on z fun kk c4 z3 z => ob.on z fun ct z4 z =>
    setV.on (P := fun ct kk => pl.read l c4 = some ct → WpE prog w K hb A f l c3 y kk c4 → _) z (fun us n z z4 q => gd.on z fun hs z => om.on z fun o z6 z => by
      cases z; exact wpS_setIdx_list h1 ((snd Cc KO FF v).ee h2 F hA z1) ((snd Cc KO FF p).p h3 F hA z2) q z4 hs.1 hs.2.1 (of_decide_eq_true hs.2.2) z6) (fun ks vs n z z4 q => gd.on z fun hs z => om.on z fun o z6 z => by
      cases z; exact wpS_setIdx_dict h1 ((snd Cc KO FF v).ee h2 F hA z1) ((snd Cc KO FF p).p h3 F hA z2) q z4 hs z6) z4 ((snd Cc KO FF k).ee h4 F hA z3)
theorem sndS_aug (Cc : Cx K hb) (KO : KOk K) (FF : CallOk prog w K hb Φ d) {i : Nat} {e : IE} : SndS prog w K hb Φ d W (.aug i e) := SndS.ofOne rfl fun {sg st f A l c r l' c'} h F hA z =>
  augB.on (P := fun st => WpS prog w K hb A f l c (exec st f.env) r l' c') h fun t o x pos h => and2 h fun h0 h => nameB.on (P := fun t => WpS prog w K hb A f l c (exec (.AugAssign t o x pos) f.env) r l' c') h fun n np h => and2 h fun h1 h2 =>
    valL.on (show (valL l i fun a => intV a fun n => bd ((ev tab Φ e).e l c) fun x c => intV x fun m => some (.next, l.set i (.val (.int (n + m))), c)) = some (r, l', c') from z) fun a hl z => intV.on (P := fun a => l.at i = .val a → _) z (fun n z hl => bd.on z fun b c2 z1 z => intV.on (P := fun b => WpE prog w K hb A f l c x b c2 → _) z (fun m z q => by
      cases beqT h0; cases z; exact wpS_aug F.ok (F.vk h1) hl q) ((snd Cc KO FF e).ee h2 F hA z1)) hl
theorem sndS_ret (Cc : Cx K hb) (KO : KOk K) (FF : CallOk prog w K hb Φ d) {e : IE} : SndS prog w K hb Φ d W (.ret e) := SndS.ofBd rfl rfl fun {sg st f A l c r l' c'} h F hA z =>
  retB.on (P := fun st => WpS prog w K hb A f l c (exec st f.env) r l' c') h fun v pos h => someB.on (P := fun v => WpS prog w K hb A f l c (exec (.Return v pos) f.env) r l' c') h fun x h => bd.on z fun a c2 z1 z => by
    cases z; exact wpS_ret ((snd Cc KO FF e).r h F hA z1)
theorem sndS_append (Cc : Cx K hb) (KO : KOk K) (FF : CallOk prog w K hb Φ d) {p e : IE} : SndS prog w K hb Φ d W (.append p e) := SndS.ofPl rfl rfl fun {sg st f A l c r l' c'} h F hA z =>
  exprB.on (P := fun st => WpS prog w K hb A f l c (exec st f.env) r l' c') h fun v pos h => atCall.on (P := fun v => WpS prog w K hb A f l c (exec (.Expr v pos) f.env) r l' c') h fun x apos xs p2 h2 h3 h4 h => oneB.on (P := fun xs => noStar xs = true → WpS prog w K hb A f l c (exec (.Expr (.Call (.Attribute x "append" apos) xs [] p2) pos) f.env) r l' c') h (fun y h h3 => and2 h fun h5 h6 =>
    pl.on z fun q a0 c2 z1 z2 z => gd.on z fun hd z => bd.on z fun a c3 z4 z => ob.on z fun ct z5 z => listV.on (P := fun ct => q.read l c3 = some ct → _) z (fun us z z5 => gd.on z fun hs z => om.on z fun o z7 z => by
      cases z
      obtain ⟨vs0, rfl⟩ := isList_ofB hd
      exact wpS_append F.ok h2 h3 h4 ((snd Cc KO FF p).p h5 F hA z1) ((snd Cc KO FF e).ee h6 F hA z4) z2 z5 (of_decide_eq_true hs) z7) z5) h3
theorem sndS_expr (Cc : Cx K hb) (KO : KOk K) (FF : CallOk prog w K hb Φ d) {e : IE} : SndS prog w K hb Φ d W (.expr e) := SndS.ofBd rfl rfl fun {sg st f A l c r l' c'} h F hA z =>
  exprB.on (P := fun st => WpS prog w K hb A f l c (exec st f.env) r l' c') h fun x pos h => and2 h fun h1 h2 => bd.on z fun a c2 z1 z => noneV.on (P := fun a => WpE prog w K hb A f l c x a c2 → _) z (fun z q => by cases z; exact wpS_expr F.ok h1 q) ((snd Cc KO FF e).ee h2 F hA z1)
theorem sndS_delFrom (Cc : Cx K hb) (KO : KOk K) (FF : CallOk prog w K hb Φ d) {p e : IE} : SndS prog w K hb Φ d W (.delFrom p e) := SndS.ofBd rfl rfl fun {sg st f A l c r l' c'} h F hA z =>
  delB.on (P := fun st => WpS prog w K hb A f l c (exec st f.env) r l' c') h fun ts pos h => oneB.on (P := fun ts => WpS prog w K hb A f l c (exec (.Delete ts pos) f.env) r l' c') h fun t h => fromB.on (P := fun t => WpS prog w K hb A f l c (exec (.Delete [t] pos) f.env) r l' c') h fun nm np y q1 q2 h => and2 h fun h1 h2 =>
    bd.on z fun pl c2 z1 z => bd.on z fun b c3 z2 z => ob.on z fun ct z3 z => listV.on (P := fun ct => pl.read l c3 = some ct → _) z (fun us z z3 => intV.on (P := fun b => WpE prog w K hb A f l c2 y b c3 → _) z (fun n z q => gd.on z fun hs z => om.on z fun o z7 z => by
      cases z; exact wpS_delFrom ((snd Cc KO FF p).p h1 F hA z1) q z3 hs.1 hs.2.1 (of_decide_eq_true hs.2.2) z7) ((snd Cc KO FF e).ee h2 F hA z2)) z3
theorem sndS_cont : SndS prog w K hb Φ d W .cont := SndS.ofOne rfl fun {sg st f A l c r l' c'} h F hA z => by
  cases z; exact contB.on (P := fun st => WpS prog w K hb A f l c (exec st f.env) _ l c) h fun pos _ => wpS_cont
theorem sndS_ifs (Cc : Cx K hb) (KO : KOk K) (FF : CallOk prog w K hb Φ d) {t : IE} (h1 : SndS prog w K hb Φ d W s1) (h2 : SndS prog w K hb Φ d W s2) : SndS prog w K hb Φ d W (.ifs t s1 s2) := SndS.ofBd rfl rfl fun {sg st f A l c r l' c'} h F hA z =>
  ifB.on (P := fun st => WpS prog w K hb A f l c (exec st f.env) r l' c') h fun x sa sb pos h => and3 h fun g1 g2 g3 => bd.on z fun b c2 z1 z => wpS_if ((snd Cc KO FF t).t g1 F hA z1) (ifT z (fun e z => by subst e; exact h1.blk g2 F hA z) (fun e z => by subst e; exact h2.blk g3 F hA z))
theorem sndS_for1 (Cc : Cx K hb) (KO : KOk K) (FF : CallOk prog w K hb Φ d) {i : Nat} {it : IE} (h1 : SndS prog w K hb Φ d W s1) : SndS prog w K hb Φ d W (.for1 i it s1) := SndS.ofBd rfl rfl fun {sg st f A l c r l' c'} h F hA z =>
  forB.on (P := fun st => WpS prog w K hb A f l c (exec st f.env) r l' c') h fun t y sb se pos h => and2 h fun g0 h => nilB.on (P := fun se => WpS prog w K hb A f l c (exec (.For t y sb se pos) f.env) r l' c') g0 (nameB.on (P := fun t => WpS prog w K hb A f l c (exec (.For t y sb [] pos) f.env) r l' c') h fun n np h => and4 h fun g1 g2 g3 g4 =>
    bd.on z fun xs c2 z1 z => gd.on z fun _ z => wpS_for g2 ((snd Cc KO FF it).i g3 F hA z1) (wpBind1 F.ok (F.vk g1)) (fun l c r l2 c2 q => h1.blk g4 F hA q) z)
theorem sndS_forT (Cc : Cx K hb) (KO : KOk K) (FF : CallOk prog w K hb Φ d) {is : List Nat} {it : IE} (h1 : SndS prog w K hb Φ d W s1) : SndS prog w K hb Φ d W (.forT is it s1) := SndS.ofBd rfl rfl fun {sg st f A l c r l' c'} h F hA z =>
  forB.on (P := fun st => WpS prog w K hb A f l c (exec st f.env) r l' c') h fun t y sb se pos h => and2 h fun g0 h => nilB.on (P := fun se => WpS prog w K hb A f l c (exec (.For t y sb se pos) f.env) r l' c') g0 (tupB.on (P := fun t => WpS prog w K hb A f l c (exec (.For t y sb [] pos) f.env) r l' c') h fun es n np h => and4 h fun g1 g2 g3 g4 =>
    bd.on z fun xs c2 z1 z => gd.on z fun _ z => wpS_for g2 ((snd Cc KO FF it).i g3 F hA z1) (wpBindT F.ok hA.ok (F.tgts g1)) (fun l c r l2 c2 q => h1.blk g4 F hA q) z)
theorem sndS_whil (Cc : Cx K hb) (KO : KOk K) (FF : CallOk prog w K hb Φ d) {t : IE} (h1 : SndS prog w K hb Φ d W s1) : SndS prog w K hb Φ d W (.whil t s1) := SndS.ofOne rfl fun {sg st f A l c r l' c'} h F hA z =>
  whileB.on (P := fun st => WpS prog w K hb A f l c (exec st f.env) r l' c') h fun x sb se pos h => and3 h fun g0 g1 g2 => nilB.on (P := fun se => WpS prog w K hb A f l c (exec (.While x sb se pos) f.env) r l' c') g0
    (wpS_while (n := W) (T := (ev tab Φ t).t) (F := exs tab Φ W s1) (fun l c b c2 q => (snd Cc KO FF t).t g1 F hA q) (fun l c r l2 c2 q => h1.blk g2 F hA q) z)
theorem sndS_skip : SndS prog w K hb Φ d W .skip where
  blk := fun {sg sts f A l c r l' c'} h F hA z => by
    cases z; exact nilB.on (P := fun sts => WpS prog w K hb A f l c (execs sts f.env) _ l c) h wpS_nil
  one := fun h => noB h
theorem sndS_freeze {i : Nat} : SndS prog w K hb Φ d W (.freeze i) where
  blk := fun h => noB h
  one := fun h => noB h
theorem sndS_promote {i : Nat} : SndS prog w K hb Φ d W (.promote i) where
  blk := fun h => noB h
  one := fun h => noB h
theorem FlR_fwd {r : Fl} : ∀ (g g' g'' : Gh) (mu mu' mu'' : Addr → Prop) (h0 h1 h2 : Heap) (v : Flow), Ext g mu h0 g' mu' h1 → FlR w K g'' mu'' h1 h2 r v → FlR w K g'' mu'' h0 h2 r v := fun _ _ _ _ _ _ _ _ _ _ X R => FlR.fwd X R
theorem isGhost.on {P : IS → Prop} (h : isGhost s = true) (g1 : ∀ i, P (.freeze i)) (g2 : ∀ i, P (.promote i)) : P s :=
  or2 h (fun h => IS.freeze.elim (motive := P) s (beqT h) g1) fun h => IS.promote.elim (motive := P) s (beqT h) g2
theorem sndS_seq (h1 : SndS prog w K hb Φ d W s1) (h2 : SndS prog w K hb Φ d W s2) : SndS prog w K hb Φ d W (.seq s1 s2) where
  one := fun h => noB h
  blk := fun {sg sts f A l c r l' c'} h F hA z => by
    have h : (if isGhost s1 = true then chkS K s2 sg sts else headB sts fun st r => isStmt s1 && (chkS K s1 sg [st] && chkS K s2 sg r)) = true := h
    refine bd.on (show bd (exs tab Φ W s1 l c) (seqK (exs tab Φ W s2)) = some (r, l', c') from z) fun fl y z1 z2 => ?_
    by_cases hg : isGhost s1 = true
    · rw [if_pos hg] at h
      refine isGhost.on (P := fun s1 => exs tab Φ W s1 l c = some (fl, y) → _) hg (fun i z1 => ?_) (fun i z1 => ?_) z1
      · refine ownL.on (show (ownL l i fun a => some (.next, l.set i (.val a), c)) = some (fl, y) from z1) fun a hl z1 => ?_
        cases z1
        exact WpX.ghost FlR_fwd (fun g al h S => S.freezeI hl) (h2.blk h F hA z2)
      · refine ownL.on (show (ownL l i fun a => some (.next, l.set i (.val (.cell c.length)), c ++ [a])) = some (fl, y) from z1) fun a hl z1 => ?_
        cases z1
        exact WpX.ghost FlR_fwd (fun g al h S => ⟨_, S.promoteI hl⟩) (h2.blk h F hA z2)
    · rw [if_neg hg] at h
      refine headB.on (P := fun sts => WpS prog w K hb A f l c (execs sts f.env) r l' c') h fun st rs h => and3 h fun g1 g2 g3 => ?_
      have p := h1.one g1 g2 F hA z1
      cases fl with
      | next => exact wpS_cons p (h2.blk g3 F hA z2)
      | cont => cases z2; exact wpS_stop (fun q => by cases q) p
      | ret v => cases z2; exact wpS_stop (fun q => by cases q) p
theorem sndS (Cc : Cx K hb) (KO : KOk K) (FF : CallOk prog w K hb Φ d) : ∀ s : IS, SndS prog w K hb Φ d W s
  | .skip => sndS_skip
  | .seq s rest => sndS_seq (sndS Cc KO FF s) (sndS Cc KO FF rest)
  | .asg i e => sndS_asg Cc KO FF
  | .asg2 i j a b => sndS_asg2 Cc KO FF
  | .asgT is e => sndS_asgT Cc KO FF
  | .popT is p => sndS_popT Cc KO FF
  | .setIdx p k v => sndS_setIdx Cc KO FF
  | .aug i e => sndS_aug Cc KO FF
  | .ret e => sndS_ret Cc KO FF
  | .ifs t a b => sndS_ifs Cc KO FF (sndS Cc KO FF a) (sndS Cc KO FF b)
  | .for1 i it body => sndS_for1 Cc KO FF (sndS Cc KO FF body)
  | .forT is it body => sndS_forT Cc KO FF (sndS Cc KO FF body)
  | .whil t body => sndS_whil Cc KO FF (sndS Cc KO FF body)
  | .append p e => sndS_append Cc KO FF
  | .expr e => sndS_expr Cc KO FF
  | .delFrom p a => sndS_delFrom Cc KO FF
  | .cont => sndS_cont
  | .freeze i => sndS_freeze
  | .promote i => sndS_promote

/-! the functions -/
theorem call_all (Cc : Cx K hb) (KO : KOk K) (FO : ∀ n, fnOk K n = true) : ∀ d, CallOk prog w K hb (callF tab fun? W d) d
  | 0 => fun n as c r c' h => by cases h
  | d + 1 => fun n as c r c' h A hA f l g al s Q E vs S R k => by
    have FF := call_all Cc KO FO d
    refine ob.on (show ((fun? n).bind fun F => gd (as.length = F.np) (bd (exs tab (callF tab fun? W d) W F.body (as.map .val ++ List.replicate (F.nv - F.np) .un) c) endK)) = some (r, c') from h) fun F hF h => gd.on h fun hlen h => bd.on h fun fl y h1 h2 => ?_
    have fo := FO n
    unfold fnOk at fo
    rw [hF] at fo
    refine funcB.on fo fun oc od fd sl hlk fo => and5 fo fun o1 o2 o3 o4 o5 => stmtsB.on o5 fun body hbd o5 => ?_
    have M := fnMeta_of o1
    have o2 := of_decide_eq_true o2
    have o3 := beqT o3
    have hl0 : as.map LV.val ++ List.replicate (F.nv - F.np) LV.un = loc0 as (varsOf n).length := by unfold loc0; rw [o3, hlen]
    rw [hl0] at h1
    have hb1 : WpS prog w K hb (A.deeper (callEnvC fd s.heap.objs.size (fnA K n))) (fnFrm fd s.heap.objs.size (fnA K n) (varsOf n)) (loc0 as (varsOf n).length) c (execs body (callEnvC fd s.heap.objs.size (fnA K n))) fl y.1 y.2 :=
      (sndS Cc KO FF F.body).blk (f := fnFrm fd s.heap.objs.size (fnA K n) (varsOf n)) o5 ⟨fnEnvOk M o2, rfl, rfl⟩ (Around.deeper_ok hA) h1
    have hc : y.2 = c' ∧ (match (generalizing := false) fl with | .ret q => r = q | .next => r = .v .none | .cont => False) := by
      cases fl with
      | ret q => cases h2; exact ⟨rfl, rfl⟩
      | next => cases h2; exact ⟨rfl, rfl⟩
      | cont => cases h2
    exact call_run Cc hA S R hlk M hbd o2 (by rw [o3]; exact of_decide_eq_true o4) hlen (hc.1 ▸ hb1) hc.2 k
end Mine
end
section
open PySem PySem.W PySem.Calls PyProof.Rows
set_option Elab.async false
set_option maxRecDepth 100000
set_option linter.unusedVariables false
namespace Mine
variable {prog : Program} {w : World} {K : Frag} {A : Around}

theorem well_list {P : Params} {h : Heap} {l : Addr} {vs : List Value} {ds : List WData} (W : Well P h (.ref l) (.list ds)) (hl : h.IsList l vs.toArray) : h.get? l = some (listO vs 0) := by
  cases W with
  | list ho _ =>
    obtain ⟨o, ho', _, n, hd⟩ := hl
    rw [ho] at ho'
    cases ho'
    rw [ho]
    have : (Data.seq _ 0 : Data) = Data.seq vs.toArray n := hd
    injection this with e1 e2
    rw [e1]; rfl
theorem ints_rpl {g : Gh} : ∀ {vs : List Value} {ns : List Int}, IntsAre vs ns → RpL w K g (ns.map .int) vs
  | _, _, .nil => by simp [RpL]
  | _, _, .cons n t h => by
    simp only [List.map_cons, RpL]
    exact ⟨_, _, rfl, Rp.int_iff.mpr ⟨t, rfl⟩, ints_rpl h⟩

theorem law_join {s₁ : Shared} {h₁ : Heap} {mg mb : Str → Option Value} {name : Str} {scope : Scope} {fa l : Addr} {cd : Value} {vs : List Value} {ns : List Int} {body : List Stmt} {tk0 : Nat} {d W : Nat} {cc : Cells} {Q : Flow → Shared → Prop} {E : Value → Shared → Prop}
    (KO : KOk K) (FO : ∀ n, fnOk K n = true) (KX : K.In s₁.heap) (hg : s₁.heap.Ns mainGlobals mg) (hbl : s₁.heap.Ns builtinsNs mb) (hb2 : ∀ x : Str, x ≠ "__name__" → mb x = bootBuiltins x) (hlim : s₁.heap.NoLimit) (ho : s₁.heap.get? l = some (listO vs 0)) (hI : IntsAre vs ns)
    (F : Fr s₁.heap s₁.heap.objs.size h₁ (fun x => List.lookup x [(Str.ofString "script", Value.ref l)].reverse)) (hk : scope.kind = .function) (hnc : scope.names.all (fun p => p.2 != .cell) = true) (hck : chkS K b45 ⟨scope.names, varsOf 45⟩ body = true) (hA : AOk A (d + 1))
    (hpure : callF tab fun? W (d + 1) 45 [.list (ns.map .int)] [] = some (.v (.bool true), cc))
    (k : ∀ h' tk, (∀ b o, s₁.heap.get? b = some o → h'.get? b = some o) → Q (.ret (.bool true)) { s₁ with heap := h', toks := tk }) :
    wpAny (model prog w) (A.deeper (envOf name scope s₁.heap.objs.size fa cd)) (execs body (envOf name scope s₁.heap.objs.size fa cd)) Q E { s₁ with heap := h₁, toks := tk0 } := by
  have Cc : Cx K s₁.heap := ⟨KX, ⟨mg, hg⟩, ⟨mb, hbl, hb2⟩, hlim⟩
  let f : Frm := ⟨envOf name scope s₁.heap.objs.size fa cd, varsOf 45⟩
  have nocell : ∀ n, scope.names.lookup n ≠ some .cell := fun n e => by
    have := List.all_eq_true.mp hnc _ (mem_of_lookup e)
    simp at this
  have O : EnvOk f := ⟨hk, rfl, rfl, (by decide +kernel : (varsOf 45).Nodup), fun n e => absurd (show scope.names.lookup n = some .cell from e) (nocell n)⟩
  let g : Gh := ⟨s₁.heap.get?, []⟩
  have noown : ∀ j a, (loc0 [.list (ns.map .int)] 9).at j ≠ .own a := fun j a e => by
    rw [loc0_at] at e
    split at e <;> cases e
  have sz := Heap.none_at_size s₁.heap
  have mm : ∀ b, MutA f (fun _ => 0) [] (loc0 [.list (ns.map .int)] 9) b → b = s₁.heap.objs.size := fun b m => by
    cases m with
    | loc => rfl
    | cv e => exact absurd e (by show ([] : List (Str × Addr)).lookup _ ≠ _; simp)
    | own e => exact absurd e (noown _ _)
    | cell e => exact nomatch e
  have S : St w K s₁.heap f g (fun _ => 0) (loc0 [.list (ns.map .int)] 9) [] h₁ := {
    fz := fun a o e => F.keep a o e
    base := fun a o e => e
    mfree := fun b m => by rw [mm b m]; exact sz
    ns := by
      refine ⟨_, F.ns, fun i x hx hkx => ?_⟩
      rw [loc0_at]
      cases i with
      | zero =>
        have e : x = Str.ofString "script" := by
          have : (varsOf 45)[0]? = some x := hx
          rw [show (varsOf 45)[0]? = some (Str.ofString "script") from rfl] at this
          exact (Option.some.inj this).symm
        subst e
        refine ⟨.ref l, by simp, ?_⟩
        simp only [Rp]
        exact ⟨l, vs, 0, rfl, ho, ints_rpl hI⟩
      | succ i => simp [LVR]
    cv := fun x k e => absurd e (by show ([] : List (Str × Addr)).lookup _ ≠ _; simp)
    len := rfl
    own := fun i a e => absurd e (noown i a)
    clen := rfl
    cel := fun k a e => by simp at e
    own_ne := fun i j a b e _ _ => absurd e (noown i a)
    own_loc := fun i a e => absurd e (noown i a)
    own_cv := fun i a x k e _ => absurd e (noown i a)
    own_cell := fun i a e => absurd e (noown i a)
    loc_cell := fun q => nomatch q
    cv_cell := fun x k e => absurd e (by show ([] : List (Str × Addr)).lookup _ ≠ _; simp)
    cv_loc := fun x k e => absurd e (by show ([] : List (Str × Addr)).lookup _ ≠ _; simp)
    cv_inj := fun x y k e => absurd e (by show ([] : List (Str × Addr)).lookup _ ≠ _; simp)
    cnd := .nil
    sys := fun b m q => by
      rw [mm b m] at q
      have : mainGlobals < sysModules := q ▸ hg.lt
      exact absurd this (by decide) }
  refine bd.on (show bd (exs tab (callF tab fun? W d) W b45 (loc0 [.list (ns.map .int)] 9) []) endK = some (.v (.bool true), cc) from hpure) fun fl y h1 h2 => ?_
  have hb1 : WpS prog w K s₁.heap (A.deeper (envOf name scope s₁.heap.objs.size fa cd)) f (loc0 [.list (ns.map .int)] 9) [] (execs body f.env) fl y.1 y.2 := (sndS (W := W) Cc KO (call_all Cc KO FO d) b45).blk (f := f) hck ⟨O, rfl, rfl⟩ (Around.deeper_ok hA) h1
  refine hb1 g (fun _ => 0) { s₁ with heap := h₁, toks := tk0 } Q E S fun v h' tk g' al' S' X' R' => ?_
  have hkeep : ∀ b o, s₁.heap.get? b = some o → h'.get? b = some o := fun b o e => S'.fz b o (S'.base b o e)
  cases fl with
  | ret q =>
    cases v <;> try exact R'.elim
    cases h2
    have R' : _ = Value.bool true := R'
    subst R'
    exact k h' tk hkeep
  | next => exact absurd h2 (by nofun)
  | cont => exact no h2
end Mine
end
section
open PySem PySem.W PySem.Calls PyProof.Rows
set_option Elab.async false
set_option maxRecDepth 100000
set_option linter.unusedVariables false
namespace Mine
variable {K : Frag}
noncomputable def attrAt (K : Frag) (c k : Nat) : Bool := match fieldIdx c k, attrNames[k]? with
  | some j, some x => attrOk K c x && (clsFields c)[j]? == some x && decide (clsFields c).Nodup
  | _, _ => true
noncomputable def methAt (K : Frag) (c m : Nat) : Bool := match methOf c m, methNames[m]? with
  | some n, some x => methOk K c x (fnA K n)
  | _, _ => true
noncomputable def attrAll (K : Frag) : Bool := (List.range 10).all fun c => (List.range 16).all fun k => attrAt K c k
noncomputable def methAll (K : Frag) : Bool := (List.range 10).all fun c => (List.range 11).all fun m => methAt K c m
noncomputable def isiAll (K : Frag) : Bool := (List.range 10).all fun d => (List.range 10).all fun c => isiOk K d c
theorem tab_lt {T : List (List (Nat × Nat))} {N M : Nat} (hN : T.length = N) (hM : ∀ r ∈ T, ∀ p ∈ r, p.1 < M) {c k j : Nat} (h : ((T[c]?).bind fun r => r.lookup k) = some j) : c < N ∧ k < M := by
  refine ex_1_2 (Option.bind_eq_some_iff.mp h) fun r h1 h2 => ?_
  exact ⟨hN ▸ (List.getElem?_eq_some_iff.mp h1).1, hM r (List.mem_of_getElem? h1) _ (mem_of_lookup h2)⟩
theorem fieldIdx_lt {c k j : Nat} (h : fieldIdx c k = some j) : c < 10 ∧ k < 16 := tab_lt (by decide +kernel) (by decide +kernel) h
theorem methOf_lt {c k j : Nat} (h : methOf c k = some j) : c < 10 ∧ k < 11 := tab_lt (by decide +kernel) (by decide +kernel) h
theorem kOk_of (h1 : attrAll K = true) (h2 : methAll K = true) (h3 : isiAll K = true) : KOk K where
  attr := fun c j k x e1 e2 => by
    obtain ⟨a, b⟩ := fieldIdx_lt e1
    simp only [attrAll, List.all_eq_true] at h1
    have := h1 c (by simpa using a) k (by simpa using b)
    simp only [attrAt, e1, e2, Bool.and_eq_true, beq_iff_eq, decide_eq_true_eq] at this
    exact ⟨this.1.1, this.1.2, this.2⟩
  meth := fun c m n x e1 e2 => by
    obtain ⟨a, b⟩ := methOf_lt e1
    simp only [methAll, List.all_eq_true] at h2
    have := h2 c (by simpa using a) m (by simpa using b)
    simp only [methAt, e1, e2] at this
    exact this
  isi := fun d c a b => by
    simp only [isiAll, List.all_eq_true] at h3
    exact h3 d (by simpa using a) c (by simpa using b)
theorem fun_none {n : Nat} (h : 46 ≤ n) : fun? n = none := List.getElem?_eq_none (Nat.le_trans (Nat.le_of_eq (by rfl)) h)
theorem fnOk_of (h : ∀ n, n < 46 → fnOk K n = true) (n : Nat) : fnOk K n = true := by
  by_cases q : n < 46
  · exact h n q
  · unfold fnOk
    rw [fun_none (Nat.le_of_not_lt q)]
end Mine
end
section
open PySem PySem.W PyProof.Rows
set_option Elab.async false
set_option maxRecDepth 100000
set_option linter.unusedVariables false
namespace Mine
open PySem.Challenge
/-! the fragment, read off the heap; what is asked of it -/
noncomputable def as0 : List Nat := [2,3,22,24,25,27,28,29,31,32,34,35,36,38,39,41,42,43,45,46,48,49,50,51,52,53,54,64,66,67,69,70,71,73,74,76,77,78,80,81,83,84,85,87,88,90,91,92,93,94,95,96,106,108,109,111,112,113,115,116,118,119,120,122,123,125,126,127,129,130,132,133,134,135,136,137,138,148,150,151,153,154,155,158,159,160,163,164,165,168,169,170,171,172,173,174,184,186,187,189,190,191,192,193,194,195,205,207,208,210,211,212,215,216,217,219,220,222,223,224,226,227,229,230,231,232,233,234,235,245,247,248,250,251,252,254,255,257,258,259,262,263,264,266,267,269,270,271,272,273,274,275,278,280,281,283,284,285,287,288,290,291,299,301,302,304,305,306,309,310,311,313,314,316,317,318,320,321,323,324,325,327,328,330,331,332,333,334,335,336,339,341,342,344,345,346,349,350,351,353,354,356,357,358,360,361,363,364,365,368,369,370,372,373,375,376,377,379,380,382,383,391,393,394,396,397,398,401,402,403,405,406,408,409,410,412,413,415,416,417,418,419,420,421,424,426,427,429,430,431,433,434,436,437,445,446,447,449,450,452,453,454,456,457,459,460,461,463,464,466,467,468,469,470,471,472,475,477,478,480,481,482,484,485,487,488,489,491,492,494,495,496,498,499,501,502,503,505,506,508,509,510,513,514,515,518,519,520,522,523,525,526]
noncomputable def fragH (h : Heap) : Frag := as0.filterMap fun a => (h.get? a).map fun o => (a, o)
theorem fragH_in (h : Heap) : (fragH h).In h := fun a o e => by
  have : ∀ (l : List Nat), List.lookup a (l.filterMap fun a => (h.get? a).map fun o => (a, o)) = some o → h.get? a = some o := by
    intro l; induction l with
    | nil => intro e; cases e
    | cons b l ih =>
      intro e
      rw [List.filterMap_cons] at e
      cases hb : h.get? b with
      | none => rw [hb] at e; exact ih e
      | some o' =>
        rw [hb] at e
        simp only [Option.map_some, List.lookup_cons] at e
        by_cases q : a = b
        · subst q; simp at e; rw [hb, e]
        · have : (a == b) = false := by simpa using q
          rw [this] at e; exact ih e
  exact this as0 e
noncomputable def lawOk (K : Frag) : Bool := someB (pw_og0018_01.main.body[33]? : Option Stmt) fun st => if h : st.ctorIdx = 0 then Stmt.FunctionDef.elim st h fun _ _ b _ _ _ sc _ _ _ => chkS K b45 ⟨sc.names, varsOf 45⟩ b else false
noncomputable def fragOk (K : Frag) : Bool := attrAll K && (methAll K && (isiAll K && ((List.range 46).all (fun n => fnOk K n) && lawOk K)))
noncomputable def Yf0 (s : Shared) : Bool := fragOk (fragH s.heap)
theorem mine0 : ∀ w : World, (fun os => (runT pw_og0018_01 w 11 (some (Value.ref 6)) 7624 (sT0 w.params os) (topStub pw_og0018_01)).map fun s => Yf0 s.abs) = fun _ => some true := fun w => by kernel_rfl
end Mine
end
section
open PySem PySem.W PyProof.Rows
set_option Elab.async false
set_option maxRecDepth 100000
set_option linter.unusedVariables false
namespace Mine
/-! names with numbers -/
noncomputable def digs (k : Nat) : List Nat := (Nat.toDigits 10 k).map Char.toNat
theorem digs_digit {k c : Nat} (h : c ∈ digs k) : 48 ≤ c ∧ c ≤ 57 := by
  refine ex_1_2 (List.mem_map.mp h) fun ch hch eq0 => ?_
  subst eq0
  have := Nat.isDigit_of_mem_toDigits (by decide) (by decide) hch
  simp only [Char.isDigit, Bool.and_eq_true, decide_eq_true_eq] at this
  exact ⟨this.1, this.2⟩
theorem digs_pos (k : Nat) : 1 ≤ (digs k).length := by
  unfold digs
  rw [List.length_map]
  exact (digitsFacts10 k).ge1
theorem digs_len {k : Nat} (h : k < 10 ^ 9) : (digs k).length ≤ 9 := by
  unfold digs
  rw [List.length_map]
  exact digits10_le (by decide) h
noncomputable def dn (b : Str) (k : Nat) : Str := ⟨(b.cps.toList ++ 46 :: digs k).toArray⟩
theorem sx3_eq : sx3 = ⟨#[46]⟩ := by decide +kernel
theorem dotted_eq (b : Str) (k : Nat) : (b ++ sx3) ++ Str.ofString (toString (k : Int)) = dn b k := by
  have e : Str.ofString (toString (k : Int)) = ⟨(digs k).toArray⟩ := text_ofNat k
  rw [e, sx3_eq]
  show (⟨(b.cps ++ #[46]) ++ (digs k).toArray⟩ : Str) = _
  unfold dn
  congr 1
  apply Array.toList_inj.mp
  simp
theorem at_dot {x : Str} {i : Nat} : StrLaws.At x sx3 x.length i ↔ x.cps[i]? = some 46 := by
  rw [sx3_eq]
  unfold StrLaws.At Builtin.Str.subAt
  have hl : (⟨#[46]⟩ : Str).length = 1 := rfl
  rw [hl]
  constructor
  · rintro ⟨h1, h2⟩
    have hi : i < x.cps.size := by have : x.length = x.cps.size := rfl; lia
    have h2 : x.cps.extract i (i + 1) = #[46] := by simpa using h2
    have : (x.cps.extract i (i + 1))[0]? = some 46 := by rw [h2]; rfl
    rw [Array.getElem?_extract] at this
    simp [hi] at this
    rw [Array.getElem?_eq_getElem hi, this.2]
  · intro h
    have hi : i < x.cps.size := (Array.getElem?_eq_some_iff.mp h).1
    refine ⟨by have : x.length = x.cps.size := rfl; lia, ?_⟩
    have : x.cps.extract i (i + 1) = #[46] := by
      apply Array.ext
      · simp; lia
      · intro j h1 h2
        have hj : j = 0 := by simp at h2; omega
        subst hj
        have := (Array.getElem?_eq_some_iff.mp h).2
        simpa using this
    simp [this]
theorem rfind_none {x : Str} (h : 46 ∉ x.cps.toList) : Txt.rfind x sx3 = -1 := by
  rcases rfind_whole x sx3 with ⟨e, _⟩ | ⟨i, _, h2, _⟩
  · exact e
  · rw [at_dot] at h2
    exact absurd (by rw [← Array.getElem?_toList] at h2; exact List.mem_of_getElem? h2) h
theorem dn_get {b : Str} {k i : Nat} : (dn b k).cps[i]? = (b.cps.toList ++ 46 :: digs k)[i]? := by
  rw [← Array.getElem?_toList]; rfl
theorem rfind_dn (b : Str) (k : Nat) : Txt.rfind (dn b k) sx3 = b.length := by
  have hb : b.cps.toList.length = b.length := by simp [Str.length]
  have h0 : StrLaws.At (dn b k) sx3 (dn b k).length b.length := by
    rw [at_dot, dn_get, ← hb]
    simp
  rcases rfind_whole (dn b k) sx3 with ⟨_, h⟩ | ⟨i, e, h1, h2⟩
  · exact absurd h0 (h _)
  · rw [e]
    have hi : ¬ i < b.length := fun q => h2 _ q h0
    by_cases q : i = b.length
    · rw [q]
    · rw [at_dot, dn_get, List.getElem?_append_right (by lia)] at h1
      obtain ⟨j, hj⟩ : ∃ j, i - b.cps.toList.length = j + 1 := ⟨i - b.length - 1, by lia⟩
      rw [hj, List.getElem?_cons_succ] at h1
      have := digs_digit (List.mem_of_getElem? h1)
      lia
theorem dig_ok {c : Nat} (h : 48 ≤ c ∧ c ≤ 57) : Unicode.isDigit c = true := by
  have : ∀ j, j < 10 → Unicode.isDigit (48 + j) = true := by decide +kernel
  have := this (c - 48) (by lia)
  rwa [show 48 + (c - 48) = c by lia] at this
theorem isdigit_digs (k : Nat) : Txt.isdigit ⟨(digs k).toArray⟩ = true := by
  unfold Txt.isdigit
  simp only [Bool.and_eq_true, decide_eq_true_eq]
  refine ⟨by have := digs_pos k; simp [Str.length]; lia, ?_⟩
  simp only [List.all_toArray, List.all_eq_true]
  exact fun c hc => dig_ok (digs_digit hc)
theorem dn_len (b : Str) (k : Nat) : (dn b k).length = b.length + 1 + (digs k).length := by
  unfold dn Str.length
  simp; lia
theorem dn_take (b : Str) (k : Nat) : (⟨((dn b k).cps.toList.take b.length).toArray⟩ : Str) = b := by
  have hb : b.cps.toList.length = b.length := by simp [Str.length]
  unfold dn
  rw [← hb]
  simp
theorem dn_drop (b : Str) (k : Nat) : (⟨((dn b k).cps.toList.drop (b.length + 1)).toArray⟩ : Str) = ⟨(digs k).toArray⟩ := by
  have hb : b.cps.toList.length = b.length := by simp [Str.length]
  unfold dn
  rw [← hb]
  simp [List.drop_append]
theorem dn_inj {b b' : Str} {k k' : Nat} (h : dn b k = dn b' k') (hl : 46 ∉ b.cps.toList) (hl' : 46 ∉ b'.cps.toList) : b = b' ∧ k = k' := by
  have e : b.cps.toList ++ 46 :: digs k = b'.cps.toList ++ 46 :: digs k' := by
    have := congrArg (fun x : Str => x.cps.toList) h
    simpa [dn] using this
  have key : ∀ (l l' r r' : List Nat), 46 ∉ l → 46 ∉ l' → l ++ 46 :: r = l' ++ 46 :: r' → l = l' ∧ r = r' := by
    intro l
    induction l with
    | nil =>
      intro l' r r' _ h' e
      cases l' with
      | nil => simpa using e
      | cons a l' => simp at e; exact absurd (.head _) (e.1 ▸ h')
    | cons a l ih =>
      intro l' r r' h h' e
      cases l' with
      | nil => simp at e; exact absurd (.head _) (e.1 ▸ h)
      | cons a' l' =>
        simp only [List.cons_append, List.cons.injEq] at e
        obtain ⟨rfl, e⟩ := e
        obtain ⟨q1, q2⟩ := ih l' r r' (fun q => h (.tail _ q)) (fun q => h' (.tail _ q)) e
        exact ⟨by rw [q1], q2⟩
  obtain ⟨q1, q2⟩ := key _ _ _ _ hl hl' e
  refine ⟨?_, ?_⟩
  · obtain ⟨b⟩ := b; obtain ⟨b'⟩ := b'
    have : b = b' := Array.toList_inj.mp q1
    rw [this]
  · have h1 := KIN.val_back k
    have h2 := KIN.val_back k'
    unfold digs at q2
    rw [q2, h2] at h1
    exact h1.symm
theorem dn_dot (b : Str) (k : Nat) : 46 ∈ (dn b k).cps.toList := by unfold dn; simp
end Mine
end
section
open PySem PySem.W PyProof.Rows
set_option Elab.async false
set_option maxRecDepth 100000
set_option linter.unusedVariables false
set_option linter.unusedSimpArgs false
namespace Mine
/-! big steps -/
section
variable {Φ : CallF} {W : Nat} {l l' l1 l2 lm : Loc} {c c' c1 c2 c3 c4 : Cells} {e a b d e1 e2 e3 : IE} {x y z v : AV} {r r1 r2 : RV} {s s1 s2 : IS}
/-- one call, the inner calls as told -/
noncomputable def run (W : Nat) (Φ : CallF) : CallF := fun f args c => (fun? f).bind fun F => gd (args.length = F.np) (bd (exs tab Φ W F.body (args.map .val ++ List.replicate (F.nv - F.np) .un) c) endK)
theorem callF_succ {d : Nat} : callF tab fun? W (d + 1) = run W (callF tab fun? W d) := rfl
theorem run_ret {f : Nat} {args : List AV} {F : FD} {l0 : Loc} (hF : fun? f = some F) (hn : args.length = F.np) (h0 : args.map LV.val ++ List.replicate (F.nv - F.np) .un = l0) (h : exs tab Φ W F.body l0 c = some (.ret r, l', c')) : run W Φ f args c = some (r, c') :=
  ob_of hF (gd_of hn (by rw [h0]; exact bd_of h rfl))
theorem run_next {f : Nat} {args : List AV} {F : FD} {l0 : Loc} (hF : fun? f = some F) (hn : args.length = F.np) (h0 : args.map LV.val ++ List.replicate (F.nv - F.np) .un = l0) (h : exs tab Φ W F.body l0 c = some (.next, l', c')) : run W Φ f args c = some (.v .none, c') :=
  ob_of hF (gd_of hn (by rw [h0]; exact bd_of h rfl))
-- the judgements, short
noncomputable abbrev ER (Φ : CallF) (e : IE) (l : Loc) (c : Cells) (r : RV) (c' : Cells) : Prop := (ev tab Φ e).r l c = some (r, c')
noncomputable abbrev EE (Φ : CallF) (e : IE) (l : Loc) (c : Cells) (x : AV) (c' : Cells) : Prop := (ev tab Φ e).e l c = some (x, c')
noncomputable abbrev ET (Φ : CallF) (e : IE) (l : Loc) (c : Cells) (x : Bool) (c' : Cells) : Prop := (ev tab Φ e).t l c = some (x, c')
noncomputable abbrev EL (Φ : CallF) (e : IE) (l : Loc) (c : Cells) (x : List AV) (c' : Cells) : Prop := (ev tab Φ e).l l c = some (x, c')
noncomputable abbrev EI (Φ : CallF) (e : IE) (l : Loc) (c : Cells) (x : List AV) (c' : Cells) : Prop := (ev tab Φ e).i l c = some (x, c')
noncomputable abbrev EP (Φ : CallF) (e : IE) (l : Loc) (c : Cells) (p : Pl) (c' : Cells) : Prop := plOf e (ev tab Φ e) l c = some (p, c')
noncomputable abbrev XS (Φ : CallF) (W : Nat) (s : IS) (l : Loc) (c : Cells) (r : Fl) (l' : Loc) (c' : Cells) : Prop := exs tab Φ W s l c = some (r, l', c')
theorem ER.bd {α : Type} {o : Loc → Cells → Option (α × Cells)} {k : Loc → Cells → α → Cells → Option (RV × Cells)} {u : α} (he : ev tab Φ e = Ev.ofR fun l c => bd (o l c) (k l c)) (h : o l c = some (u, c1)) (h2 : k l c u c1 = some (r, c2)) : ER Φ e l c r c2 := by
  rw [ER, he]; exact bd_of h h2
theorem ER.pl {o : Loc → Cells → Option (Pl × Cells)} {k : Loc → Cells → Pl → AV → Cells → Option (RV × Cells)} {p : Pl} (he : ev tab Φ e = Ev.ofR fun l c => pl (o l c) l (k l c)) (h : o l c = some (p, c1)) (hr : p.read l c1 = some x) (h2 : k l c p x c1 = some (r, c2)) : ER Φ e l c r c2 := by
  rw [ER, he]; exact pl_of h hr h2
theorem ET.bd {α : Type} {re : Loc → Cells → Option (RV × Cells)} {o : Loc → Cells → Option (α × Cells)} {k : Loc → Cells → α → Cells → Option (Bool × Cells)} {u : α} {q : Bool} (he : ev tab Φ e = { Ev.ofR re with t := fun l c => bd (o l c) (k l c) }) (h : o l c = some (u, c1)) (h2 : k l c u c1 = some (q, c2)) : ET Φ e l c q c2 := by
  rw [ET, he]; exact bd_of h h2
theorem EI.bd {α : Type} {re : Loc → Cells → Option (RV × Cells)} {o : Loc → Cells → Option (α × Cells)} {k : Loc → Cells → α → Cells → Option (List AV × Cells)} {u : α} {q : List AV} (he : ev tab Φ e = { Ev.ofR re with i := fun l c => bd (o l c) (k l c) }) (h : o l c = some (u, c1)) (h2 : k l c u c1 = some (q, c2)) : EI Φ e l c q c2 := by
  rw [EI, he]; exact bd_of h h2
theorem XS.bd {α : Type} {o : Loc → Cells → Option (α × Cells)} {k : Loc → Cells → α → Cells → Option (Fl × Loc × Cells)} {u : α} {fl : Fl} (he : exs tab Φ W s = fun l c => bd (o l c) (k l c)) (h : o l c = some (u, c1)) (h2 : k l c u c1 = some (fl, l2, c2)) : XS Φ W s l c fl l2 c2 := by
  rw [XS, he]; exact bd_of h h2
theorem XS.pl {o : Loc → Cells → Option (Pl × Cells)} {k : Loc → Cells → Pl → AV → Cells → Option (Fl × Loc × Cells)} {p : Pl} {fl : Fl} (he : exs tab Φ W s = fun l c => pl (o l c) l (k l c)) (h : o l c = some (p, c1)) (hr : p.read l c1 = some x) (h2 : k l c p x c1 = some (fl, l2, c2)) : XS Φ W s l c fl l2 c2 := by
  rw [XS, he]; exact pl_of h hr h2
theorem EE.of (h : ER Φ e l c r c') (q : r.av = x) : EE Φ e l c x c' := bd_of h (by subst q; rfl)
theorem r_loc {i : Nat} (h : l.at i = .val x) : ER Φ (.loc i) l c (.v x) c := valL_of (k := fun a => some (RV.v a, c)) h rfl
theorem t_locb {i : Nat} {q : Bool} (h : l.at i = .val (.bool q)) : ET Φ (.loc i) l c q c := om_of (show truL l i = some q by unfold truL; rw [h]) rfl
theorem t_locl {i : Nat} {xs : List AV} (h : l.at i = .own (.list xs)) (hs : small xs = true) : ET Φ (.loc i) l c (!xs.isEmpty) c := om_of (show truL l i = some !xs.isEmpty by unfold truL; rw [h]; exact gd_of hs rfl) rfl
theorem p_own {i : Nat} (h : l.at i = .own x) : EP Φ (.loc i) l c (.own i) c := if_pos (by unfold isOwn; rw [h])
theorem p_loc {i : Nat} (h : l.at i = .val x) : EP Φ (.loc i) l c (.at x) c :=
  (if_neg (by unfold isOwn; rw [h]; exact Bool.false_ne_true)).trans (bd_of (EE.of (r_loc h) rfl) rfl)
theorem p_of (hl : isLoc e = false) (h : EE Φ e l c x c') : EP Φ e l c (.at x) c' := (plOf_other hl _).trans (bd_of h rfl)
theorem l_nil : EL Φ .nil l c [] c := rfl
theorem l_cons {xs : List AV} (h : EE Φ e1 l c x c1) (h2 : EL Φ e2 l c1 xs c2) : EL Φ (.cons e1 e2) l c (x :: xs) c2 := bd_of (f := fun x c => bd ((ev tab Φ e2).l l c) fun y c => some (x :: y, c)) h (bd_of h2 rfl)
theorem r_attr {k j f : Nat} {fs : List AV} (h : EE Φ e l c (.obj k fs) c1) (hj : fieldIdx k f = some j) (hx : fs[j]? = some x) : ER Φ (.attr e f) l c (.v x) c1 := ER.bd rfl h (ob_of hj (om_of hx rfl))
theorem r_call {f : Nat} {xs : List AV} (h : EL Φ e l c xs c1) (hc : Φ f xs c1 = some (r, c2)) : ER Φ (.call f e) l c (.v r.av) c2 := ER.bd rfl h (bd_of hc rfl)
theorem r_callO {f : Nat} {xs : List AV} (h : EL Φ e l c xs c1) (hc : Φ f xs c1 = some (r, c2)) : ER Φ (.callO f e) l c r c2 := ER.bd rfl h hc
theorem r_meth {k m f : Nat} {fs xs : List AV} (h : EE Φ e1 l c (.obj k fs) c1) (hm : methOf k m = some f) (h2 : EL Φ e2 l c1 xs c2) (hc : Φ f (.obj k fs :: xs) c2 = some (r, c3)) : ER Φ (.meth e1 m e2) l c (.v r.av) c3 := ER.bd rfl h (ob_of hm (bd_of h2 (bd_of hc rfl)))
theorem r_new {k : Nat} {xs : List AV} (h : EL Φ e l c xs c1) (hn : xs.length = nFields k) : ER Φ (.new k e) l c (.v (.obj k xs)) c1 := ER.bd rfl h (gd_of hn rfl)
theorem r_isi {k k' : Nat} {fs : List AV} (h : EE Φ e l c (.obj k' fs) c1) (hk : k' < 10) : ER Φ (.isi e k) l c (.v (.bool (k' == k))) c1 := ER.bd rfl h (gd_of hk rfl)
theorem t_of {q : Bool} (h : ER Φ e l c (.v (.bool q)) c1) (ht : (ev tab Φ e).t = (Ev.ofR (ev tab Φ e).r).t) : ET Φ e l c q c1 := by
  rw [ET, ht]; exact bd_of (f := fun x c => (truth x).map fun b => (b, c)) h rfl
theorem r_len {p : Pl} {xs : List AV} (h : EP Φ e l c p c1) (hr : p.read l c1 = some (.list xs)) (hs : small xs = true) : ER Φ (.len e) l c (.v (.int xs.length)) c1 := ER.pl rfl h hr (om_of (gd_of hs rfl) rfl)
theorem r_bin {o : Op} (h : EE Φ a l c x c1) (h2 : EE Φ b l c1 y c2) (hv : abin o x y = some v) : ER Φ (.bin o a b) l c (.v v) c2 := ER.bd rfl h (bd_of h2 (om_of hv rfl))
theorem r_cmp {o : Cm} {p : Pl} {q : Bool} (ho : nnone o = none) (h : EE Φ a l c x c1) (h2 : EP Φ b l c1 p c2) (hr : p.read l c2 = some z) (hv : acmp o x z = some q) : ER Φ (.cmp o a b) l c (.v (.bool q)) c2 :=
  ER.bd rfl h (by rw [ho]; exact pl_of (k := fun _ z c => (acmp o x z).map fun v => (RV.v (.bool v), c)) h2 hr (om_of hv rfl))
theorem r_isN (h : EE Φ a l c x c1) : ER Φ (.cmp .isN a b) l c (.v (.bool (isNone x))) c1 := ER.bd rfl h rfl
theorem r_isNotN (h : EE Φ a l c x c1) : ER Φ (.cmp .isNotN a b) l c (.v (.bool (!isNone x))) c1 := ER.bd rfl h rfl
theorem r_ite {q : Bool} (h : ET Φ d l c q c1) (h2 : ER Φ (if q then a else b) l c1 r c2) : ER Φ (.ite d a b) l c r c2 :=
  ER.bd rfl h (by cases q <;> exact h2)
theorem t_not {q : Bool} (h : ET Φ a l c q c1) : ET Φ (.not a) l c (!q) c1 := ET.bd rfl h rfl
theorem t_and1 (h : ET Φ a l c false c1) : ET Φ (.and a b) l c false c1 := ET.bd rfl h rfl
theorem t_and2 {q : Bool} (h : ET Φ a l c true c1) (h2 : ET Φ b l c1 q c2) : ET Φ (.and a b) l c q c2 := ET.bd rfl h h2
theorem t_or1 (h : ET Φ a l c true c1) : ET Φ (.or a b) l c true c1 := ET.bd rfl h rfl
theorem t_or2 {q : Bool} (h : ET Φ a l c false c1) (h2 : ET Φ b l c1 q c2) : ET Φ (.or a b) l c q c2 := ET.bd rfl h h2
theorem r_list {xs : List AV} (h : EL Φ e l c xs c1) (hs : small xs = true) : ER Φ (.list e) l c (.o (.list xs)) c1 := ER.bd rfl h (gd_of hs rfl)
theorem r_tup {xs : List AV} (h : EL Φ e l c xs c1) (hs : small xs = true) : ER Φ (.tup e) l c (.v (.tup xs)) c1 := ER.bd rfl h (gd_of hs rfl)
theorem r_idx_list {p : Pl} {xs : List AV} {n : Int} (h : EP Φ a l c p c1) (h2 : EE Φ b l c1 (.int n) c2) (hr : p.read l c2 = some (.list xs)) (hs : small xs = true) (hi : itemAt xs n = some v) : ER Φ (.idx a b) l c (.v v) c2 := ER.bd rfl h (bd_of h2 (ob_of hr (om_of (gd_of hs hi) rfl)))
theorem r_idx_tup {p : Pl} {xs : List AV} {n : Int} (h : EP Φ a l c p c1) (h2 : EE Φ b l c1 (.int n) c2) (hr : p.read l c2 = some (.tup xs)) (hs : small xs = true) (hi : itemAt xs n = some v) : ER Φ (.idx a b) l c (.v v) c2 := ER.bd rfl h (bd_of h2 (ob_of hr (om_of (gd_of hs hi) rfl)))
theorem r_idx_dict {p : Pl} {ks : List Str} {vs : List AV} {n : Str} (h : EP Φ a l c p c1) (h2 : EE Φ b l c1 (.str n) c2) (hr : p.read l c2 = some (.dict ks vs)) (hi : dget ks vs n = some v) : ER Φ (.idx a b) l c (.v v) c2 := ER.bd rfl h (bd_of h2 (ob_of hr (om_of hi rfl)))
theorem r_copy {ks : List Str} {vs : List AV} (h : EE Φ e l c (.dict ks vs) c1) (hs : ks.length ≤ lim) : ER Φ (.copy e) l c (.o (.dict ks vs)) c1 := ER.bd rfl h (gd_of hs rfl)
theorem r_strOf {n : Int} (h : EE Φ e l c (.int n) c1) (h0 : 0 ≤ n) (h1 : n < 10 ^ 9) : ER Φ (.strOf e) l c (.v (.str (Str.ofString (toString n)))) c1 := ER.bd rfl h (gd_of ⟨h0, h1⟩ rfl)
theorem r_get2 {p : Pl} {ks ks0 : List Str} {vs vs0 : List AV} {n : Str} (h : EP Φ a l c p c1) (h0 : p.read l c1 = some (.dict ks0 vs0)) (h2 : EE Φ b l c1 (.str n) c2) (h3 : EE Φ d l c2 z c3) (hr : p.read l c3 = some (.dict ks vs)) : ER Φ (.get2 a b d) l c (.v ((dget ks vs n).getD z)) c3 := ER.pl rfl h h0 (gd_of rfl (bd_of h2 (bd_of h3 (ob_of hr rfl))))
theorem r_get1 {p : Pl} {ks ks0 : List Str} {vs vs0 : List AV} {n : Str} (h : EP Φ a l c p c1) (h0 : p.read l c1 = some (.dict ks0 vs0)) (h2 : EE Φ b l c1 (.str n) c2) (hr : p.read l c2 = some (.dict ks vs)) : ER Φ (.get1 a b) l c (.v ((dget ks vs n).getD .none)) c2 := ER.pl rfl h h0 (gd_of rfl (bd_of h2 (ob_of hr rfl)))
-- statements
theorem x_skip : XS Φ W .skip l c .next l c := rfl
theorem x_seq {fl : Fl} (h : XS Φ W s1 l c .next l1 c1) (h2 : XS Φ W s2 l1 c1 fl l2 c2) : XS Φ W (.seq s1 s2) l c fl l2 c2 := bd_of (f := seqK (exs tab Φ W s2)) h h2
theorem x_stop {fl : Fl} (h : XS Φ W s1 l c fl l1 c1) (hf : isNext fl = false) : XS Φ W (.seq s1 s2) l c fl l1 c1 :=
  bd_of (f := seqK (exs tab Φ W s2)) h (by cases fl <;> first | rfl | cases hf)
theorem x_asg {i : Nat} (h : ER Φ e l c r c1) : XS Φ W (.asg i e) l c .next (l.set i r.lv) c1 := XS.bd rfl h rfl
theorem x_asg2 {i j : Nat} (h : ER Φ a l c r1 c1) (h2 : ER Φ b l c1 r2 c2) : XS Φ W (.asg2 i j a b) l c .next ((l.set i r1.lv).set j r2.lv) c2 := XS.bd rfl h (bd_of h2 rfl)
theorem x_ret (h : ER Φ e l c r c1) : XS Φ W (.ret e) l c (.ret r) l c1 := XS.bd rfl h rfl
theorem x_if {q : Bool} {fl : Fl} (h : ET Φ d l c q c1) (h2 : XS Φ W (if q then s1 else s2) l c1 fl l2 c2) : XS Φ W (.ifs d s1 s2) l c fl l2 c2 :=
  XS.bd rfl h (by cases q <;> exact h2)
theorem x_while1 {W' : Nat} {fl : Fl} {lt : Loc} (h : ET Φ d l c false c1) : whileL (ev tab Φ d).t (exs tab Φ W s) (W' + 1) l c = some (.next, l, c1) := bd_of h rfl
theorem x_setDict {p : Pl} {ks : List Str} {vs : List AV} {n : Str} (h : EE Φ e3 l c x c1) (h2 : EP Φ e1 l c1 p c2) (h3 : EE Φ e2 l c2 (.str n) c3) (hr : p.read l c3 = some (.dict ks vs)) (hs : ks.length ≤ lim) (hw : p.write l c3 (.dict (dput ks vs n x).1 (dput ks vs n x).2) = some (l', c')) : XS Φ W (.setIdx e1 e2 e3) l c .next l' c' := XS.bd rfl h (bd_of h2 (bd_of h3 (ob_of hr (gd_of hs (om_of hw rfl)))))
theorem x_setList {p : Pl} {us : List AV} {n : Int} (h : EE Φ e3 l c x c1) (h2 : EP Φ e1 l c1 p c2) (h3 : EE Φ e2 l c2 (.int n) c3) (hr : p.read l c3 = some (.list us)) (h0 : 0 ≤ n) (h1 : n < us.length) (hs : small us = true) (hw : p.write l c3 (.list (us.set n.toNat x)) = some (l', c')) : XS Φ W (.setIdx e1 e2 e3) l c .next l' c' := XS.bd rfl h (bd_of h2 (bd_of h3 (ob_of hr (gd_of ⟨h0, h1, hs⟩ (om_of hw rfl)))))
theorem x_append {p : Pl} {us us0 : List AV} (h : EP Φ e1 l c p c1) (h0 : p.read l c1 = some (.list us0)) (h2 : EE Φ e2 l c1 x c2) (hr : p.read l c2 = some (.list us)) (hs : small us = true) (hw : p.write l c2 (.list (us ++ [x])) = some (l', c')) : XS Φ W (.append e1 e2) l c .next l' c' := XS.pl rfl h h0 (gd_of rfl (bd_of h2 (ob_of hr (gd_of hs (om_of hw rfl)))))
theorem x_popT {is : List Nat} {p : Pl} {us ts : List AV} (h : EP Φ e l c p c1) (hr : p.read l c1 = some (.list us)) (hs : small us = true) (ht : lastTup us = some ts) (hw : p.write l c1 (.list us.dropLast) = some (lm, c')) (hl : setAll is ts lm = some l') : XS Φ W (.popT is e) l c .next l' c' := XS.pl rfl h hr (gd_of hs (ob_of ht (bd_of hw (om_of hl rfl))))
theorem x_freeze {i : Nat} (h : l.at i = .own x) : XS Φ W (.freeze i) l c .next (l.set i (.val x)) c := ownL_of (k := fun a => some (Fl.next, l.set i (.val a), c)) h rfl
theorem x_promote {i : Nat} (h : l.at i = .own x) : XS Φ W (.promote i) l c .next (l.set i (.val (.cell c.length))) (c ++ [x]) := ownL_of (k := fun a => some (Fl.next, l.set i (.val (.cell c.length)), c ++ [a])) h rfl
theorem x_expr (h : EE Φ e l c .none c1) : XS Φ W (.expr e) l c .next l c1 := XS.bd rfl h rfl
theorem x_cont : XS Φ W .cont l c .cont l c := rfl
end
end Mine
end
section
open PySem PySem.W PyProof.Rows
set_option Elab.async false
set_option maxRecDepth 100000
set_option linter.unusedVariables false
set_option linter.unusedSimpArgs false
namespace Mine
section
variable {Φ : CallF} {W : Nat} {l l' l1 l2 lm : Loc} {c c' c1 c2 c3 c4 : Cells} {e a b d e1 e2 e3 : IE} {x y z v : AV} {r r1 r2 : RV} {s s1 s2 : IS}
theorem r_int {n : Int} : ER Φ (.int n) l c (.v (.int n)) c := rfl
theorem r_str {n : Str} : ER Φ (.str n) l c (.v (.str n)) c := rfl
theorem r_bool {n : Bool} : ER Φ (.bool n) l c (.v (.bool n)) c := rfl
theorem r_none : ER Φ .none l c (.v .none) c := rfl
theorem r_dict0 : ER Φ .dict0 l c (.o (.dict [] [])) c := rfl
theorem r_dict1 {n : Str} (h : EE Φ a l c (.str n) c1) (h2 : EE Φ b l c1 y c2) : ER Φ (.dict1 a b) l c (.o (.dict [n] [y])) c2 := ER.bd rfl h (bd_of h2 rfl)
theorem r_neg {n : Int} (h : EE Φ e l c (.int n) c1) : ER Φ (.neg e) l c (.v (.int (-n))) c1 := ER.bd rfl h rfl
theorem r_intOf {n : Int} (h : EE Φ e l c (.int n) c1) : ER Φ (.intOf e) l c (.v (.int n)) c1 := ER.bd rfl h rfl
theorem r_intOfB {n : Bool} (h : EE Φ e l c (.bool n) c1) : ER Φ (.intOf e) l c (.v (.int (if n then 1 else 0))) c1 := ER.bd rfl h rfl
theorem r_max {n m : Int} (h : EE Φ a l c (.int n) c1) (h2 : EE Φ b l c1 (.int m) c2) : ER Φ (.max a b) l c (.v (.int (if n < m then m else n))) c2 := ER.bd rfl h (bd_of h2 rfl)
theorem r_tupOf {xs : List AV} (h : EE Φ e l c (.list xs) c1) (hs : small xs = true) : ER Φ (.tupOf e) l c (.v (.tup xs)) c1 := ER.bd rfl h (gd_of hs rfl)
theorem r_rfind {n m : Str} (h : EE Φ a l c (.str n) c1) (h2 : EE Φ b l c1 (.str m) c2) : ER Φ (.rfind a b) l c (.v (.int (Txt.rfind n m))) c2 := ER.bd rfl h (bd_of h2 rfl)
theorem r_isdigit {n : Str} (h : EE Φ e l c (.str n) c1) : ER Φ (.isdigit e) l c (.v (.bool (Txt.isdigit n))) c1 := ER.bd rfl h rfl
theorem r_sorted {p : Pl} {ks : List Str} {vs : List AV} (h : EP Φ e l c p c1) (hr : p.read l c1 = some (.dict ks vs)) (hs : ks.length ≤ 3) : ER Φ (.sorted e) l c (.o (.list ((sortS ks).map .str))) c1 := ER.pl rfl h hr (gd_of hs rfl)
theorem r_sliceFrom {p : Pl} {us : List AV} {n : Int} (h : EP Φ a l c p c1) (h2 : EE Φ b l c1 (.int n) c2) (hr : p.read l c2 = some (.list us)) (h0 : 0 ≤ n) (h1 : n ≤ us.length) (hs : small us = true) : ER Φ (.sliceFrom a b) l c (.v (.list (us.drop n.toNat))) c2 := ER.bd rfl h (bd_of h2 (ob_of hr (om_of (gd_of ⟨h0, h1, hs⟩ rfl) rfl)))
-- what is gone through
theorem i_of {xs : List AV} (h : ER Φ e l c r c1) (hi : itemsOf r = some xs) (ht : (ev tab Φ e).i = (Ev.ofR (ev tab Φ e).r).i) : EI Φ e l c xs c1 := by
  rw [EI, ht]; exact bd_of (f := fun x c => (itemsOf x).map fun b => (b, c)) h (om_of hi rfl)
theorem i_range1 {n : Nat} (h : EE Φ e l c (.int n) c1) (hn : n ≤ lim) : EI Φ (.range1 e) l c ((List.range n).map fun j : Nat => AV.int (j : Int)) c1 :=
  EI.bd rfl h (gd_of ⟨Int.ofNat_le.mpr hn, by lia⟩ rfl)
theorem i_range3 {n : Nat} (h : EE Φ a l c (.int ((n : Int) - 1)) c1) (h2 : EE Φ b l c1 (.int (-1)) c2) (h3 : EE Φ d l c2 (.int (-1)) c3) (hn : n ≤ lim) : EI Φ (.range3 a b d) l c ((List.range n).map fun j : Nat => AV.int ((n : Int) - 1 - (j : Int))) c3 :=
  EI.bd rfl h (bd_of h2 (bd_of h3 (gd_of ⟨rfl, rfl, by lia, by lia⟩ (by rw [Int.sub_add_cancel]; rfl))))
theorem i_rev {xs : List AV} (h : EE Φ e l c (.list xs) c1) (hs : small xs = true) : EI Φ (.rev e) l c xs.reverse c1 := EI.bd rfl h (gd_of hs rfl)
-- comprehensions
theorem r_comp1 {i : Nat} {caps : List Nat} {xs ys : List AV} {l0 : Loc} (h : EI Φ a l c xs c1) (hs : small xs = true) (hc : capt l caps = some l0) (hl : compL (ev tab Φ e).e noCond (bind1 i) xs l0 c1 = some (ys, c2)) : ER Φ (.comp1 i caps e a) l c (.v (.list ys)) c2 := ER.bd rfl h (gd_of hs (ob_of hc (bd_of hl rfl)))
theorem r_comp1if {i : Nat} {caps : List Nat} {xs ys : List AV} {l0 : Loc} (h : EI Φ a l c xs c1) (hs : small xs = true) (hc : capt l caps = some l0) (hl : compL (ev tab Φ e).e (ev tab Φ d).t (bind1 i) xs l0 c1 = some (ys, c2)) : ER Φ (.comp1if i caps e a d) l c (.v (.list ys)) c2 := ER.bd rfl h (gd_of hs (ob_of hc (bd_of hl rfl)))
theorem r_comp2 {i j : Nat} {caps : List Nat} {xs ys : List AV} {l0 : Loc} (h : EI Φ a l c xs c1) (hs : small xs = true) (hc : capt l caps = some l0) (hl : compL (ev tab Φ e).e noCond (bindT [i, j]) xs l0 c1 = some (ys, c2)) : ER Φ (.comp2 i j caps e a) l c (.v (.list ys)) c2 := ER.bd rfl h (gd_of hs (ob_of hc (bd_of hl rfl)))
theorem compL_cons {el : Loc → Cells → Option (AV × Cells)} {bd : AV → Loc → Option Loc} {xs ys : List AV} (hb : bd x l = some l1) (h : el l1 c = some (y, c1)) (h2 : compL el noCond bd xs l c1 = some (ys, c2)) : compL el noCond bd (x :: xs) l c = some (y :: ys, c2) := ob_of hb (bd_of (x := true) (y := c) rfl ((if_pos rfl).trans (bd_of h (bd_of h2 rfl))))
-- statements
theorem x_asgT {is : List Nat} (h : EE Φ e l c x c1) (hb : bindT is x l = some l1) : XS Φ W (.asgT is e) l c .next l1 c1 := XS.bd rfl h (om_of hb rfl)
theorem x_aug {i : Nat} {n m : Int} (hi : l.at i = .val (.int n)) (h : EE Φ e l c (.int m) c1) : XS Φ W (.aug i e) l c .next (l.set i (.val (.int (n + m)))) c1 := valL_of (k := fun a => intV a fun n => bd ((ev tab Φ e).e l c) fun x c => intV x fun m => some (Fl.next, l.set i (.val (.int (n + m))), c)) hi (bd_of (f := fun x c => intV x fun m => some (Fl.next, l.set i (.val (.int (n + m))), c)) h rfl)
theorem x_delFrom {p : Pl} {us : List AV} {n : Int} (h : EP Φ a l c p c1) (h2 : EE Φ b l c1 (.int n) c2) (hr : p.read l c2 = some (.list us)) (h0 : 0 ≤ n) (h1 : n ≤ us.length) (hs : small us = true) (hw : p.write l c2 (.list (us.take n.toNat)) = some (l', c')) : XS Φ W (.delFrom a b) l c .next l' c' := XS.bd rfl h (bd_of h2 (ob_of hr (gd_of ⟨h0, h1, hs⟩ (om_of hw rfl))))
theorem x_for1 {i : Nat} {xs : List AV} {fl : Fl} (h : EI Φ e l c xs c1) (hs : small xs = true) (hl : forL (exs tab Φ W s) (bind1 i) xs l c1 = some (fl, l', c')) : XS Φ W (.for1 i e s) l c fl l' c' := XS.bd rfl h (gd_of hs hl)
theorem x_forT {is : List Nat} {xs : List AV} {fl : Fl} (h : EI Φ e l c xs c1) (hs : small xs = true) (hl : forL (exs tab Φ W s) (bindT is) xs l c1 = some (fl, l', c')) : XS Φ W (.forT is e s) l c fl l' c' := XS.bd rfl h (gd_of hs hl)
theorem forL_cons {bd : AV → Loc → Option Loc} {xs : List AV} {o : Option (Fl × Loc × Cells)} (hb : bd x l = some l1) (h : XS Φ W s l1 c .next l2 c2) (h2 : forL (exs tab Φ W s) bd xs l2 c2 = o) : forL (exs tab Φ W s) bd (x :: xs) l c = o := ob_of hb (bd_of h h2)
theorem forL_ret {bd : AV → Loc → Option Loc} {xs : List AV} (hb : bd x l = some l1) (h : XS Φ W s l1 c (.ret r) l2 c2) : forL (exs tab Φ W s) bd (x :: xs) l c = some (.ret r, l2, c2) := ob_of hb (bd_of h rfl)
theorem x_whil {fl : Fl} (h : whileL (ev tab Φ d).t (exs tab Φ W s) W l c = some (fl, l', c')) : XS Φ W (.whil d s) l c fl l' c' := h
theorem while_end {n : Nat} (h : ET Φ d l c false c1) : whileL (ev tab Φ d).t (exs tab Φ W s) (n + 1) l c = some (.next, l, c1) := bd_of h rfl
theorem while_next {n : Nat} (h : ET Φ d l c true c1) (h2 : XS Φ W s l c1 .next l2 c2) : whileL (ev tab Φ d).t (exs tab Φ W s) (n + 1) l c = whileL (ev tab Φ d).t (exs tab Φ W s) n l2 c2 := bd_of h (bd_of h2 rfl)
theorem while_cont {n : Nat} (h : ET Φ d l c true c1) (h2 : XS Φ W s l c1 .cont l2 c2) : whileL (ev tab Φ d).t (exs tab Φ W s) (n + 1) l c = whileL (ev tab Φ d).t (exs tab Φ W s) n l2 c2 := bd_of h (bd_of h2 rfl)
/-- it answers, the locals forgotten -/
noncomputable def XR (Φ : CallF) (W : Nat) (s : IS) (l : Loc) (c : Cells) (r : RV) (c' : Cells) : Prop := ∃ l', XS Φ W s l c (.ret r) l' c'
theorem xr_seq (h : XS Φ W s1 l c .next l1 c1) (h2 : XR Φ W s2 l1 c1 r c2) : XR Φ W (.seq s1 s2) l c r c2 := ⟨_, x_seq h h2.choose_spec⟩
theorem xr_stop (h : XR Φ W s1 l c r c1) : XR Φ W (.seq s1 s2) l c r c1 := ⟨_, x_stop h.choose_spec rfl⟩
theorem xr_ret (h : ER Φ e l c r c1) : XR Φ W (.ret e) l c r c1 := ⟨_, x_ret h⟩
theorem xr_if {q : Bool} (h : ET Φ d l c q c1) (h2 : XR Φ W (if q then s1 else s2) l c1 r c2) : XR Φ W (.ifs d s1 s2) l c r c2 := ⟨_, x_if h h2.choose_spec⟩
theorem run_xr {f : Nat} {args : List AV} {F : FD} {l0 : Loc} (hF : fun? f = some F) (hn : args.length = F.np) (h0 : args.map LV.val ++ List.replicate (F.nv - F.np) .un = l0) (h : XR Φ W F.body l0 c r c') : run W Φ f args c = some (r, c') := run_ret hF hn h0 h.choose_spec
end
end Mine
end
section
open PySem PySem.W PyProof.Rows
set_option Elab.async false
set_option maxRecDepth 100000
set_option linter.unusedVariables false
set_option linter.unusedSimpArgs false
namespace Mine
variable {Φ : CallF} {W : Nat} {c : Cells}
theorem fromV_s {s y : Str} {n : Nat} (h1 : n ≤ s.length) (hs : s.length ≤ lim) (e : (⟨(s.cps.toList.drop n).toArray⟩ : Str) = y) : fromV (.str s) (.int (n : Nat)) = some (.str y) := by
  subst e
  exact if_pos (c := 0 ≤ (n : Int) ∧ (n : Int) ≤ (s.length : Nat) ∧ s.length ≤ lim) ⟨Int.natCast_nonneg n, Int.ofNat_le.mpr h1, hs⟩
theorem r_sliceFromS {l : Loc} {c c1 c2 : Cells} {a b : IE} {s y : Str} {n : Nat} (h : EP Φ a l c (.at (.str s)) c1) (h2 : EE Φ b l c1 (.int (n : Nat)) c2) (h1 : n ≤ s.length) (hs : s.length ≤ lim) (e : (⟨(s.cps.toList.drop n).toArray⟩ : Str) = y) : ER Φ (.sliceFrom a b) l c (.v (.str y)) c2 :=
  ER.bd rfl h (bd_of h2 (ob_of (x := .str s) rfl (om_of (fromV_s h1 hs e) rfl)))
theorem r_isdigitT {l : Loc} {c c1 : Cells} {e : IE} {n : Str} (h : EE Φ e l c (.str n) c1) (q : Txt.isdigit n = true) : ER Φ (.isdigit e) l c (.v (.bool true)) c1 := by
  rw [← q]; exact r_isdigit h
theorem r_sliceToS {l : Loc} {c c1 c2 : Cells} {a b : IE} {s y : Str} {n : Nat} (h : EE Φ a l c (.str s) c1) (h2 : EE Φ b l c1 (.int (n : Nat)) c2) (h1 : n ≤ s.length) (hs : s.length ≤ lim) (e : (⟨(s.cps.toList.take n).toArray⟩ : Str) = y) : ER Φ (.sliceTo a b) l c (.v (.str y)) c2 :=
  ER.bd rfl h (bd_of h2 (gd_of (o := some (RV.v (AV.str _), c2)) ⟨Int.natCast_nonneg n, Int.ofNat_le.mpr h1, hs⟩ (by subst e; rfl)))
theorem base_plain {x : Str} (h : 46 ∉ x.cps.toList) : run W Φ 35 [.str x] c = some (.v (.str x), c) :=
  run_xr (F := ⟨1, 2, b35⟩) rfl rfl rfl (xr_seq (x_asg (r_rfind (EE.of (r_loc rfl) rfl) (EE.of r_str rfl))) (xr_stop (xr_ret (r_ite (q := false) (t_and1 (t_of (r_cmp rfl (EE.of (r_loc rfl) rfl) (p_of rfl (EE.of r_int rfl)) rfl
    (show some (decide (Txt.rfind x sx3 > 0)) = some false by rw [rfind_none h]; rfl)) rfl)) (r_loc rfl)))))
theorem base_dn {b : Str} {k : Nat} (h0 : 0 < b.length) (h1 : b.length ≤ 10) (hk : k < 10 ^ 9) : run W Φ 35 [.str (dn b k)] c = some (.v (.str b), c) := by
  have hd := dn_len b k
  have g3 : (dn b k).length ≤ lim := by have := digs_len hk; unfold lim; omega
  have g4 : b.length + 1 ≤ (dn b k).length := by omega
  refine run_xr (F := ⟨1, 2, b35⟩) rfl rfl rfl (xr_seq (x_asg (r_rfind (EE.of (r_loc rfl) rfl) (EE.of r_str rfl))) ?_)
  rw [rfind_dn]
  refine xr_stop (xr_ret (r_ite (q := true) (t_and2 (t_of (r_cmp (x := .int (b.length : Nat)) rfl (EE.of (r_loc rfl) rfl) (p_of rfl (EE.of r_int rfl)) rfl (congrArg some (decide_eq_true (Int.ofNat_lt.mpr h0)))) rfl)
    (t_of (r_isdigitT (EE.of (r_sliceFromS (n := b.length + 1) (p_loc rfl) (EE.of (r_bin (EE.of (r_loc rfl) rfl) (EE.of r_int rfl) rfl) rfl) g4 g3 (dn_drop b k)) rfl) (isdigit_digs k)) rfl)) ?_))
  exact r_sliceToS (EE.of (r_loc rfl) rfl) (EE.of (r_loc rfl) rfl) (Nat.le_of_succ_le g4) g3 (dn_take b k)

/-! Fresh.next -/
theorem dotted_ev {l : Loc} {b : Str} {k : Nat} (h2 : l.at 2 = .val (.str b)) (h3 : l.at 3 = .val (.int (k : Nat))) (hk : k < 10 ^ 9) (hbl : b.length ≤ 10) :
    ER Φ (.bin .add (.bin .add (.loc 2) (.str sx3)) (.strOf (.loc 3))) l c (.v (.str (dn b k))) c := by
  have hl := digs_len hk
  have q1 : b.length + sx3.length ≤ lim := by rw [sx3_eq]; show b.length + 1 ≤ lim; unfold lim; omega
  have q2 : (b ++ sx3).length + (Str.ofString (toString ((k : Nat) : Int))).length ≤ lim := by
    rw [sx3_eq]
    have h1 : (b ++ (⟨#[46]⟩ : Str)).length = b.length + 1 := by show (b.cps ++ #[46]).size = _; simp [Str.length]
    have h2 : (Str.ofString (toString ((k : Nat) : Int))).length = (digs k).length := by rw [show Str.ofString (toString ((k : Nat) : Int)) = ⟨(digs k).toArray⟩ from text_ofNat k]; simp [Str.length]
    rw [h1, h2]; unfold lim; omega
  refine r_bin (EE.of (r_bin (EE.of (r_loc h2) rfl) (EE.of r_str rfl) (abin_s q1)) rfl) (EE.of (r_strOf (EE.of (r_loc h3) rfl) (by omega) (by omega)) rfl) ?_
  exact (abin_s q2).trans (by rw [dotted_eq])
theorem next_spec {x b : Str} {ak nk : List Str} {av nv : List AV} {a0 a1 : AV} {m : Nat} (hb : ∀ c, Φ 35 [.str x] c = some (.v (.str b), c)) (hm : (dget nk nv b).getD (.int 0) = .int (m : Int)) (hlt : m + 1 < 10 ^ 9) (hbl : b.length ≤ 10)
    (hn : dn b (m + 1) ∉ ak) (hz : nk.length ≤ lim) : run (W + 1) Φ 37 [.obj 9 [.cell 2, .cell 3], .str x] [a0, a1, .dict ak av, .dict nk nv] = some (.v (.str (dn b (m + 1))), [a0, a1, .dict ak av, .dict (dput nk nv b (.int ((m : Int) + 1))).1 (dput nk nv b (.int ((m : Int) + 1))).2]) := by
  have e1 : ((m : Int) + 1) = ((m + 1 : Nat) : Int) := by omega
  refine run_ret (F := ⟨2, 4, b37⟩) rfl rfl rfl (?_ : XS Φ (W + 1) b37 _ _ _ [.val (.obj 9 [.cell 2, .cell 3]), .val (.str x), .val (.str b), .val (.int ((m + 1 : Nat) : Int))] _)
  refine x_seq (x_asg (r_call (l_cons (EE.of (r_loc rfl) rfl) l_nil) (hb _))) ?_
  refine x_seq (x_asg (r_bin (v := .int ((m + 1 : Nat) : Int)) (EE.of (r_get2 (p_of rfl (EE.of (r_attr (k := 9) (j := 1) (EE.of (r_loc rfl) rfl) rfl rfl) rfl)) rfl (EE.of (r_loc rfl) rfl) (EE.of r_int rfl) rfl) rfl) (EE.of r_int rfl) ?_)) ?_
  · show abin .add ((dget nk nv b).getD (.int 0)) (.int 1) = some (.int ((m + 1 : Nat) : Int)); rw [hm, ← e1]; rfl
  refine x_seq (c1 := [a0, a1, .dict ak av, .dict nk nv]) (x_whil (while_end (?_ : ET Φ _ _ _ false _))) ?_
  · refine t_of (r_cmp rfl (EE.of (dotted_ev (k := m + 1) (b := b) rfl rfl hlt hbl) rfl) (p_of rfl (EE.of (r_attr (k := 9) (j := 0) (EE.of (r_loc rfl) rfl) rfl rfl) rfl)) (z := .dict ak av) rfl ?_) rfl
    exact congrArg some (by simpa using hn)
  refine x_seq (x_setDict (EE.of (r_loc rfl) rfl) (p_of rfl (EE.of (r_attr (k := 9) (j := 1) (EE.of (r_loc rfl) rfl) rfl rfl) rfl)) (EE.of (r_loc rfl) rfl) rfl hz rfl) ?_
  rw [e1]
  exact x_stop (x_ret (dotted_ev (k := m + 1) (b := b) rfl rfl hlt hbl)) rfl
end Mine
end
section
open PySem PySem.W PyProof.Rows
set_option Elab.async false
set_option maxRecDepth 100000
set_option linter.unusedVariables false
set_option linter.unusedSimpArgs false
namespace Mine
/-! the trees -/
/-- v: a name; n: an int literal; c: Con C of a name; d: Con D -/
inductive At where
  | v (x : Str)
  | n (k : Int)
  | c (x : Str)
  | d
inductive Ky where
  | c (f : Str)
  | d
  | n (k : Int)
/-- c0 c1 c2: a Case of no, one, two alternatives (and always an other) -/
inductive Tm where
  | lit (n : Int)
  | lt (x : Str) (a : At) (t : Tm)
  | c0 (a : At) (o : Str) (z : Tm)
  | c1 (a : At) (o : Str) (k : Ky) (t : Tm) (z : Tm)
  | c2 (a : At) (o : Str) (k : Ky) (t : Tm) (k' : Ky) (t' : Tm) (z : Tm)
noncomputable def eV (x : Str) : AV := .obj 0 [.str x]
noncomputable def eA : At → AV
  | .v x => eV x
  | .n k => .obj 1 [.str sx4, .int k]
  | .c x => .obj 6 [.str sx8, .list [eV x]]
  | .d => .obj 6 [.str sx9, .list []]
noncomputable def eK : Ky → AV
  | .c _ => .tup [.str sx1, .str sx8]
  | .d => .tup [.str sx1, .str sx9]
  | .n k => .tup [.str sx2, .str sx4, .int k]
noncomputable def eF : Ky → List AV
  | .c f => [.str f]
  | _ => []
noncomputable def eT : Tm → AV
  | .lit n => .obj 1 [.str sx4, .int n]
  | .lt x a t => .obj 3 [.list [.tup [.str x, eA a]], eT t, .bool false]
  | .c0 a o z => .obj 5 [eA a, .str o, .list [], eT z]
  | .c1 a o k t z => .obj 5 [eA a, .str o, .list [.obj 4 [eK k, .list (eF k), eT t]], eT z]
  | .c2 a o k t k' t' z => .obj 5 [eA a, .str o, .list [.obj 4 [eK k, .list (eF k), eT t], .obj 4 [eK k', .list (eF k'), eT t']], eT z]
noncomputable def nums (l : List Int) : AV := .tup (l.map .int)
noncomputable def prt (e : AV) (l : List Int) : AV := .tup [e, nums l]
variable {Φ : CallF} {W : Nat} {c : Cells} {x o : Str} {a : At} {k k' : Ky} {t t' z : Tm} {n : Int} {p0 p1 p2 p3 g0 g1 g2 : AV}
-- groups, parts, rebuilt
theorem var_parts : run W Φ 1 [eV x] c = some (.o (.list []), c) := rfl
theorem lit_parts : run W Φ 4 [.obj 1 [p0, p1]] c = some (.o (.list []), c) := rfl
theorem con_groups : run W Φ 15 [.obj 6 [p0, p1]] c = some (.o (.list []), c) := rfl
theorem con_parts0 : run W Φ 16 [.obj 6 [p0, .list []]] c = some (.v (.list []), c) := rfl
theorem con_parts1 : run W Φ 16 [.obj 6 [p0, .list [p1]]] c = some (.v (.list [prt p1 []]), c) := rfl
theorem con_rebuilt : run W Φ 17 [.obj 6 [p0, p1], p2, p3] c = some (.v (.obj 6 [p0, p3]), c) := rfl
theorem lt_groups {x p1 p2 : AV} : run W Φ 9 [.obj 3 [.list [.tup [x, p0]], p1, p2]] c = some (.o (.list [.list [x]]), c) := rfl
theorem lt_parts {x p1 : AV} : run W Φ 10 [.obj 3 [.list [.tup [x, p0]], p1, .bool false]] c = some (.v (.list [prt p0 [], prt p1 [0]]), c) := rfl
theorem lt_rebuilt {x p1 q0 q1 : AV} : run W Φ 11 [.obj 3 [.list [.tup [x, p0]], p1, .bool false], .list [.list [g0]], .list [q0, q1]] c = some (.v (.obj 3 [.list [.tup [g0, q0]], q1, .bool false]), c) := rfl
theorem c0_groups {x : AV} : run W Φ 12 [.obj 5 [p0, x, .list [], p1]] c = some (.v (.list [.list [x]]), c) := rfl
theorem c1_groups {x k f b : AV} : run W Φ 12 [.obj 5 [p0, x, .list [.obj 4 [k, f, b]], p1]] c = some (.v (.list [.list [x], f]), c) := rfl
theorem c2_groups {x k f b k' f' b' : AV} : run W Φ 12 [.obj 5 [p0, x, .list [.obj 4 [k, f, b], .obj 4 [k', f', b']], p1]] c = some (.v (.list [.list [x], f, f']), c) := rfl
theorem c0_parts {x : AV} (hz : isNone g0 = false) : run W Φ 13 [.obj 5 [p0, x, .list [], g0]] c = some (.v (.list [prt p0 [], prt g0 [0]]), c) := by
  have : ∀ q, isNone g0 = q → q = false → run W Φ 13 [.obj 5 [p0, x, .list [], g0]] c = some (.v (.list [prt p0 [], prt g0 [0]]), c) := by
    intro q h1 h2; subst h2
    cases g0 <;> first | rfl | cases h1
  exact this _ rfl hz
theorem c1_parts {x k f b : AV} (hz : isNone g0 = false) : run W Φ 13 [.obj 5 [p0, x, .list [.obj 4 [k, f, b]], g0]] c = some (.v (.list [prt p0 [], prt b [0, 1], prt g0 [0]]), c) := by
  cases g0 <;> first | rfl | cases hz
theorem c2_parts {x k f b k' f' b' : AV} (hz : isNone g0 = false) : run W Φ 13 [.obj 5 [p0, x, .list [.obj 4 [k, f, b], .obj 4 [k', f', b']], g0]] c = some (.v (.list [prt p0 [], prt b [0, 1], prt b' [0, 2], prt g0 [0]]), c) := by
  cases g0 <;> first | (cases hz; done) | kernel_rfl
theorem c0_rebuilt {x y q0 q1 : AV} (hz : isNone g0 = false) : run W Φ 14 [.obj 5 [p0, x, .list [], g0], .list [.list [y]], .list [q0, q1]] c = some (.v (.obj 5 [q0, y, .list [], q1]), c) := by
  cases g0 <;> first | rfl | cases hz
theorem c1_rebuilt {x y k f b f1 q0 q1 q2 : AV} (hz : isNone g0 = false) : run W Φ 14 [.obj 5 [p0, x, .list [.obj 4 [k, f, b]], g0], .list [.list [y], f1], .list [q0, q1, q2]] c = some (.v (.obj 5 [q0, y, .list [.obj 4 [k, f1, q1]], q2]), c) := by
  cases g0 <;> first | rfl | cases hz
theorem c2_rebuilt {x y k f b k' f' b' f1 f2 q0 q1 q2 q3 : AV} (hz : isNone g0 = false) : run W Φ 14 [.obj 5 [p0, x, .list [.obj 4 [k, f, b], .obj 4 [k', f', b']], g0], .list [.list [y], f1, f2], .list [q0, q1, q2, q3]] c = some (.v (.obj 5 [q0, y, .list [.obj 4 [k, f1, q1], .obj 4 [k', f2, q2]], q3]), c) := by
  cases g0 <;> first | (cases hz; done) | kernel_rfl
theorem eT_some {t : Tm} : isNone (eT t) = false := by cases t <;> rfl
end Mine
end
section
open PySem PySem.W PyProof.Rows
set_option Elab.async false
set_option maxRecDepth 100000
set_option linter.unusedVariables false
set_option linter.unusedSimpArgs false
namespace Mine
/-! names given, in lists and in groups -/
noncomputable def aFr : AV := .obj 9 [.cell 2, .cell 3]
noncomputable def aRn : AV := .obj 7 [aFr, .dict [] []]
noncomputable def NxL (Φ : CallF) : List Str → List Str → Cells → Cells → Prop
  | [], [], c, c' => c = c'
  | x :: xs, y :: ys, c, c' => ∃ c1, Φ 37 [aFr, .str x] c = some (.v (.str y), c1) ∧ NxL Φ xs ys c1 c'
  | _, _, _, _ => False
noncomputable def NxG (Φ : CallF) : List (List Str) → List (List Str) → Cells → Cells → Prop
  | [], [], c, c' => c = c'
  | x :: xs, y :: ys, c, c' => ∃ c1, NxL Φ x y c c1 ∧ NxG Φ xs ys c1 c'
  | _, _, _, _ => False
noncomputable def eL (l : List Str) : AV := .list (l.map .str)
noncomputable def eG (l : List (List Str)) : AV := .list (l.map eL)
variable {Φ : CallF} {W : Nat}
theorem compL_cons' {el : Loc → Cells → Option (AV × Cells)} {bd : AV → Loc → Option Loc} {x y : AV} {xs ys : List AV} {l l1 : Loc} {c c1 c2 : Cells} (hb : bd x l = some l1) (h : el l1 c = some (y, c1)) (h2 : compL el noCond bd xs l c1 = some (ys, c2)) : compL el noCond bd (x :: xs) l c = some (y :: ys, c2) := ob_of hb (bd_of (x := true) (y := c) rfl ((if_pos rfl).trans (bd_of h (bd_of h2 rfl))))
theorem nxL_comp {u v w : LV} : ∀ (xs ys : List Str) (c c' : Cells), NxL Φ xs ys c c' → compL (ev tab Φ (.meth (.attr (.loc 0) 12) 10 (.cons (.loc 3) .nil))).e noCond (bind1 3) (xs.map .str) [.val aRn, u, v, w] c = some (ys.map .str, c')
  | [], [], c, c', h => by cases h; rfl
  | x :: xs, y :: ys, c, c', ⟨c1, h, h2⟩ => by
    refine compL_cons' rfl (?_ : EE Φ _ _ _ _ c1) (nxL_comp xs ys c1 c' h2)
    exact EE.of (r_meth (k := 9) (f := 37) (EE.of (r_attr (k := 7) (j := 0) (EE.of (r_loc rfl) rfl) rfl rfl) rfl) rfl (l_cons (EE.of (r_loc rfl) rfl) l_nil) h) rfl
  | [], _ :: _, _, _, h => h.elim
  | _ :: _, [], _, _, h => h.elim
theorem nxL_len : ∀ (xs ys : List Str) (c c' : Cells), NxL Φ xs ys c c' → ys.length = xs.length
  | [], [], c, c', h => rfl
  | x :: xs, y :: ys, c, c', ⟨c1, h, h2⟩ => by simp [nxL_len xs ys c1 c' h2]
  | [], _ :: _, _, _, h => h.elim
  | _ :: _, [], _, _, h => h.elim
theorem nxG_comp {u : LV} : ∀ (xs ys : List (List Str)) (c c' : Cells), (∀ x ∈ xs, x.length ≤ 9) → NxG Φ xs ys c c' → compL (ev tab Φ (.comp1 3 [0] (.meth (.attr (.loc 0) 12) 10 (.cons (.loc 3) .nil)) (.loc 2))).e noCond (bind1 2) (xs.map eL) [.val aRn, .un, u, .un] c = some (ys.map eL, c')
  | [], [], c, c', hs, h => by cases h; rfl
  | x :: xs, y :: ys, c, c', hs, ⟨c1, h, h2⟩ => by
    refine compL_cons' rfl (?_ : EE Φ _ _ _ _ c1) (nxG_comp xs ys c1 c' (fun z hz => hs z (List.mem_cons_of_mem _ hz)) h2)
    have hx := hs x (List.mem_cons_self ..)
    refine EE.of (r_comp1 (i_of (r_loc rfl) rfl rfl) ?_ rfl (nxL_comp x y c c1 h)) rfl
    simp only [small, List.length_map, decide_eq_true_eq, lim]; lia
  | [], _ :: _, _, _, _, h => h.elim
  | _ :: _, [], _, _, _, h => h.elim
theorem new_groups {xs ys : List (List Str)} {c c' : Cells} (hl : xs.length ≤ 9) (hs : ∀ x ∈ xs, x.length ≤ 9) (h : NxG Φ xs ys c c') : run W Φ 20 [aRn, eG xs] c = some (.v (eG ys), c') := by
  refine run_ret (F := ⟨2, 4, b20⟩) rfl rfl rfl (x_stop (x_ret (r_comp1 (i_of (r_loc rfl) rfl rfl) ?_ rfl (nxG_comp xs ys c c' hs h))) rfl)
  simp only [small, List.length_map, decide_eq_true_eq, lim]; lia
end Mine
end
section
open PySem PySem.W PyProof.Rows
set_option Elab.async false
set_option maxRecDepth 100000
set_option linter.unusedVariables false
set_option linter.unusedSimpArgs false
namespace Mine
/-! Renamer.inner, Renamer.leaf -/
variable {Φ : CallF} {W : Nat} {c : Cells}
noncomputable abbrev Dc := List Str × List AV
noncomputable def Dc.put (d : Dc) (x : Str) (a : AV) : Dc := dput d.1 d.2 x a
noncomputable def Dc.get (d : Dc) (x : Str) : Option AV := dget d.1 d.2 x
noncomputable def Dc.av (d : Dc) : AV := .dict d.1 d.2
theorem dput_len : ∀ (ks : List Str) (vs : List AV) (x : Str) (a : AV), (dput ks vs x a).1.length ≤ ks.length + 1
  | [], [], x, a => by simp [dput]
  | [], _ :: _, x, a => by simp [dput]
  | _ :: _, [], x, a => by simp [dput]
  | k :: ks, v :: vs, x, a => by
    have := dput_len ks vs x a
    simp only [dput]; split
    · simp
    · simp only [List.length_cons]; lia
theorem Dc.put_len (d : Dc) (x : Str) (a : AV) : (d.put x a).1.length ≤ d.1.length + 1 := dput_len ..
noncomputable def sInner : IS := .seq (.for1 7 (.range1 (.len (.idx (.loc 3) (.loc 6)))) (.seq (.setIdx (.loc 5) (.idx (.idx (.loc 3) (.loc 6)) (.loc 7)) (.idx (.idx (.loc 4) (.loc 6)) (.loc 7))) .skip)) .skip
theorem small9 {l : List AV} (h : l.length ≤ 9) : small l = true := decide_eq_true (show l.length ≤ 1000000 by lia)
theorem itemAt_nat {l : List AV} {i : Nat} {x : AV} (h : l[i]? = some x) : itemAt l (i : Int) = some x := by
  simp only [itemAt]; rw [if_pos (by lia)]; simpa using h
variable {d : Dc} {G G' : List AV} {i : Nat} {x y : Str} {s0 s1 s2 : LV} {u : LV}
theorem inner_put (hG : G[i]? = some (.list [.str x])) (hG' : G'[i]? = some (.list [.str y])) (hl : G.length ≤ 9) (hl' : G'.length ≤ 9) (hd : d.1.length ≤ lim) :
    XS Φ W sInner [s0, s1, s2, .val (.list G), .val (.list G'), .own d.av, .val (.int i), u] c .next [s0, s1, s2, .val (.list G), .val (.list G'), .own (d.put x (.str y)).av, .val (.int i), .val (.int 0)] c := by
  have e1 : ∀ {q p : LV}, ER Φ (.idx (.loc 3) (.loc 6)) [s0, s1, s2, .val (.list G), .val (.list G'), q, .val (.int i), p] c (.v (.list [.str x])) c := fun {q p} =>
    r_idx_list (p_loc rfl) (EE.of (r_loc rfl) rfl) rfl (small9 hl) (itemAt_nat hG)
  have e2 : ∀ {q p : LV}, ER Φ (.idx (.loc 4) (.loc 6)) [s0, s1, s2, .val (.list G), .val (.list G'), q, .val (.int i), p] c (.v (.list [.str y])) c := fun {q p} =>
    r_idx_list (p_loc rfl) (EE.of (r_loc rfl) rfl) rfl (small9 hl') (itemAt_nat hG')
  refine x_seq (x_for1 (i_range1 (n := 1) (EE.of (r_len (p_of rfl (EE.of e1 rfl)) rfl rfl) rfl) (by unfold lim; lia)) rfl (forL_cons rfl (x_seq (x_setDict (c1 := c) (c2 := c) (n := x) (x := .str y) ?_ (p_own rfl) ?_ rfl hd rfl) x_skip) rfl)) x_skip
  · exact EE.of (r_idx_list (p_of rfl (EE.of e2 rfl)) (EE.of (r_loc rfl) rfl) rfl rfl rfl) rfl
  · exact EE.of (r_idx_list (p_of rfl (EE.of e1 rfl)) (EE.of (r_loc rfl) rfl) rfl rfl rfl) rfl
theorem inner_none (hG : G[i]? = some (.list [])) (hl : G.length ≤ 9) :
    XS Φ W sInner [s0, s1, s2, .val (.list G), .val (.list G'), .own d.av, .val (.int i), u] c .next [s0, s1, s2, .val (.list G), .val (.list G'), .own d.av, .val (.int i), u] c := by
  have e1 : ∀ {q p : LV}, ER Φ (.idx (.loc 3) (.loc 6)) [s0, s1, s2, .val (.list G), .val (.list G'), q, .val (.int i), p] c (.v (.list [])) c := fun {q p} =>
    r_idx_list (p_loc rfl) (EE.of (r_loc rfl) rfl) rfl (small9 hl) (itemAt_nat hG)
  exact x_seq (x_for1 (i_range1 (n := 0) (EE.of (r_len (p_of rfl (EE.of e1 rfl)) rfl rfl) rfl) (by unfold lim; lia)) rfl rfl) x_skip
theorem inner_nil {p0 p1 p2 p3 : AV} : run W Φ 21 [p0, p1, .tup [], p2, p3] c = some (.v p1, c) := rfl
theorem inner_0 {p0 : AV} (hG : G[0]? = some (.list [.str x])) (hG' : G'[0]? = some (.list [.str y])) (hl : G.length ≤ 9) (hl' : G'.length ≤ 9) (hd : d.1.length ≤ lim) :
    run W Φ 21 [p0, d.av, nums [0], .list G, .list G'] c = some (.v (d.put x (.str y)).av, c) := by
  refine run_xr (F := ⟨5, 8, b21⟩) rfl rfl rfl (xr_seq (x_if (q := false) (t_of (r_cmp rfl (EE.of (r_loc rfl) rfl) (p_of rfl (EE.of (r_tup l_nil rfl) rfl)) rfl rfl) rfl) x_skip) ?_)
  refine xr_seq (x_asg (r_copy (EE.of (r_loc rfl) rfl) hd)) ?_
  refine xr_seq (x_for1 (i_of (r_loc rfl) rfl rfl) rfl (forL_cons rfl (inner_put (i := 0) hG hG' hl hl' hd) rfl)) ?_
  exact xr_seq (x_freeze rfl) (xr_stop (xr_ret (r_loc rfl)))
theorem inner_0j {p0 : AV} {j : Nat} {f f' : Str} (hG : G[0]? = some (.list [.str x])) (hG' : G'[0]? = some (.list [.str y])) (hJ : G[j]? = some (.list [.str f])) (hJ' : G'[j]? = some (.list [.str f'])) (hl : G.length ≤ 9) (hl' : G'.length ≤ 9) (hd : d.1.length + 1 ≤ lim) :
    run W Φ 21 [p0, d.av, nums [0, j], .list G, .list G'] c = some (.v ((d.put x (.str y)).put f (.str f')).av, c) := by
  have := d.put_len x (.str y)
  refine run_xr (F := ⟨5, 8, b21⟩) rfl rfl rfl (xr_seq (x_if (q := false) (t_of (r_cmp rfl (EE.of (r_loc rfl) rfl) (p_of rfl (EE.of (r_tup l_nil rfl) rfl)) rfl rfl) rfl) x_skip) ?_)
  refine xr_seq (x_asg (r_copy (EE.of (r_loc rfl) rfl) (by lia))) ?_
  refine xr_seq (x_for1 (i_of (r_loc rfl) rfl rfl) rfl (forL_cons rfl (inner_put (i := 0) hG hG' hl hl' (by lia)) (forL_cons rfl (inner_put (i := j) hJ hJ' hl hl' (by lia)) rfl))) ?_
  exact xr_seq (x_freeze rfl) (xr_stop (xr_ret (r_loc rfl)))
theorem inner_0e {p0 : AV} {j : Nat} (hG : G[0]? = some (.list [.str x])) (hG' : G'[0]? = some (.list [.str y])) (hJ : G[j]? = some (.list [])) (hl : G.length ≤ 9) (hl' : G'.length ≤ 9) (hd : d.1.length ≤ lim) :
    run W Φ 21 [p0, d.av, nums [0, j], .list G, .list G'] c = some (.v (d.put x (.str y)).av, c) := by
  refine run_xr (F := ⟨5, 8, b21⟩) rfl rfl rfl (xr_seq (x_if (q := false) (t_of (r_cmp rfl (EE.of (r_loc rfl) rfl) (p_of rfl (EE.of (r_tup l_nil rfl) rfl)) rfl rfl) rfl) x_skip) ?_)
  refine xr_seq (x_asg (r_copy (EE.of (r_loc rfl) rfl) (by lia))) ?_
  refine xr_seq (x_for1 (i_of (r_loc rfl) rfl rfl) rfl (forL_cons rfl (inner_put (i := 0) hG hG' hl hl' hd) (forL_cons rfl (inner_none (i := j) hJ hl) rfl))) ?_
  exact xr_seq (x_freeze rfl) (xr_stop (xr_ret (r_loc rfl)))
-- leaf
theorem leaf_other {k : Nat} {p1 p2 : AV} {fs : List AV} (hk : k ≠ 0) (hk' : k < 10) : run W Φ 22 [p1, .obj k fs, p2] c = some (.v (.obj k fs), c) := by
  refine run_xr (F := ⟨3, 4, b22⟩) rfl rfl rfl (xr_stop (xr_if (q := true) ?_ (xr_stop (xr_ret (r_loc rfl)))))
  have : (k == 0) = false := by simpa using hk
  have h := t_not (Φ := Φ) (t_of (r_isi (e := .loc 1) (k := 0) (k' := k) (l := [LV.val p1, .val (.obj k fs), .val p2, .un]) (c := c) (EE.of (r_loc rfl) rfl) hk') rfl)
  rw [this] at h; exact h
theorem leaf_in {x y : Str} (h : d.get x = some (.str y)) (hc : d.1.contains x = true) : run W Φ 22 [aRn, eV x, d.av] c = some (.v (eV y), c) := by
  refine run_xr (F := ⟨3, 4, b22⟩) rfl rfl rfl (xr_seq (x_if (q := false) (t_not (q := true) (t_of (r_isi (k := 0) (k' := 0) (EE.of (r_loc rfl) rfl) (by decide)) rfl)) x_skip) ?_)
  refine xr_stop (xr_if (q := true) (t_of (r_cmp rfl (EE.of (r_attr (k := 0) (j := 0) (EE.of (r_loc rfl) rfl) rfl rfl) rfl) (p_loc rfl) (z := d.av) rfl ?_) rfl) (xr_stop (xr_ret ?_)))
  · show some (d.1.contains x) = some true; rw [hc]
  · exact r_new (k := 0) (l_cons (EE.of (r_idx_dict (p_loc rfl) (EE.of (r_attr (k := 0) (j := 0) (EE.of (r_loc rfl) rfl) rfl rfl) rfl) rfl h) rfl) l_nil) rfl
theorem leaf_out {x : Str} (hc : d.1.contains x = false) : run W Φ 22 [aRn, eV x, d.av] c = some (.v (eV x), c) := by
  refine run_xr (F := ⟨3, 4, b22⟩) rfl rfl rfl (xr_seq (x_if (q := false) (t_not (q := true) (t_of (r_isi (k := 0) (k' := 0) (EE.of (r_loc rfl) rfl) (by decide)) rfl)) x_skip) ?_)
  refine xr_seq (x_if (q := false) (t_of (r_cmp rfl (EE.of (r_attr (k := 0) (j := 0) (EE.of (r_loc rfl) rfl) rfl rfl) rfl) (p_loc rfl) (z := d.av) rfl ?_) rfl) x_skip) ?_
  · show some (d.1.contains x) = some false; rw [hc]
  refine xr_seq (x_asg (r_get1 (ks := []) (vs := []) (ks0 := []) (vs0 := []) (p_of rfl (EE.of (r_attr (k := 7) (j := 1) (EE.of (r_loc rfl) rfl) rfl rfl) rfl)) rfl (EE.of (r_attr (k := 0) (j := 0) (EE.of (r_loc rfl) rfl) rfl rfl) rfl) rfl)) ?_
  exact xr_stop (xr_ret (r_ite (q := true) (t_of (r_isN (x := .none) (EE.of (r_loc (x := .none) rfl) rfl)) rfl) (r_loc rfl)))
end Mine
end
section
open PySem PySem.W PyProof.Rows
set_option Elab.async false
set_option maxRecDepth 100000
set_option linter.unusedVariables false
set_option linter.unusedSimpArgs false
namespace Mine
/-! Renamer.run: the machine -/
noncomputable def sRun : IS := match b23 with
  | .seq _ (.seq (.whil _ s) _) => s
  | _ => .skip
theorem b23_eq : b23 = .seq (.asg2 2 3 (.list (.cons (.tup (.cons (.loc 1) (.cons .dict0 (.cons .none .nil)))) .nil)) (.list .nil)) (.seq (.whil (.loc 2) sRun) (.seq (.ret (.idx (.loc 3) (.int 0))) .skip)) := rfl
/-- the machine's locals: tasks, done, the rest whatever -/
noncomputable def RL (e : AV) (ts ds : List AV) (rs : List LV) : Loc := .val aRn :: .val e :: .own (.list ts) :: .own (.list ds) :: rs
variable {Φ : CallF} {W : Nat}
theorem lastTup_app {ts : List AV} {t : List AV} : lastTup (ts ++ [.tup t]) = some t := by simp [lastTup]
/-- a leaf's turn -/
theorem run_leaf {e : AV} {ts ds rs : List AV} {c : Cells} {k : Nat} {fs : List AV} {nm p nw : AV} {r0 r1 r2 r3 r4 r5 r6 r7 r8 : LV} {o : RV}
    (ht : ts.length ≤ 1000) (hd : ds.length ≤ 1000) (hp : ∃ f, methOf k 1 = some f ∧ Φ f [.obj k fs] c = some (o, c) ∧ o.av = .list [])
    (hL : Φ 22 [aRn, .obj k fs, nm] c = some (.v p, c)) :
    ∃ q, q.length = 9 ∧ XS Φ W sRun (RL e (ts ++ [.tup [.obj k fs, nm, nw]]) ds [r0, r1, r2, r3, r4, r5, r6, r7, r8]) c .next (RL e ts (ds ++ [p]) q) c := by
  refine ex_1_3 (hp) fun f hm hf ho => ?_
  have hs : small (ts ++ [AV.tup [.obj k fs, nm, nw]]) = true := decide_eq_true (show _ ≤ 1000000 by simp; lia)
  have hs2 : small ds = true := decide_eq_true (show _ ≤ 1000000 by lia)
  refine ⟨[.val (.list []), .val (.obj k fs), .val nm, .val nw, r4, r5, r6, r7, r8], rfl, ?_⟩
  refine x_seq (x_popT (p_own rfl) rfl hs lastTup_app (lm := RL e ts ds [r0, r1, r2, r3, r4, r5, r6, r7, r8]) (by rw [List.dropLast_concat]; rfl) rfl) ?_
  refine x_seq (x_asg (r_meth (EE.of (r_loc rfl) rfl) hm l_nil hf)) ?_
  rw [ho]
  refine x_seq (x_if (q := true) (t_of (r_cmp rfl (EE.of (r_loc rfl) rfl) (p_of rfl (EE.of (r_list l_nil rfl) rfl)) rfl rfl) rfl) (x_seq (x_append (p_own rfl) rfl ?_ rfl hs2 rfl) x_skip)) x_skip
  exact EE.of (r_meth (k := 7) (EE.of (r_loc rfl) rfl) rfl (l_cons (EE.of (r_loc rfl) rfl) (l_cons (EE.of (r_loc rfl) rfl) l_nil)) hL) rfl
/-- the loop that lays the parts -/
noncomputable def sLay : IS := .seq (.append (.loc 2) (.tup (.cons (.loc 11) (.cons (.meth (.loc 0) 4 (.cons (.loc 6) (.cons (.loc 12) (.cons (.loc 8) (.cons (.loc 7) .nil))))) (.cons .none .nil))))) .skip
theorem run_lay {e nm nw gr : AV} {r0 r1 r5 r6 : LV} {c : Cells} : ∀ (ps : List (AV × AV × AV)) (ts ds : List AV) (r7 r8 : LV), ts.length + ps.length ≤ 1000 → (∀ q ∈ ps, ∃ o : RV, o.av = q.2.2 ∧ Φ 21 [aRn, nm, q.2.1, gr, nw] c = some (o, c)) →
    ∃ q7 q8, forL (exs tab Φ W sLay) (bindT [11, 12]) (ps.map fun q => .tup [q.1, q.2.1]) (RL e ts ds [r0, r1, .val nm, .val nw, .val gr, r5, r6, r7, r8]) c = some (.next, RL e (ts ++ ps.map fun q => .tup [q.1, q.2.2, .none]) ds [r0, r1, .val nm, .val nw, .val gr, r5, r6, q7, q8], c)
  | [], ts, ds, r7, r8, hl, h => ⟨r7, r8, by simp [forL]⟩
  | q :: ps, ts, ds, r7, r8, hl, h => by
    simp only [List.length_cons] at hl
    refine ex_1_2 (h q (List.mem_cons_self ..)) fun o ho hc => ?_
    have hs : small ts = true := decide_eq_true (show _ ≤ 1000000 by lia)
    obtain ⟨q7, q8, ih⟩ := run_lay ps (ts ++ [.tup [q.1, q.2.2, .none]]) ds (.val q.1) (.val q.2.1) (by simp; lia) (fun z hz => h z (List.mem_cons_of_mem _ hz))
    refine ⟨q7, q8, ?_⟩
    have e1 : (ts ++ List.map (fun q : AV × AV × AV => AV.tup [q.1, q.2.2, .none]) (q :: ps)) = (ts ++ [.tup [q.1, q.2.2, .none]]) ++ List.map (fun q : AV × AV × AV => AV.tup [q.1, q.2.2, .none]) ps := by simp
    rw [e1]
    refine forL_cons rfl (x_seq (x_append (p_own rfl) rfl (EE.of (r_tup (l_cons (EE.of (r_loc rfl) rfl) (l_cons (x := q.2.2) (EE.of (r_meth (k := 7) (EE.of (r_loc rfl) rfl) rfl (l_cons (EE.of (r_loc rfl) rfl) (l_cons (EE.of (r_loc rfl) rfl) (l_cons (EE.of (r_loc rfl) rfl) (l_cons (EE.of (r_loc rfl) rfl) l_nil)))) hc) ho) (l_cons (EE.of r_none rfl) l_nil))) rfl) rfl) rfl hs rfl) x_skip) ih
/-- a node's first turn -/
theorem run_open {e : AV} {ts ds : List AV} {c c' : Cells} {k f g : Nat} {fs : List AV} {nm gr nw : AV} {ps : List (AV × AV × AV)} {r0 r1 r2 r3 r4 r5 r6 r7 r8 : LV} {o1 o2 o3 : RV}
    (hl : ts.length + 1 + ps.length ≤ 1000) (hps : ps.length ≠ 0) (hm : methOf k 1 = some f) (hf : Φ f [.obj k fs] c = some (o1, c)) (h1 : o1.av = .list (ps.map fun q => .tup [q.1, q.2.1]))
    (hm0 : methOf k 0 = some g) (hg : Φ g [.obj k fs] c = some (o2, c)) (h2 : o2.av = gr) (hn : Φ 20 [aRn, gr] c = some (o3, c')) (h3 : o3.av = nw)
    (hi : ∀ q ∈ ps, ∃ o : RV, o.av = q.2.2 ∧ Φ 21 [aRn, nm, q.2.1, gr, nw] c' = some (o, c')) :
    ∃ q, q.length = 9 ∧ XS Φ W sRun (RL e (ts ++ [.tup [.obj k fs, nm, .none]]) ds [r0, r1, r2, r3, r4, r5, r6, r7, r8]) c .next (RL e (ts ++ [.tup [.obj k fs, nm, nw]] ++ ps.reverse.map fun q => .tup [q.1, q.2.2, .none]) ds q) c' := by
  have hs : small (ts ++ [AV.tup [.obj k fs, nm, .none]]) = true := decide_eq_true (show _ ≤ 1000000 by simp; lia)
  have hs2 : small ts = true := decide_eq_true (show _ ≤ 1000000 by lia)
  have hs3 : small (ps.map fun q => AV.tup [q.1, q.2.1]) = true := decide_eq_true (show _ ≤ 1000000 by simp; lia)
  obtain ⟨q7, q8, hlay⟩ := run_lay (Φ := Φ) (W := W) (e := e) (nm := nm) (nw := nw) (gr := gr) (r0 := .val (.list (ps.map fun q => .tup [q.1, q.2.1]))) (r1 := .val (.obj k fs)) (r5 := r5) (r6 := r6) (c := c') ps.reverse (ts ++ [.tup [.obj k fs, nm, nw]]) ds r7 r8 (by simp; lia) (fun q hq => hi q (List.mem_reverse.1 hq))
  refine ⟨[.val (.list (ps.map fun q => .tup [q.1, q.2.1])), .val (.obj k fs), .val nm, .val nw, .val gr, r5, r6, q7, q8], rfl, ?_⟩
  refine x_seq (x_popT (p_own rfl) rfl hs lastTup_app (lm := RL e ts ds [r0, r1, r2, r3, r4, r5, r6, r7, r8]) (by rw [List.dropLast_concat]; rfl) rfl) ?_
  refine x_seq (x_asg (r_meth (EE.of (r_loc rfl) rfl) hm l_nil hf)) ?_
  rw [h1]
  refine x_seq (x_if (q := false) (t_of (r_cmp rfl (EE.of (r_loc rfl) rfl) (p_of rfl (EE.of (r_list l_nil rfl) rfl)) rfl ?_) rfl) ?_) x_skip
  · exact acmp_nil (by simpa using hps)
  refine x_seq (x_if (q := true) (t_of (r_isN (x := .none) (EE.of (r_loc (x := .none) rfl) rfl)) rfl) ?_) x_skip
  refine x_seq (x_asg (r_meth (EE.of (r_loc rfl) rfl) hm0 l_nil hg)) ?_
  rw [h2]
  refine x_seq (x_asg (r_meth (k := 7) (EE.of (r_loc rfl) rfl) rfl (l_cons (EE.of (r_loc rfl) rfl) l_nil) hn)) ?_
  rw [h3]
  refine x_seq (x_append (p_own rfl) rfl (EE.of (r_tup (l_cons (EE.of (r_loc rfl) rfl) (l_cons (EE.of (r_loc rfl) rfl) (l_cons (EE.of (r_loc rfl) rfl) l_nil))) rfl) rfl) rfl hs2 rfl) ?_
  refine x_seq (x_forT (i_rev (EE.of (r_loc rfl) rfl) hs3) ?_ ?_) x_skip
  · exact decide_eq_true (show _ ≤ 1000000 by simp; lia)
  · rw [← List.map_reverse]; exact hlay
/-- a node's second turn -/
theorem run_close {e : AV} {ts ds rs : List AV} {c : Cells} {k f g : Nat} {fs ps : List AV} {nm nw p : AV} {r0 r1 r2 r3 r4 r5 r6 r7 r8 : LV} {o1 o2 : RV}
    (ht : ts.length ≤ 1000) (hl : ds.length + rs.length ≤ 1000) (hps : ps.length ≠ 0) (hr : rs.length = ps.length) (hw : isNone nw = false) (hm : methOf k 1 = some f) (hf : Φ f [.obj k fs] c = some (o1, c)) (h1 : o1.av = .list ps)
    (hm2 : methOf k 2 = some g) (hg : Φ g [.obj k fs, nw, .list rs] c = some (o2, c)) (h2 : o2.av = p) :
    ∃ q, q.length = 9 ∧ XS Φ W sRun (RL e (ts ++ [.tup [.obj k fs, nm, nw]]) (ds ++ rs) [r0, r1, r2, r3, r4, r5, r6, r7, r8]) c .next (RL e ts (ds ++ [p]) q) c := by
  have hs : small (ts ++ [AV.tup [.obj k fs, nm, nw]]) = true := decide_eq_true (show _ ≤ 1000000 by simp; lia)
  have hs1 : small ps = true := decide_eq_true (show _ ≤ 1000000 by lia)
  have hs2 : small (ds ++ rs) = true := decide_eq_true (show _ ≤ 1000000 by simp; lia)
  have hs3 : small ds = true := decide_eq_true (show _ ≤ 1000000 by lia)
  have e0 : ((ds ++ rs).length : Int) - (ps.length : Int) = (ds.length : Int) := by simp; lia
  have e1 : (ds ++ rs).drop ((ds.length : Int)).toNat = rs := by simp
  have e2 : (ds ++ rs).take ((ds.length : Int)).toNat = ds := by simp
  have eB : ∀ {u v : List LV} {a b : LV}, ER Φ (.bin .sub (.len (.loc 3)) (.loc 9)) (.val aRn :: .val e :: .own (.list ts) :: .own (.list (ds ++ rs)) :: a :: .val (.obj k fs) :: .val nm :: .val nw :: b :: .val (.int ps.length) :: u) c (.v (.int ds.length)) c := by
    intro u v a b
    exact r_bin (EE.of (r_len (p_own rfl) rfl hs2) rfl) (EE.of (r_loc rfl) rfl) (by rw [← e0]; rfl)
  refine ⟨[.val (.list ps), .val (.obj k fs), .val nm, .val nw, r4, .val (.int ps.length), .val p, r7, r8], rfl, ?_⟩
  refine x_seq (x_popT (p_own rfl) rfl hs lastTup_app (lm := RL e ts (ds ++ rs) [r0, r1, r2, r3, r4, r5, r6, r7, r8]) (by rw [List.dropLast_concat]; rfl) rfl) ?_
  refine x_seq (x_asg (r_meth (EE.of (r_loc rfl) rfl) hm l_nil hf)) ?_
  rw [h1]
  refine x_seq (x_if (q := false) (t_of (r_cmp rfl (EE.of (r_loc rfl) rfl) (p_of rfl (EE.of (r_list l_nil rfl) rfl)) rfl ?_) rfl) ?_) x_skip
  · exact acmp_nil (hps)
  refine x_seq (x_if (q := false) (t_of (?_ : ER Φ _ _ c (.v (.bool false)) c) rfl) ?_) x_skip
  · rw [← hw]; exact r_isN (x := nw) (EE.of (r_loc (x := nw) rfl) rfl)
  refine x_seq (x_asg (r_len (p_loc rfl) rfl hs1)) ?_
  refine x_seq (x_asg (r_meth (EE.of (r_loc rfl) rfl) hm2 (l_cons (EE.of (r_loc rfl) rfl) (l_cons (x := .list rs) (EE.of (r_sliceFrom (p_own rfl) (EE.of (eB (v := [])) rfl) rfl (by lia) (by simp; lia) hs2) (by rw [e1]; rfl)) l_nil)) hg)) ?_
  rw [h2]
  refine x_seq (x_delFrom (p_own rfl) (EE.of (eB (v := [])) rfl) rfl (by lia) (by simp; lia) hs2 (by rw [e2]; rfl)) ?_
  exact x_seq (x_append (p_own rfl) rfl (EE.of (r_loc rfl) rfl) rfl hs3 rfl) x_skip
end Mine
end
section
open PySem PySem.W PyProof.Rows
set_option Elab.async false
set_option maxRecDepth 100000
set_option linter.unusedVariables false
set_option linter.unusedSimpArgs false
namespace Mine
/-! dicts' laws; the state of Fresh -/
theorem dget_dput : ∀ (ks : List Str) (vs : List AV) (x y : Str) (a : AV), ks.length = vs.length → dget (dput ks vs x a).1 (dput ks vs x a).2 y = if x = y then some a else dget ks vs y
  | [], [], x, y, a, h => by simp [dput, dget]
  | [], _ :: _, x, y, a, h => by simp at h
  | _ :: _, [], x, y, a, h => by simp at h
  | k :: ks, v :: vs, x, y, a, h => by
    have ih := dget_dput ks vs x y a (by simpa using h)
    simp only [dput]
    by_cases hk : k = x
    · subst hk; simp only [if_true, dget]; split <;> rfl
    · rw [if_neg hk]; simp only [dget, ih]
      by_cases hy : k = y
      · subst hy; rw [if_pos rfl, if_pos rfl, if_neg (fun h => hk h.symm)]
      · rw [if_neg hy, if_neg hy]
theorem dput_len2 : ∀ (ks : List Str) (vs : List AV) (x : Str) (a : AV), ks.length = vs.length → (dput ks vs x a).1.length = (dput ks vs x a).2.length
  | [], [], x, a, h => by simp [dput]
  | [], _ :: _, x, a, h => by simp at h
  | _ :: _, [], x, a, h => by simp at h
  | k :: ks, v :: vs, x, a, h => by
    have ih := dput_len2 ks vs x a (by simpa using h)
    simp only [dput]; split
    · simpa using h
    · simpa using ih
noncomputable def dotless (x : Str) : Prop := 46 ∉ x.cps.toList
/-- the source of takes -/
noncomputable def SrcOk (a : AV) : Prop := ∃ u v : Int, a = .list [.int u, .int v]
/-- the state of Fresh: of each base how many were made; n bounds all -/
noncomputable def Sx (ak : List Str) (cnt : Str → Nat) (n : Nat) (c : Cells) : Prop := ∃ a0 a1 av nk nv, c = [a0, a1, .dict ak av, .dict nk nv] ∧ (∀ b, (dget nk nv b).getD (.int 0) = .int (cnt b : Nat)) ∧ nk.length ≤ n ∧ (∀ b, cnt b ≤ n) ∧ (∀ x ∈ ak, dotless x) ∧ nk.length = nv.length ∧ SrcOk a0
noncomputable def bump (cnt : Str → Nat) (b : Str) : Str → Nat := fun x => if x = b then cnt b + 1 else cnt x
/-- names in use: a base, or a base with a number -/
noncomputable def BaseOf (x b : Str) : Prop := dotless b ∧ 0 < b.length ∧ b.length ≤ 10 ∧ (x = b ∨ ∃ k, k < 10 ^ 9 ∧ x = dn b k)
theorem base_ans {Φ : CallF} {W : Nat} {x b : Str} {c : Cells} (h : BaseOf x b) : run W Φ 35 [.str x] c = some (.v (.str b), c) := by
  obtain ⟨h1, h2, h3, h | ⟨k, hk, h⟩⟩ := h
  · subst h; exact base_plain h1
  · subst h; exact base_dn h2 h3 hk
theorem next_ans {W : Nat} {d : Nat} {x b : Str} {ak : List Str} {cnt : Str → Nat} {n : Nat} {c : Cells} (hb : BaseOf x b) (hs : Sx ak cnt n c) (hn : n < 100000) :
    ∃ c', (∀ W d, callF tab fun? (W + 1) (d + 2) 37 [aFr, .str x] c = some (.v (.str (dn b (cnt b + 1))), c')) ∧ Sx ak (bump cnt b) (n + 1) c' := by
  refine ex_5_7 (hs) fun a0 a1 av nk nv eq0 h1 h2 h3 h4 h5 h6 => ?_
  subst eq0
  have := h3 b
  refine ⟨[a0, a1, .dict ak av, .dict (dput nk nv b (.int ((cnt b : Int) + 1))).1 (dput nk nv b (.int ((cnt b : Int) + 1))).2], fun W d => ?_, ?_⟩
  · exact next_spec (W := W) (Φ := run (W + 1) (callF tab fun? (W + 1) d)) (m := cnt b) (fun c => base_ans hb) (h1 b) (by lia) hb.2.2.1 (fun h => h4 _ h (dn_dot ..)) (by unfold lim; lia)
  · refine ⟨a0, a1, av, _, _, rfl, fun y => ?_, ?_, fun y => ?_, h4, dput_len2 _ _ _ _ h5, h6⟩
    · rw [dget_dput _ _ _ _ _ h5]
      unfold bump
      by_cases hy : b = y
      · subst hy; simp
      · rw [if_neg hy, if_neg (fun h => hy h.symm)]; exact h1 y
    · have := dput_len nk nv b (.int ((cnt b : Int) + 1)); lia
    · unfold bump; have := h3 y; split <;> lia
end Mine
end
section
open PySem PySem.W PyProof.Rows
set_option Elab.async false
set_option maxRecDepth 100000
set_option linter.unusedVariables false
set_option linter.unusedSimpArgs false
namespace Mine
/-! Renamer.run goes through a tree -/
noncomputable abbrev PhiR (W d : Nat) : CallF := callF tab fun? (W + 1) (d + 4)
noncomputable def wR (W d V : Nat) (l : Loc) (c : Cells) := whileL (ev tab (PhiR W d) (.loc 2)).t (exs tab (PhiR W d) (W + 1) sRun) V l c
theorem nine {q : List LV} (h : q.length = 9) : ∃ r0 r1 r2 r3 r4 r5 r6 r7 r8, q = [r0, r1, r2, r3, r4, r5, r6, r7, r8] := by
  match q, h with
  | [r0, r1, r2, r3, r4, r5, r6, r7, r8], _ => exact ⟨_, _, _, _, _, _, _, _, _, rfl⟩
theorem t_tasks {Φ : CallF} {e : AV} {ts ds : List AV} {t : AV} {rs : List LV} {c : Cells} (h : ts.length ≤ 1000) : ET Φ (.loc 2) (RL e (ts ++ [t]) ds rs) c true c := by
  have := t_locl (Φ := Φ) (l := RL e (ts ++ [t]) ds rs) (c := c) (i := 2) (xs := ts ++ [t]) rfl (decide_eq_true (show _ ≤ 1000000 by simp; lia))
  have e : (!(ts ++ [t]).isEmpty) = true := by cases ts <;> rfl
  rw [e] at this; exact this
/-- from a task on top to its answer, in N turns; h: room for the tasks laid meanwhile -/
noncomputable def GoR (ak : List Str) (e x : AV) (sb : AV) (h : Nat) (cnt : Str → Nat) (n : Nat) (y : AV) (cnt' : Str → Nat) (n' : Nat) : Prop :=
  ∀ c, Sx ak cnt n c → ∃ c', Sx ak cnt' n' c' ∧ ∃ N, ∀ W d V ts ds rs, rs.length = 9 → ts.length + h ≤ 900 → ds.length + h ≤ 900 →
    ∃ rs', rs'.length = 9 ∧ wR W d (V + N) (RL e (ts ++ [.tup [x, sb, .none]]) ds rs) c = wR W d V (RL e ts (ds ++ [y]) rs') c'
theorem goR_leaf {ak : List Str} {e sb p : AV} {k f h n : Nat} {fs : List AV} {cnt : Str → Nat} (hm : methOf k 1 = some f) (hf : ∀ W d c, ∃ o : RV, PhiR W d f [.obj k fs] c = some (o, c) ∧ o.av = .list [])
    (hL : ∀ W d c, PhiR W d 22 [aRn, .obj k fs, sb] c = some (.v p, c)) : GoR ak e (.obj k fs) sb h cnt n p cnt n := by
  intro c hc
  refine ⟨c, hc, 1, fun W d V ts ds rs hr ht hd => ?_⟩
  refine ex_9_1 (nine hr) fun r0 r1 r2 r3 r4 r5 r6 r7 r8 eq0 => ?_
  subst eq0
  refine ex_1_2 (hf W d c) fun o ho ho2 => ?_
  refine ex_1_2 (run_leaf (Φ := PhiR W d) (W := W + 1) (e := e) (ts := ts) (ds := ds) (rs := []) (c := c) (nw := .none) (r0 := r0) (r1 := r1) (r2 := r2) (r3 := r3) (r4 := r4) (r5 := r5) (r6 := r6) (r7 := r7) (r8 := r8) (by lia) (by lia) ⟨f, hm, ho, ho2⟩ (hL W d c)) fun q hq hx => ?_
  exact ⟨q, hq, while_next (t_tasks (by lia)) hx⟩
/-- the same for parts laid one over the other -/
noncomputable def GoRs (ak : List Str) (e : AV) (ps : List (AV × AV)) (h : Nat) (cnt : Str → Nat) (n : Nat) (ys : List AV) (cnt' : Str → Nat) (n' : Nat) : Prop :=
  ∀ c, Sx ak cnt n c → ∃ c', Sx ak cnt' n' c' ∧ ∃ N, ∀ W d V ts ds rs, rs.length = 9 → ts.length + h ≤ 900 → ds.length + h ≤ 900 →
    ∃ rs', rs'.length = 9 ∧ wR W d (V + N) (RL e (ts ++ ps.reverse.map fun q => .tup [q.1, q.2, .none]) ds rs) c = wR W d V (RL e ts (ds ++ ys) rs') c'
theorem goRs_nil {ak : List Str} {e : AV} {h n : Nat} {cnt : Str → Nat} : GoRs ak e [] h cnt n [] cnt n :=
  fun c hc => ⟨c, hc, 0, fun W d V ts ds rs hr ht hd => ⟨rs, hr, by simp⟩⟩
theorem goRs_cons {ak : List Str} {e x sb y : AV} {ps : List (AV × AV)} {ys : List AV} {h h1 H n n1 n2 : Nat} {cnt cnt1 cnt2 : Str → Nat} (g : GoR ak e x sb h cnt n y cnt1 n1) (gs : GoRs ak e ps h1 cnt1 n1 ys cnt2 n2)
    (hH : h + ps.length ≤ H) (hH1 : h1 + 1 ≤ H) : GoRs ak e ((x, sb) :: ps) H cnt n (y :: ys) cnt2 n2 := by
  intro c hc
  obtain ⟨c1, hc1, N, hN⟩ := g c hc
  obtain ⟨c2, hc2, N1, hN1⟩ := gs c1 hc1
  refine ⟨c2, hc2, N1 + N, fun W d V ts ds rs hr ht hd => ?_⟩
  obtain ⟨rs1, hr1, e1⟩ := hN W d (V + N1) (ts ++ ps.reverse.map fun q => .tup [q.1, q.2, .none]) ds rs hr (by simp; lia) (by lia)
  obtain ⟨rs2, hr2, e2⟩ := hN1 W d V ts (ds ++ [y]) rs1 hr1 (by lia) (by simp; lia)
  refine ⟨rs2, hr2, ?_⟩
  have e3 := e1.trans e2
  simp only [List.append_assoc, List.singleton_append] at e3
  simp only [List.reverse_cons, List.map_append, List.map_cons, List.map_nil]
  rw [← Nat.add_assoc]
  exact e3
/-- a node: open, the parts, close -/
theorem goR_node {ak : List Str} {e : AV} {k f g g2 : Nat} {fs : List AV} {sb gr nw p : AV} {ps : List (AV × AV × AV)} {ys : List AV} {h H n n1 n2 : Nat} {cnt cnt1 cnt2 : Str → Nat}
    (hps : ps.length ≠ 0) (hp5 : ps.length ≤ 5) (hy : ys.length = ps.length) (hw : isNone nw = false)
    (hm : methOf k 1 = some f) (hf : ∀ W d c, ∃ o : RV, PhiR W d f [.obj k fs] c = some (o, c) ∧ o.av = .list (ps.map fun q => .tup [q.1, q.2.1]))
    (hm0 : methOf k 0 = some g) (hg : ∀ W d c, ∃ o : RV, PhiR W d g [.obj k fs] c = some (o, c) ∧ o.av = gr)
    (hn : ∀ c, Sx ak cnt n c → ∃ c', Sx ak cnt1 n1 c' ∧ ∀ W d, PhiR W d 20 [aRn, gr] c = some (.v nw, c'))
    (hi : ∀ q ∈ ps, ∀ W d c, ∃ o : RV, o.av = q.2.2 ∧ PhiR W d 21 [aRn, sb, q.2.1, gr, nw] c = some (o, c))
    (gs : GoRs ak e (ps.map fun q => (q.1, q.2.2)) h cnt1 n1 ys cnt2 n2)
    (hm2 : methOf k 2 = some g2) (hc : ∀ W d c, ∃ o : RV, PhiR W d g2 [.obj k fs, nw, .list ys] c = some (o, c) ∧ o.av = p)
    (hH : h + 1 ≤ H) (hH5 : 6 ≤ H) : GoR ak e (.obj k fs) sb H cnt n p cnt2 n2 := by
  intro c hs
  refine ex_1_2 (hn c hs) fun c1 hs1 hn1 => ?_
  obtain ⟨c2, hs2, N, hN⟩ := gs c1 hs1
  refine ⟨c2, hs2, 1 + N + 1, fun W d V ts ds rs hr ht hd => ?_⟩
  refine ex_9_1 (nine hr) fun r0 r1 r2 r3 r4 r5 r6 r7 r8 eq0 => ?_
  subst eq0
  refine ex_1_2 (hf W d c) fun o1 ho1 ho1' => ?_
  refine ex_1_2 (hg W d c) fun o2 ho2 ho2' => ?_
  refine ex_1_2 (run_open (Φ := PhiR W d) (W := W + 1) (e := e) (ts := ts) (ds := ds) (nm := sb) (nw := nw) (r0 := r0) (r1 := r1) (r2 := r2) (r3 := r3) (r4 := r4) (r5 := r5) (r6 := r6) (r7 := r7) (r8 := r8) (by lia) hps hm ho1 ho1' hm0 ho2 ho2' (hn1 W d) rfl (fun q hq => hi q hq W d c1)) fun q hq hx => ?_
  obtain ⟨rs1, hr1, e1⟩ := hN W d (V + 1) (ts ++ [.tup [.obj k fs, sb, nw]]) ds q hq (by simp; lia) (by lia)
  refine ex_9_1 (nine hr1) fun r0 r1 r2 r3 r4 r5 r6 r7 r8 eq0 => ?_
  subst eq0
  refine ex_1_2 (hf W d c2) fun o3 ho3 ho3' => ?_
  refine ex_1_2 (hc W d c2) fun o4 ho4 ho4' => ?_
  refine ex_1_2 (run_close (Φ := PhiR W d) (W := W + 1) (e := e) (ts := ts) (ds := ds) (rs := ys) (nm := sb) (nw := nw) (ps := ps.map fun q => .tup [q.1, q.2.1]) (r0 := r0) (r1 := r1) (r2 := r2) (r3 := r3) (r4 := r4) (r5 := r5) (r6 := r6) (r7 := r7) (r8 := r8) (by lia) (by lia) (by simpa using hps) (by simpa using hy) hw hm ho3 ho3' hm2 ho4 ho4') fun q2 hq2 hx2 => ?_
  refine ⟨q2, hq2, ?_⟩
  have s1 := while_next (n := V + 1 + N) (t_tasks (Φ := PhiR W d) (e := e) (ts := ts) (t := .tup [.obj k fs, sb, .none]) (ds := ds) (c := c) (by lia)) hx
  have s2 := while_next (n := V) (t_tasks (Φ := PhiR W d) (e := e) (ts := ts) (t := .tup [.obj k fs, sb, nw]) (ds := ds ++ ys) (c := c2) (by lia)) hx2
  have e0 : V + (1 + N + 1) = V + 1 + N + 1 := by lia
  rw [e0]
  refine s1.trans (Eq.trans ?_ s2)
  have e2 : ((ps.map fun q => (q.1, q.2.2)).reverse.map fun q : AV × AV => AV.tup [q.1, q.2, .none]) = ps.reverse.map fun q => AV.tup [q.1, q.2.2, .none] := by rw [← List.map_reverse, List.map_map]; rfl
  rw [e2] at e1
  exact e1
end Mine
end
section
open PySem PySem.W PyProof.Rows
set_option Elab.async false
set_option maxRecDepth 100000
set_option linter.unusedVariables false
set_option linter.unusedSimpArgs false
namespace Mine
/-! the renamer on atoms -/
variable {ak : List Str} {e : AV} {d : Dc} {h n : Nat} {cnt : Str → Nat} {x y : Str}
theorem goR_var_in (hg : d.get x = some (.str y)) (hc : d.1.contains x = true) : GoR ak e (eV x) d.av h cnt n (eV y) cnt n :=
  goR_leaf (f := 1) rfl (fun W d c => ⟨_, var_parts, rfl⟩) (fun W _ c => leaf_in hg hc)
theorem goR_var_out (hc : d.1.contains x = false) : GoR ak e (eV x) d.av h cnt n (eV x) cnt n :=
  goR_leaf (f := 1) rfl (fun W d c => ⟨_, var_parts, rfl⟩) (fun W _ c => leaf_out hc)
theorem goR_lit {a b : AV} : GoR ak e (.obj 1 [a, b]) d.av h cnt n (.obj 1 [a, b]) cnt n :=
  goR_leaf (f := 4) rfl (fun W d c => ⟨_, lit_parts, rfl⟩) (fun W _ c => leaf_other (by decide) (by decide))
theorem goR_con0 {a : AV} : GoR ak e (.obj 6 [a, .list []]) d.av h cnt n (.obj 6 [a, .list []]) cnt n :=
  goR_leaf (f := 16) rfl (fun W d c => ⟨_, con_parts0, rfl⟩) (fun W _ c => leaf_other (by decide) (by decide))
theorem goR_con1 {a p q : AV} (g : GoR ak e p d.av h cnt n q cnt n) : GoR ak e (.obj 6 [a, .list [p]]) d.av (h + 6) cnt n (.obj 6 [a, .list [q]]) cnt n :=
  goR_node (f := 16) (g := 15) (g2 := 17) (ps := [(p, .tup [], d.av)]) (ys := [q]) (gr := .list []) (nw := .list []) (h := h + 1) (by simp) (by simp) rfl rfl rfl (fun W d c => ⟨_, con_parts1, rfl⟩) rfl (fun W d c => ⟨_, con_groups, rfl⟩)
    (fun c hc => ⟨c, hc, fun W d => new_groups (xs := []) (ys := []) (by simp) (by decide) rfl⟩)
    (fun q hq W _ c => by simp only [List.mem_singleton] at hq; subst hq; exact ⟨_, rfl, inner_nil⟩)
    (goRs_cons g (goRs_nil (h := 0)) (by simp) (by lia)) rfl (fun W d c => ⟨_, con_rebuilt, rfl⟩) (by lia) (by lia)
end Mine
end
section
open PySem PySem.W PyProof.Rows
set_option Elab.async false
set_option maxRecDepth 100000
set_option linter.unusedVariables false
set_option linter.unusedSimpArgs false
namespace Mine
/-! names made already; new names -/
noncomputable def old (cnt : Str → Nat) (x : Str) : Prop := ∃ b, dotless b ∧ 0 < b.length ∧ b.length ≤ 10 ∧ (x = b ∨ ∃ k, 1 ≤ k ∧ k ≤ cnt b ∧ x = dn b k)
noncomputable def le (cnt cnt' : Str → Nat) : Prop := ∀ b, cnt b ≤ cnt' b
theorem le.refl {a : Str → Nat} : le a a := fun _ => Nat.le_refl _
theorem le.trans {a b c : Str → Nat} (h : le a b) (h2 : le b c) : le a c := fun x => Nat.le_trans (h x) (h2 x)
theorem old.mono {cnt cnt' : Str → Nat} {x : Str} (h : old cnt x) (hl : le cnt cnt') : old cnt' x := by
  refine ex_1_4 (h) fun b h1 h2 h3 h4 => ?_
  refine ⟨b, h1, h2, h3, ?_⟩
  rcases h4 with h4 | ⟨k, h5, h6, h7⟩
  · exact .inl h4
  · exact .inr ⟨k, h5, Nat.le_trans h6 (hl b), h7⟩
theorem next_new {x : Str} {ak : List Str} {cnt : Str → Nat} {n : Nat} {c : Cells} (ho : old cnt x) (hs : Sx ak cnt n c) (hn : n < 100000) :
    ∃ y cnt' c', (∀ W d, callF tab fun? (W + 1) (d + 2) 37 [aFr, .str x] c = some (.v (.str y), c')) ∧ Sx ak cnt' (n + 1) c' ∧ ¬ old cnt y ∧ old cnt' y ∧ le cnt cnt' := by
  refine ex_1_4 (ho) fun b h1 h2 h3 h4 => ?_
  have hb : BaseOf x b := by
    refine ⟨h1, h2, h3, ?_⟩
    rcases h4 with h4 | ⟨k, h5, h6, h7⟩
    · exact .inl h4
    · refine ex_5_5 (hs) fun _ _ _ _ _ _ _ _ q _ => ?_
      have := q b
      exact .inr ⟨k, by lia, h7⟩
  refine ex_1_2 (next_ans (W := 0) (d := 0) hb hs hn) fun c' g1 g2 => ?_
  refine ⟨_, _, c', g1, g2, ?_, ⟨b, h1, h2, h3, .inr ⟨cnt b + 1, by lia, by simp [bump], rfl⟩⟩, fun y => by unfold bump; split <;> simp_all⟩
  rintro ⟨b', q1, q2, q3, q4 | ⟨k, q5, q6, q7⟩⟩
  · rw [← q4] at q1; exact q1 (dn_dot ..)
  · obtain ⟨e1, e2⟩ := dn_inj q7 h1 q1
    subst e1; lia
end Mine
end
section
open PySem PySem.W PyProof.Rows
set_option Elab.async false
set_option maxRecDepth 100000
set_option linter.unusedVariables false
set_option linter.unusedSimpArgs false
namespace Mine
/-! the trees' meaning, in plain Lean -/
inductive Vl where
  | I (n : Int)
  | C (n : Int)
  | D
noncomputable abbrev Env := Str → Option Vl
noncomputable def upd {α : Type} (s : Str → Option α) (x : Str) (a : α) : Str → Option α := fun y => if y = x then some a else s y
theorem upd_same {α : Type} {s : Str → Option α} {x : Str} {a : α} : upd s x a x = some a := by simp [upd]
theorem upd_ne {α : Type} {s : Str → Option α} {x y : Str} {a : α} (h : y ≠ x) : upd s x a y = s y := by simp [upd, h]
noncomputable def wA : At → Env → Option Vl
  | .v x, r => r x
  | .n k, _ => some (.I k)
  | .c x, r => match r x with
    | some (.I n) => some (.C n)
    | _ => none
  | .d, _ => some .D
/-- does the key fit the value; what the field is then -/
noncomputable def mt : Ky → Vl → Option (Option (List Int))
  | .c _, .C n => some (some [n])
  | .c _, _ => some none
  | .d, .D => some (some [])
  | .d, _ => some none
  | .n k, .I n => some (if k = n then some [] else none)
  | .n _, .D => some none
  | .n _, .C _ => none
noncomputable def fl : Ky → List Str
  | .c f => [f]
  | _ => []
noncomputable def updF (r : Env) : List Str → List Int → Env
  | f :: fs, n :: ns => updF (upd r f (.I n)) fs ns
  | _, _ => r
noncomputable def worth : Tm → Env → Option Int
  | .lit n, _ => some n
  | .lt x a t, r => match wA a r with
    | some v => worth t (upd r x v)
    | none => none
  | .c0 a o z, r => match wA a r with
    | some v => worth z (upd r o v)
    | none => none
  | .c1 a o k t z, r => match wA a r with
    | some v => match mt k v with
      | some (some m) => worth t (updF (upd r o v) (fl k) m)
      | some none => worth z (upd r o v)
      | none => none
    | none => none
  | .c2 a o k t k' t' z, r => match wA a r with
    | some v => match mt k v with
      | some (some m) => worth t (updF (upd r o v) (fl k) m)
      | some none => match mt k' v with
        | some (some m) => worth t' (updF (upd r o v) (fl k') m)
        | some none => worth z (upd r o v)
        | none => none
      | none => none
    | none => none
/-- names: of binders, how many; height -/
noncomputable def nb : Tm → Nat
  | .lit _ => 0
  | .lt _ _ t => 1 + nb t
  | .c0 _ _ z => 1 + nb z
  | .c1 _ _ k t z => 1 + (fl k).length + nb t + nb z
  | .c2 _ _ k t k' t' z => 1 + (fl k).length + (fl k').length + nb t + nb t' + nb z
noncomputable def ht : Tm → Nat
  | .lit _ => 0
  | .lt _ _ t => 1 + ht t
  | .c0 _ _ z => 1 + ht z
  | .c1 _ _ _ t z => 1 + max (ht t) (ht z)
  | .c2 _ _ _ t _ t' z => 1 + max (ht t) (max (ht t') (ht z))
/-- binders are not in scope where they stand -/
noncomputable def wf : Tm → (Str → Prop) → Prop
  | .lit _, _ => True
  | .lt x _ t, D => ¬ D x ∧ wf t (fun y => D y ∨ y = x)
  | .c0 _ o z, D => ¬ D o ∧ wf z (fun y => D y ∨ y = o)
  | .c1 _ o k t z, D => ¬ D o ∧ (∀ f ∈ fl k, ¬ D f ∧ f ≠ o) ∧ wf t (fun y => D y ∨ y = o ∨ y ∈ fl k) ∧ wf z (fun y => D y ∨ y = o)
  | .c2 _ o k t k' t' z, D => ¬ D o ∧ (∀ f ∈ fl k, ¬ D f ∧ f ≠ o) ∧ (∀ f ∈ fl k', ¬ D f ∧ f ≠ o) ∧ wf t (fun y => D y ∨ y = o ∨ y ∈ fl k) ∧ wf t' (fun y => D y ∨ y = o ∨ y ∈ fl k') ∧ wf z (fun y => D y ∨ y = o)
/-- binders' names are made already -/
noncomputable def bo (cnt : Str → Nat) : Tm → Prop
  | .lit _ => True
  | .lt x _ t => old cnt x ∧ bo cnt t
  | .c0 _ o z => old cnt o ∧ bo cnt z
  | .c1 _ o k t z => old cnt o ∧ (∀ f ∈ fl k, old cnt f) ∧ bo cnt t ∧ bo cnt z
  | .c2 _ o k t k' t' z => old cnt o ∧ (∀ f ∈ fl k, old cnt f) ∧ (∀ f ∈ fl k', old cnt f) ∧ bo cnt t ∧ bo cnt t' ∧ bo cnt z
theorem bo.mono {cnt cnt' : Str → Nat} (hl : le cnt cnt') : ∀ {t : Tm}, bo cnt t → bo cnt' t
  | .lit _, _ => trivial
  | .lt x _ t, ⟨h, h2⟩ => ⟨h.mono hl, bo.mono hl h2⟩
  | .c0 _ o z, ⟨h, h2⟩ => ⟨h.mono hl, bo.mono hl h2⟩
  | .c1 _ o k t z, ⟨h, h2, h3, h4⟩ => ⟨h.mono hl, fun f hf => (h2 f hf).mono hl, bo.mono hl h3, bo.mono hl h4⟩
  | .c2 _ o k t k' t' z, ⟨h, h2, h3, h4, h5, h6⟩ => ⟨h.mono hl, fun f hf => (h2 f hf).mono hl, fun f hf => (h3 f hf).mono hl, bo.mono hl h4, bo.mono hl h5, bo.mono hl h6⟩
theorem wf.mono : ∀ {t : Tm} {D D' : Str → Prop}, wf t D → (∀ x, D' x → D x) → wf t D'
  | .lit _, D, D', _, _ => trivial
  | .lt x _ t, D, D', ⟨h, h2⟩, hd => ⟨fun q => h (hd _ q), wf.mono h2 fun y hy => hy.imp (hd y) id⟩
  | .c0 _ o z, D, D', ⟨h, h2⟩, hd => ⟨fun q => h (hd _ q), wf.mono h2 fun y hy => hy.imp (hd y) id⟩
  | .c1 _ o k t z, D, D', ⟨h, h2, h3, h4⟩, hd => ⟨fun q => h (hd _ q), fun f hf => ⟨fun q => (h2 f hf).1 (hd _ q), (h2 f hf).2⟩, wf.mono h3 fun y hy => hy.imp (hd y) id, wf.mono h4 fun y hy => hy.imp (hd y) id⟩
  | .c2 _ o k t k' t' z, D, D', ⟨h, h2, h3, h4, h5, h6⟩, hd => ⟨fun q => h (hd _ q), fun f hf => ⟨fun q => (h2 f hf).1 (hd _ q), (h2 f hf).2⟩, fun f hf => ⟨fun q => (h3 f hf).1 (hd _ q), (h3 f hf).2⟩, wf.mono h4 fun y hy => hy.imp (hd y) id, wf.mono h5 fun y hy => hy.imp (hd y) id, wf.mono h6 fun y hy => hy.imp (hd y) id⟩
/-- one world has all that the other has -/
noncomputable def sub (r r' : Env) : Prop := ∀ x v, r x = some v → r' x = some v
theorem sub.upd {r r' : Env} (h : sub r r') {x : Str} {v : Vl} : sub (upd r x v) (upd r' x v) := by
  intro y w hy
  by_cases e : y = x
  · subst e; rwa [upd_same] at hy ⊢
  · rw [upd_ne e] at hy ⊢; exact h y w hy
theorem sub.updF : ∀ {fs : List Str} {ns : List Int} {r r' : Env}, sub r r' → sub (updF r fs ns) (updF r' fs ns)
  | [], _, _, _, h => by simpa [Mine.updF] using h
  | _ :: _, [], _, _, h => by simpa [Mine.updF] using h
  | f :: fs, n :: ns, _, _, h => sub.updF (fs := fs) (ns := ns) h.upd
theorem wA_mono {r r' : Env} (h : sub r r') {a : At} {v : Vl} (hv : wA a r = some v) : wA a r' = some v := by
  cases a with
  | v x => exact h x v hv
  | n k => exact hv
  | c x =>
    simp only [wA] at hv ⊢
    cases hr : r x with
    | none => simp [hr] at hv
    | some w => rw [h x w hr]; rw [hr] at hv; exact hv
  | d => exact hv
theorem worth_mono : ∀ {t : Tm} {r r' : Env} {n : Int}, sub r r' → worth t r = some n → worth t r' = some n
  | .lit _, r, r', n, h, hw => hw
  | .lt x a t, r, r', n, h, hw => by
    simp only [worth] at hw ⊢
    cases ha : wA a r with
    | none => simp [ha] at hw
    | some v => rw [wA_mono h ha]; rw [ha] at hw; exact worth_mono h.upd hw
  | .c0 a o z, r, r', n, h, hw => by
    simp only [worth] at hw ⊢
    cases ha : wA a r with
    | none => simp [ha] at hw
    | some v => rw [wA_mono h ha]; rw [ha] at hw; exact worth_mono h.upd hw
  | .c1 a o k t z, r, r', n, h, hw => by
    simp only [worth] at hw ⊢
    cases ha : wA a r with
    | none => simp [ha] at hw
    | some v =>
      rw [wA_mono h ha]; rw [ha] at hw; simp only at hw ⊢
      rcases hm : mt k v with _ | _ | m <;> simp only [hm] at hw ⊢
      · cases hw
      · exact worth_mono h.upd hw
      · exact worth_mono h.upd.updF hw
  | .c2 a o k t k' t' z, r, r', n, h, hw => by
    simp only [worth] at hw ⊢
    cases ha : wA a r with
    | none => simp [ha] at hw
    | some v =>
      rw [wA_mono h ha]; rw [ha] at hw; simp only at hw ⊢
      rcases hm : mt k v with _ | _ | m <;> simp only [hm] at hw ⊢
      · cases hw
      · rcases hm' : mt k' v with _ | _ | m' <;> simp only [hm'] at hw ⊢
        · cases hw
        · exact worth_mono h.upd hw
        · exact worth_mono h.upd.updF hw
      · exact worth_mono h.upd.updF hw
/-! dicts that stand for a map -/
noncomputable def Rd {α : Type} (enc : α → AV) (d : Dc) (s : Str → Option α) (m : Nat) : Prop := d.1.length = d.2.length ∧ d.1.length ≤ m ∧ ∀ x, d.get x = (s x).map enc
theorem Rd.nil {α : Type} {enc : α → AV} {m : Nat} : Rd enc ([], []) (fun _ => none) m := ⟨rfl, Nat.zero_le _, fun x => rfl⟩
theorem Rd.put {α : Type} {enc : α → AV} {d : Dc} {s : Str → Option α} {m : Nat} (h : Rd enc d s m) {x : Str} {a : α} : Rd enc (d.put x (enc a)) (upd s x a) (m + 1) := by
  refine ex_0_3 (h) fun h1 h2 h3 => ?_
  refine ⟨dput_len2 _ _ _ _ h1, ?_, fun y => ?_⟩
  · have := d.put_len x (enc a); lia
  · show dget _ _ _ = _
    rw [Dc.put, dget_dput _ _ _ _ _ h1]
    by_cases e : x = y
    · subst e; rw [if_pos rfl, upd_same]; rfl
    · rw [if_neg e, upd_ne (fun q => e q.symm)]; exact h3 y
theorem dget_contains : ∀ (ks : List Str) (vs : List AV) (x : Str), ks.length = vs.length → ks.contains x = (dget ks vs x).isSome
  | [], [], x, h => rfl
  | [], _ :: _, x, h => by simp at h
  | _ :: _, [], x, h => by simp at h
  | k :: ks, v :: vs, x, h => by
    have ih := dget_contains ks vs x (by simpa using h)
    simp only [dget, List.contains_cons, ih]
    by_cases e : k = x
    · subst e; simp
    · rw [if_neg e]; simp [show ¬ x = k from fun q => e q.symm]
theorem Rd.has {α : Type} {enc : α → AV} {d : Dc} {s : Str → Option α} {m : Nat} (h : Rd enc d s m) (x : Str) : d.1.contains x = (s x).isSome := by
  rw [dget_contains _ _ _ h.1, show dget d.1 d.2 x = d.get x from rfl, h.2.2]; cases s x <;> rfl
theorem Rd.le {α : Type} {enc : α → AV} {d : Dc} {s : Str → Option α} {m m' : Nat} (h : Rd enc d s m) (hm : m ≤ m') : Rd enc d s m' := ⟨h.1, Nat.le_trans h.2.1 hm, h.2.2⟩
end Mine
end
section
open PySem PySem.W PyProof.Rows
set_option Elab.async false
set_option maxRecDepth 100000
set_option linter.unusedVariables false
set_option linter.unusedSimpArgs false
namespace Mine
/-! new names, one, a row, rows of rows -/
noncomputable def NN (cnt : Str → Nat) (x y : Str) (cnt' : Str → Nat) : Prop := ¬ old cnt y ∧ old cnt' y ∧ le cnt cnt' ∧ ∀ ak n c, Sx ak cnt n c → n < 100000 →
  ∃ c', (∀ W d, callF tab fun? (W + 1) (d + 2) 37 [aFr, .str x] c = some (.v (.str y), c')) ∧ Sx ak cnt' (n + 1) c'
theorem nn_ex {cnt : Str → Nat} {x : Str} (ho : old cnt x) : ∃ y cnt', NN cnt x y cnt' := by
  refine ex_1_4 (ho) fun b h1 h2 h3 h4 => ?_
  refine ⟨dn b (cnt b + 1), bump cnt b, ?_, ⟨b, h1, h2, h3, .inr ⟨cnt b + 1, by lia, by simp [bump], rfl⟩⟩, fun y => by unfold bump; split <;> simp_all, ?_⟩
  · rintro ⟨b', q1, q2, q3, q4 | ⟨k, q5, q6, q7⟩⟩
    · rw [← q4] at q1; exact q1 (dn_dot ..)
    · obtain ⟨e1, e2⟩ := dn_inj q7 h1 q1
      subst e1; lia
  · intro ak n c hs hn
    have hb : BaseOf x b := by
      refine ⟨h1, h2, h3, ?_⟩
      rcases h4 with h4 | ⟨k, h5, h6, h7⟩
      · exact .inl h4
      · refine ex_5_5 (hs) fun _ _ _ _ _ _ _ _ q _ => ?_
        have := q b
        exact .inr ⟨k, by lia, h7⟩
    exact next_ans (W := 0) (d := 0) hb hs hn
noncomputable def NL : (Str → Nat) → List Str → List Str → (Str → Nat) → Prop
  | cnt, [], [], cnt' => cnt = cnt'
  | cnt, x :: xs, y :: ys, cnt' => ∃ c1, NN cnt x y c1 ∧ NL c1 xs ys cnt'
  | _, _, _, _ => False
theorem nl_ex : ∀ {xs : List Str} {cnt : Str → Nat}, (∀ x ∈ xs, old cnt x) → ∃ ys cnt', NL cnt xs ys cnt'
  | [], cnt, _ => ⟨[], cnt, rfl⟩
  | x :: xs, cnt, h => by
    refine ex_2_1 (nn_ex (h x (List.mem_cons_self ..))) fun y c1 h1 => ?_
    refine ex_2_1 (nl_ex (xs := xs) (cnt := c1) fun z hz => (h z (List.mem_cons_of_mem _ hz)).mono h1.2.2.1) fun ys c2 h2 => ?_
    exact ⟨y :: ys, c2, c1, h1, h2⟩
theorem nl_len : ∀ {xs ys : List Str} {cnt cnt' : Str → Nat}, NL cnt xs ys cnt' → ys.length = xs.length
  | [], [], _, _, _ => rfl
  | _ :: _, _ :: _, _, _, ⟨_, _, h⟩ => by simp [nl_len h]
theorem nl_le : ∀ {xs ys : List Str} {cnt cnt' : Str → Nat}, NL cnt xs ys cnt' → le cnt cnt'
  | [], [], _, _, h => by cases h; exact le.refl
  | _ :: _, _ :: _, _, _, ⟨_, h1, h⟩ => h1.2.2.1.trans (nl_le h)
theorem nl_new : ∀ {xs ys : List Str} {cnt cnt' : Str → Nat}, NL cnt xs ys cnt' → ∀ y ∈ ys, ¬ old cnt y ∧ old cnt' y
  | [], [], _, _, h, _, hy => by cases hy
  | _ :: _, _ :: _, _, _, ⟨_, h1, h⟩, y, hy => by
    rcases List.mem_cons.1 hy with e | e
    · subst e; exact ⟨h1.1, h1.2.1.mono (nl_le h)⟩
    · exact ⟨fun q => (nl_new h y e).1 (q.mono h1.2.2.1), (nl_new h y e).2⟩
theorem nl_run : ∀ {xs ys : List Str} {cnt cnt' : Str → Nat} {ak : List Str} {n : Nat} {c : Cells}, NL cnt xs ys cnt' → Sx ak cnt n c → n + xs.length < 100000 →
    ∃ c', (∀ W d, NxL (callF tab fun? (W + 1) (d + 2)) xs ys c c') ∧ Sx ak cnt' (n + xs.length) c'
  | [], [], _, _, _, _, c, h, hs, _ => by cases h; exact ⟨c, fun W d => rfl, hs⟩
  | x :: xs, y :: ys, cnt, cnt', ak, n, c, ⟨cm, h1, h⟩, hs, hn => by
    simp only [List.length_cons] at hn ⊢
    refine ex_1_2 (h1.2.2.2 ak n c hs (by lia)) fun c1 g1 g2 => ?_
    refine ex_1_2 (nl_run h g2 (by lia)) fun c2 g3 g4 => ?_
    exact ⟨c2, fun W d => ⟨c1, g1 W d, g3 W d⟩, by rw [show n + (xs.length + 1) = n + 1 + xs.length by lia]; exact g4⟩
noncomputable def NG : (Str → Nat) → List (List Str) → List (List Str) → (Str → Nat) → Prop
  | cnt, [], [], cnt' => cnt = cnt'
  | cnt, x :: xs, y :: ys, cnt' => ∃ c1, NL cnt x y c1 ∧ NG c1 xs ys cnt'
  | _, _, _, _ => False
noncomputable def tot : List (List Str) → Nat
  | [] => 0
  | x :: xs => x.length + tot xs
theorem ng_run : ∀ {xs ys : List (List Str)} {cnt cnt' : Str → Nat} {ak : List Str} {n : Nat} {c : Cells}, NG cnt xs ys cnt' → Sx ak cnt n c → n + tot xs < 100000 →
    ∃ c', (∀ W d, NxG (callF tab fun? (W + 1) (d + 2)) xs ys c c') ∧ Sx ak cnt' (n + tot xs) c'
  | [], [], _, _, _, _, c, h, hs, _ => by cases h; exact ⟨c, fun W d => rfl, hs⟩
  | x :: xs, y :: ys, cnt, cnt', ak, n, c, ⟨cm, h1, h⟩, hs, hn => by
    simp only [tot] at hn ⊢
    refine ex_1_2 (nl_run h1 hs (by lia)) fun c1 g1 g2 => ?_
    refine ex_1_2 (ng_run h g2 (by lia)) fun c2 g3 g4 => ?_
    exact ⟨c2, fun W d => ⟨c1, g1 W d, g3 W d⟩, by rw [← Nat.add_assoc]; exact g4⟩
/-- the premise that goR_node wants -/
theorem ng_hn {xs ys : List (List Str)} {cnt cnt' : Str → Nat} {ak : List Str} {n : Nat} (h : NG cnt xs ys cnt') (hn : n + tot xs < 100000) (hl : xs.length ≤ 9) (hs : ∀ x ∈ xs, x.length ≤ 9) :
    ∀ c, Sx ak cnt n c → ∃ c', Sx ak cnt' (n + tot xs) c' ∧ ∀ W d, PhiR W d 20 [aRn, eG xs] c = some (.v (eG ys), c') := by
  intro c hc
  refine ex_1_2 (ng_run h hc hn) fun c' h1 h2 => ?_
  exact ⟨c', h2, fun W d => new_groups hl hs (h1 W (d + 1))⟩
/-! the same key with another field name -/
noncomputable def kn : Ky → List Str → Ky
  | .c _, [y] => .c y
  | k, _ => k
theorem fl_kn {k : Ky} {ys : List Str} (h : ys.length = (fl k).length) : fl (kn k ys) = ys := by
  cases k with
  | c f =>
    match ys, h with
    | [y], _ => rfl
  | d => match ys, h with
    | [], _ => rfl
  | n j => match ys, h with
    | [], _ => rfl
theorem eK_kn {k : Ky} {ys : List Str} : eK (kn k ys) = eK k := by
  cases k <;> simp only [kn] <;> (try split) <;> first | rfl | simp_all [eK]
theorem mt_kn {k : Ky} {ys : List Str} {v : Vl} : mt (kn k ys) v = mt k v := by
  cases k <;> simp only [kn] <;> (try split) <;> first | rfl | (cases v <;> simp_all [mt])
theorem mt_len {k : Ky} {v : Vl} {m : List Int} (h : mt k v = some (some m)) : m.length = (fl k).length := by
  cases k <;> cases v <;> simp [mt] at h <;> first | (subst h; rfl) | (obtain ⟨_, rfl⟩ := h; rfl)
theorem fl_len {k : Ky} : (fl k).length ≤ 1 := by cases k <;> simp [fl]
theorem eF_fl {k : Ky} : eF k = (fl k).map .str := by cases k <;> rfl
theorem eF_eL {k : Ky} : AV.list (eF k) = eL (fl k) := by rw [eF_fl]; rfl
/-! substitutions grown by a row -/
noncomputable def putL (d : Dc) : List Str → List Str → Dc
  | f :: fs, g :: gs => putL (d.put f (.str g)) fs gs
  | _, _ => d
noncomputable def updL (s : Str → Option Str) : List Str → List Str → Str → Option Str
  | f :: fs, g :: gs => updL (upd s f g) fs gs
  | _, _ => s
theorem Rd.putL : ∀ {fs gs : List Str} {d : Dc} {s : Str → Option Str} {m : Nat}, Rd AV.str d s m → Rd AV.str (putL d fs gs) (updL s fs gs) (m + fs.length)
  | [], _, _, _, _, h => by simpa [Mine.putL, updL] using h
  | f :: fs, [], _, _, _, h => by simpa [Mine.putL, updL] using h.le (by lia)
  | f :: fs, g :: gs, d, s, m, h => by
    have := Rd.putL (fs := fs) (gs := gs) (h.put (x := f) (a := g))
    rw [show m + 1 + fs.length = m + (f :: fs).length by simp; lia] at this
    exact this
/-- scope 0, j -/
theorem inner_j {Φ : CallF} {W : Nat} {c : Cells} {p0 : AV} {d : Dc} {G G' : List AV} {x y : Str} {j : Nat} {k : Ky} {ys : List Str} (hG : G[0]? = some (.list [.str x])) (hG' : G'[0]? = some (.list [.str y])) (hJ : G[j]? = some (eL (fl k))) (hJ' : G'[j]? = some (eL ys)) (hy : ys.length = (fl k).length)
    (hl : G.length ≤ 9) (hl' : G'.length ≤ 9) (hd : d.1.length + 1 ≤ lim) : run W Φ 21 [p0, d.av, nums [0, j], .list G, .list G'] c = some (.v (putL (d.put x (.str y)) (fl k) ys).av, c) := by
  cases k with
  | c f =>
    match ys, hy with
    | [g], _ => exact inner_0j hG hG' hJ hJ' hl hl' hd
  | d => match ys, hy with
    | [], _ => exact inner_0e hG hG' hJ hl hl' (by lia)
  | n j => match ys, hy with
    | [], _ => exact inner_0e hG hG' hJ hl hl' (by lia)
/-! agreement of two worlds -/
noncomputable def Agr (cnt : Str → Nat) (r : Env) (s : Str → Option Str) (r' : Env) : Prop := ∀ y v, r y = some v → old cnt ((s y).getD y) ∧ r' ((s y).getD y) = some v
theorem Agr.mono {cnt cnt' : Str → Nat} {r r' : Env} {s : Str → Option Str} (h : Agr cnt r s r') (hl : le cnt cnt') : Agr cnt' r s r' := fun y v hy => ⟨(h y v hy).1.mono hl, (h y v hy).2⟩
theorem Agr.put {cnt cnt' : Str → Nat} {r r' : Env} {s : Str → Option Str} {x y : Str} {v : Vl} (h : Agr cnt r s r') (hn : NN cnt x y cnt') : Agr cnt' (upd r x v) (upd s x y) (upd r' y v) := by
  intro z w hz
  by_cases e : z = x
  · subst e; rw [upd_same] at hz ⊢; exact ⟨hn.2.1, by simpa [upd_same] using hz⟩
  · rw [upd_ne e] at hz ⊢
    obtain ⟨h1, h2⟩ := h z w hz
    refine ⟨h1.mono hn.2.2.1, ?_⟩
    have hne : (s z).getD z ≠ y := fun q => hn.1 (q ▸ h1)
    rw [upd_ne hne]; exact h2
theorem Agr.putL : ∀ {fs gs : List Str} {ns : List Int} {cnt cnt' : Str → Nat} {r r' : Env} {s : Str → Option Str}, Agr cnt r s r' → NL cnt fs gs cnt' → ns.length = fs.length → Agr cnt' (updF r fs ns) (updL s fs gs) (updF r' gs ns)
  | [], [], _, _, _, _, _, _, h, hn, _ => by cases hn; simpa [updF, updL] using h
  | f :: fs, g :: gs, n :: ns, cnt, cnt', r, r', s, h, ⟨c1, h1, h2⟩, hl => by
    have q : Agr c1 (upd r f (.I n)) (upd s f g) (upd r' g (.I n)) := h.put h1
    have := Agr.putL (fs := fs) (gs := gs) (ns := ns) q h2 (by simpa using hl)
    exact this
noncomputable def rA (s : Str → Option Str) : At → At
  | .v x => .v ((s x).getD x)
  | .c x => .c ((s x).getD x)
  | a => a
theorem wA_ren {cnt : Str → Nat} {r r' : Env} {s : Str → Option Str} (h : Agr cnt r s r') {a : At} {v : Vl} (hv : wA a r = some v) : wA (rA s a) r' = some v := by
  cases a with
  | v x => exact (h x v hv).2
  | n k => exact hv
  | c x =>
    simp only [wA, rA] at hv ⊢
    cases hr : r x with
    | none => simp [hr] at hv
    | some w => rw [(h x w hr).2]; rw [hr] at hv; exact hv
  | d => exact hv
theorem GoR.le {ak : List Str} {e x sb y : AV} {h h' n n' : Nat} {cnt cnt' : Str → Nat} (g : GoR ak e x sb h cnt n y cnt' n') (hh : h ≤ h') : GoR ak e x sb h' cnt n y cnt' n' := by
  intro c hc
  obtain ⟨c', h1, N, h2⟩ := g c hc
  exact ⟨c', h1, N, fun W d V ts ds rs hr ht hd => h2 W d V ts ds rs hr (by lia) (by lia)⟩
theorem goR_at {ak : List Str} {e : AV} {d : Dc} {s : Str → Option Str} {m n : Nat} {cnt : Str → Nat} (hd : Rd AV.str d s m) {a : At} : GoR ak e (eA a) d.av 7 cnt n (eA (rA s a)) cnt n := by
  have hv : ∀ {h : Nat} x, GoR ak e (eV x) d.av h cnt n (eV ((s x).getD x)) cnt n := by
    intro h x
    have h1 := hd.has x
    have h2 := hd.2.2 x
    cases hs : s x with
    | none => rw [hs] at h1; exact goR_var_out h1
    | some y => rw [hs] at h1 h2; exact goR_var_in h2 h1
  cases a with
  | v x => exact hv x
  | n k => exact goR_lit
  | c x => exact goR_con1 (h := 1) (hv x)
  | d => exact goR_con0
end Mine
end
section
open PySem PySem.W PyProof.Rows
set_option Elab.async false
set_option maxRecDepth 100000
set_option linter.unusedVariables false
set_option linter.unusedSimpArgs false
namespace Mine
/-! the renamer goes through any tree -/
noncomputable def top : Tm → Option At
  | .c0 a _ _ => some a
  | .c1 a _ _ _ _ => some a
  | .c2 a _ _ _ _ _ _ => some a
  | _ => none
structure Rn (cnt : Str → Nat) (s : Str → Option Str) (t t' : Tm) (cnt' : Str → Nat) : Prop where
  hle : le cnt cnt'
  hht : ht t' = ht t
  hnb : nb t' = nb t
  hbo : bo cnt' t'
  hwf : ∀ D : Str → Prop, (∀ x, D x → old cnt x) → wf t' D
  hw : ∀ r r' n, Agr cnt r s r' → worth t r = some n → worth t' r' = some n
  htop : top t' = (top t).map (rA s)
theorem new_ne {cnt cnt' c1 : Str → Nat} {x y : Str} {xs ys : List Str} (h : NN cnt x y c1) (h2 : NL c1 xs ys cnt') : ∀ f ∈ ys, f ≠ y := fun f hf e => (nl_new h2 f hf).1 (e ▸ h.2.1)
theorem rn_lit {cnt : Str → Nat} {s : Str → Option Str} {n : Int} : Rn cnt s (.lit n) (.lit n) cnt where
  hle := le.refl
  hht := rfl
  hnb := rfl
  hbo := trivial
  hwf := fun _ _ => trivial
  hw := fun _ _ _ _ h => h
  htop := rfl
theorem rn_lt {cnt c1 c2 : Str → Nat} {s : Str → Option Str} {x x' : Str} {a : At} {t t' : Tm} (h : NN cnt x x' c1) (g : Rn c1 (upd s x x') t t' c2) : Rn cnt s (.lt x a t) (.lt x' (rA s a) t') c2 where
  hle := h.2.2.1.trans g.hle
  hht := by simp only [ht, g.hht]
  hnb := by simp only [nb, g.hnb]
  hbo := ⟨h.2.1.mono g.hle, g.hbo⟩
  hwf := fun D hD => ⟨fun q => h.1 (hD _ q), g.hwf _ fun y hy => hy.elim (fun q => (hD y q).mono h.2.2.1) (fun q => q ▸ h.2.1)⟩
  hw := fun r r' n hr hw => by
    simp only [worth] at hw ⊢
    cases ha : wA a r with
    | none => simp [ha] at hw
    | some v => rw [wA_ren hr ha]; rw [ha] at hw; exact g.hw _ _ _ (hr.put h) hw
  htop := rfl
theorem rn_c0 {cnt c1 c2 : Str → Nat} {s : Str → Option Str} {x x' : Str} {a : At} {t t' : Tm} (h : NN cnt x x' c1) (g : Rn c1 (upd s x x') t t' c2) : Rn cnt s (.c0 a x t) (.c0 (rA s a) x' t') c2 where
  hle := h.2.2.1.trans g.hle
  hht := by simp only [ht, g.hht]
  hnb := by simp only [nb, g.hnb]
  hbo := ⟨h.2.1.mono g.hle, g.hbo⟩
  hwf := fun D hD => ⟨fun q => h.1 (hD _ q), g.hwf _ fun y hy => hy.elim (fun q => (hD y q).mono h.2.2.1) (fun q => q ▸ h.2.1)⟩
  hw := fun r r' n hr hw => by
    simp only [worth] at hw ⊢
    cases ha : wA a r with
    | none => simp [ha] at hw
    | some v => rw [wA_ren hr ha]; rw [ha] at hw; exact g.hw _ _ _ (hr.put h) hw
  htop := rfl
theorem rn_c1 {cnt c1 c2 c3 c4 : Str → Nat} {s : Str → Option Str} {x x' : Str} {a : At} {k : Ky} {ys : List Str} {t t' z z' : Tm} (h : NN cnt x x' c1) (hy : NL c1 (fl k) ys c2) (g : Rn c2 (updL (upd s x x') (fl k) ys) t t' c3) (gz : Rn c3 (upd s x x') z z' c4) :
    Rn cnt s (.c1 a x k t z) (.c1 (rA s a) x' (kn k ys) t' z') c4 where
  hle := h.2.2.1.trans ((nl_le hy).trans (g.hle.trans gz.hle))
  hht := by simp only [ht, g.hht, gz.hht]
  hnb := by simp only [nb, g.hnb, gz.hnb, fl_kn (nl_len hy), nl_len hy]
  hbo := ⟨h.2.1.mono ((nl_le hy).trans (g.hle.trans gz.hle)), fun f hf => by rw [fl_kn (nl_len hy)] at hf; exact (nl_new hy f hf).2.mono (g.hle.trans gz.hle), g.hbo.mono gz.hle, gz.hbo⟩
  hwf := fun D hD => by
    refine ⟨fun q => h.1 (hD _ q), fun f hf => ?_, g.hwf _ fun y hy' => ?_, gz.hwf _ fun y hy' => ?_⟩
    · rw [fl_kn (nl_len hy)] at hf
      exact ⟨fun q => (nl_new hy f hf).1 ((hD f q).mono h.2.2.1), new_ne h hy f hf⟩
    · rw [fl_kn (nl_len hy)] at hy'
      rcases hy' with q | q | q
      · exact (hD y q).mono (h.2.2.1.trans (nl_le hy))
      · exact (q ▸ h.2.1).mono (nl_le hy)
      · exact (nl_new hy y q).2
    · rcases hy' with q | q
      · exact (hD y q).mono (h.2.2.1.trans ((nl_le hy).trans g.hle))
      · exact (q ▸ h.2.1).mono ((nl_le hy).trans g.hle)
  hw := fun r r' n hr hw => by
    simp only [worth] at hw ⊢
    cases ha : wA a r with
    | none => simp [ha] at hw
    | some v =>
      rw [wA_ren hr ha]; rw [ha] at hw; simp only at hw ⊢; rw [mt_kn, fl_kn (nl_len hy)]
      rcases hm : mt k v with _ | _ | m <;> simp only [hm] at hw ⊢
      · cases hw
      · exact gz.hw _ _ _ ((hr.put h).mono ((nl_le hy).trans g.hle)) hw
      · exact g.hw _ _ _ ((hr.put h).putL hy (mt_len hm)) hw
  htop := rfl
theorem rn_c2 {cnt c1 c2 c2' c3 c3' c4 : Str → Nat} {s : Str → Option Str} {x x' : Str} {a : At} {k k' : Ky} {ys ys' : List Str} {t t' u u' z z' : Tm} (h : NN cnt x x' c1) (hy : NL c1 (fl k) ys c2) (hy' : NL c2 (fl k') ys' c2') (g : Rn c2' (updL (upd s x x') (fl k) ys) t t' c3)
    (g' : Rn c3 (updL (upd s x x') (fl k') ys') u u' c3') (gz : Rn c3' (upd s x x') z z' c4) :
    Rn cnt s (.c2 a x k t k' u z) (.c2 (rA s a) x' (kn k ys) t' (kn k' ys') u' z') c4 where
  hle := h.2.2.1.trans ((nl_le hy).trans ((nl_le hy').trans (g.hle.trans (g'.hle.trans gz.hle))))
  hht := by simp only [ht, g.hht, g'.hht, gz.hht]
  hnb := by simp only [nb, g.hnb, g'.hnb, gz.hnb, fl_kn (nl_len hy), nl_len hy, fl_kn (nl_len hy'), nl_len hy']
  hbo := by
    have e1 := g.hle.trans (g'.hle.trans gz.hle)
    refine ⟨h.2.1.mono ((nl_le hy).trans ((nl_le hy').trans e1)), fun f hf => ?_, fun f hf => ?_, g.hbo.mono (g'.hle.trans gz.hle), g'.hbo.mono gz.hle, gz.hbo⟩
    · rw [fl_kn (nl_len hy)] at hf; exact (nl_new hy f hf).2.mono ((nl_le hy').trans e1)
    · rw [fl_kn (nl_len hy')] at hf; exact (nl_new hy' f hf).2.mono e1
  hwf := fun D hD => by
    have e0 := (nl_le hy).trans (nl_le hy')
    refine ⟨fun q => h.1 (hD _ q), fun f hf => ?_, fun f hf => ?_, g.hwf _ fun y hq => ?_, g'.hwf _ fun y hq => ?_, gz.hwf _ fun y hq => ?_⟩
    · rw [fl_kn (nl_len hy)] at hf
      exact ⟨fun q => (nl_new hy f hf).1 ((hD f q).mono h.2.2.1), new_ne h hy f hf⟩
    · rw [fl_kn (nl_len hy')] at hf
      refine ⟨fun q => (nl_new hy' f hf).1 ((hD f q).mono (h.2.2.1.trans (nl_le hy))), fun e => (nl_new hy' f hf).1 (e ▸ (h.2.1.mono (nl_le hy)))⟩
    · rw [fl_kn (nl_len hy)] at hq
      rcases hq with q | q | q
      · exact (hD y q).mono (h.2.2.1.trans e0)
      · exact (q ▸ h.2.1).mono e0
      · exact (nl_new hy y q).2.mono (nl_le hy')
    · rw [fl_kn (nl_len hy')] at hq
      rcases hq with q | q | q
      · exact (hD y q).mono (h.2.2.1.trans (e0.trans g.hle))
      · exact (q ▸ h.2.1).mono (e0.trans g.hle)
      · exact (nl_new hy' y q).2.mono g.hle
    · rcases hq with q | q
      · exact (hD y q).mono (h.2.2.1.trans (e0.trans (g.hle.trans g'.hle)))
      · exact (q ▸ h.2.1).mono (e0.trans (g.hle.trans g'.hle))
  hw := fun r r' n hr hw => by
    have e0 := (nl_le hy).trans (nl_le hy')
    simp only [worth] at hw ⊢
    cases ha : wA a r with
    | none => simp [ha] at hw
    | some v =>
      rw [wA_ren hr ha]; rw [ha] at hw; simp only at hw ⊢; rw [mt_kn, fl_kn (nl_len hy), mt_kn, fl_kn (nl_len hy')]
      rcases hm : mt k v with _ | _ | m <;> simp only [hm] at hw ⊢
      · cases hw
      · rcases hm' : mt k' v with _ | _ | m' <;> simp only [hm'] at hw ⊢
        · cases hw
        · exact gz.hw _ _ _ ((hr.put h).mono (e0.trans (g.hle.trans g'.hle))) hw
        · exact g'.hw _ _ _ ((((hr.put h).mono (nl_le hy)).putL hy' (mt_len hm')).mono g.hle) hw
      · exact g.hw _ _ _ (((hr.put h).putL hy (mt_len hm)).mono (nl_le hy')) hw
  htop := rfl
theorem ren_go {ak : List Str} {e : AV} : ∀ (t : Tm) {d : Dc} {s : Str → Option Str} {m n : Nat} {cnt : Str → Nat}, Rd AV.str d s m → m + 2 * ht t ≤ 1000 → bo cnt t → n + nb t < 100000 →
    ∃ t' cnt', Rn cnt s t t' cnt' ∧ GoR ak e (eT t) d.av (20 + 10 * ht t) cnt n (eT t') cnt' (n + nb t)
  | .lit j, d, s, m, n, cnt, hd, hm, hb, hn => ⟨.lit j, cnt, rn_lit, goR_lit⟩
  | .lt x a t, d, s, m, n, cnt, hd, hm, hb, hn => by
    simp only [nb, ht] at hm hn
    obtain ⟨x', c1, hx⟩ := nn_ex hb.1
    obtain ⟨t', c2, h1, h2⟩ := ren_go t (hd.put (x := x) (a := x')) (cnt := c1) (n := n + 1) (by lia) (hb.2.mono hx.2.2.1) (by lia)
    refine ⟨.lt x' (rA s a) t', c2, rn_lt hx h1, ?_⟩
    have hng : NG cnt [[x]] [[x']] c1 := ⟨c1, ⟨c1, hx, rfl⟩, rfl⟩
    have hlim : d.1.length ≤ lim := by have := hd.2.1; unfold lim; lia
    refine goR_node (n1 := n + 1) (h := 24 + 10 * ht t) (f := 10) (g := 9) (g2 := 11) (ps := [(eA a, nums [], d.av), (eT t, nums [0], (d.put x (.str x')).av)]) (ys := [eA (rA s a), eT t']) (gr := eG [[x]]) (nw := eG [[x']]) (by simp) (by simp) rfl rfl rfl (fun W d c => ⟨_, lt_parts, rfl⟩) rfl (fun W d c => ⟨_, lt_groups, rfl⟩)
      (ng_hn hng (by simp [tot]; lia) (by simp) (by simp)) ?_ ?_ rfl (fun W d c => ⟨_, lt_rebuilt, rfl⟩) (by simp only [ht]; lia) (by lia)
    · intro q hq W' d' c'
      simp only [List.mem_cons, List.not_mem_nil, or_false] at hq
      rcases hq with rfl | rfl
      · exact ⟨_, rfl, inner_nil⟩
      · exact ⟨_, rfl, inner_0 (G := [eL [x]]) (G' := [eL [x']]) rfl rfl (by simp) (by simp) hlim⟩
    · have e1 : n + nb (.lt x a t) = n + 1 + nb t := by simp only [nb]; lia
      rw [e1]
      exact goRs_cons (goR_at hd) (goRs_cons h2 (goRs_nil (h := 0)) (Nat.le_refl _) (by simp <;> lia)) (by simp; lia) (by simp; lia)
  | .c0 a x t, d, s, m, n, cnt, hd, hm, hb, hn => by
    simp only [nb, ht] at hm hn
    obtain ⟨x', c1, hx⟩ := nn_ex hb.1
    obtain ⟨t', c2, h1, h2⟩ := ren_go t (hd.put (x := x) (a := x')) (cnt := c1) (n := n + 1) (by lia) (hb.2.mono hx.2.2.1) (by lia)
    refine ⟨.c0 (rA s a) x' t', c2, rn_c0 hx h1, ?_⟩
    have hng : NG cnt [[x]] [[x']] c1 := ⟨c1, ⟨c1, hx, rfl⟩, rfl⟩
    have hlim : d.1.length ≤ lim := by have := hd.2.1; unfold lim; lia
    refine goR_node (n1 := n + 1) (h := 24 + 10 * ht t) (f := 13) (g := 12) (g2 := 14) (ps := [(eA a, nums [], d.av), (eT t, nums [0], (d.put x (.str x')).av)]) (ys := [eA (rA s a), eT t']) (gr := eG [[x]]) (nw := eG [[x']]) (by simp) (by simp) rfl rfl rfl (fun W d c => ⟨_, c0_parts eT_some, rfl⟩) rfl (fun W d c => ⟨_, c0_groups, rfl⟩)
      (ng_hn hng (by simp [tot]; lia) (by simp) (by simp)) ?_ ?_ rfl (fun W d c => ⟨_, c0_rebuilt eT_some, rfl⟩) (by simp only [ht]; lia) (by lia)
    · intro q hq W' d' c'
      simp only [List.mem_cons, List.not_mem_nil, or_false] at hq
      rcases hq with rfl | rfl
      · exact ⟨_, rfl, inner_nil⟩
      · exact ⟨_, rfl, inner_0 (G := [eL [x]]) (G' := [eL [x']]) rfl rfl (by simp) (by simp) hlim⟩
    · have e1 : n + nb (.c0 a x t) = n + 1 + nb t := by simp only [nb]; lia
      rw [e1]
      exact goRs_cons (goR_at hd) (goRs_cons h2 (goRs_nil (h := 0)) (Nat.le_refl _) (by simp <;> lia)) (by simp; lia) (by simp; lia)
  | .c1 a x k t z, d, s, m, n, cnt, hd, hm, hb, hn => by
    simp only [nb, ht] at hm hn
    refine ex_2_1 (nn_ex hb.1) fun x' c1 hx => ?_
    refine ex_2_1 (nl_ex (xs := fl k) (cnt := c1) fun f hf => (hb.2.1 f hf).mono hx.2.2.1) fun ys c2 hy => ?_
    have hl := fl_len (k := k)
    have hm1 : 2 * ht t ≤ 2 * max (ht t) (ht z) := by lia
    have hm2 : 2 * ht z ≤ 2 * max (ht t) (ht z) := by lia
    obtain ⟨t', c3, h1, h2⟩ := ren_go t ((hd.put (x := x) (a := x')).putL (fs := fl k) (gs := ys)) (cnt := c2) (n := n + (1 + (fl k).length)) (by lia) (hb.2.2.1.mono (hx.2.2.1.trans (nl_le hy))) (by lia)
    obtain ⟨z', c4, h3, h4⟩ := ren_go z (hd.put (x := x) (a := x')) (cnt := c3) (n := n + (1 + (fl k).length) + nb t) (by lia) (hb.2.2.2.mono (hx.2.2.1.trans ((nl_le hy).trans h1.hle))) (by lia)
    refine ⟨.c1 (rA s a) x' (kn k ys) t' z', c4, rn_c1 hx hy h1 h3, ?_⟩
    have hng : NG cnt [[x], fl k] [[x'], ys] c2 := ⟨c1, ⟨c1, hx, rfl⟩, c2, hy, rfl⟩
    have hlim : d.1.length + 1 ≤ lim := by have := hd.2.1; unfold lim; lia
    refine goR_node (n1 := n + (1 + (fl k).length)) (h := 23 + 10 * max (ht t) (ht z)) (f := 13) (g := 12) (g2 := 14) (ps := [(eA a, nums [], d.av), (eT t, nums [0, 1], (putL (d.put x (.str x')) (fl k) ys).av), (eT z, nums [0], (d.put x (.str x')).av)]) (ys := [eA (rA s a), eT t', eT z']) (gr := eG [[x], fl k]) (nw := eG [[x'], ys]) (by simp) (by simp) rfl rfl rfl (fun W d c => ⟨_, c1_parts eT_some, rfl⟩) rfl (fun W d c => ⟨_, c1_groups, by rw [eF_eL]; rfl⟩)
      (ng_hn hng (by simp [tot]; lia) (by simp) (by simp; lia)) ?_ ?_ rfl (fun W d c => ⟨_, c1_rebuilt eT_some, by simp only [eT]; rw [eK_kn, eF_eL, fl_kn (nl_len hy)]; rfl⟩) (by simp only [ht]; lia) (by lia)
    · intro q hq W' d' c'
      simp only [List.mem_cons, List.not_mem_nil, or_false] at hq
      rcases hq with rfl | rfl | rfl
      · exact ⟨_, rfl, inner_nil⟩
      · exact ⟨_, rfl, inner_j (j := 1) (G := [eL [x], eL (fl k)]) (G' := [eL [x'], eL ys]) rfl rfl rfl rfl (nl_len hy) (by simp) (by simp) hlim⟩
      · exact ⟨_, rfl, inner_0 (G := [eL [x], eL (fl k)]) (G' := [eL [x'], eL ys]) rfl rfl (by simp) (by simp) (by lia)⟩
    · have e1 : n + nb (.c1 a x k t z) = n + (1 + (fl k).length) + nb t + nb z := by simp only [nb]; lia
      rw [e1]
      exact goRs_cons (goR_at hd) (goRs_cons h2 (goRs_cons h4 (goRs_nil (h := 0)) (Nat.le_refl _) (by first | lia | (simp; lia))) (H := 22 + 10 * max (ht t) (ht z)) (by first | lia | (simp; lia)) (by first | lia | (simp; lia))) (by first | lia | (simp; lia)) (by first | lia | (simp; lia))
  | .c2 a x k t k' u z, d, s, m, n, cnt, hd, hm, hb, hn => by
    simp only [nb, ht] at hm hn
    refine ex_2_1 (nn_ex hb.1) fun x' c1 hx => ?_
    refine ex_2_1 (nl_ex (xs := fl k) (cnt := c1) fun f hf => (hb.2.1 f hf).mono hx.2.2.1) fun ys c2 hy => ?_
    refine ex_2_1 (nl_ex (xs := fl k') (cnt := c2) fun f hf => (hb.2.2.1 f hf).mono (hx.2.2.1.trans (nl_le hy))) fun ys' c2' hy' => ?_
    have hl := fl_len (k := k)
    have hl' := fl_len (k := k')
    have e0 := hx.2.2.1.trans ((nl_le hy).trans (nl_le hy'))
    have hm1 : 2 * ht t ≤ 2 * max (ht t) (max (ht u) (ht z)) := by lia
    have hm2 : 2 * ht z ≤ 2 * max (ht t) (max (ht u) (ht z)) := by lia
    have hm3 : 2 * ht u ≤ 2 * max (ht t) (max (ht u) (ht z)) := by lia
    obtain ⟨t', c3, h1, h2⟩ := ren_go t ((hd.put (x := x) (a := x')).putL (fs := fl k) (gs := ys)) (cnt := c2') (n := n + (1 + (fl k).length + (fl k').length)) (by lia) (hb.2.2.2.1.mono e0) (by lia)
    obtain ⟨u', c3', h5, h6⟩ := ren_go u ((hd.put (x := x) (a := x')).putL (fs := fl k') (gs := ys')) (cnt := c3) (n := n + (1 + (fl k).length + (fl k').length) + nb t) (by lia) (hb.2.2.2.2.1.mono (e0.trans h1.hle)) (by lia)
    obtain ⟨z', c4, h3, h4⟩ := ren_go z (hd.put (x := x) (a := x')) (cnt := c3') (n := n + (1 + (fl k).length + (fl k').length) + nb t + nb u) (by lia) (hb.2.2.2.2.2.mono (e0.trans (h1.hle.trans h5.hle))) (by lia)
    refine ⟨.c2 (rA s a) x' (kn k ys) t' (kn k' ys') u' z', c4, rn_c2 hx hy hy' h1 h5 h3, ?_⟩
    have hng : NG cnt [[x], fl k, fl k'] [[x'], ys, ys'] c2' := ⟨c1, ⟨c1, hx, rfl⟩, c2, hy, c2', hy', rfl⟩
    have hlim : d.1.length + 1 ≤ lim := by have := hd.2.1; unfold lim; lia
    have htot : n + tot [[x], fl k, fl k'] = n + (1 + (fl k).length + (fl k').length) := by simp only [tot, List.length_cons, List.length_nil]; lia
    refine goR_node (n1 := n + (1 + (fl k).length + (fl k').length)) (h := 24 + 10 * max (ht t) (max (ht u) (ht z))) (f := 13) (g := 12) (g2 := 14) (ps := [(eA a, nums [], d.av), (eT t, nums [0, 1], (putL (d.put x (.str x')) (fl k) ys).av), (eT u, nums [0, 2], (putL (d.put x (.str x')) (fl k') ys').av), (eT z, nums [0], (d.put x (.str x')).av)]) (ys := [eA (rA s a), eT t', eT u', eT z']) (gr := eG [[x], fl k, fl k']) (nw := eG [[x'], ys, ys']) (by simp) (by simp) rfl rfl rfl (fun W d c => ⟨_, c2_parts eT_some, rfl⟩) rfl (fun W d c => ⟨_, c2_groups, by rw [eF_eL, eF_eL]; rfl⟩)
      (by rw [← htot]; exact ng_hn hng (by rw [htot]; lia) (by simp) (by simp; lia)) ?_ ?_ rfl (fun W d c => ⟨_, c2_rebuilt eT_some, by simp only [eT]; rw [eK_kn, eF_eL, fl_kn (nl_len hy), eK_kn, eF_eL, fl_kn (nl_len hy')]; rfl⟩) (by simp only [ht]; lia) (by lia)
    · intro q hq W' d' c'
      simp only [List.mem_cons, List.not_mem_nil, or_false] at hq
      rcases hq with rfl | rfl | rfl | rfl
      · exact ⟨_, rfl, inner_nil⟩
      · exact ⟨_, rfl, inner_j (j := 1) (G := [eL [x], eL (fl k), eL (fl k')]) (G' := [eL [x'], eL ys, eL ys']) rfl rfl rfl rfl (nl_len hy) (by simp) (by simp) hlim⟩
      · exact ⟨_, rfl, inner_j (j := 2) (G := [eL [x], eL (fl k), eL (fl k')]) (G' := [eL [x'], eL ys, eL ys']) rfl rfl rfl rfl (nl_len hy') (by simp) (by simp) hlim⟩
      · exact ⟨_, rfl, inner_0 (G := [eL [x], eL (fl k), eL (fl k')]) (G' := [eL [x'], eL ys, eL ys']) rfl rfl (by simp) (by simp) (by lia)⟩
    · have e1 : n + nb (.c2 a x k t k' u z) = n + (1 + (fl k).length + (fl k').length) + nb t + nb u + nb z := by simp only [nb]; lia
      rw [e1]
      exact goRs_cons (goR_at hd) (goRs_cons h2 (goRs_cons h6 (goRs_cons h4 (goRs_nil (h := 0)) (Nat.le_refl _) (by first | lia | (simp; lia))) (H := 22 + 10 * max (ht t) (max (ht u) (ht z))) (by first | lia | (simp; lia)) (by first | lia | (simp; lia))) (H := 23 + 10 * max (ht t) (max (ht u) (ht z))) (by first | lia | (simp; lia)) (by first | lia | (simp; lia))) (by first | lia | (simp; lia)) (by first | lia | (simp; lia))
end Mine
end
section
open PySem PySem.W PyProof.Rows
set_option Elab.async false
set_option maxRecDepth 100000
set_option linter.unusedVariables false
set_option linter.unusedSimpArgs false
namespace Mine
theorem renrun_ans {ak : List Str} {t : Tm} {n : Nat} {cnt : Str → Nat} (hh : ht t ≤ 80) (hb : bo cnt t) (hn : n + nb t < 100000) :
    ∃ t' cnt', Rn cnt (fun _ => none) t t' cnt' ∧ ∀ c, Sx ak cnt n c → ∃ c', Sx ak cnt' (n + nb t) c' ∧ ∃ N, ∀ W, N ≤ W → ∀ d, callF tab fun? (W + 1) (d + 5) 23 [aRn, eT t] c = some (.v (eT t'), c') := by
  refine ex_2_2 (ren_go (ak := ak) (e := eT t) t (d := ([], [])) (s := fun _ => none) (m := 0) (n := n) (cnt := cnt) Rd.nil (by lia) hb hn) fun t' cnt' h1 h2 => ?_
  refine ⟨t', cnt', h1, fun c hc => ?_⟩
  obtain ⟨c', hc', N, h3⟩ := h2 c hc
  refine ⟨c', hc', N, fun W hW d => ?_⟩
  obtain ⟨rs', hr', h4⟩ := h3 W d (W + 1 - N) [] [] (List.replicate 9 .un) rfl (by simp; lia) (by simp; lia)
  rw [show W + 1 - N + N = W + 1 by lia] at h4
  rw [callF_succ]
  refine run_xr (F := ⟨2, 13, b23⟩) rfl rfl rfl ?_
  show XR _ _ b23 _ _ _ _
  rw [b23_eq]
  refine xr_seq (x_asg2 (r1 := .o (.list [.tup [eT t, Dc.av ([], []), .none]])) (r2 := .o (.list [])) (c1 := c) (r_list (l_cons (EE.of (r_tup (l_cons (EE.of (r_loc rfl) rfl) (l_cons (EE.of r_dict0 rfl) (l_cons (EE.of r_none rfl) l_nil))) rfl) rfl) l_nil) rfl) (r_list l_nil rfl)) ?_
  refine xr_seq (l1 := RL (eT t) [] [eT t'] rs') (c1 := c') (x_whil (Eq.trans h4 ?_)) ?_
  · obtain ⟨j, hj⟩ : ∃ j, W + 1 - N = j + 1 := ⟨W - N, by lia⟩
    rw [hj]
    exact while_end (t_locl (i := 2) (xs := []) rfl rfl)
  · exact xr_stop (xr_ret (r_idx_list (xs := [eT t']) (n := 0) (p_own rfl) (EE.of r_int rfl) rfl rfl rfl))
theorem renamed_ans {ak : List Str} {t : Tm} {n : Nat} {cnt : Str → Nat} (hh : ht t ≤ 80) (hb : bo cnt t) (hn : n + nb t < 100000) :
    ∃ t' cnt', Rn cnt (fun _ => none) t t' cnt' ∧ ∀ c, Sx ak cnt n c → ∃ c', Sx ak cnt' (n + nb t) c' ∧ ∃ N, ∀ W, N ≤ W → ∀ d, callF tab fun? (W + 1) (d + 6) 24 [eT t, aFr] c = some (.v (eT t'), c') := by
  refine ex_2_2 (renrun_ans (ak := ak) hh hb hn) fun t' cnt' h1 h2 => ?_
  refine ⟨t', cnt', h1, fun c hc => ?_⟩
  obtain ⟨c', hc', N, h3⟩ := h2 c hc
  refine ⟨c', hc', N, fun W hW d => ?_⟩
  rw [callF_succ]
  exact run_xr (F := ⟨2, 2, b24⟩) rfl rfl rfl (xr_stop (xr_ret (r_meth (k := 7) (f := 23) (EE.of (r_new (k := 7) (l_cons (EE.of (r_loc rfl) rfl) (l_cons (EE.of r_dict0 rfl) l_nil)) rfl) rfl) rfl (l_cons (EE.of (r_loc rfl) rfl) l_nil) (h3 W hW d))))
end Mine
end
section
open PySem PySem.W PyProof.Rows
set_option Elab.async false
set_option maxRecDepth 100000
set_option linter.unusedVariables false
set_option linter.unusedSimpArgs false
namespace Mine
section
variable {Φ : CallF} {W : Nat} {c c1 c2 : Cells} {a p p0 p1 p2 p3 q0 q1 q2 q3 bs nm ar k b r : AV}
theorem fb_d : run W Φ 25 [.obj 6 [a, .list []], aFr] c = some (.v (.tup [.list [], .obj 6 [a, .list []]]), c) := by kernel_rfl
theorem fb_c {f : Str} (h : Φ 37 [aFr, .str sx0] c = some (.v (.str f), c1)) : run W Φ 25 [.obj 6 [a, .list [p]], aFr] c = some (.v (.tup [.list [.tup [.str f, p]], .obj 6 [a, .list [eV f]]]), c1) := by
  refine run_xr (F := ⟨2, 5, b25⟩) rfl rfl rfl (xr_seq (x_asg (r_comp1 (xs := [p]) (ys := [.tup [.str f, p]]) (i_of (r_attr (k := 6) (j := 1) (EE.of (r_loc rfl) rfl) rfl rfl) rfl rfl) rfl rfl (compL_cons (c1 := c1) rfl ?_ rfl))) ?_)
  · exact EE.of (r_tup (l_cons (EE.of (r_meth (k := 9) (f := 37) (EE.of (r_loc rfl) rfl) rfl (l_cons (EE.of r_str rfl) l_nil) h) rfl) (l_cons (EE.of (r_loc rfl) rfl) l_nil)) rfl) rfl
  · exact xr_stop (xr_ret rfl)
theorem wl3 {b0 b1 b2 : AV} : run W Φ 26 [.list [.list [b0], .list [b1], .list [b2]], p] c = some (.v (.obj 3 [.list [b0], .obj 3 [.list [b1], .obj 3 [.list [b2], p, .bool false], .bool false], .bool false]), c) := by kernel_rfl
theorem wl2 {b0 b1 : AV} : run W Φ 26 [.list [.list [b0], .list [b1]], p] c = some (.v (.obj 3 [.list [b0], .obj 3 [.list [b1], p, .bool false], .bool false]), c) := by kernel_rfl
theorem wl1 {b1 : AV} : run W Φ 26 [.list [.list [], .list [b1]], p] c = some (.v (.obj 3 [.list [b1], p, .bool false]), c) := by kernel_rfl
theorem wl1e {b1 : AV} : run W Φ 26 [.list [.list [], .list [b1], .list []], p] c = some (.v (.obj 3 [.list [b1], p, .bool false]), c) := by kernel_rfl
theorem kc_none (h25 : Φ 25 [p0, p] c = some (.v (.tup [bs, .obj 6 [nm, ar]]), c1)) (h24 : Φ 24 [.obj 5 [.obj 6 [nm, ar], p1, p2, p3], p] c1 = some (.v (.obj 5 [q0, q1, q2, q3]), c2))
    (h27 : Φ 27 [.obj 5 [q0, q1, q2, q3], nm] c2 = some (.v .none, c2)) (hq : isNone q3 = false) (h26 : Φ 26 [.list [bs, .list [.tup [q1, .obj 6 [nm, ar]]]], q3] c2 = some (.v r, c2)) :
    run W Φ 28 [.obj 5 [p0, p1, p2, p3], p] c = some (.v r, c2) := by
  refine run_xr (F := ⟨2, 9, b28⟩) rfl rfl rfl (xr_seq (x_asg (r := .v (.obj 5 [p0, p1, p2, p3])) (c1 := c) rfl) ?_)
  refine xr_seq (x_asgT (EE.of (r_call (l_cons (EE.of (r_attr (k := 5) (j := 0) (EE.of (r_loc rfl) rfl) rfl rfl) rfl) (l_cons (EE.of (r_loc rfl) rfl) l_nil)) h25) rfl) rfl) ?_
  refine xr_seq (x_asg (r_call (l_cons (x := .obj 5 [.obj 6 [nm, ar], p1, p2, p3]) (c1 := c1) rfl (l_cons (EE.of (r_loc rfl) rfl) l_nil)) h24)) ?_
  refine xr_seq (x_asg (r_call (l_cons (EE.of (r_loc rfl) rfl) (l_cons (EE.of (r_attr (k := 6) (j := 0) (EE.of (r_loc rfl) rfl) rfl rfl) rfl) l_nil)) h27)) ?_
  refine xr_stop (xr_if (q := true) (t_of (r_isN (x := .none) (EE.of (r_loc (x := .none) rfl) rfl)) rfl) (xr_stop (xr_ret (r_ite (q := false) (t_of (?_ : ER Φ _ _ c2 (.v (.bool false)) c2) rfl) ?_))))
  · rw [← hq]; exact r_isN (x := q3) (EE.of (r_attr (k := 5) (j := 3) (EE.of (r_loc rfl) rfl) rfl rfl) rfl)
  · exact r_call (l_cons (x := .list [bs, .list [.tup [q1, .obj 6 [nm, ar]]]]) (c1 := c2) rfl (l_cons (EE.of (r_attr (k := 5) (j := 3) (EE.of (r_loc rfl) rfl) rfl rfl) rfl) l_nil)) h26
theorem kc_some0 (h25 : Φ 25 [p0, p] c = some (.v (.tup [bs, .obj 6 [nm, ar]]), c1)) (h24 : Φ 24 [.obj 5 [.obj 6 [nm, ar], p1, p2, p3], p] c1 = some (.v (.obj 5 [q0, q1, q2, q3]), c2))
    (h27 : Φ 27 [.obj 5 [q0, q1, q2, q3], nm] c2 = some (.v (.obj 4 [k, .list [], b]), c2)) (h26 : Φ 26 [.list [bs, .list [.tup [q1, .obj 6 [nm, ar]]], .list []], b] c2 = some (.v r, c2)) :
    run W Φ 28 [.obj 5 [p0, p1, p2, p3], p] c = some (.v r, c2) := by
  refine run_xr (F := ⟨2, 9, b28⟩) rfl rfl rfl (xr_seq (x_asg (r := .v (.obj 5 [p0, p1, p2, p3])) (c1 := c) rfl) ?_)
  refine xr_seq (x_asgT (EE.of (r_call (l_cons (EE.of (r_attr (k := 5) (j := 0) (EE.of (r_loc rfl) rfl) rfl rfl) rfl) (l_cons (EE.of (r_loc rfl) rfl) l_nil)) h25) rfl) rfl) ?_
  refine xr_seq (x_asg (r_call (l_cons (x := .obj 5 [.obj 6 [nm, ar], p1, p2, p3]) (c1 := c1) rfl (l_cons (EE.of (r_loc rfl) rfl) l_nil)) h24)) ?_
  refine xr_seq (x_asg (r_call (l_cons (EE.of (r_loc rfl) rfl) (l_cons (EE.of (r_attr (k := 6) (j := 0) (EE.of (r_loc rfl) rfl) rfl rfl) rfl) l_nil)) h27)) ?_
  refine xr_seq (x_if (q := false) (t_of (r_isN (x := .obj 4 [k, .list [], b]) (EE.of (r_loc rfl) rfl)) rfl) x_skip) ?_
  refine xr_seq (x_asg (r := .v (.list [])) (c1 := c2) rfl) (xr_stop (xr_ret ?_))
  exact r_call (l_cons (x := .list [bs, .list [.tup [q1, .obj 6 [nm, ar]]], .list []]) (c1 := c2) rfl (l_cons (EE.of (r_attr (k := 4) (j := 2) (EE.of (r_loc rfl) rfl) rfl rfl) rfl) l_nil)) h26
theorem kc_some1 {f a1 : AV} (h25 : Φ 25 [p0, p] c = some (.v (.tup [bs, .obj 6 [nm, .list [a1]]]), c1)) (h24 : Φ 24 [.obj 5 [.obj 6 [nm, .list [a1]], p1, p2, p3], p] c1 = some (.v (.obj 5 [q0, q1, q2, q3]), c2))
    (h27 : Φ 27 [.obj 5 [q0, q1, q2, q3], nm] c2 = some (.v (.obj 4 [k, .list [f], b]), c2)) (h26 : Φ 26 [.list [bs, .list [.tup [q1, .obj 6 [nm, .list [a1]]]], .list [.tup [f, a1]]], b] c2 = some (.v r, c2)) :
    run W Φ 28 [.obj 5 [p0, p1, p2, p3], p] c = some (.v r, c2) := by
  refine run_xr (F := ⟨2, 9, b28⟩) rfl rfl rfl (xr_seq (x_asg (r := .v (.obj 5 [p0, p1, p2, p3])) (c1 := c) rfl) ?_)
  refine xr_seq (x_asgT (EE.of (r_call (l_cons (EE.of (r_attr (k := 5) (j := 0) (EE.of (r_loc rfl) rfl) rfl rfl) rfl) (l_cons (EE.of (r_loc rfl) rfl) l_nil)) h25) rfl) rfl) ?_
  refine xr_seq (x_asg (r_call (l_cons (x := .obj 5 [.obj 6 [nm, .list [a1]], p1, p2, p3]) (c1 := c1) rfl (l_cons (EE.of (r_loc rfl) rfl) l_nil)) h24)) ?_
  refine xr_seq (x_asg (r_call (l_cons (EE.of (r_loc rfl) rfl) (l_cons (EE.of (r_attr (k := 6) (j := 0) (EE.of (r_loc rfl) rfl) rfl rfl) rfl) l_nil)) h27)) ?_
  refine xr_seq (x_if (q := false) (t_of (r_isN (x := .obj 4 [k, .list [f], b]) (EE.of (r_loc rfl) rfl)) rfl) x_skip) ?_
  refine xr_seq (x_asg (r := .v (.list [.tup [f, a1]])) (c1 := c2) rfl) (xr_stop (xr_ret ?_))
  exact r_call (l_cons (x := .list [bs, .list [.tup [q1, .obj 6 [nm, .list [a1]]]], .list [.tup [f, a1]]]) (c1 := c2) rfl (l_cons (EE.of (r_attr (k := 4) (j := 2) (EE.of (r_loc rfl) rfl) rfl rfl) rfl) l_nil)) h26
end
/-! a Case of a value that is known: what is left -/
noncomputable def fits : At → Ky → Option (List (Str × At))
  | .c x, .c f => some [(f, .v x)]
  | .d, .d => some []
  | .n j, .n i => if i = j then some [] else none
  | _, _ => none
noncomputable def lets : List (Str × At) → Tm → Tm
  | [], t => t
  | (x, a) :: l, t => .lt x a (lets l t)
noncomputable def elim : Tm → Tm
  | .c0 a o z => .lt o a z
  | .c1 a o k t z => .lt o a (match fits a k with | some l => lets l t | none => z)
  | .c2 a o k t k' t' z => .lt o a (match fits a k with | some l => lets l t | none => match fits a k' with | some l => lets l t' | none => z)
  | t => t
noncomputable def setTop (a : At) : Tm → Tm
  | .c0 _ o z => .c0 a o z
  | .c1 _ o k t z => .c1 a o k t z
  | .c2 _ o k t k' t' z => .c2 a o k t k' t' z
  | t => t
theorem setTop_enc {t : Tm} {a : At} (h : top t = some a) : ∃ p1 p2 p3, isNone p3 = false ∧ ∀ a', eT (setTop a' t) = .obj 5 [eA a', p1, p2, p3] := by
  cases t <;> simp only [top] at h <;> first | (cases h; done) | exact ⟨_, _, _, eT_some, fun _ => rfl⟩
theorem setTop_self {t : Tm} {a : At} (h : top t = some a) : setTop a t = t := by
  cases t <;> simp only [top] at h <;> first | (cases h; done) | (cases h; rfl)
section
variable {Φ : CallF} {W : Nat} {c c1 c2 : Cells}
theorem way0 {a : At} {o : Str} {z : Tm} {x : AV} : run W Φ 27 [eT (.c0 a o z), x] c = some (.v .none, c) := by kernel_rfl
theorem way1c {a : At} {o : Str} {k : Ky} {t z : Tm} : run W Φ 27 [eT (.c1 a o k t z), .str sx8] c = some (.v (match k with | .c f => .obj 4 [eK k, .list [.str f], eT t] | _ => .none), c) := by cases k <;> kernel_rfl
theorem way1d {a : At} {o : Str} {k : Ky} {t z : Tm} : run W Φ 27 [eT (.c1 a o k t z), .str sx9] c = some (.v (match k with | .d => .obj 4 [eK k, .list [], eT t] | _ => .none), c) := by cases k <;> kernel_rfl
theorem way2c {a : At} {o : Str} {k k' : Ky} {t t' z : Tm} : run W Φ 27 [eT (.c2 a o k t k' t' z), .str sx8] c = some (.v (match k with | .c f => .obj 4 [eK k, .list [.str f], eT t] | _ => match k' with | .c f => .obj 4 [eK k', .list [.str f], eT t'] | _ => .none), c) := by cases k <;> cases k' <;> kernel_rfl
theorem way2d {a : At} {o : Str} {k k' : Ky} {t t' z : Tm} : run W Φ 27 [eT (.c2 a o k t k' t' z), .str sx9] c = some (.v (match k with | .d => .obj 4 [eK k, .list [], eT t] | _ => match k' with | .d => .obj 4 [eK k', .list [], eT t'] | _ => .none), c) := by cases k <;> cases k' <;> kernel_rfl
end
end Mine
end
section
open PySem PySem.W PyProof.Rows
set_option Elab.async false
set_option maxRecDepth 100000
set_option linter.unusedVariables false
set_option linter.unusedSimpArgs false
namespace Mine
section
variable {Φ Φ' : CallF} {W W' : Nat} {c c1 c2 : Cells}
noncomputable def eAl (k : Ky) (t : Tm) : AV := .obj 4 [eK k, .list (eF k), eT t]
noncomputable def keyL (j : Int) : AV := .tup [.str sx2, .str sx4, .int j]
noncomputable def isLit (j : Int) : Ky → Bool
  | .n i => decide (i = j)
  | _ => false
theorem keyL_eq {j : Int} {k : Ky} : acmp .eq (eK k) (keyL j) = some (isLit j k) := by
  cases k with
  | c f => rfl
  | d => rfl
  | n i =>
    have e : acmp .eq (eK (.n i)) (keyL j) = some ((true && (true && ((i == j) && true))) && true) := by kernel_rfl
    rw [e]; simp only [isLit, Bool.true_and, Bool.and_true]; rfl
noncomputable def sKl : IS := .seq (.ifs (.cmp .eq (.attr (.loc 4) 7) (.loc 3))
  (.seq (.ret (.new 3 (.cons (.list (.cons (.tup (.cons (.attr (.loc 2) 0) (.cons (.attr (.loc 0) 2) .nil))) .nil)) (.cons (.attr (.loc 4) 4) (.cons (.bool false) .nil)))))
  .skip)
  .skip)
  .skip
theorem kl_step {x0 x1 x2 x3 q0 q1 q2 q3 kk fs b : AV} {l1 : LV} {j : Int} (q : Bool) (h : acmp .eq kk (keyL j) = some q) :
    XS Φ W sKl [.val (.obj 5 [x0, x1, x2, x3]), l1, .val (.obj 5 [q0, q1, q2, q3]), .val (keyL j), .val (.obj 4 [kk, fs, b])] c
      (if q then .ret (.v (.obj 3 [.list [.tup [q1, x0]], b, .bool false])) else .next) [.val (.obj 5 [x0, x1, x2, x3]), l1, .val (.obj 5 [q0, q1, q2, q3]), .val (keyL j), .val (.obj 4 [kk, fs, b])] c := by
  have ht : ET Φ (.cmp .eq (.attr (.loc 4) 7) (.loc 3)) [.val (.obj 5 [x0, x1, x2, x3]), l1, .val (.obj 5 [q0, q1, q2, q3]), .val (keyL j), .val (.obj 4 [kk, fs, b])] c q c :=
    t_of (r_cmp rfl (EE.of (r_attr (k := 4) (j := 0) (EE.of (r_loc rfl) rfl) rfl rfl) rfl) (p_loc rfl) (z := keyL j) rfl h) rfl
  cases q with
  | true => exact x_stop (x_if ht (x_stop (x_ret rfl) rfl)) rfl
  | false => exact x_seq (x_if ht x_skip) x_skip
theorem kl_run {x1 x2 x3 : AV} {j : Int} {t' : Tm} (ht : top t' = some (.n j)) (h24 : Φ 24 [.obj 5 [eA (.n j), x1, x2, x3], aFr] c = some (.v (eT t'), c1)) :
    run W Φ 29 [.obj 5 [eA (.n j), x1, x2, x3], aFr] c = some (.v (eT (elim t')), c1) := by
  refine run_xr (F := ⟨2, 5, b29⟩) rfl rfl rfl (xr_seq (x_asg (r_call (l_cons (EE.of (r_loc rfl) rfl) (l_cons (EE.of (r_loc rfl) rfl) l_nil)) h24)) ?_)
  refine xr_seq (x_asg (r := .v (keyL j)) (c1 := c1) rfl) ?_
  cases t' with
  | lit n => cases ht
  | lt x a t => cases ht
  | c0 a o z =>
    simp only [top, Option.some.injEq] at ht; subst ht
    refine xr_seq (x_for1 (i_of (r_attr (k := 5) (j := 2) (EE.of (r_loc rfl) rfl) rfl rfl) rfl rfl) rfl rfl) (xr_stop (xr_ret (r_ite (q := false) (t_of (?_ : ER Φ _ _ c1 (.v (.bool false)) c1) rfl) rfl)))
    rw [← eT_some (t := z)]; exact r_isN (x := eT z) (EE.of (r_attr (k := 5) (j := 3) (EE.of (r_loc rfl) rfl) rfl rfl) rfl)
  | c1 a o k t z =>
    simp only [top, Option.some.injEq] at ht; cases ht
    have s1 := kl_step (Φ := Φ) (W := W) (c := c1) (x0 := eA (.n j)) (x1 := x1) (x2 := x2) (x3 := x3) (q0 := eA (.n j)) (q1 := .str o) (q2 := .list [eAl k t]) (q3 := eT z) (kk := eK k) (fs := .list (eF k)) (b := eT t) (j := j) (l1 := .val aFr) _ keyL_eq
    cases hq : isLit j k with
    | true =>
      rw [hq] at s1
      have e : fits (.n j) k = some [] := by cases k <;> simp_all [isLit, fits]
      simp only [elim, e]
      exact xr_stop ⟨_, x_for1 (i_of (r_attr (k := 5) (j := 2) (EE.of (r_loc rfl) rfl) rfl rfl) rfl rfl) rfl (forL_ret rfl s1)⟩
    | false =>
      rw [hq] at s1
      have e : fits (.n j) k = none := by cases k <;> simp_all [isLit, fits]
      simp only [elim, e]
      refine xr_seq (x_for1 (i_of (r_attr (k := 5) (j := 2) (EE.of (r_loc rfl) rfl) rfl rfl) rfl rfl) rfl (forL_cons rfl s1 rfl)) (xr_stop (xr_ret (r_ite (q := false) (t_of (?_ : ER Φ _ _ c1 (.v (.bool false)) c1) rfl) rfl)))
      rw [← eT_some (t := z)]; exact r_isN (x := eT z) (EE.of (r_attr (k := 5) (j := 3) (EE.of (r_loc rfl) rfl) rfl rfl) rfl)
  | c2 a o k t k' t' z =>
    simp only [top, Option.some.injEq] at ht; subst ht
    have s1 := kl_step (Φ := Φ) (W := W) (c := c1) (x0 := eA (.n j)) (x1 := x1) (x2 := x2) (x3 := x3) (q0 := eA (.n j)) (q1 := .str o) (q2 := .list [eAl k t, eAl k' t']) (q3 := eT z) (kk := eK k) (fs := .list (eF k)) (b := eT t) (j := j) (l1 := .val aFr) _ keyL_eq
    have s2 := kl_step (Φ := Φ) (W := W) (c := c1) (x0 := eA (.n j)) (x1 := x1) (x2 := x2) (x3 := x3) (q0 := eA (.n j)) (q1 := .str o) (q2 := .list [eAl k t, eAl k' t']) (q3 := eT z) (kk := eK k') (fs := .list (eF k')) (b := eT t') (j := j) (l1 := .val aFr) _ keyL_eq
    cases hq : isLit j k with
    | true =>
      rw [hq] at s1
      have e : fits (.n j) k = some [] := by cases k <;> simp_all [isLit, fits]
      simp only [elim, e]
      exact xr_stop ⟨_, x_for1 (i_of (r_attr (k := 5) (j := 2) (EE.of (r_loc rfl) rfl) rfl rfl) rfl rfl) rfl (forL_ret rfl s1)⟩
    | false =>
      rw [hq] at s1
      have e : fits (.n j) k = none := by cases k <;> simp_all [isLit, fits]
      simp only [elim, e]
      cases hq' : isLit j k' with
      | true =>
        rw [hq'] at s2
        have e : fits (.n j) k' = some [] := by cases k' <;> simp_all [isLit, fits]
        simp only [e]
        exact xr_stop ⟨_, x_for1 (i_of (r_attr (k := 5) (j := 2) (EE.of (r_loc rfl) rfl) rfl rfl) rfl rfl) rfl (forL_cons rfl s1 (forL_ret rfl s2))⟩
      | false =>
        rw [hq'] at s2
        have e : fits (.n j) k' = none := by cases k' <;> simp_all [isLit, fits]
        simp only [e]
        refine xr_seq (x_for1 (i_of (r_attr (k := 5) (j := 2) (EE.of (r_loc rfl) rfl) rfl rfl) rfl rfl) rfl (forL_cons rfl s1 (forL_cons rfl s2 rfl))) (xr_stop (xr_ret (r_ite (q := false) (t_of (?_ : ER Φ _ _ c1 (.v (.bool false)) c1) rfl) rfl)))
        rw [← eT_some (t := z)]; exact r_isN (x := eT z) (EE.of (r_attr (k := 5) (j := 3) (EE.of (r_loc rfl) rfl) rfl rfl) rfl)
/-- known_con, C -/
theorem kc_c {x1 x2 x3 : AV} {g f : Str} {t' : Tm} (ht : top t' = some (.c f)) (h25 : ∀ {p}, Φ 25 [.obj 6 [.str sx8, .list [p]], aFr] c = some (.v (.tup [.list [.tup [.str f, p]], .obj 6 [.str sx8, .list [eV f]]]), c1))
    (h24 : Φ 24 [.obj 5 [eA (.c f), x1, x2, x3], aFr] c1 = some (.v (eT t'), c2)) (h27 : ∀ a c, Φ 27 a c = run W' Φ' 27 a c) (h26 : ∀ a c, Φ 26 a c = run W' Φ' 26 a c) :
    run W Φ 28 [.obj 5 [eA (.c g), x1, x2, x3], aFr] c = some (.v (eT (.lt f (.v g) (elim t'))), c2) := by
  cases t' with
  | lit n => cases ht
  | lt x a t => cases ht
  | c0 a o z =>
    simp only [top, Option.some.injEq] at ht; subst ht
    exact kc_none h25 h24 ((h27 _ _).trans way0) eT_some ((h26 _ _).trans wl2)
  | c1 a o k t z =>
    simp only [top, Option.some.injEq] at ht; subst ht
    have w := (h27 _ c2).trans (way1c (Φ := Φ') (W := W') (c := c2) (a := .c f) (o := o) (k := k) (t := t) (z := z))
    cases k with
    | c f' => exact kc_some1 h25 h24 w ((h26 _ _).trans wl3)
    | d => exact kc_none h25 h24 w eT_some ((h26 _ _).trans wl2)
    | n i => exact kc_none h25 h24 w eT_some ((h26 _ _).trans wl2)
  | c2 a o k t k' t' z =>
    simp only [top, Option.some.injEq] at ht; subst ht
    have w := (h27 _ c2).trans (way2c (Φ := Φ') (W := W') (c := c2) (a := .c f) (o := o) (k := k) (t := t) (k' := k') (t' := t') (z := z))
    cases k with
    | c f' => exact kc_some1 h25 h24 w ((h26 _ _).trans wl3)
    | d =>
      cases k' with
      | c f' => exact kc_some1 h25 h24 w ((h26 _ _).trans wl3)
      | d => exact kc_none h25 h24 w eT_some ((h26 _ _).trans wl2)
      | n i => exact kc_none h25 h24 w eT_some ((h26 _ _).trans wl2)
    | n j =>
      cases k' with
      | c f' => exact kc_some1 h25 h24 w ((h26 _ _).trans wl3)
      | d => exact kc_none h25 h24 w eT_some ((h26 _ _).trans wl2)
      | n i => exact kc_none h25 h24 w eT_some ((h26 _ _).trans wl2)
/-- known_con, D -/
theorem kc_d {x1 x2 x3 : AV} {t' : Tm} (ht : top t' = some .d) (h25 : Φ 25 [.obj 6 [.str sx9, .list []], aFr] c = some (.v (.tup [.list [], .obj 6 [.str sx9, .list []]]), c))
    (h24 : Φ 24 [.obj 5 [eA .d, x1, x2, x3], aFr] c = some (.v (eT t'), c2)) (h27 : ∀ a c, Φ 27 a c = run W' Φ' 27 a c) (h26 : ∀ a c, Φ 26 a c = run W' Φ' 26 a c) :
    run W Φ 28 [.obj 5 [eA .d, x1, x2, x3], aFr] c = some (.v (eT (elim t')), c2) := by
  cases t' with
  | lit n => cases ht
  | lt x a t => cases ht
  | c0 a o z =>
    simp only [top, Option.some.injEq] at ht; subst ht
    exact kc_none h25 h24 ((h27 _ _).trans way0) eT_some ((h26 _ _).trans wl1)
  | c1 a o k t z =>
    simp only [top, Option.some.injEq] at ht; subst ht
    have w := (h27 _ c2).trans (way1d (Φ := Φ') (W := W') (c := c2) (a := .d) (o := o) (k := k) (t := t) (z := z))
    cases k with
    | d => exact kc_some0 h25 h24 w ((h26 _ _).trans wl1e)
    | c f => exact kc_none h25 h24 w eT_some ((h26 _ _).trans wl1)
    | n i => exact kc_none h25 h24 w eT_some ((h26 _ _).trans wl1)
  | c2 a o k t k' t' z =>
    simp only [top, Option.some.injEq] at ht; subst ht
    have w := (h27 _ c2).trans (way2d (Φ := Φ') (W := W') (c := c2) (a := .d) (o := o) (k := k) (t := t) (k' := k') (t' := t') (z := z))
    cases k with
    | d => exact kc_some0 h25 h24 w ((h26 _ _).trans wl1e)
    | c f =>
      cases k' with
      | d => exact kc_some0 h25 h24 w ((h26 _ _).trans wl1e)
      | c f' => exact kc_none h25 h24 w eT_some ((h26 _ _).trans wl1)
      | n i => exact kc_none h25 h24 w eT_some ((h26 _ _).trans wl1)
    | n j =>
      cases k' with
      | d => exact kc_some0 h25 h24 w ((h26 _ _).trans wl1e)
      | c f => exact kc_none h25 h24 w eT_some ((h26 _ _).trans wl1)
      | n i => exact kc_none h25 h24 w eT_some ((h26 _ _).trans wl1)
end
end Mine
end
section
open PySem PySem.W PyProof.Rows
set_option Elab.async false
set_option maxRecDepth 100000
set_option linter.unusedVariables false
set_option linter.unusedSimpArgs false
namespace Mine
noncomputable def aFc : AV := .obj 8 [aFr]
noncomputable def cellOf : Ky → At
  | .c f => .c f
  | .d => .d
  | .n j => .n j
section
variable {Φ Φ' : CallF} {W W' : Nat} {c c1 c2 : Cells} {p p0 p1 p2 p3 : AV} {d : Dc}
theorem kcase_v {x : Str} : run W Φ 30 [.obj 5 [eV x, p1, p2, p3], aFr] c = some (.v (.obj 5 [eV x, p1, p2, p3]), c) := by kernel_rfl
theorem kcase_con {l : List AV} {r : AV} (h : Φ 28 [.obj 5 [.obj 6 l, p1, p2, p3], aFr] c = some (.v r, c1)) : run W Φ 30 [.obj 5 [.obj 6 l, p1, p2, p3], aFr] c = some (.v r, c1) := by
  refine run_xr (F := ⟨2, 3, b30⟩) rfl rfl rfl (xr_seq (x_if (q := false) rfl x_skip) ?_)
  exact xr_stop (xr_if (q := true) rfl (xr_stop (xr_ret (r_call (l_cons (EE.of (r_loc rfl) rfl) (l_cons (EE.of (r_loc rfl) rfl) l_nil)) h))))
theorem kcase_lit {l : List AV} {r : AV} (h : Φ 29 [.obj 5 [.obj 1 l, p1, p2, p3], aFr] c = some (.v r, c1)) : run W Φ 30 [.obj 5 [.obj 1 l, p1, p2, p3], aFr] c = some (.v r, c1) := by
  refine run_xr (F := ⟨2, 3, b30⟩) rfl rfl rfl (xr_seq (x_if (q := false) rfl x_skip) ?_)
  refine xr_seq (x_if (q := false) rfl x_skip) ?_
  exact xr_stop (xr_if (q := true) rfl (xr_stop (xr_ret (r_call (l_cons (EE.of (r_loc rfl) rfl) (l_cons (EE.of (r_loc rfl) rfl) l_nil)) h))))
theorem la_in {x : Str} {y : AV} (h : d.get x = some y) (hc : d.1.contains x = true) : run W Φ 32 [aFc, .obj 5 [eV x, p1, p2, p3], d.av] c = some (.v (.obj 5 [y, p1, p2, p3]), c) := by
  refine run_xr (F := ⟨3, 3, b32⟩) rfl rfl rfl (xr_stop (xr_if (q := true) (t_and2 (c1 := c) rfl (t_and2 (c1 := c) rfl (t_of (r_cmp rfl (EE.of (r_attr (k := 0) (j := 0) (EE.of (r_attr (k := 5) (j := 0) (EE.of (r_loc rfl) rfl) rfl rfl) rfl) rfl rfl) rfl) (p_loc rfl) (z := d.av) rfl ?_) rfl))) (xr_stop (xr_ret ?_))))
  · show some (d.1.contains x) = some true; rw [hc]
  · exact r_new (k := 5) (l_cons (EE.of (r_idx_dict (p_loc rfl) (EE.of (r_attr (k := 0) (j := 0) (EE.of (r_attr (k := 5) (j := 0) (EE.of (r_loc rfl) rfl) rfl rfl) rfl) rfl rfl) rfl) rfl h) rfl) (l_cons (EE.of (r_attr (k := 5) (j := 1) (EE.of (r_loc rfl) rfl) rfl rfl) rfl) (l_cons (EE.of (r_attr (k := 5) (j := 2) (EE.of (r_loc rfl) rfl) rfl rfl) rfl) (l_cons (EE.of (r_attr (k := 5) (j := 3) (EE.of (r_loc rfl) rfl) rfl rfl) rfl) l_nil)))) rfl
theorem la_out {x : Str} (hc : d.1.contains x = false) : run W Φ 32 [aFc, .obj 5 [eV x, p1, p2, p3], d.av] c = some (.v (.obj 5 [eV x, p1, p2, p3]), c) := by
  refine run_xr (F := ⟨3, 3, b32⟩) rfl rfl rfl (xr_seq (x_if (q := false) (t_and2 (c1 := c) rfl (t_and2 (c1 := c) rfl (t_of (r_cmp rfl (EE.of (r_attr (k := 0) (j := 0) (EE.of (r_attr (k := 5) (j := 0) (EE.of (r_loc rfl) rfl) rfl rfl) rfl) rfl rfl) rfl) (p_loc rfl) (z := d.av) rfl ?_) rfl))) x_skip) (xr_stop (xr_ret (r_loc rfl))))
  show some (d.1.contains x) = some false; rw [hc]
theorem la_con {l : List AV} : run W Φ 32 [aFc, .obj 5 [.obj 6 l, p1, p2, p3], p] c = some (.v (.obj 5 [.obj 6 l, p1, p2, p3]), c) := by kernel_rfl
theorem la_lit {l : List AV} : run W Φ 32 [aFc, .obj 5 [.obj 1 l, p1, p2, p3], p] c = some (.v (.obj 5 [.obj 1 l, p1, p2, p3]), c) := by kernel_rfl
/-- known_in -/
theorem ki_not {k : Nat} {l : List AV} {i : Int} (hk : k ≠ 5) (hk' : k < 10) : run W Φ 31 [aFc, .obj k l, .int i, p] c = some (.v p, c) := by
  have hb : (k == 5) = false := by simpa using hk
  refine run_xr (F := ⟨4, 8, b31⟩) rfl rfl rfl (xr_stop (xr_if (q := true) (t_or1 (t_not (q := false) (t_of (?_ : ER Φ _ _ c (.v (.bool false)) c) rfl))) (xr_stop (xr_ret (r_loc rfl)))))
  rw [← hb]; exact r_isi (k' := k) (EE.of (r_loc rfl) rfl) hk'
theorem ki_zero : run W Φ 31 [aFc, .obj 5 [p0, p1, p2, p3], .int 0, p] c = some (.v p, c) := by kernel_rfl
theorem ki_last {alts : List AV} (hl : alts.length ≤ 9) : run W Φ 31 [aFc, .obj 5 [p0, p1, .list alts, p3], .int ((alts.length + 1 : Nat) : Int), p] c = some (.v p, c) := by
  refine run_xr (F := ⟨4, 8, b31⟩) rfl rfl rfl (xr_stop (xr_if (q := true) (t_or2 (c1 := c) rfl (t_or2 (t_of (q := false) (r_cmp (x := .int ((alts.length + 1 : Nat) : Int)) rfl (EE.of (r_loc rfl) rfl) (p_of rfl (EE.of (r_int (n := 0)) rfl)) (z := .int 0) rfl ?_) rfl) (t_of (r_cmp (x := .int ((alts.length + 1 : Nat) : Int)) rfl (EE.of (r_loc rfl) rfl) (p_of rfl (EE.of (r_len (xs := alts) (p_of rfl (EE.of (r_attr (k := 5) (j := 2) (EE.of (r_loc rfl) rfl) rfl rfl) rfl)) rfl (small9 hl)) rfl)) (z := .int alts.length) rfl ?_) rfl))) (xr_stop (xr_ret (r_loc rfl)))))
  · rw [acmp_eq]; simp; lia
  · rw [acmp_gt]; simp; lia
theorem ki_alt {alts : List AV} {i : Nat} {k : Ky} {t : Tm} {x o : Str} (hi : alts[i]? = some (eAl k t)) (hl : alts.length ≤ 9) (hd : d.1.length + 1 ≤ lim) :
    run W Φ 31 [aFc, .obj 5 [eV x, .str o, .list alts, p3], .int ((i + 1 : Nat) : Int), d.av] c = some (.v ((d.put o (eA (cellOf k))).put x (eA (cellOf k))).av, c) := by
  have hlt : i < alts.length := by
    rcases Nat.lt_or_ge i alts.length with h | h
    · exact h
    · rw [List.getElem?_eq_none h] at hi; cases hi
  have e1 : ((i + 1 : Nat) : Int) - 1 = (i : Int) := by lia
  have hd2 := d.put_len o (eA (cellOf k))
  refine run_xr (F := ⟨4, 8, b31⟩) rfl rfl rfl (xr_seq (x_if (q := false) (t_or2 (c1 := c) rfl (t_or2 (t_of (q := false) (r_cmp (x := .int ((i + 1 : Nat) : Int)) rfl (EE.of (r_loc rfl) rfl) (p_of rfl (EE.of (r_int (n := 0)) rfl)) (z := .int 0) rfl ?_) rfl) (t_of (r_cmp (x := .int ((i + 1 : Nat) : Int)) rfl (EE.of (r_loc rfl) rfl) (p_of rfl (EE.of (r_len (xs := alts) (p_of rfl (EE.of (r_attr (k := 5) (j := 2) (EE.of (r_loc rfl) rfl) rfl rfl) rfl)) rfl (small9 hl)) rfl)) (z := .int alts.length) rfl ?_) rfl))) x_skip) ?_)
  · rw [acmp_eq]; simp; lia
  · rw [acmp_gt]; simp; lia
  refine xr_seq (x_asg (r := .v (eAl k t)) (r_idx_list (n := (i : Int)) (p_of rfl (EE.of (r_attr (k := 5) (j := 2) (EE.of (r_loc rfl) rfl) rfl rfl) rfl)) (EE.of (r_bin (x := .int ((i + 1 : Nat) : Int)) (y := .int 1) (v := .int i) (EE.of (r_loc rfl) rfl) (EE.of r_int rfl) (congrArg (fun z => some (AV.int z)) e1)) rfl) rfl (small9 hl) (itemAt_nat hi))) ?_
  have last : ∀ {l4 : LV} {y : AV}, XR Φ W (.seq (.asg 6 (.copy (.loc 3)))
      (.seq (.setIdx (.loc 6) (.attr (.loc 1) 0) (.loc 5))
      (.seq (.ifs (.isi (.attr (.loc 1) 2) 0)
      (.seq (.setIdx (.loc 6) (.attr (.attr (.loc 1) 2) 0) (.loc 5))
      .skip)
      .skip)
      (.seq (.freeze 6)
      (.seq (.ret (.loc 6))
      .skip))))) [.val aFc, .val (.obj 5 [eV x, .str o, .list alts, p3]), .val (.int ((i + 1 : Nat) : Int)), .val d.av, l4, .val y, .un, .un] c (.v ((d.put o y).put x y).av) c := by
    intro l4 y
    have hd3 := d.put_len o y
    refine xr_seq (x_asg (r_copy (EE.of (r_loc rfl) rfl) (by lia))) ?_
    refine xr_seq (x_setDict (c1 := c) (c2 := c) (n := o) (x := y) (EE.of (r_loc rfl) rfl) (p_own rfl) (EE.of (r_attr (k := 5) (j := 1) (EE.of (r_loc rfl) rfl) rfl rfl) rfl) rfl (by lia) rfl) ?_
    refine xr_seq (x_if (q := true) (c1 := c) rfl (x_seq (x_setDict (c1 := c) (c2 := c) (n := x) (x := y) (EE.of (r_loc rfl) rfl) (p_own rfl) (EE.of (r_attr (k := 0) (j := 0) (EE.of (r_attr (k := 5) (j := 0) (EE.of (r_loc rfl) rfl) rfl rfl) rfl) rfl rfl) rfl) rfl (by show (d.put o y).1.length ≤ lim; lia) rfl) x_skip)) ?_
    exact xr_seq (x_freeze rfl) (xr_stop (xr_ret (r_loc rfl)))
  cases k with
  | c f =>
    refine xr_seq (x_asg (r := .v (eA (.c f))) (c1 := c) rfl) ?_
    refine xr_seq (x_if (q := false) (c1 := c) rfl x_skip) ?_
    exact last
  | d =>
    refine xr_seq (x_asg (r := .v (eA .d)) (c1 := c) rfl) ?_
    refine xr_seq (x_if (q := false) (c1 := c) rfl x_skip) ?_
    exact last
  | n j =>
    refine xr_seq (x_asg (r := .v (.obj 6 [.str sx4, .list []])) (c1 := c) rfl) ?_
    refine xr_seq (x_if (q := true) (c1 := c) rfl (x_seq (x_asg (r := .v (eA (.n j))) (c1 := c) rfl) x_skip)) ?_
    exact last
end
end Mine
end
section
open PySem PySem.W PyProof.Rows
set_option Elab.async false
set_option maxRecDepth 100000
set_option linter.unusedVariables false
set_option linter.unusedSimpArgs false
namespace Mine
/-! Facts.run: the machine -/
noncomputable def sFr : IS := match b33 with
  | .seq _ (.seq (.whil _ s) _) => s
  | _ => .skip
theorem b33_eq : b33 = .seq (.asg2 2 3 (.list (.cons (.tup (.cons (.loc 1) (.cons .dict0 (.cons (.bool false) .nil)))) .nil)) (.list .nil)) (.seq (.whil (.loc 2) sFr) (.seq (.ret (.idx (.loc 3) (.int 0))) .skip)) := rfl
noncomputable def FL (e : AV) (ts ds : List AV) (rs : List LV) : Loc := .val aFc :: .val e :: .own (.list ts) :: .own (.list ds) :: rs
/-- what a task's node turns to before its parts -/
noncomputable def Tr (Φ : CallF) (k : Nat) (fs : List AV) (kd : AV) (c : Cells) (k' : Nat) (fs' : List AV) (c' : Cells) : Prop :=
  (k = 5 ∧ ∃ y, Φ 32 [aFc, .obj k fs, kd] c = some (.v y, c) ∧ Φ 30 [y, aFr] c = some (.v (.obj k' fs'), c')) ∨ (k ≠ 5 ∧ k < 10 ∧ k' = k ∧ fs' = fs ∧ c' = c)
section
variable {Φ : CallF} {W : Nat}
theorem tr_x {k k' : Nat} {fs fs' : List AV} {kd : AV} {c c' : Cells} {e : AV} {ts ds : List AV} {r5 r6 r8 r9 r10 : LV} (h : Tr Φ k fs kd c k' fs' c') :
    XS Φ W (.asg 4 (.ite (.isi (.loc 4) 5) (.call 30 (.cons (.meth (.loc 0) 8 (.cons (.loc 4) (.cons (.loc 7) .nil))) (.cons (.attr (.loc 0) 12) .nil))) (.loc 4)))
      (FL e ts ds [.val (.obj k fs), r5, r6, .val kd, r8, r9, r10]) c .next (FL e ts ds [.val (.obj k' fs'), r5, r6, .val kd, r8, r9, r10]) c' := by
  rcases h with ⟨rfl, y, h1, h2⟩ | ⟨h1, h2, rfl, rfl, rfl⟩
  · refine x_asg (r := .v (.obj k' fs')) (r_ite (q := true) (c1 := c) rfl (r_call (l_cons (EE.of (r_meth (k := 8) (f := 32) (EE.of (r_loc rfl) rfl) rfl (l_cons (EE.of (r_loc rfl) rfl) (l_cons (EE.of (r_loc rfl) rfl) l_nil)) h1) rfl) (l_cons (EE.of (r_attr (k := 8) (j := 0) (EE.of (r_loc rfl) rfl) rfl rfl) rfl) l_nil)) h2))
  · have hb : (k' == 5) = false := by simpa using h1
    refine x_asg (r := .v (.obj k' fs')) (r_ite (q := false) (c1 := c') (t_of (?_ : ER Φ _ _ c' (.v (.bool false)) c') rfl) (r_loc rfl))
    rw [← hb]; exact r_isi (k' := k') (EE.of (r_loc rfl) rfl) h2
theorem f_leaf {e : AV} {ts ds : List AV} {c c' : Cells} {k f k' : Nat} {fs fs' : List AV} {kd : AV} {r4 r5 r6 r7 r8 r9 r10 : LV} {o : RV}
    (hl : ts.length ≤ 1000) (hd : ds.length ≤ 1000) (ht : Tr Φ k fs kd c k' fs' c') (hm : methOf k' 1 = some f) (hf : Φ f [.obj k' fs'] c' = some (o, c')) (ho : o.av = .list []) :
    ∃ q, q.length = 7 ∧ XS Φ W sFr (FL e (ts ++ [.tup [.obj k fs, kd, .bool false]]) ds [r4, r5, r6, r7, r8, r9, r10]) c .cont (FL e ts (ds ++ [.obj k' fs']) q) c' := by
  have hs : small (ts ++ [AV.tup [.obj k fs, kd, .bool false]]) = true := decide_eq_true (show _ ≤ 1000000 by simp; lia)
  have hs2 : small ds = true := decide_eq_true (show _ ≤ 1000000 by lia)
  refine ⟨[.val (.obj k' fs'), .val (.list []), r6, .val kd, .val (.bool false), r9, r10], rfl, ?_⟩
  refine x_seq (x_popT (p_own rfl) rfl hs lastTup_app (lm := FL e ts ds [r4, r5, r6, r7, r8, r9, r10]) (by rw [List.dropLast_concat]; rfl) rfl) ?_
  refine x_seq (x_if (q := false) (t_locb rfl) x_skip) ?_
  refine x_seq (tr_x ht) ?_
  refine x_seq (x_asg (r_meth (EE.of (r_loc rfl) rfl) hm l_nil hf)) ?_
  rw [ho]
  exact x_stop (x_if (q := true) (t_of (r_cmp rfl (EE.of (r_loc rfl) rfl) (p_of rfl (EE.of (r_list l_nil rfl) rfl)) rfl rfl) rfl) (x_seq (x_append (p_own rfl) rfl (EE.of (r_loc rfl) rfl) rfl hs2 rfl) (x_stop x_cont rfl))) rfl
noncomputable def sFlay : IS := .seq (.append (.loc 2) (.tup (.cons (.idx (.idx (.loc 5) (.loc 6)) (.int 0)) (.cons (.meth (.loc 0) 7 (.cons (.loc 4) (.cons (.loc 6) (.cons (.loc 7) .nil)))) (.cons (.bool false) .nil))))) .skip
theorem f_lay {e nd kd : AV} {k : Nat} {fs : List AV} {pl : List AV} {r8 r9 r10 : LV} {c : Cells} (hnd : nd = .obj k fs) (hpl : pl.length ≤ 9) : ∀ (its : List (Nat × AV × AV)) (ts ds : List AV) (r6 : LV), ts.length + its.length ≤ 1000 →
    (∀ q ∈ its, (∃ sc, pl[q.1]? = some (.tup [q.2.1, sc])) ∧ ∃ o : RV, o.av = q.2.2 ∧ Φ 31 [aFc, nd, .int (q.1 : Nat), kd] c = some (o, c)) →
    ∃ q6, forL (exs tab Φ W sFlay) (bind1 6) (its.map fun q => .int (q.1 : Nat)) (FL e ts ds [.val nd, .val (.list pl), r6, .val kd, r8, r9, r10]) c = some (.next, FL e (ts ++ its.map fun q => .tup [q.2.1, q.2.2, .bool false]) ds [.val nd, .val (.list pl), q6, .val kd, r8, r9, r10], c)
  | [], ts, ds, r6, hl, h => ⟨r6, by simp [forL]⟩
  | q :: its, ts, ds, r6, hl, h => by
    subst hnd
    simp only [List.length_cons] at hl
    obtain ⟨⟨sc, hsc⟩, o, ho, hc⟩ := h q (List.mem_cons_self ..)
    have hs : small ts = true := decide_eq_true (show _ ≤ 1000000 by lia)
    obtain ⟨q6, ih⟩ := f_lay rfl hpl its (ts ++ [.tup [q.2.1, q.2.2, .bool false]]) ds (.val (.int (q.1 : Nat))) (by simp; lia) (fun z hz => h z (List.mem_cons_of_mem _ hz))
    refine ⟨q6, ?_⟩
    have e1 : (ts ++ List.map (fun q : Nat × AV × AV => AV.tup [q.2.1, q.2.2, .bool false]) (q :: its)) = (ts ++ [.tup [q.2.1, q.2.2, .bool false]]) ++ List.map (fun q : Nat × AV × AV => AV.tup [q.2.1, q.2.2, .bool false]) its := by simp
    rw [e1]
    refine forL_cons rfl (x_seq (x_append (p_own rfl) rfl (EE.of (r_tup (l_cons (x := q.2.1) (EE.of (r_idx_tup (n := 0) (xs := [q.2.1, sc]) (p_of rfl (EE.of (r_idx_list (xs := pl) (n := (q.1 : Nat)) (p_loc rfl) (EE.of (r_loc rfl) rfl) rfl (small9 hpl) (itemAt_nat hsc)) rfl)) (EE.of r_int rfl) rfl rfl rfl) rfl) (l_cons (x := q.2.2) (EE.of (r_meth (k := 8) (EE.of (r_loc rfl) rfl) rfl (l_cons (EE.of (r_loc rfl) rfl) (l_cons (EE.of (r_loc rfl) rfl) (l_cons (EE.of (r_loc rfl) rfl) l_nil))) hc) ho) (l_cons (EE.of r_bool rfl) l_nil))) rfl) rfl) rfl hs rfl) x_skip) ih
theorem f_open {e : AV} {ts ds : List AV} {c c' : Cells} {k f k' : Nat} {fs fs' : List AV} {kd : AV} {pl : List AV} {its : List (Nat × AV × AV)} {r4 r5 r6 r7 r8 r9 r10 : LV} {o : RV}
    (hl : ts.length + 1 + its.length ≤ 1000) (hpl : pl.length ≤ 9) (hp0 : pl.length ≠ 0) (ht : Tr Φ k fs kd c k' fs' c') (hm : methOf k' 1 = some f) (hf : Φ f [.obj k' fs'] c' = some (o, c')) (ho : o.av = .list pl)
    (hits : ((List.range pl.length).map fun j : Nat => AV.int ((pl.length : Int) - 1 - (j : Int))) = its.map fun q => .int (q.1 : Nat))
    (hi : ∀ q ∈ its, (∃ sc, pl[q.1]? = some (.tup [q.2.1, sc])) ∧ ∃ o : RV, o.av = q.2.2 ∧ Φ 31 [aFc, .obj k' fs', .int (q.1 : Nat), kd] c' = some (o, c')) :
    ∃ q, q.length = 7 ∧ XS Φ W sFr (FL e (ts ++ [.tup [.obj k fs, kd, .bool false]]) ds [r4, r5, r6, r7, r8, r9, r10]) c .next (FL e (ts ++ [.tup [.obj k' fs', kd, .bool true]] ++ its.map fun q => .tup [q.2.1, q.2.2, .bool false]) ds q) c' := by
  have hs : small (ts ++ [AV.tup [.obj k fs, kd, .bool false]]) = true := decide_eq_true (show _ ≤ 1000000 by simp; lia)
  have hs2 : small ts = true := decide_eq_true (show _ ≤ 1000000 by lia)
  obtain ⟨q6, hlay⟩ := f_lay (Φ := Φ) (W := W) (e := e) (nd := .obj k' fs') (kd := kd) (pl := pl) (r8 := .val (.bool false)) (r9 := r9) (r10 := r10) (c := c') rfl hpl its (ts ++ [.tup [.obj k' fs', kd, .bool true]]) ds r6 (by simp; lia) hi
  refine ⟨[.val (.obj k' fs'), .val (.list pl), q6, .val kd, .val (.bool false), r9, r10], rfl, ?_⟩
  refine x_seq (x_popT (p_own rfl) rfl hs lastTup_app (lm := FL e ts ds [r4, r5, r6, r7, r8, r9, r10]) (by rw [List.dropLast_concat]; rfl) rfl) ?_
  refine x_seq (x_if (q := false) (t_locb rfl) x_skip) ?_
  refine x_seq (tr_x ht) ?_
  refine x_seq (x_asg (r_meth (EE.of (r_loc rfl) rfl) hm l_nil hf)) ?_
  rw [ho]
  refine x_seq (x_if (q := false) (t_of (r_cmp rfl (EE.of (r_loc rfl) rfl) (p_of rfl (EE.of (r_list l_nil rfl) rfl)) rfl ?_) rfl) x_skip) ?_
  · exact acmp_nil (hp0)
  refine x_seq (x_append (p_own rfl) rfl (EE.of (r_tup (l_cons (EE.of (r_loc rfl) rfl) (l_cons (EE.of (r_loc rfl) rfl) (l_cons (EE.of r_bool rfl) l_nil))) rfl) rfl) rfl hs2 rfl) ?_
  refine x_seq (x_for1 (i_range3 (n := pl.length) (EE.of (r_bin (x := .int pl.length) (y := .int 1) (EE.of (r_len (p_loc rfl) rfl (small9 hpl)) rfl) (EE.of r_int rfl) rfl) rfl) rfl rfl (by unfold lim; lia)) ?_ ?_) x_skip
  · exact small9 (by simp; exact hpl)
  · rw [hits]; exact hlay
theorem f_close {e : AV} {ts ds rs : List AV} {c : Cells} {k f g g0 : Nat} {fs ps : List AV} {kd gr p : AV} {r4 r5 r6 r7 r8 r9 r10 : LV} {o1 o2 o0 : RV}
    (ht : ts.length ≤ 1000) (hl : ds.length + rs.length ≤ 1000) (hr : rs.length = ps.length) (hm : methOf k 1 = some f) (hf : Φ f [.obj k fs] c = some (o1, c)) (h1 : o1.av = .list ps)
    (hm0 : methOf k 0 = some g0) (hg0 : Φ g0 [.obj k fs] c = some (o0, c)) (h0 : o0.av = gr)
    (hm2 : methOf k 2 = some g) (hg : Φ g [.obj k fs, gr, .list rs] c = some (o2, c)) (h2 : o2.av = p) :
    ∃ q, q.length = 7 ∧ XS Φ W sFr (FL e (ts ++ [.tup [.obj k fs, kd, .bool true]]) (ds ++ rs) [r4, r5, r6, r7, r8, r9, r10]) c .cont (FL e ts (ds ++ [p]) q) c := by
  have hs : small (ts ++ [AV.tup [.obj k fs, kd, .bool true]]) = true := decide_eq_true (show _ ≤ 1000000 by simp; lia)
  have hs1 : small ps = true := decide_eq_true (show _ ≤ 1000000 by lia)
  have hs2 : small (ds ++ rs) = true := decide_eq_true (show _ ≤ 1000000 by simp; lia)
  have hs3 : small ds = true := decide_eq_true (show _ ≤ 1000000 by lia)
  have e0 : ((ds ++ rs).length : Int) - (ps.length : Int) = (ds.length : Int) := by simp; lia
  have e1 : (ds ++ rs).drop ((ds.length : Int)).toNat = rs := by simp
  have e2 : (ds ++ rs).take ((ds.length : Int)).toNat = ds := by simp
  have eB : ∀ {u : List LV} {a4 a5 a6 a7 a8 : LV}, ER Φ (.bin .sub (.len (.loc 3)) (.loc 9)) (.val aFc :: .val e :: .own (.list ts) :: .own (.list (ds ++ rs)) :: a4 :: a5 :: a6 :: a7 :: a8 :: .val (.int ps.length) :: u) c (.v (.int ds.length)) c := by
    intro u a4 a5 a6 a7 a8
    exact r_bin (EE.of (r_len (p_own rfl) rfl hs2) rfl) (EE.of (r_loc rfl) rfl) (by rw [← e0]; rfl)
  refine ⟨[.val (.obj k fs), r5, r6, .val kd, .val (.bool true), .val (.int ps.length), .val p], rfl, ?_⟩
  refine x_seq (x_popT (p_own rfl) rfl hs lastTup_app (lm := FL e ts (ds ++ rs) [r4, r5, r6, r7, r8, r9, r10]) (by rw [List.dropLast_concat]; rfl) rfl) ?_
  refine x_stop (x_if (q := true) (t_locb rfl) (x_seq (x_asg (r_len (xs := ps) (p_of rfl (EE.of (r_meth (EE.of (r_loc rfl) rfl) hm l_nil hf) rfl)) (by show deref c o1.av = _; rw [h1]; rfl) hs1)) ?_)) rfl
  refine x_seq (x_asg (r_meth (EE.of (r_loc rfl) rfl) hm2 (l_cons (x := gr) (EE.of (r_meth (EE.of (r_loc rfl) rfl) hm0 l_nil hg0) h0) (l_cons (x := .list rs) (EE.of (r_sliceFrom (p_own rfl) (EE.of eB rfl) rfl (by lia) (by simp; lia) hs2) (by rw [e1]; rfl)) l_nil)) hg)) ?_
  rw [h2]
  refine x_seq (x_delFrom (p_own rfl) (EE.of eB rfl) rfl (by lia) (by simp; lia) hs2 (by rw [e2]; rfl)) ?_
  exact x_seq (x_append (p_own rfl) rfl (EE.of (r_loc rfl) rfl) rfl hs3 rfl) (x_stop x_cont rfl)
end
end Mine
end
section
open PySem PySem.W PyProof.Rows
set_option Elab.async false
set_option maxRecDepth 100000
set_option linter.unusedVariables false
set_option linter.unusedSimpArgs false
namespace Mine
/-! Facts.run goes through a tree -/
noncomputable abbrev PhiF (W d : Nat) : CallF := callF tab fun? (W + 1) (d + 9)
noncomputable def wF (W d V : Nat) (l : Loc) (c : Cells) := whileL (ev tab (PhiF W d) (.loc 2)).t (exs tab (PhiF W d) (W + 1) sFr) V l c
theorem seven {q : List LV} (h : q.length = 7) : ∃ r4 r5 r6 r7 r8 r9 r10, q = [r4, r5, r6, r7, r8, r9, r10] := by
  match q, h with
  | [r4, r5, r6, r7, r8, r9, r10], _ => exact ⟨_, _, _, _, _, _, _, rfl⟩
theorem t_tasksF {Φ : CallF} {e : AV} {ts ds : List AV} {t : AV} {rs : List LV} {c : Cells} (h : ts.length ≤ 1000) : ET Φ (.loc 2) (FL e (ts ++ [t]) ds rs) c true c := by
  have := t_locl (Φ := Φ) (l := FL e (ts ++ [t]) ds rs) (c := c) (i := 2) (xs := ts ++ [t]) rfl (decide_eq_true (show _ ≤ 1000000 by simp; lia))
  have e : (!(ts ++ [t]).isEmpty) = true := by cases ts <;> rfl
  rw [e] at this; exact this
noncomputable def GoF (ak : List Str) (e x kd : AV) (h : Nat) (cnt : Str → Nat) (n : Nat) (y : AV) (cnt' : Str → Nat) (n' : Nat) : Prop :=
  ∀ c, Sx ak cnt n c → ∃ c', Sx ak cnt' n' c' ∧ ∃ N M, ∀ W d V ts ds rs, M ≤ W → rs.length = 7 → ts.length + h ≤ 900 → ds.length + h ≤ 900 →
    ∃ rs', rs'.length = 7 ∧ wF W d (V + N) (FL e (ts ++ [.tup [x, kd, .bool false]]) ds rs) c = wF W d V (FL e ts (ds ++ [y]) rs') c'
noncomputable def GoFs (ak : List Str) (e : AV) (ps : List (AV × AV)) (h : Nat) (cnt : Str → Nat) (n : Nat) (ys : List AV) (cnt' : Str → Nat) (n' : Nat) : Prop :=
  ∀ c, Sx ak cnt n c → ∃ c', Sx ak cnt' n' c' ∧ ∃ N M, ∀ W d V ts ds rs, M ≤ W → rs.length = 7 → ts.length + h ≤ 900 → ds.length + h ≤ 900 →
    ∃ rs', rs'.length = 7 ∧ wF W d (V + N) (FL e (ts ++ ps.reverse.map fun q => .tup [q.1, q.2, .bool false]) ds rs) c = wF W d V (FL e ts (ds ++ ys) rs') c'
theorem GoF.le {ak : List Str} {e x kd y : AV} {h h' n n' : Nat} {cnt cnt' : Str → Nat} (g : GoF ak e x kd h cnt n y cnt' n') (hh : h ≤ h') : GoF ak e x kd h' cnt n y cnt' n' := by
  intro c hc
  obtain ⟨c', h1, N, M, h2⟩ := g c hc
  exact ⟨c', h1, N, M, fun W d V ts ds rs hW hr ht hd => h2 W d V ts ds rs hW hr (by lia) (by lia)⟩
theorem goFs_nil {ak : List Str} {e : AV} {h n : Nat} {cnt : Str → Nat} : GoFs ak e [] h cnt n [] cnt n :=
  fun c hc => ⟨c, hc, 0, 0, fun W d V ts ds rs hW hr ht hd => ⟨rs, hr, by simp⟩⟩
theorem goFs_cons {ak : List Str} {e x sb y : AV} {ps : List (AV × AV)} {ys : List AV} {h h1 H n n1 n2 : Nat} {cnt cnt1 cnt2 : Str → Nat} (g : GoF ak e x sb h cnt n y cnt1 n1) (gs : GoFs ak e ps h1 cnt1 n1 ys cnt2 n2)
    (hH : h + ps.length ≤ H) (hH1 : h1 + 1 ≤ H) : GoFs ak e ((x, sb) :: ps) H cnt n (y :: ys) cnt2 n2 := by
  intro c hc
  obtain ⟨c1, hc1, N, M, hN⟩ := g c hc
  obtain ⟨c2, hc2, N1, M1, hN1⟩ := gs c1 hc1
  refine ⟨c2, hc2, N1 + N, M + M1, fun W d V ts ds rs hW hr ht hd => ?_⟩
  obtain ⟨rs1, hr1, e1⟩ := hN W d (V + N1) (ts ++ ps.reverse.map fun q => .tup [q.1, q.2, .bool false]) ds rs (by lia) hr (by simp; lia) (by lia)
  obtain ⟨rs2, hr2, e2⟩ := hN1 W d V ts (ds ++ [y]) rs1 (by lia) hr1 (by lia) (by simp; lia)
  refine ⟨rs2, hr2, ?_⟩
  have e3 := e1.trans e2
  simp only [List.append_assoc, List.singleton_append] at e3
  simp only [List.reverse_cons, List.map_append, List.map_cons, List.map_nil]
  rw [← Nat.add_assoc]
  exact e3
theorem goF_leaf {ak : List Str} {e kd : AV} {k f h n : Nat} {fs : List AV} {cnt : Str → Nat} (hk : k ≠ 5) (hk' : k < 10) (hm : methOf k 1 = some f) (hf : ∀ W d c, ∃ o : RV, PhiF W d f [.obj k fs] c = some (o, c) ∧ o.av = .list []) :
    GoF ak e (.obj k fs) kd h cnt n (.obj k fs) cnt n := by
  intro c hc
  refine ⟨c, hc, 1, 0, fun W d V ts ds rs hW hr ht hd => ?_⟩
  refine ex_7_1 (seven hr) fun r0 r1 r2 r3 r4 r5 r6 eq0 => ?_
  subst eq0
  refine ex_1_2 (hf W d c) fun o ho ho2 => ?_
  refine ex_1_2 (f_leaf (Φ := PhiF W d) (W := W + 1) (e := e) (ts := ts) (ds := ds) (c := c) (kd := kd) (r4 := r0) (r5 := r1) (r6 := r2) (r7 := r3) (r8 := r4) (r9 := r5) (r10 := r6) (by lia) (by lia) (.inr ⟨hk, hk', rfl, rfl, rfl⟩) hm ho ho2) fun q hq hx => ?_
  exact ⟨q, hq, while_cont (t_tasksF (by lia)) hx⟩
theorem goF_node {ak : List Str} {e : AV} {k k' f g g2 : Nat} {fs fs' : List AV} {kd gr p : AV} {ys : List AV} {h H n n1 n2 : Nat} {cnt cnt1 cnt2 : Str → Nat} {its : List (Nat × AV × AV)}
    (htr : ∀ c, Sx ak cnt n c → ∃ c', Sx ak cnt1 n1 c' ∧ ∃ N, ∀ W d, N ≤ W → Tr (PhiF W d) k fs kd c k' fs' c')
    (hp0 : its.length ≠ 0) (hp5 : its.length ≤ 5) (hy : ys.length = its.length) (hm : methOf k' 1 = some f) {pl : List AV} (hlen : pl.length = its.length) (hf : ∀ W d c, ∃ o : RV, PhiF W d f [.obj k' fs'] c = some (o, c) ∧ o.av = .list pl)
    (hits : ((List.range pl.length).map fun j : Nat => AV.int ((pl.length : Int) - 1 - (j : Int))) = its.map fun q => .int (q.1 : Nat))
    (hi : ∀ q ∈ its, (∃ sc, pl[q.1]? = some (.tup [q.2.1, sc])) ∧ ∀ W d c, ∃ o : RV, o.av = q.2.2 ∧ PhiF W d 31 [aFc, .obj k' fs', .int (q.1 : Nat), kd] c = some (o, c))
    (gs : GoFs ak e (its.reverse.map fun q => (q.2.1, q.2.2)) h cnt1 n1 ys cnt2 n2)
    (hm0 : methOf k' 0 = some g) (hg : ∀ W d c, ∃ o : RV, PhiF W d g [.obj k' fs'] c = some (o, c) ∧ o.av = gr)
    (hm2 : methOf k' 2 = some g2) (hc : ∀ W d c, ∃ o : RV, PhiF W d g2 [.obj k' fs', gr, .list ys] c = some (o, c) ∧ o.av = p)
    (hH : h + 1 ≤ H) (hH5 : 6 ≤ H) : GoF ak e (.obj k fs) kd H cnt n p cnt2 n2 := by
  intro c hs
  obtain ⟨c1, hs1, N0, hn1⟩ := htr c hs
  obtain ⟨c2, hs2, N, M, hN⟩ := gs c1 hs1
  refine ⟨c2, hs2, 1 + N + 1, N0 + M, fun W d V ts ds rs hW hr ht hd => ?_⟩
  refine ex_7_1 (seven hr) fun r0 r1 r2 r3 r4 r5 r6 eq0 => ?_
  subst eq0
  refine ex_1_2 (hf W d c1) fun o1 ho1 ho1' => ?_
  refine ex_1_2 (f_open (Φ := PhiF W d) (W := W + 1) (e := e) (ts := ts) (ds := ds) (kd := kd) (its := its) (r4 := r0) (r5 := r1) (r6 := r2) (r7 := r3) (r8 := r4) (r9 := r5) (r10 := r6) (by lia) (by lia) (by lia) (hn1 W d (by lia)) hm ho1 ho1' hits (fun q hq => ⟨(hi q hq).1, (hi q hq).2 W d c1⟩)) fun q hq hx => ?_
  obtain ⟨rs1, hr1, e1⟩ := hN W d (V + 1) (ts ++ [.tup [.obj k' fs', kd, .bool true]]) ds q (by lia) hq (by simp; lia) (by lia)
  refine ex_7_1 (seven hr1) fun r0 r1 r2 r3 r4 r5 r6 eq0 => ?_
  subst eq0
  refine ex_1_2 (hf W d c2) fun o3 ho3 ho3' => ?_
  refine ex_1_2 (hc W d c2) fun o4 ho4 ho4' => ?_
  refine ex_1_2 (hg W d c2) fun o5 ho5 ho5' => ?_
  refine ex_1_2 (f_close (Φ := PhiF W d) (W := W + 1) (e := e) (ts := ts) (ds := ds) (rs := ys) (kd := kd) (r4 := r0) (r5 := r1) (r6 := r2) (r7 := r3) (r8 := r4) (r9 := r5) (r10 := r6) (by lia) (by lia) (by lia) hm ho3 ho3' hm0 ho5 ho5' hm2 ho4 ho4') fun q2 hq2 hx2 => ?_
  refine ⟨q2, hq2, ?_⟩
  have s1 := while_next (n := V + 1 + N) (t_tasksF (Φ := PhiF W d) (e := e) (ts := ts) (t := .tup [.obj k fs, kd, .bool false]) (ds := ds) (c := c) (by lia)) hx
  have s2 := while_cont (n := V) (t_tasksF (Φ := PhiF W d) (e := e) (ts := ts) (t := .tup [.obj k' fs', kd, .bool true]) (ds := ds ++ ys) (c := c2) (by lia)) hx2
  have e0 : V + (1 + N + 1) = V + 1 + N + 1 := by lia
  rw [e0]
  refine s1.trans (Eq.trans ?_ s2)
  have e2 : ((its.reverse.map fun q => (q.2.1, q.2.2)).reverse.map fun q : AV × AV => AV.tup [q.1, q.2, .bool false]) = its.map fun q => AV.tup [q.2.1, q.2.2, .bool false] := by simp [← List.map_reverse]
  rw [e2] at e1
  exact e1
end Mine
end
section
open PySem PySem.W PyProof.Rows
set_option Elab.async false
set_option maxRecDepth 100000
set_option linter.unusedVariables false
set_option linter.unusedSimpArgs false
namespace Mine
/-! the facts' walk on each shape -/
variable {ak : List Str} {e kd : AV} {d : Dc} {h n n1 n2 n3 n4 : Nat} {cnt cnt1 cnt2 cnt3 cnt4 : Str → Nat} {x o : Str} {a : At} {t t' u u' z z' r : Tm} {k j : Ky}
theorem tr_same {k : Nat} {fs : List AV} (hk : k ≠ 5) (hk' : k < 10) : ∀ c, Sx ak cnt n c → ∃ c', Sx ak cnt n c' ∧ ∃ N, ∀ W d, N ≤ W → Tr (PhiF W d) k fs kd c k fs c' :=
  fun c hc => ⟨c, hc, 0, fun W d _ => .inr ⟨hk, hk', rfl, rfl, rfl⟩⟩
theorem goF_var : GoF ak e (eV x) kd h cnt n (eV x) cnt n := goF_leaf (f := 1) (by decide) (by decide) rfl (fun W d c => ⟨_, var_parts, rfl⟩)
theorem goF_lit {p q : AV} : GoF ak e (.obj 1 [p, q]) kd h cnt n (.obj 1 [p, q]) cnt n := goF_leaf (f := 4) (by decide) (by decide) rfl (fun W d c => ⟨_, lit_parts, rfl⟩)
theorem goF_con0 {p : AV} : GoF ak e (.obj 6 [p, .list []]) kd h cnt n (.obj 6 [p, .list []]) cnt n := goF_leaf (f := 16) (by decide) (by decide) rfl (fun W d c => ⟨_, con_parts0, rfl⟩)
theorem goF_con1 {p : AV} : GoF ak e (.obj 6 [p, .list [eV x]]) kd 7 cnt n (.obj 6 [p, .list [eV x]]) cnt n :=
  goF_node (k' := 6) (f := 16) (g := 15) (g2 := 17) (its := [(0, eV x, kd)]) (ys := [eV x]) (gr := .list []) (pl := [prt (eV x) []]) (h := 1) (tr_same (by decide) (by decide)) (by simp) (by simp) rfl rfl rfl (fun W d c => ⟨_, con_parts1, rfl⟩) rfl
    (fun q hq => by simp only [List.mem_singleton] at hq; subst hq; exact ⟨⟨_, rfl⟩, fun W d c => ⟨_, rfl, ki_not (by decide) (by decide)⟩⟩)
    (goFs_cons (h := 0) goF_var (goFs_nil (h := 0)) (by decide) (by lia)) rfl (fun W d c => ⟨_, con_groups, rfl⟩) rfl (fun W d c => ⟨_, con_rebuilt, rfl⟩) (by lia) (by lia)
theorem goF_at : GoF ak e (eA a) kd 7 cnt n (eA a) cnt n := by
  cases a with
  | v x => exact goF_var
  | n k => exact goF_lit
  | c x => exact goF_con1
  | d => exact goF_con0
theorem goF_tolt {k : Nat} {fs : List AV} (htr : ∀ c, Sx ak cnt n c → ∃ c', Sx ak cnt1 n1 c' ∧ ∃ N, ∀ W d, N ≤ W → Tr (PhiF W d) k fs kd c 3 [.list [.tup [.str x, eA a]], eT t, .bool false] c')
    (g : GoF ak e (eT t) kd h cnt1 n1 (eT r) cnt2 n2) : GoF ak e (.obj k fs) kd (h + 12) cnt n (eT (.lt x a r)) cnt2 n2 :=
  goF_node (k' := 3) (f := 10) (g := 9) (g2 := 11) (its := [(1, eT t, kd), (0, eA a, kd)]) (ys := [eA a, eT r]) (gr := .list [.list [.str x]]) (pl := [prt (eA a) [], prt (eT t) [0]]) (h := h + 9) htr (by simp) (by simp) rfl rfl rfl (fun W d c => ⟨_, lt_parts, rfl⟩) rfl
    (fun q hq => by
      simp only [List.mem_cons, List.not_mem_nil, or_false] at hq
      rcases hq with rfl | rfl
      · exact ⟨⟨_, rfl⟩, fun W d c => ⟨_, rfl, ki_not (by decide) (by decide)⟩⟩
      · exact ⟨⟨_, rfl⟩, fun W d c => ⟨_, rfl, ki_not (by decide) (by decide)⟩⟩)
    (goFs_cons goF_at (goFs_cons g (goFs_nil (h := 0)) (H := h + 1) (by simp) (by lia)) (by simp) (by lia)) rfl (fun W d c => ⟨_, lt_groups, rfl⟩) rfl (fun W d c => ⟨_, lt_rebuilt, rfl⟩) (by lia) (by lia)
theorem goF_lt (g : GoF ak e (eT t) kd h cnt n (eT r) cnt2 n2) : GoF ak e (eT (.lt x a t)) kd (h + 12) cnt n (eT (.lt x a r)) cnt2 n2 :=
  goF_tolt (tr_same (by decide) (by decide)) g
theorem tr_keep {p1 p2 p3 : AV} (hx : d.1.contains x = false) : ∀ c, Sx ak cnt n c → ∃ c', Sx ak cnt n c' ∧ ∃ N, ∀ W d', N ≤ W → Tr (PhiF W d') 5 [eV x, p1, p2, p3] d.av c 5 [eV x, p1, p2, p3] c' :=
  fun c hc => ⟨c, hc, 0, fun W d' _ => .inl ⟨rfl, _, la_out hx, kcase_v⟩⟩
noncomputable def kput (d : Dc) (o x : Str) (k : Ky) : Dc := (d.put o (eA (cellOf k))).put x (eA (cellOf k))
theorem goF_c0 (hx : d.1.contains x = false) (gz : GoF ak e (eT z) d.av h cnt n (eT z') cnt1 n1) : GoF ak e (eT (.c0 (.v x) o z)) d.av (h + 12) cnt n (eT (.c0 (.v x) o z')) cnt1 n1 :=
  goF_node (k' := 5) (f := 13) (g := 12) (g2 := 14) (its := [(1, eT z, d.av), (0, eV x, d.av)]) (ys := [eV x, eT z']) (gr := .list [.list [.str o]]) (pl := [prt (eV x) [], prt (eT z) [0]]) (h := h + 9) (tr_keep hx) (by simp) (by simp) rfl rfl rfl (fun W d c => ⟨_, c0_parts eT_some, rfl⟩) rfl
    (fun q hq => by
      simp only [List.mem_cons, List.not_mem_nil, or_false] at hq
      rcases hq with rfl | rfl
      · exact ⟨⟨_, rfl⟩, fun W d c => ⟨_, rfl, ki_last (alts := []) (by simp)⟩⟩
      · exact ⟨⟨_, rfl⟩, fun W d c => ⟨_, rfl, ki_zero⟩⟩)
    (goFs_cons (h := 0) goF_var (goFs_cons gz (goFs_nil (h := 0)) (H := h + 1) (by simp) (by lia)) (by simp) (by lia)) rfl (fun W d c => ⟨_, c0_groups, rfl⟩) rfl (fun W d c => ⟨_, c0_rebuilt eT_some, rfl⟩) (by lia) (by lia)
theorem goF_c1 (hx : d.1.contains x = false) (hd : d.1.length + 1 ≤ lim) (gt : GoF ak e (eT t) (kput d o x k).av h cnt n (eT t') cnt1 n1) (gz : GoF ak e (eT z) d.av h cnt1 n1 (eT z') cnt2 n2) :
    GoF ak e (eT (.c1 (.v x) o k t z)) d.av (h + 12) cnt n (eT (.c1 (.v x) o k t' z')) cnt2 n2 :=
  goF_node (k' := 5) (f := 13) (g := 12) (g2 := 14) (its := [(2, eT z, d.av), (1, eT t, (kput d o x k).av), (0, eV x, d.av)]) (ys := [eV x, eT t', eT z']) (gr := .list [.list [.str o], .list (eF k)]) (pl := [prt (eV x) [], prt (eT t) [0, 1], prt (eT z) [0]]) (h := h + 9) (tr_keep hx) (by simp) (by simp) rfl rfl rfl (fun W d c => ⟨_, c1_parts eT_some, rfl⟩) rfl
    (fun q hq => by
      simp only [List.mem_cons, List.not_mem_nil, or_false] at hq
      rcases hq with rfl | rfl | rfl
      · exact ⟨⟨_, rfl⟩, fun W d' c => ⟨_, rfl, ki_last (alts := [eAl k t]) (by simp)⟩⟩
      · exact ⟨⟨_, rfl⟩, fun W d' c => ⟨_, rfl, ki_alt (i := 0) (alts := [eAl k t]) rfl (by simp) hd⟩⟩
      · exact ⟨⟨_, rfl⟩, fun W d' c => ⟨_, rfl, ki_zero⟩⟩)
    (goFs_cons (h := 0) goF_var (goFs_cons gt (goFs_cons gz (goFs_nil (h := 0)) (H := h + 1) (by simp) (by lia)) (H := h + 2) (by simp) (by lia)) (by simp) (by lia)) rfl (fun W d c => ⟨_, c1_groups, rfl⟩) rfl (fun W d c => ⟨_, c1_rebuilt eT_some, rfl⟩) (by lia) (by lia)
theorem goF_c2 (hx : d.1.contains x = false) (hd : d.1.length + 1 ≤ lim) (gt : GoF ak e (eT t) (kput d o x k).av h cnt n (eT t') cnt1 n1) (gu : GoF ak e (eT u) (kput d o x j).av h cnt1 n1 (eT u') cnt2 n2) (gz : GoF ak e (eT z) d.av h cnt2 n2 (eT z') cnt3 n3) :
    GoF ak e (eT (.c2 (.v x) o k t j u z)) d.av (h + 12) cnt n (eT (.c2 (.v x) o k t' j u' z')) cnt3 n3 :=
  goF_node (k' := 5) (f := 13) (g := 12) (g2 := 14) (its := [(3, eT z, d.av), (2, eT u, (kput d o x j).av), (1, eT t, (kput d o x k).av), (0, eV x, d.av)]) (ys := [eV x, eT t', eT u', eT z']) (gr := .list [.list [.str o], .list (eF k), .list (eF j)]) (pl := [prt (eV x) [], prt (eT t) [0, 1], prt (eT u) [0, 2], prt (eT z) [0]]) (h := h + 9) (tr_keep hx) (by simp) (by simp) rfl rfl rfl (fun W d c => ⟨_, c2_parts eT_some, rfl⟩) rfl
    (fun q hq => by
      simp only [List.mem_cons, List.not_mem_nil, or_false] at hq
      rcases hq with rfl | rfl | rfl | rfl
      · exact ⟨⟨_, rfl⟩, fun W d' c => ⟨_, rfl, ki_last (alts := [eAl k t, eAl j u]) (by simp)⟩⟩
      · exact ⟨⟨_, rfl⟩, fun W d' c => ⟨_, rfl, ki_alt (i := 1) (alts := [eAl k t, eAl j u]) rfl (by simp) hd⟩⟩
      · exact ⟨⟨_, rfl⟩, fun W d' c => ⟨_, rfl, ki_alt (i := 0) (alts := [eAl k t, eAl j u]) rfl (by simp) hd⟩⟩
      · exact ⟨⟨_, rfl⟩, fun W d' c => ⟨_, rfl, ki_zero⟩⟩)
    (goFs_cons (h := 0) goF_var (goFs_cons gt (goFs_cons gu (goFs_cons gz (goFs_nil (h := 0)) (H := h + 1) (by simp) (by lia)) (H := h + 2) (by simp) (by lia)) (H := h + 3) (by simp) (by lia)) (by simp) (by lia)) rfl (fun W d c => ⟨_, c2_groups, rfl⟩) rfl (fun W d c => ⟨_, c2_rebuilt eT_some, rfl⟩) (by lia) (by lia)
end Mine
end
section
open PySem PySem.W PyProof.Rows
set_option Elab.async false
set_option maxRecDepth 100000
set_option linter.unusedVariables false
set_option linter.unusedSimpArgs false
namespace Mine
/-! plain lemmas for the facts -/
noncomputable def isV : At → Prop
  | .v _ => True
  | _ => False
noncomputable def vn : At → List Str
  | .v x => [x]
  | _ => []
noncomputable def NoAg : Tm → List Str → Prop
  | .lit _, _ => True
  | .lt _ _ t, s => NoAg t s
  | .c0 a _ z, s => (∀ x ∈ vn a, x ∉ s) ∧ NoAg z s
  | .c1 a o _ t z, s => (∀ x ∈ vn a, x ∉ s) ∧ NoAg t (s ++ [o] ++ vn a) ∧ NoAg z s
  | .c2 a o _ t _ u z, s => (∀ x ∈ vn a, x ∉ s) ∧ NoAg t (s ++ [o] ++ vn a) ∧ NoAg u (s ++ [o] ++ vn a) ∧ NoAg z s
noncomputable def Cons (κ : Str → Option At) (r : Env) : Prop := ∀ x a, κ x = some a → ∃ w, r x = some w ∧ wA a r = some w
theorem Cons.mono {κ : Str → Option At} {r r' : Env} (h : Cons κ r) (hs : sub r r') : Cons κ r' := fun x a hx => by
  refine ex_1_2 (h x a hx) fun w h1 h2 => ?_
  exact ⟨w, hs _ _ h1, wA_mono hs h2⟩
theorem sub_upd {r : Env} {D : Str → Prop} {x : Str} {v : Vl} (hd : ∀ x w, r x = some w → D x) (hx : ¬ D x) : sub r (upd r x v) := by
  intro y w hy
  by_cases e : y = x
  · subst e; exact absurd (hd _ _ hy) hx
  · rw [upd_ne e]; exact hy
theorem dom_upd {r : Env} {D : Str → Prop} {o : Str} {v : Vl} (hd : ∀ x w, r x = some w → D x) : ∀ x w, upd r o v x = some w → D x ∨ x = o := by
  intro x w h
  by_cases e : x = o
  · exact .inr e
  · rw [upd_ne e] at h; exact .inl (hd _ _ h)
theorem dom_updF {r : Env} {D : Str → Prop} {o : Str} {v : Vl} {k : Ky} {m : List Int} (hd : ∀ x w, r x = some w → D x) : ∀ x w, updF (upd r o v) (fl k) m x = some w → D x ∨ x = o ∨ x ∈ fl k := by
  intro x w h
  have h0 : ∀ w, upd r o v x = some w → D x ∨ x = o ∨ x ∈ fl k := fun w h => (dom_upd hd x w h).imp id .inl
  cases k with
  | c f =>
    cases m with
    | nil => exact h0 _ h
    | cons i m =>
      by_cases e : x = f
      · exact .inr (.inr (by simp [fl, e]))
      · have : updF (upd r o v) (fl (.c f)) (i :: m) x = upd r o v x := by show updF (upd (upd r o v) f _) [] m x = _; simp [updF, upd_ne e]
        rw [this] at h; exact h0 _ h
  | d => exact h0 _ (by simpa [fl, updF] using h)
  | n j => exact h0 _ (by simpa [fl, updF] using h)
theorem sub_updF {r : Env} {D : Str → Prop} {o : Str} {v : Vl} {k : Ky} {m : List Int} (hd : ∀ x w, r x = some w → D x) (ho : ¬ D o) (hf : ∀ f ∈ fl k, ¬ D f ∧ f ≠ o) : sub r (updF (upd r o v) (fl k) m) := by
  have h0 := sub_upd (v := v) hd ho
  cases k with
  | c f =>
    cases m with
    | nil => exact h0
    | cons i m =>
      intro y w hy
      have hy0 := h0 y w hy
      have hne : y ≠ f := fun e => (hf f (by simp [fl])).1 (e ▸ hd _ _ hy)
      show updF (upd (upd r o v) f (.I i)) [] m y = some w
      simp only [updF, upd_ne hne]; exact hy0
  | d => simpa [fl, updF] using h0
  | n j => simpa [fl, updF] using h0
theorem updF_ne {r : Env} {k : Ky} {m : List Int} {x : Str} (hx : x ∉ fl k) : updF r (fl k) m x = r x := by
  cases k with
  | c f =>
    cases m with
    | nil => rfl
    | cons i m =>
      have hne : x ≠ f := fun e => hx (by simp [fl, e])
      show updF (upd r f (.I i)) [] m x = r x
      simp only [updF, upd_ne hne]
  | d => simp [fl, updF]
  | n j => simp [fl, updF]
theorem cell_ok {r : Env} {k : Ky} {w : Vl} {m : List Int} (h : mt k w = some (some m)) : wA (cellOf k) (updF r (fl k) m) = some w := by
  cases k with
  | c f =>
    cases w with
    | C i => simp only [mt, Option.some.injEq] at h; subst h; simp [cellOf, wA, fl, updF, upd_same]
    | I i => simp [mt] at h
    | D => simp [mt] at h
  | d => cases w <;> simp [mt] at h <;> rfl
  | n j =>
    cases w with
    | I i => simp only [mt, Option.some.injEq] at h; split at h <;> simp_all [cellOf, wA]
    | C i => simp [mt] at h
    | D => simp [mt] at h
theorem cell_notV {k : Ky} : ¬ isV (cellOf k) := by cases k <;> simp [cellOf, isV]
/-- the known values in an alternative -/
theorem cons_alt {κ : Str → Option At} {r : Env} {D : Str → Prop} {x o : Str} {w : Vl} {k : Ky} {m : List Int} (hc : Cons κ r) (hd : ∀ x w, r x = some w → D x) (ho : ¬ D o) (hf : ∀ f ∈ fl k, ¬ D f ∧ f ≠ o) (hx : r x = some w) (hm : mt k w = some (some m)) :
    Cons (upd (upd κ o (cellOf k)) x (cellOf k)) (updF (upd r o w) (fl k) m) := by
  have hs := sub_updF (v := w) (m := m) hd ho hf
  intro y a hy
  by_cases e : y = x
  · subst e
    rw [upd_same] at hy; cases hy
    exact ⟨w, hs _ _ hx, cell_ok hm⟩
  · rw [upd_ne e] at hy
    by_cases e2 : y = o
    · subst e2
      rw [upd_same] at hy; cases hy
      refine ⟨w, ?_, cell_ok hm⟩
      rw [updF_ne (fun q => (hf _ q).2 rfl), upd_same]
    · rw [upd_ne e2] at hy
      exact hc.mono hs y a hy
/-! a Case of a known value -/
theorem fits_form {b : At} {k : Ky} {l : List (Str × At)} (h : fits b k = some l) : (l = [] ∧ fl k = []) ∨ ∃ f x, l = [(f, .v x)] ∧ k = .c f ∧ b = .c x := by
  cases b <;> cases k <;> simp [fits] at h <;> first | exact .inl ⟨h, rfl⟩ | exact .inl ⟨h.symm, rfl⟩ | exact .inl ⟨h.2, rfl⟩ | exact .inl ⟨h.2.symm, rfl⟩ | exact .inr ⟨_, _, h.symm, rfl, rfl⟩
theorem fm_none {b : At} {k : Ky} {r : Env} {w : Vl} (hb : ¬ isV b) (hw : wA b r = some w) (hm : mt k w = some none) : fits b k = none := by
  cases b with
  | v x => exact absurd trivial hb
  | n j => cases hw; cases k <;> simp_all [mt, fits]
  | d => cases hw; cases k <;> simp_all [mt, fits]
  | c x =>
    simp only [wA] at hw
    split at hw
    · cases hw; cases k <;> simp_all [mt, fits]
    · cases hw
theorem fm_some {b : At} {k : Ky} {r : Env} {w : Vl} {m : List Int} (hb : ¬ isV b) (hw : wA b r = some w) (hm : mt k w = some (some m)) : ∃ l, fits b k = some l ∧ ((l = [] ∧ fl k = []) ∨ ∃ f x i, l = [(f, .v x)] ∧ k = .c f ∧ m = [i] ∧ r x = some (.I i)) := by
  cases b with
  | v x => exact absurd trivial hb
  | n j => cases hw; cases k <;> simp_all [mt, fits, fl]
  | d => cases hw; cases k <;> simp_all [mt, fits, fl]
  | c x =>
    simp only [wA] at hw
    split at hw
    · rename_i i hi
      cases hw
      cases k with
      | c f => simp only [mt, Option.some.injEq] at hm; subst hm; exact ⟨_, rfl, .inr ⟨f, x, i, rfl, rfl, rfl, hi⟩⟩
      | d => simp [mt] at hm
      | n j => simp [mt] at hm
    · cases hw
/-- the tree that fits, under the Lets of its fields -/
theorem fits_worth {b : At} {k : Ky} {r : Env} {D : Str → Prop} {o : Str} {w : Vl} {m : List Int} {t : Tm} {v : Int} {l : List (Str × At)} (hd : ∀ x w, r x = some w → D x) (ho : ¬ D o) (hb : ¬ isV b) (hw : wA b r = some w) (hm : mt k w = some (some m)) (hl : fits b k = some l)
    (ht : worth t (updF (upd r o w) (fl k) m) = some v) : worth (lets l t) (upd r o w) = some v := by
  refine ex_1_2 (fm_some hb hw hm) fun l' e h => ?_
  rw [hl] at e; cases e
  rcases h with ⟨rfl, h2⟩ | ⟨f, x, i, rfl, rfl, rfl, h2⟩
  · rw [h2] at ht; simpa [updF, lets] using ht
  · have hne : x ≠ o := fun e => ho (e ▸ hd _ _ h2)
    simp only [lets, worth, wA, upd_ne hne, h2]
    exact ht
theorem wf_fits {b : At} {k : Ky} {D : Str → Prop} {o : Str} {t : Tm} {cnt : Str → Nat} {l : List (Str × At)} (hf : ∀ f ∈ fl k, ¬ D f ∧ f ≠ o) (hfo : ∀ f ∈ fl k, old cnt f) (hw : wf t (fun y => D y ∨ y = o ∨ y ∈ fl k)) (hl : fits b k = some l) :
    (l = [] ∧ wf t (fun y => D y ∨ y = o)) ∨ ∃ f x, l = [(f, .v x)] ∧ ¬ D f ∧ f ≠ o ∧ old cnt f ∧ wf t (fun y => (D y ∨ y = o) ∨ y = f) := by
  rcases fits_form hl with ⟨h1, h2⟩ | ⟨f, x, h1, rfl, h3⟩
  · exact .inl ⟨h1, hw.mono fun y hy => hy.imp id .inl⟩
  · refine .inr ⟨f, x, h1, (hf f (by simp [fl])).1, (hf f (by simp [fl])).2, hfo f (by simp [fl]), hw.mono fun y hy => ?_⟩
    rcases hy with (h | h) | h
    · exact .inl h
    · exact .inr (.inl h)
    · exact .inr (.inr (by simp [fl, h]))
theorem wa_on {a : At} {r : Env} {v : Int} {K : Vl → Option Int} (h : (match wA a r with
    | some w => K w
    | none => none) = some v) : ∃ w, wA a r = some w ∧ K w = some v := by
  cases ha : wA a r with
  | none => rw [ha] at h; cases h
  | some w => rw [ha] at h; exact ⟨w, rfl, h⟩
theorem alt_none {b : At} {k : Ky} {r : Env} {w : Vl} {v : Int} {Z : Option Int} {T : List Int → Option Int} (hb : ¬ isV b) (ha : wA b r = some w) (hq : fits b k = none) (h : (match mt k w with
    | some (some m) => T m
    | some none => Z
    | none => none) = some v) : Z = some v := by
  cases hm : mt k w with
  | none => rw [hm] at h; cases h
  | some q =>
    cases q with
    | none => rw [hm] at h; exact h
    | some m => obtain ⟨l, e, _⟩ := fm_some hb ha hm; rw [hq] at e; cases e
theorem alt_some {b : At} {k : Ky} {r : Env} {w : Vl} {v : Int} {l : List (Str × At)} {Z : Option Int} {T : List Int → Option Int} (hb : ¬ isV b) (ha : wA b r = some w) (hq : fits b k = some l) (h : (match mt k w with
    | some (some m) => T m
    | some none => Z
    | none => none) = some v) : ∃ m, mt k w = some (some m) ∧ T m = some v := by
  cases hm : mt k w with
  | none => rw [hm] at h; cases h
  | some q =>
    cases q with
    | none => have e := fm_none hb ha hm; rw [hq] at e; cases e
    | some m => rw [hm] at h; exact ⟨m, rfl, h⟩
theorem lt_worth {b : At} {o : Str} {t : Tm} {r : Env} {w : Vl} {v : Int} (ha : wA b r = some w) (h : worth t (upd r o w) = some v) : worth (.lt o b t) r = some v := by
  show (match wA b r with
    | some w => worth t (upd r o w)
    | none => none) = some v
  rw [ha]; exact h
theorem mx1 {a b : Nat} : a < 1 + max a b := by grind
theorem mx2 {a b : Nat} : b < 1 + max a b := by grind
theorem mx3 {a b c : Nat} : b < 1 + max a (max b c) := by grind
theorem mx4 {a b c : Nat} : c < 1 + max a (max b c) := by grind
structure ElimP (t : Tm) (b : At) (D : Str → Prop) (cnt : Str → Nat) (o : Str) (l : List (Str × At)) (body : Tm) : Prop where
  he : elim t = .lt o b (lets l body)
  hh : ht body < ht t
  hb : bo cnt body
  ho : old cnt o
  hn : ¬ D o
  hs : (l = [] ∧ wf body (fun y => D y ∨ y = o)) ∨ ∃ f x, l = [(f, .v x)] ∧ ¬ D f ∧ f ≠ o ∧ old cnt f ∧ wf body (fun y => (D y ∨ y = o) ∨ y = f)
  hw : ∀ r v, (∀ x w, r x = some w → D x) → worth t r = some v → worth (.lt o b (lets l body)) r = some v
theorem elim_parts {t : Tm} {b : At} {D : Str → Prop} {cnt : Str → Nat} (htop : top t = some b) (hb : ¬ isV b) (hw : wf t D) (hbo : bo cnt t) : ∃ o l body, ElimP t b D cnt o l body := by
  cases t with
  | lit n => cases htop
  | lt x a t => cases htop
  | c0 a o z =>
    cases htop
    exact ⟨o, [], z, rfl, Nat.lt_add_of_pos_left Nat.one_pos, hbo.2, hbo.1, hw.1, .inl ⟨rfl, hw.2⟩, fun r v hd h => h⟩
  | c1 a o k t z =>
    cases htop
    cases hq : fits b k with
    | none =>
      refine ⟨o, [], z, by show Tm.lt o b _ = _; rw [hq]; rfl, mx2, hbo.2.2.2, hbo.1, hw.1, .inl ⟨rfl, hw.2.2.2⟩, fun r v hd h => ?_⟩
      refine ex_1_2 (wa_on h) fun w ha h => ?_
      exact lt_worth ha (alt_none hb ha hq h)
    | some l =>
      refine ⟨o, l, t, by show Tm.lt o b _ = _; rw [hq], mx1, hbo.2.2.1, hbo.1, hw.1, wf_fits hw.2.1 hbo.2.1 hw.2.2.1 hq, fun r v hd h => ?_⟩
      refine ex_1_2 (wa_on h) fun w ha h => ?_
      refine ex_1_2 (alt_some hb ha hq h) fun m hm h => ?_
      exact lt_worth ha (fits_worth hd hw.1 hb ha hm hq h)
  | c2 a o k t j u z =>
    cases htop
    refine ex_0_6 (hw) fun w1 w2 w2' w3 w3' w4 => ?_
    refine ex_0_6 (hbo) fun b1 b2 b2' b3 b3' b4 => ?_
    cases hq : fits b k with
    | none =>
      cases hq' : fits b j with
      | none =>
        refine ⟨o, [], z, by show Tm.lt o b _ = _; rw [hq, hq']; rfl, mx4, b4, b1, w1, .inl ⟨rfl, w4⟩, fun r v hd h => ?_⟩
        refine ex_1_2 (wa_on h) fun w ha h => ?_
        exact lt_worth ha (alt_none hb ha hq' (alt_none hb ha hq h))
      | some l =>
        refine ⟨o, l, u, by show Tm.lt o b _ = _; rw [hq, hq'], mx3, b3', b1, w1, wf_fits w2' b2' w3' hq', fun r v hd h => ?_⟩
        refine ex_1_2 (wa_on h) fun w ha h => ?_
        refine ex_1_2 (alt_some hb ha hq' (alt_none hb ha hq h)) fun m hm h => ?_
        exact lt_worth ha (fits_worth hd w1 hb ha hm hq' h)
    | some l =>
      refine ⟨o, l, t, by show Tm.lt o b _ = _; rw [hq], mx1, b3, b1, w1, wf_fits w2 b2 w3 hq, fun r v hd h => ?_⟩
      refine ex_1_2 (wa_on h) fun w ha h => ?_
      refine ex_1_2 (alt_some hb ha hq h) fun m hm h => ?_
      exact lt_worth ha (fits_worth hd w1 hb ha hm hq h)
end Mine
end
section
open PySem PySem.W PyProof.Rows
set_option Elab.async false
set_option maxRecDepth 100000
set_option linter.unusedVariables false
set_option linter.unusedSimpArgs false
namespace Mine
theorem setTop_ht {t : Tm} {b : At} : ht (setTop b t) = ht t := by cases t <;> rfl
theorem setTop_nb {t : Tm} {b : At} : nb (setTop b t) = nb t := by cases t <;> rfl
theorem setTop_bo {t : Tm} {b : At} {cnt : Str → Nat} (h : bo cnt t) : bo cnt (setTop b t) := by cases t <;> exact h
theorem setTop_top {t : Tm} {a b : At} (h : top t = some a) : top (setTop b t) = some b := by cases t <;> first | rfl | cases h
theorem setTop_worth {t : Tm} {a b : At} {r : Env} (h : top t = some a) (hw : wA b r = wA a r) : worth (setTop b t) r = worth t r := by
  cases t <;> first | (cases h; done) | (cases h; simp only [setTop, worth, hw])
theorem old_plain {cnt : Str → Nat} {x : Str} (h : dotless x) (h0 : 0 < x.length) (h1 : x.length ≤ 10) : old cnt x := ⟨x, h, h0, h1, .inl rfl⟩
theorem old_f {cnt : Str → Nat} : old cnt sx0 := old_plain (by unfold dotless; decide +kernel) (by decide +kernel) (by decide +kernel)
theorem tr_elim_c {ak : List Str} {t : Tm} {a : At} {g : Str} {kd : AV} {n : Nat} {cnt : Str → Nat} (htop : top t = some a) (hh : ht t ≤ 80) (hb : bo cnt t) (hn : n + 1 + nb t < 100000)
    (hla : ∀ W d' c, PhiF W d' 32 [aFc, eT t, kd] c = some (.v (eT (setTop (.c g) t)), c)) :
    ∃ f cnt1 t' cnt2 fs, eT t = .obj 5 fs ∧ NN cnt sx0 f cnt1 ∧ Rn cnt1 (fun _ => none) (setTop (.c f) t) t' cnt2 ∧ ∀ c, Sx ak cnt n c → ∃ c', Sx ak cnt2 (n + 1 + nb t) c' ∧ ∃ N, ∀ W d', N ≤ W →
      Tr (PhiF W d') 5 fs kd c 3 [.list [.tup [.str f, eA (.v g)]], eT (elim t'), .bool false] c' := by
  refine ex_3_2 (setTop_enc htop) fun p1 p2 p3 hp hs => ?_
  refine ex_2_1 (nn_ex (cnt := cnt) (x := sx0) old_f) fun f cnt1 hf => ?_
  have hb1 : bo cnt1 (setTop (.c f) t) := setTop_bo (hb.mono hf.2.2.1)
  obtain ⟨t', cnt2, h1, h2⟩ := renamed_ans (ak := ak) (t := setTop (.c f) t) (n := n + 1) (cnt := cnt1) (by rw [setTop_ht]; exact hh) hb1 (by rw [setTop_nb]; exact hn)
  have et : eT t = .obj 5 [eA a, p1, p2, p3] := by rw [← hs a, setTop_self htop]
  refine ⟨f, cnt1, t', cnt2, _, et, hf, h1, fun c hc => ?_⟩
  refine ex_1_2 (hf.2.2.2 ak n c hc (by lia)) fun c1 g1 g2 => ?_
  obtain ⟨c2, g3, N, g4⟩ := h2 c1 g2
  refine ⟨c2, by rw [setTop_nb] at g3; exact g3, N, fun W d' hW => .inl ⟨rfl, eT (setTop (.c g) t), ?_, ?_⟩⟩
  · rw [← et]; exact hla W d' c
  · rw [hs]
    refine kcase_con (?_ : callF tab fun? (W + 1) (d' + 8) 28 _ c = _)
    refine kc_c (f := f) (c1 := c1) (Φ' := callF tab fun? (W + 1) (d' + 6)) (W' := W + 1) (by rw [h1.htop, setTop_top htop]; rfl) ?_ ?_ (fun a c => rfl) (fun a c => rfl)
    · exact fb_c (g1 W (d' + 4))
    · have := g4 W hW (d' + 1); rw [hs] at this; exact this
theorem tr_elim_d {ak : List Str} {t : Tm} {a b : At} {kd : AV} {n : Nat} {cnt : Str → Nat} (hbd : b = .d ∨ ∃ j, b = .n j) (htop : top t = some a) (hh : ht t ≤ 80) (hb : bo cnt t) (hn : n + nb t < 100000)
    (hla : ∀ W d' c, PhiF W d' 32 [aFc, eT t, kd] c = some (.v (eT (setTop b t)), c)) :
    ∃ t' cnt2 fs, eT t = .obj 5 fs ∧ Rn cnt (fun _ => none) (setTop b t) t' cnt2 ∧ ∀ c, Sx ak cnt n c → ∃ c', Sx ak cnt2 (n + nb t) c' ∧ ∃ N, ∀ W d', N ≤ W →
      ∃ y, PhiF W d' 32 [aFc, .obj 5 fs, kd] c = some (.v y, c) ∧ PhiF W d' 30 [y, aFr] c = some (.v (eT (elim t')), c') := by
  refine ex_3_2 (setTop_enc htop) fun p1 p2 p3 hp hs => ?_
  have hb1 : bo cnt (setTop b t) := setTop_bo hb
  obtain ⟨t', cnt2, h1, h2⟩ := renamed_ans (ak := ak) (t := setTop b t) (n := n) (cnt := cnt) (by rw [setTop_ht]; exact hh) hb1 (by rw [setTop_nb]; exact hn)
  have et : eT t = .obj 5 [eA a, p1, p2, p3] := by rw [← hs a, setTop_self htop]
  refine ⟨t', cnt2, _, et, h1, fun c hc => ?_⟩
  obtain ⟨c2, g3, N, g4⟩ := h2 c hc
  refine ⟨c2, by rw [setTop_nb] at g3; exact g3, N, fun W d' hW => ⟨eT (setTop b t), ?_, ?_⟩⟩
  · rw [← et]; exact hla W d' c
  · rw [hs]
    have g5 := g4 W hW (d' + 1)
    rw [hs] at g5
    rcases hbd with rfl | ⟨j, rfl⟩
    · refine kcase_con (?_ : callF tab fun? (W + 1) (d' + 8) 28 _ c = _)
      exact kc_d (Φ' := callF tab fun? (W + 1) (d' + 6)) (W' := W + 1) (by rw [h1.htop, setTop_top htop]; rfl) fb_d g5 (fun a c => rfl) (fun a c => rfl)
    · refine kcase_lit (?_ : callF tab fun? (W + 1) (d' + 8) 29 _ c = _)
      exact kl_run (by rw [h1.htop, setTop_top htop]; rfl) g5
end Mine
end
section
open PySem PySem.W PyProof.Rows
set_option Elab.async false
set_option maxRecDepth 100000
set_option linter.unusedVariables false
set_option linter.unusedSimpArgs false
namespace Mine
noncomputable def bud : Nat → Nat
  | 0 => 0
  | m + 1 => 3 + 3 * bud m
noncomputable def fb : Nat → Nat
  | 0 => 0
  | m + 1 => 1 + bud (m + 1) + 3 * fb m
theorem bud_mono : ∀ {m m' : Nat}, m ≤ m' → bud m ≤ bud m'
  | 0, m', h => by simp [bud]
  | m + 1, 0, h => by grind
  | m + 1, m' + 1, h => by have := bud_mono (m := m) (m' := m') (by grind); simp only [bud]; grind
theorem nb_bud : ∀ {t : Tm}, nb t ≤ bud (ht t)
  | .lit _ => by simp [nb]
  | .lt _ _ t => by have := nb_bud (t := t); simp only [nb, ht, Nat.add_comm 1, bud]; grind
  | .c0 _ _ t => by have := nb_bud (t := t); simp only [nb, ht, Nat.add_comm 1, bud]; grind
  | .c1 a o k t z => by
    have h1 := nb_bud (t := t); have h2 := nb_bud (t := z)
    have h3 := bud_mono (m := ht t) (m' := max (ht t) (ht z)) (by grind); have h4 := bud_mono (m := ht z) (m' := max (ht t) (ht z)) (by grind)
    have := fl_len (k := k)
    have e : ht (.c1 a o k t z) = max (ht t) (ht z) + 1 := by simp only [ht]; grind
    rw [e]; simp only [nb, bud]; grind
  | .c2 a o k t j u z => by
    have h1 := nb_bud (t := t); have h2 := nb_bud (t := z); have h5 := nb_bud (t := u)
    have h3 := bud_mono (m := ht t) (m' := max (ht t) (max (ht u) (ht z))) (by grind); have h4 := bud_mono (m := ht z) (m' := max (ht t) (max (ht u) (ht z))) (by grind); have h6 := bud_mono (m := ht u) (m' := max (ht t) (max (ht u) (ht z))) (by grind)
    have := fl_len (k := k); have := fl_len (k := j)
    have e : ht (.c2 a o k t j u z) = max (ht t) (max (ht u) (ht z)) + 1 := by simp only [ht]; grind
    rw [e]; simp only [nb, bud]; grind
structure FR (κ : Str → Option At) (D : Str → Prop) (t r : Tm) (m : Nat) : Prop where
  hh : ht r ≤ 4 * m
  hw : ∀ ρ v, (∀ x w, ρ x = some w → D x) → Cons κ ρ → worth t ρ = some v → worth r ρ = some v
  ha : ∀ seen : List Str, (∀ x ∈ seen, κ x ≠ none) → NoAg r seen
theorem lets_ht {l : List (Str × At)} {t : Tm} : ht (lets l t) = l.length + ht t := by
  induction l with
  | nil => simp [lets]
  | cons p l ih => obtain ⟨x, a⟩ := p; simp only [lets, ht, ih, List.length_cons]; grind
theorem lets_noAg {l : List (Str × At)} {t : Tm} {s : List Str} (h : NoAg t s) : NoAg (lets l t) s := by
  induction l with
  | nil => exact h
  | cons p l ih => obtain ⟨x, a⟩ := p; exact ih
/-- what facts_go says of a tree, at height m -/
structure FOut (ak : List Str) (e : AV) (m : Nat) (t : Tm) (d : Dc) (κ : Str → Option At) (n : Nat) (cnt : Str → Nat) (D : Str → Prop) (r : Tm) (cnt' : Str → Nat) (n' : Nat) : Prop where
  hn : n' ≤ n + fb m
  hl : le cnt cnt'
  hf : FR κ D t r m
  hg : GoF ak e (eT t) d.av (20 + 40 * m) cnt n (eT r) cnt' n'
noncomputable def FEx (ak : List Str) (e : AV) (m : Nat) (t : Tm) (d : Dc) (κ : Str → Option At) (n : Nat) (cnt : Str → Nat) (D : Str → Prop) : Prop := ∃ r cnt' n', FOut ak e m t d κ n cnt D r cnt' n'
theorem FEx.mk {ak : List Str} {e : AV} {m : Nat} {t : Tm} {d : Dc} {κ : Str → Option At} {n : Nat} {cnt : Str → Nat} {D : Str → Prop} (r : Tm) (cnt' : Str → Nat) (n' : Nat) (hn : n' ≤ n + fb m) (hl : le cnt cnt') (hf : FR κ D t r m) (hg : GoF ak e (eT t) d.av (20 + 40 * m) cnt n (eT r) cnt' n') : FEx ak e m t d κ n cnt D := ⟨r, cnt', n', hn, hl, hf, hg⟩
noncomputable def FGo (ak : List Str) (e : AV) (m : Nat) (t : Tm) : Prop :=
  ∀ (d : Dc) (κ : Str → Option At) (q n : Nat) (cnt : Str → Nat) (D : Str → Prop), Rd eA d κ q → q + 2 * m ≤ 1000 → (∀ x a, κ x = some a → ¬ isV a) → wf t D → (∀ x, D x → old cnt x) → bo cnt t → n + fb m < 100000 → FEx ak e m t d κ n cnt D
theorem Rd.kput {d : Dc} {κ : Str → Option At} {q : Nat} {o x : Str} {k : Ky} (h : Rd eA d κ q) : Rd eA (kput d o x k) (upd (upd κ o (cellOf k)) x (cellOf k)) (q + 2) := (h.put (x := o) (a := cellOf k)).put
theorem notV_kput {κ : Str → Option At} {o x : Str} {k : Ky} (h : ∀ x a, κ x = some a → ¬ isV a) : ∀ y a, upd (upd κ o (cellOf k)) x (cellOf k) y = some a → ¬ isV a := by
  intro y a hy
  by_cases e : y = x
  · subst e; rw [upd_same] at hy; cases hy; exact cell_notV
  · rw [upd_ne e] at hy
    by_cases e2 : y = o
    · subst e2; rw [upd_same] at hy; cases hy; exact cell_notV
    · rw [upd_ne e2] at hy; exact h y a hy
theorem seen_kput {κ : Str → Option At} {o x : Str} {k : Ky} {seen : List Str} (h : ∀ y ∈ seen, κ y ≠ none) : ∀ y ∈ seen ++ [o] ++ [x], upd (upd κ o (cellOf k)) x (cellOf k) y ≠ none := by
  intro y hy
  by_cases e : y = x
  · subst e; rw [upd_same]; nofun
  · rw [upd_ne e]
    by_cases e2 : y = o
    · subst e2; rw [upd_same]; nofun
    · rw [upd_ne e2]
      simp only [List.mem_append, List.mem_singleton, e, e2, or_false] at hy
      exact h y hy
/-- a Let's body -/
theorem fr_lt {κ : Str → Option At} {D : Str → Prop} {x : Str} {a : At} {t r : Tm} {m : Nat} (hx : ¬ D x) (h : FR κ (fun y => D y ∨ y = x) t r m) : FR κ D (.lt x a t) (.lt x a r) (m + 1) where
  hh := by have := h.hh; simp only [ht]; grind
  hw := fun ρ v hd hc hw => by
    simp only [worth] at hw ⊢
    cases ha : wA a ρ with
    | none => simp [ha] at hw
    | some w =>
      simp only [ha] at hw ⊢
      exact h.hw _ _ (dom_upd hd) (hc.mono (sub_upd hd hx)) hw
  ha := fun seen hs => h.ha seen hs
/-- kept Cases -/
theorem fr_c0 {κ : Str → Option At} {D : Str → Prop} {x o : Str} {z z' : Tm} {m : Nat} (hx : κ x = none) (ho : ¬ D o) (h : FR κ (fun y => D y ∨ y = o) z z' m) : FR κ D (.c0 (.v x) o z) (.c0 (.v x) o z') (m + 1) where
  hh := by have := h.hh; simp only [ht]; grind
  hw := fun ρ v hd hc hw => by
    simp only [worth] at hw ⊢
    cases ha : wA (.v x) ρ with
    | none => simp [ha] at hw
    | some w =>
      simp only [ha] at hw ⊢
      exact h.hw _ _ (dom_upd hd) (hc.mono (sub_upd hd ho)) hw
  ha := fun seen hs => ⟨fun y hy hn => by simp only [vn, List.mem_singleton] at hy; subst hy; exact hs _ hn hx, h.ha seen hs⟩
theorem fr_c1 {κ : Str → Option At} {D : Str → Prop} {x o : Str} {k : Ky} {t t' z z' : Tm} {m : Nat} (hx : κ x = none) (ho : ¬ D o) (hf : ∀ f ∈ fl k, ¬ D f ∧ f ≠ o) (ht0 : FR (upd (upd κ o (cellOf k)) x (cellOf k)) (fun y => D y ∨ y = o ∨ y ∈ fl k) t t' m) (h : FR κ (fun y => D y ∨ y = o) z z' m) :
    FR κ D (.c1 (.v x) o k t z) (.c1 (.v x) o k t' z') (m + 1) where
  hh := by have := h.hh; have := ht0.hh; simp only [ht]; grind
  hw := fun ρ v hd hc hw => by
    simp only [worth] at hw ⊢
    cases ha : wA (.v x) ρ with
    | none => simp [ha] at hw
    | some w =>
      simp only [ha] at hw ⊢
      rcases hm : mt k w with _ | _ | mm <;> simp only [hm] at hw ⊢
      · cases hw
      · exact h.hw _ _ (dom_upd hd) (hc.mono (sub_upd hd ho)) hw
      · exact ht0.hw _ _ (dom_updF hd) (cons_alt hc hd ho hf ha hm) hw
  ha := fun seen hs => ⟨fun y hy hn => by simp only [vn, List.mem_singleton] at hy; subst hy; exact hs _ hn hx, ht0.ha _ (seen_kput hs), h.ha seen hs⟩
theorem fr_c2 {κ : Str → Option At} {D : Str → Prop} {x o : Str} {k j : Ky} {t t' u u' z z' : Tm} {m : Nat} (hx : κ x = none) (ho : ¬ D o) (hf : ∀ f ∈ fl k, ¬ D f ∧ f ≠ o) (hf' : ∀ f ∈ fl j, ¬ D f ∧ f ≠ o) (ht0 : FR (upd (upd κ o (cellOf k)) x (cellOf k)) (fun y => D y ∨ y = o ∨ y ∈ fl k) t t' m)
    (hu0 : FR (upd (upd κ o (cellOf j)) x (cellOf j)) (fun y => D y ∨ y = o ∨ y ∈ fl j) u u' m) (h : FR κ (fun y => D y ∨ y = o) z z' m) :
    FR κ D (.c2 (.v x) o k t j u z) (.c2 (.v x) o k t' j u' z') (m + 1) where
  hh := by have := h.hh; have := ht0.hh; have := hu0.hh; simp only [ht]; grind
  hw := fun ρ v hd hc hw => by
    simp only [worth] at hw ⊢
    cases ha : wA (.v x) ρ with
    | none => simp [ha] at hw
    | some w =>
      simp only [ha] at hw ⊢
      rcases hm : mt k w with _ | _ | mm <;> simp only [hm] at hw ⊢
      · cases hw
      · rcases hm' : mt j w with _ | _ | mm' <;> simp only [hm'] at hw ⊢
        · cases hw
        · exact h.hw _ _ (dom_upd hd) (hc.mono (sub_upd hd ho)) hw
        · exact hu0.hw _ _ (dom_updF hd) (cons_alt hc hd ho hf' ha hm') hw
      · exact ht0.hw _ _ (dom_updF hd) (cons_alt hc hd ho hf ha hm) hw
  ha := fun seen hs => ⟨fun y hy hn => by simp only [vn, List.mem_singleton] at hy; subst hy; exact hs _ hn hx, ht0.ha _ (seen_kput hs), hu0.ha _ (seen_kput hs), h.ha seen hs⟩
/-- the tree left of a known Case goes on -/
structure ElOut (ak : List Str) (e : AV) (m : Nat) (t' : Tm) (b : At) (d : Dc) (κ : Str → Option At) (n : Nat) (cnt : Str → Nat) (D : Str → Prop) (o : Str) (l : List (Str × At)) (body r : Tm) (cnt' : Str → Nat) (n' : Nat) : Prop where
  h1 : elim t' = .lt o b (lets l body)
  h2 : n' ≤ n + fb m
  h3 : le cnt cnt'
  h4 : GoF ak e (eT (lets l body)) d.av (32 + 40 * m) cnt n (eT (lets l r)) cnt' n'
  h5 : l.length ≤ 1
  h6 : ht r ≤ 4 * m
  h7 : ∀ seen : List Str, (∀ x ∈ seen, κ x ≠ none) → NoAg r seen
  h8 : ∀ ρ v, (∀ x w, ρ x = some w → D x) → Cons κ ρ → worth t' ρ = some v → worth (.lt o b (lets l r)) ρ = some v
theorem el_go {ak : List Str} {e : AV} {m : Nat} (ih : ∀ t, ht t ≤ m → FGo ak e m t) {t' : Tm} {b : At} (htop : top t' = some b) (hb : ¬ isV b) (hh : ht t' ≤ m + 1) {d : Dc} {κ : Str → Option At} {q n : Nat} {cnt : Str → Nat} {D : Str → Prop} (hd : Rd eA d κ q) (hq : q + 2 * m ≤ 1000) (hv : ∀ x a, κ x = some a → ¬ isV a)
    (hw : wf t' D) (hD : ∀ x, D x → old cnt x) (hbo : bo cnt t') (hn : n + fb m < 100000) :
    ∃ o l body r cnt' n', ElOut ak e m t' b d κ n cnt D o l body r cnt' n' := by
  obtain ⟨o, l, body, h1, h2, h3, h4, h5, h6, h7⟩ := elim_parts htop hb hw hbo
  rcases h6 with ⟨rfl, h6⟩ | ⟨f, x, rfl, hf1, hf2, hf3, h6⟩
  · obtain ⟨r, cnt', n', g1, g2, g3, g4⟩ := ih body (by grind) d κ q n cnt _ hd hq hv h6 (fun x hx => hx.elim (hD x) (fun q => q ▸ h4)) h3 hn
    refine ⟨o, [], body, r, cnt', n', h1, g1, g2, g4.le (by grind), Nat.zero_le _, g3.hh, g3.ha, fun ρ v hd' hc hw' => ?_⟩
    refine ex_1_2 (wa_on (h7 ρ v hd' hw')) fun w ha h8 => ?_
    exact lt_worth ha (g3.hw _ _ (dom_upd hd') (hc.mono (sub_upd hd' h5)) h8)
  · obtain ⟨r, cnt', n', g1, g2, g3, g4⟩ := ih body (by grind) d κ q n cnt _ hd hq hv h6 (fun x hx => hx.elim (fun hx => hx.elim (hD x) (fun q => q ▸ h4)) (fun q => q ▸ hf3)) h3 hn
    refine ⟨o, [(f, .v x)], body, r, cnt', n', h1, g1, g2, (goF_lt g4).le (by grind), Nat.le_refl _, g3.hh, g3.ha, fun ρ v hd' hc hw' => ?_⟩
    refine ex_1_2 (wa_on (h7 ρ v hd' hw')) fun w ha h8 => ?_
    refine ex_1_2 (wa_on h8) fun w' ha' h8 => ?_
    have hd2 := dom_upd (o := o) (v := w) hd'
    exact lt_worth ha (lt_worth ha' (g3.hw _ _ (dom_upd hd2) ((hc.mono (sub_upd hd' h5)).mono (sub_upd hd2 (fun hq => hq.elim hf1 hf2))) h8))
end Mine
end
section
open PySem PySem.W PyProof.Rows
set_option Elab.async false
set_option maxRecDepth 100000
set_option linter.unusedVariables false
set_option linter.unusedSimpArgs false
namespace Mine
theorem top_some {t : Tm} {a : At} {ρ : Env} {v : Int} (h : top t = some a) (hw : worth t ρ = some v) : ∃ w, wA a ρ = some w := by
  cases ha : wA a ρ with
  | some w => exact ⟨w, rfl⟩
  | none => cases t <;> first | (cases h; done) | (cases h; simp [worth, ha] at hw)
theorem old_mono_dom {D : Str → Prop} {cnt cnt' : Str → Nat} (hD : ∀ x, D x → old cnt x) (hl : le cnt cnt') : ∀ x, D x → old cnt' x := fun x hx => (hD x hx).mono hl
theorem agr_id {cnt : Str → Nat} {ρ : Env} {D : Str → Prop} (hd : ∀ x w, ρ x = some w → D x) (hD : ∀ x, D x → old cnt x) : Agr cnt ρ (fun _ => none) ρ := fun y v hy => ⟨hD y (hd y v hy), hy⟩
theorem elim_go {ak : List Str} {e : AV} {m : Nat} (ih : ∀ t, ht t ≤ m → FGo ak e m t) {t : Tm} {a b : At} (htop : top t = some a) (hb : ¬ isV b) (hh : ht t ≤ m + 1) (hm : m ≤ 70) {d : Dc} {κ : Str → Option At} {q n : Nat} {cnt : Str → Nat} {D : Str → Prop} (hd : Rd eA d κ q) (hq : q + 2 * m ≤ 1000) (hv : ∀ x a, κ x = some a → ¬ isV a)
    (hw : wf t D) (hD : ∀ x, D x → old cnt x) (hbo : bo cnt t) (hn : n + fb (m + 1) < 100000)
    (hla : ∀ W d' c, PhiF W d' 32 [aFc, eT t, d.av] c = some (.v (eT (setTop b t)), c)) (hwa : ∀ ρ w, Cons κ ρ → wA a ρ = some w → wA b ρ = some w) :
    FEx ak e (m + 1) t d κ n cnt D := by
  have hnb : nb t ≤ bud (m + 1) := Nat.le_trans nb_bud (bud_mono hh)
  have ef : fb (m + 1) = 1 + bud (m + 1) + 3 * fb m := rfl
  rw [ef] at hn
  cases b with
  | v x => exact absurd trivial hb
  | c g =>
    refine ex_5_4 (tr_elim_c (ak := ak) (kd := d.av) (n := n) (g := g) htop (by grind) hbo (by grind) hla) fun f cnt1 t' cnt2 fs et hf hr htr => ?_
    have hD1 : ∀ x, (D x ∨ x = f) → old cnt1 x := fun x hx => hx.elim (fun h => (hD x h).mono hf.2.2.1) (fun h => h ▸ hf.2.1)
    have hnf : ¬ D f := fun h => hf.1 (hD f h)
    obtain ⟨o, l, body, r, cnt', n', h1, h2, h3, h4, h5, h6, h7, h8⟩ := el_go (ak := ak) (e := e) (m := m) ih (t' := t') (b := .c f) (by rw [hr.htop, setTop_top htop]; rfl) hb (by rw [hr.hht, setTop_ht]; exact hh) (n := n + 1 + nb t) (cnt := cnt2) (D := fun x => D x ∨ x = f) hd hq hv
      (hr.hwf _ hD1) (old_mono_dom hD1 hr.hle) hr.hbo (by grind)
    refine .mk (.lt f (.v g) (.lt o (.c f) (lets l r))) cnt' n' (by rw [ef]; grind) (hf.2.2.1.trans (hr.hle.trans h3)) ⟨?_, fun ρ v hdom hc hwt => ?_, fun seen hs => lets_noAg (h7 seen hs)⟩ ?_
    · simp only [ht, lets_ht]; grind
    · obtain ⟨w, hwa1⟩ := top_some htop hwt
      have hwg := hwa ρ w hc hwa1
      obtain ⟨i, hi, rfl⟩ : ∃ i, ρ g = some (.I i) ∧ w = .C i := by
        simp only [wA] at hwg
        split at hwg
        · rename_i i hi; exact ⟨i, hi, by cases hwg; rfl⟩
        · cases hwg
      have hs := sub_upd (v := .I i) hdom hnf
      have hd1 := dom_upd (o := f) (v := .I i) hdom
      have e1 : worth t (upd ρ f (.I i)) = some v := worth_mono hs hwt
      have e2 : worth (setTop (.c f) t) (upd ρ f (.I i)) = some v := by
        rw [setTop_worth htop, e1]
        rw [wA_mono hs hwa1]; simp [wA, upd_same]
      have e3 := hr.hw _ _ _ (agr_id hd1 hD1) e2
      have e4 := h8 _ _ hd1 (hc.mono hs) e3
      rw [worth]; simp only [wA, hi]; exact e4
    · rw [et]
      exact (goF_tolt (a := .v g) htr (by rw [h1]; exact goF_lt h4)).le (by grind)
  | d =>
    refine ex_3_3 (tr_elim_d (ak := ak) (kd := d.av) (n := n) (b := .d) (.inl rfl) htop (by grind) hbo (by grind) hla) fun t' cnt2 fs et hr htr => ?_
    obtain ⟨o, l, body, r, cnt', n', h1, h2, h3, h4, h5, h6, h7, h8⟩ := el_go (ak := ak) (e := e) (m := m) ih (t' := t') (b := .d) (by rw [hr.htop, setTop_top htop]; rfl) hb (by rw [hr.hht, setTop_ht]; exact hh) (n := n + nb t) (cnt := cnt2) (D := D) hd hq hv
      (hr.hwf _ hD) (old_mono_dom hD hr.hle) hr.hbo (by grind)
    refine .mk (.lt o .d (lets l r)) cnt' n' (by rw [ef]; grind) (hr.hle.trans h3) ⟨?_, fun ρ v hdom hc hwt => ?_, fun seen hs => lets_noAg (h7 seen hs)⟩ ?_
    · simp only [ht, lets_ht]; grind
    · obtain ⟨w, hwa1⟩ := top_some htop hwt
      have e2 : worth (setTop .d t) ρ = some v := by rw [setTop_worth htop, hwt]; rw [hwa1]; exact hwa ρ w hc hwa1
      exact h8 _ _ hdom hc (hr.hw _ _ _ (agr_id hdom hD) e2)
    · rw [et]
      refine (goF_tolt (a := .d) (t := lets l body) (fun c hc => ?_) h4).le (by grind)
      obtain ⟨c', g1, N, g2⟩ := htr c hc
      refine ⟨c', g1, N, fun W d' hW => .inl ⟨rfl, ?_⟩⟩
      have := g2 W d' hW
      rw [h1] at this; exact this
  | n j =>
    refine ex_3_3 (tr_elim_d (ak := ak) (kd := d.av) (n := n) (b := .n j) (.inr ⟨j, rfl⟩) htop (by grind) hbo (by grind) hla) fun t' cnt2 fs et hr htr => ?_
    obtain ⟨o, l, body, r, cnt', n', h1, h2, h3, h4, h5, h6, h7, h8⟩ := el_go (ak := ak) (e := e) (m := m) ih (t' := t') (b := .n j) (by rw [hr.htop, setTop_top htop]; rfl) hb (by rw [hr.hht, setTop_ht]; exact hh) (n := n + nb t) (cnt := cnt2) (D := D) hd hq hv
      (hr.hwf _ hD) (old_mono_dom hD hr.hle) hr.hbo (by grind)
    refine .mk (.lt o (.n j) (lets l r)) cnt' n' (by rw [ef]; grind) (hr.hle.trans h3) ⟨?_, fun ρ v hdom hc hwt => ?_, fun seen hs => lets_noAg (h7 seen hs)⟩ ?_
    · simp only [ht, lets_ht]; grind
    · obtain ⟨w, hwa1⟩ := top_some htop hwt
      have e2 : worth (setTop (.n j) t) ρ = some v := by rw [setTop_worth htop, hwt]; rw [hwa1]; exact hwa ρ w hc hwa1
      exact h8 _ _ hdom hc (hr.hw _ _ _ (agr_id hdom hD) e2)
    · rw [et]
      refine (goF_tolt (a := .n j) (t := lets l body) (fun c hc => ?_) h4).le (by grind)
      obtain ⟨c', g1, N, g2⟩ := htr c hc
      refine ⟨c', g1, N, fun W d' hW => .inl ⟨rfl, ?_⟩⟩
      have := g2 W d' hW
      rw [h1] at this; exact this
/-- which way a Case goes -/
theorem case_go {ak : List Str} {e : AV} {m : Nat} (ih : ∀ t, ht t ≤ m → FGo ak e m t) {t : Tm} {a : At} (htop : top t = some a) (hh : ht t ≤ m + 1) (hm : m ≤ 70) {d : Dc} {κ : Str → Option At} {q n : Nat} {cnt : Str → Nat} {D : Str → Prop} (hd : Rd eA d κ q) (hq : q + 2 * m ≤ 1000) (hv : ∀ x a, κ x = some a → ¬ isV a)
    (hw : wf t D) (hD : ∀ x, D x → old cnt x) (hbo : bo cnt t) (hn : n + fb (m + 1) < 100000) :
    FEx ak e (m + 1) t d κ n cnt D ∨ ∃ x, a = .v x ∧ κ x = none ∧ d.1.contains x = false := by
  refine ex_3_2 (setTop_enc htop) fun p1 p2 p3 hp hs => ?_
  have et : eT t = .obj 5 [eA a, p1, p2, p3] := by rw [← hs a, setTop_self htop]
  cases a with
  | v x =>
    have hx := hd.has x
    cases hk : κ x with
    | none => rw [hk] at hx; exact .inr ⟨x, rfl, hk, hx⟩
    | some b =>
      rw [hk] at hx
      have hg := hd.2.2 x
      rw [hk] at hg
      refine .inl (elim_go ih htop (hv x b hk) hh hm hd hq hv hw hD hbo hn (fun W d' c => ?_) (fun ρ w hc hw' => ?_))
      · rw [et, hs]; exact la_in hg hx
      · refine ex_1_2 (hc x b hk) fun w' g1 g2 => ?_
        simp only [wA] at hw'
        rw [g1] at hw'; cases hw'; exact g2
  | c g => exact .inl (elim_go ih htop (by simp [isV]) hh hm hd hq hv hw hD hbo hn (fun W d' c => by rw [hs, et]; exact la_con) (fun ρ w hc hw' => hw'))
  | d => exact .inl (elim_go ih htop (by simp [isV]) hh hm hd hq hv hw hD hbo hn (fun W d' c => by rw [hs, et]; exact la_con) (fun ρ w hc hw' => hw'))
  | n j => exact .inl (elim_go ih htop (by simp [isV]) hh hm hd hq hv hw hD hbo hn (fun W d' c => by rw [hs, et]; exact la_lit) (fun ρ w hc hw' => hw'))
theorem facts_go {ak : List Str} {e : AV} : ∀ (m : Nat), m ≤ 70 → ∀ t, ht t ≤ m → FGo ak e m t := by
  have lit0 : ∀ m i, FGo ak e m (.lit i) := fun m i d κ q n cnt D hd hq hv hw hD hbo hn =>
    .mk (.lit i) cnt n (Nat.le_add_right _ _) le.refl ⟨Nat.zero_le _, fun ρ v _ _ h => h, fun _ _ => trivial⟩ goF_lit
  intro m
  induction m with
  | zero =>
    intro _ t hh
    cases t with
    | lit i => exact lit0 0 i
    | lt x a t => simp [ht] at hh
    | c0 a o z => simp [ht] at hh
    | c1 a o k t z => simp [ht] at hh
    | c2 a o k t j u z => simp [ht] at hh
  | succ m ih0 =>
    intro hm t hh
    have ih := ih0 (by grind)
    cases t with
    | lit i => exact lit0 _ i
    | lt x a t =>
      intro d κ q n cnt D hd hq hv hw hD hbo hn
      simp only [ht] at hh; have ef : fb (m + 1) = 1 + bud (m + 1) + 3 * fb m := rfl; rw [ef] at hn
      obtain ⟨r, cnt', n', g1, g2, g3, g4⟩ := ih t (by grind) d κ q n cnt _ hd (by grind) hv hw.2 (fun y hy => hy.elim (hD y) (fun q => q ▸ hbo.1)) hbo.2 (by grind)
      exact .mk _ cnt' n' (by rw [ef]; grind) g2 (fr_lt hw.1 g3) ((goF_lt g4).le (by grind))
    | c0 a o z =>
      intro d κ q n cnt D hd hq hv hw hD hbo hn
      rcases case_go ih (t := .c0 a o z) rfl hh (by grind) hd (by grind) hv hw hD hbo hn with h | ⟨x, rfl, hx, hc⟩
      · exact h
      simp only [ht] at hh; have ef : fb (m + 1) = 1 + bud (m + 1) + 3 * fb m := rfl; rw [ef] at hn
      obtain ⟨r, cnt', n', g1, g2, g3, g4⟩ := ih z (by grind) d κ q n cnt _ hd (by grind) hv hw.2 (fun y hy => hy.elim (hD y) (fun q => q ▸ hbo.1)) hbo.2 (by grind)
      exact .mk _ cnt' n' (by rw [ef]; grind) g2 (fr_c0 hx hw.1 g3) ((goF_c0 hc g4).le (by grind))
    | c1 a o k t z =>
      intro d κ q n cnt D hd hq hv hw hD hbo hn
      rcases case_go ih (t := .c1 a o k t z) rfl hh (by grind) hd (by grind) hv hw hD hbo hn with h | ⟨x, rfl, hx, hc⟩
      · exact h
      simp only [ht] at hh; have ef : fb (m + 1) = 1 + bud (m + 1) + 3 * fb m := rfl; rw [ef] at hn
      refine ex_0_4 (hw) fun w1 w2 w3 w4 => ?_
      refine ex_0_4 (hbo) fun b1 b2 b3 b4 => ?_
      have hlim : d.1.length + 1 ≤ lim := by have := hd.2.1; unfold lim; grind
      obtain ⟨r, cnt', n', g1, g2, g3, g4⟩ := ih t (by grind) (kput d o x k) _ (q + 2) n cnt _ hd.kput (by grind) (notV_kput hv) w3 (fun y hy => hy.elim (hD y) fun hy => hy.elim (fun q => q ▸ b1) (b2 y)) b3 (by grind)
      obtain ⟨r', cnt'', n'', g1', g2', g3', g4'⟩ := ih z (by grind) d κ q n' cnt' _ hd (by grind) hv w4 (fun y hy => (hy.elim (hD y) (fun q => q ▸ b1) : old cnt y).mono g2) (b4.mono g2) (by grind)
      exact .mk _ cnt'' n'' (by rw [ef]; grind) (g2.trans g2') (fr_c1 hx w1 w2 g3 g3') ((goF_c1 hc hlim g4 g4').le (by grind))
    | c2 a o k t j u z =>
      intro d κ q n cnt D hd hq hv hw hD hbo hn
      rcases case_go ih (t := .c2 a o k t j u z) rfl hh (by grind) hd (by grind) hv hw hD hbo hn with h | ⟨x, rfl, hx, hc⟩
      · exact h
      simp only [ht] at hh; have ef : fb (m + 1) = 1 + bud (m + 1) + 3 * fb m := rfl; rw [ef] at hn
      refine ex_0_6 (hw) fun w1 w2 w2' w3 w3' w4 => ?_
      refine ex_0_6 (hbo) fun b1 b2 b2' b3 b3' b4 => ?_
      have hlim : d.1.length + 1 ≤ lim := by have := hd.2.1; unfold lim; grind
      obtain ⟨r, cnt', n', g1, g2, g3, g4⟩ := ih t (by grind) (kput d o x k) _ (q + 2) n cnt _ hd.kput (by grind) (notV_kput hv) w3 (fun y hy => hy.elim (hD y) fun hy => hy.elim (fun q => q ▸ b1) (b2 y)) b3 (by grind)
      obtain ⟨ru, cntu, nu, g1u, g2u, g3u, g4u⟩ := ih u (by grind) (kput d o x j) _ (q + 2) n' cnt' _ hd.kput (by grind) (notV_kput hv) w3' (fun y hy => (hy.elim (hD y) fun hy => hy.elim (fun q => q ▸ b1) (b2' y) : old cnt y).mono g2) (b3'.mono g2) (by grind)
      obtain ⟨r', cnt'', n'', g1', g2', g3', g4'⟩ := ih z (by grind) d κ q nu cntu _ hd (by grind) hv w4 (fun y hy => (hy.elim (hD y) (fun q => q ▸ b1) : old cnt y).mono (g2.trans g2u)) (b4.mono (g2.trans g2u)) (by grind)
      exact .mk _ cnt'' n'' (by rw [ef]; grind) (g2.trans (g2u.trans g2')) (fr_c2 hx w1 w2 w2' g3 g3u g3') ((goF_c2 hc hlim g4 g4u g4').le (by grind))
end Mine
end
section
open PySem PySem.W PyProof.Rows
set_option Elab.async false
set_option maxRecDepth 100000
set_option linter.unusedVariables false
set_option linter.unusedSimpArgs false
namespace Mine
theorem facts_ans {ak : List Str} {t : Tm} {m n : Nat} {cnt : Str → Nat} {D : Str → Prop} (hm : m ≤ 20) (hh : ht t ≤ m) (hw : wf t D) (hD : ∀ x, D x → old cnt x) (hbo : bo cnt t) (hn : n + fb m < 100000) :
    ∃ r cnt' n', FR (fun _ => none) D t r m ∧ ∀ c, Sx ak cnt n c → ∃ c', Sx ak cnt' n' c' ∧ ∃ N, ∀ W, N ≤ W → ∀ d, callF tab fun? (W + 1) (d + 10) 33 [aFc, eT t] c = some (.v (eT r), c') := by
  obtain ⟨r, cnt', n', h1, h2, h3, h4⟩ := facts_go (ak := ak) (e := eT t) m (by lia) t hh ([], []) (fun _ => none) 0 n cnt D Rd.nil (by lia) (by nofun) hw hD hbo hn
  refine ⟨r, cnt', n', h3, fun c hc => ?_⟩
  obtain ⟨c', hc', N, M, h5⟩ := h4 c hc
  refine ⟨c', hc', N + M, fun W hW d => ?_⟩
  obtain ⟨rs', hr', h6⟩ := h5 W d (W + 1 - N) [] [] (List.replicate 7 .un) (by lia) rfl (by simp; lia) (by simp; lia)
  rw [show W + 1 - N + N = W + 1 by lia] at h6
  rw [callF_succ]
  refine run_xr (F := ⟨2, 11, b33⟩) rfl rfl rfl ?_
  show XR _ _ b33 _ _ _ _
  rw [b33_eq]
  refine xr_seq (x_asg2 (r1 := .o (.list [.tup [eT t, Dc.av ([], []), .bool false]])) (r2 := .o (.list [])) (c1 := c) (r_list (l_cons (EE.of (r_tup (l_cons (EE.of (r_loc rfl) rfl) (l_cons (EE.of r_dict0 rfl) (l_cons (EE.of r_bool rfl) l_nil))) rfl) rfl) l_nil) rfl) (r_list l_nil rfl)) ?_
  refine xr_seq (l1 := FL (eT t) [] [eT r] rs') (c1 := c') (x_whil (Eq.trans h6 ?_)) ?_
  · obtain ⟨j, hj⟩ : ∃ j, W + 1 - N = j + 1 := ⟨W - N, by lia⟩
    rw [hj]
    exact while_end (t_locl (i := 2) (xs := []) rfl rfl)
  · exact xr_stop (xr_ret (r_idx_list (xs := [eT r]) (n := 0) (p_own rfl) (EE.of r_int rfl) rfl rfl rfl))
/-! free_names -/
noncomputable def three : List Str := [sx12, sx11, sx10]
noncomputable def Good (F : Dc) : Prop := F.1.Nodup ∧ (∀ x ∈ F.1, x ∈ three) ∧ F.1.length = F.2.length
theorem dput_keys : ∀ (ks : List Str) (vs : List AV) (x : Str) (a : AV), ks.length = vs.length → (dput ks vs x a).1 = if x ∈ ks then ks else ks ++ [x]
  | [], [], x, a, h => by simp [dput]
  | [], _ :: _, x, a, h => by simp at h
  | _ :: _, [], x, a, h => by simp at h
  | k :: ks, v :: vs, x, a, h => by
    have ih := dput_keys ks vs x a (by simpa using h)
    simp only [dput]
    by_cases hk : k = x
    · subst hk; simp
    · rw [if_neg hk]; simp only [ih, List.mem_cons, show ¬ x = k from fun q => hk q.symm, false_or]
      split <;> simp
theorem Good.put {F : Dc} {x : Str} {a : AV} (h : Good F) (hx : x ∈ three) : Good (F.put x a) := by
  refine ex_0_3 (h) fun h1 h2 h3 => ?_
  have hk : (F.put x a).1 = if x ∈ F.1 then F.1 else F.1 ++ [x] := dput_keys _ _ _ _ h3
  refine ⟨?_, ?_, dput_len2 _ _ _ _ h3⟩
  · rw [hk]; split
    · exact h1
    · rename_i hn
      exact List.nodup_append.2 ⟨h1, by simp, fun y hy z hz e => by simp only [List.mem_singleton] at hz; subst hz; subst e; exact hn hy⟩
  · rw [hk]; split
    · exact h2
    · intro y hy; simp only [List.mem_append, List.mem_singleton] at hy; exact hy.elim (h2 y) (fun e => e ▸ hx)
theorem three_ix {x : Str} (h : x ∈ three) : ∃ i : Fin 3, x = three.get i := by
  obtain ⟨i, hi⟩ := List.mem_iff_get.mp h
  exact ⟨i, hi.symm⟩
theorem pigeon : ∀ i j k m : Fin 3, i = j ∨ i = k ∨ i = m ∨ j = k ∨ j = m ∨ k = m := by decide
theorem three_len {l : List Str} (h : l.Nodup) (hs : ∀ x ∈ l, x ∈ three) : l.length ≤ 3 := by
  match l, h, hs with
  | [], _, _ => exact Nat.zero_le _
  | [_], _, _ => exact (by decide : 1 ≤ 3)
  | [_, _], _, _ => exact (by decide : 2 ≤ 3)
  | [_, _, _], _, _ => exact Nat.le_refl _
  | a :: b :: c :: d :: l, h, hs =>
    exfalso
    obtain ⟨i, ha⟩ := three_ix (hs a (.head _))
    obtain ⟨j, hb⟩ := three_ix (hs b (.tail _ (.head _)))
    obtain ⟨k, hc⟩ := three_ix (hs c (.tail _ (.tail _ (.head _))))
    obtain ⟨m, hd⟩ := three_ix (hs d (.tail _ (.tail _ (.tail _ (.head _)))))
    have n1 := List.nodup_cons.mp h
    have n2 := List.nodup_cons.mp n1.2
    have n3 := List.nodup_cons.mp n2.2
    have e : ∀ {x y : Str} {p q : Fin 3}, p = q → x = three.get p → y = three.get q → x = y := fun h a b => by rw [a, b, h]
    rcases pigeon i j k m with q | q | q | q | q | q
    · exact n1.1 (e q ha hb ▸ .head _)
    · exact n1.1 (e q ha hc ▸ .tail _ (.head _))
    · exact n1.1 (e q ha hd ▸ .tail _ (.tail _ (.head _)))
    · exact n2.1 (e q hb hc ▸ .head _)
    · exact n2.1 (e q hb hd ▸ .tail _ (.head _))
    · exact n3.1 (e q hc hd ▸ .head _)
noncomputable def sN : IS := match b19 with
  | .seq _ (.seq (.whil _ s) _) => s
  | _ => .skip
theorem b19_eq : b19 = .seq (.asg2 1 2 .dict0 (.list (.cons (.tup (.cons (.loc 0) (.cons .dict0 .nil))) .nil))) (.seq (.whil (.loc 2) sN) (.seq (.ret (.sorted (.loc 1))) .skip)) := rfl
noncomputable def LN (e : AV) (F : Dc) (ts : List AV) (rs : List LV) : Loc := .val e :: .own F.av :: .own (.list ts) :: rs
section
variable {Φ : CallF} {W : Nat} {c : Cells} {e : AV} {ts : List AV} {F d : Dc} {r3 r4 r5 r6 r7 : LV}
theorem n_var_in {x : Str} (ht : ts.length ≤ 1000) (hx : d.1.contains x = true) : XS Φ W sN (LN e F (ts ++ [.tup [eV x, d.av]]) [r3, r4, r5, r6, r7]) c .cont (LN e F ts [r3, .val (eV x), .val d.av, r6, r7]) c := by
  have hs : small (ts ++ [AV.tup [eV x, d.av]]) = true := decide_eq_true (show _ ≤ 1000000 by simp; lia)
  refine x_seq (x_popT (p_own rfl) rfl hs lastTup_app (lm := LN e F ts [r3, r4, r5, r6, r7]) (by rw [List.dropLast_concat]; rfl) rfl) ?_
  refine x_stop (x_if (q := true) rfl (x_seq (x_if (q := false) (t_of (r_cmp rfl (EE.of (r_attr (k := 0) (j := 0) (EE.of (r_loc rfl) rfl) rfl rfl) rfl) (p_loc rfl) (z := d.av) rfl ?_) rfl) x_skip) (x_stop x_cont rfl))) rfl
  show some (!d.1.contains x) = some false; rw [hx]; rfl
theorem n_var_out {x : Str} (ht : ts.length ≤ 1000) (hx : d.1.contains x = false) (hF : F.1.length ≤ lim) : XS Φ W sN (LN e F (ts ++ [.tup [eV x, d.av]]) [r3, r4, r5, r6, r7]) c .cont (LN e (F.put x (.bool true)) ts [r3, .val (eV x), .val d.av, r6, r7]) c := by
  have hs : small (ts ++ [AV.tup [eV x, d.av]]) = true := decide_eq_true (show _ ≤ 1000000 by simp; lia)
  refine x_seq (x_popT (p_own rfl) rfl hs lastTup_app (lm := LN e F ts [r3, r4, r5, r6, r7]) (by rw [List.dropLast_concat]; rfl) rfl) ?_
  refine x_stop (x_if (q := true) rfl (x_seq (x_if (q := true) (t_of (r_cmp rfl (EE.of (r_attr (k := 0) (j := 0) (EE.of (r_loc rfl) rfl) rfl rfl) rfl) (p_loc rfl) (z := d.av) rfl ?_) rfl) (x_seq (x_setDict (c1 := c) (c2 := c) (n := x) (x := .bool true) (EE.of r_bool rfl) (p_own rfl) (EE.of (r_attr (k := 0) (j := 0) (EE.of (r_loc rfl) rfl) rfl rfl) rfl) rfl hF rfl) x_skip)) (x_stop x_cont rfl))) rfl
  show some (!d.1.contains x) = some true; rw [hx]; rfl
noncomputable def sNlay : IS := .seq (.append (.loc 2) (.tup (.cons (.loc 6) (.cons (.call 18 (.cons (.loc 5) (.cons (.loc 3) (.cons (.loc 7) .nil)))) .nil)))) .skip
theorem n_lay {gr nd bd : AV} : ∀ (ps : List (AV × AV × AV)) (ts : List AV) (r6 r7 : LV), ts.length + ps.length ≤ 1000 → (∀ q ∈ ps, ∃ o : RV, o.av = q.2.2 ∧ Φ 18 [bd, gr, q.2.1] c = some (o, c)) →
    ∃ q6 q7, forL (exs tab Φ W sNlay) (bindT [6, 7]) (ps.map fun q => .tup [q.1, q.2.1]) (LN e F ts [.val gr, .val nd, .val bd, r6, r7]) c = some (.next, LN e F (ts ++ ps.map fun q => .tup [q.1, q.2.2]) [.val gr, .val nd, .val bd, q6, q7], c)
  | [], ts, r6, r7, hl, h => ⟨r6, r7, by simp [forL]⟩
  | q :: ps, ts, r6, r7, hl, h => by
    simp only [List.length_cons] at hl
    refine ex_1_2 (h q (List.mem_cons_self ..)) fun o ho hc => ?_
    have hs : small ts = true := decide_eq_true (show _ ≤ 1000000 by lia)
    obtain ⟨q6, q7, ih⟩ := n_lay ps (ts ++ [.tup [q.1, q.2.2]]) (.val q.1) (.val q.2.1) (by simp; lia) (fun z hz => h z (List.mem_cons_of_mem _ hz))
    refine ⟨q6, q7, ?_⟩
    have e1 : (ts ++ List.map (fun q : AV × AV × AV => AV.tup [q.1, q.2.2]) (q :: ps)) = (ts ++ [.tup [q.1, q.2.2]]) ++ List.map (fun q : AV × AV × AV => AV.tup [q.1, q.2.2]) ps := by simp
    rw [e1]
    refine forL_cons rfl (x_seq (x_append (p_own rfl) rfl (EE.of (r_tup (l_cons (EE.of (r_loc rfl) rfl) (l_cons (x := q.2.2) (EE.of (r_call (l_cons (EE.of (r_loc rfl) rfl) (l_cons (EE.of (r_loc rfl) rfl) (l_cons (EE.of (r_loc rfl) rfl) l_nil))) hc) ho) l_nil)) rfl) rfl) rfl hs rfl) x_skip) ih
theorem n_open {k f g : Nat} {fs : List AV} {bd gr : AV} {ps : List (AV × AV × AV)} {o1 o2 : RV} (hk : k ≠ 0) (hk' : k < 10) (hl : ts.length + ps.length ≤ 1000)
    (hm0 : methOf k 0 = some g) (hg : Φ g [.obj k fs] c = some (o2, c)) (h2 : o2.av = gr) (hm : methOf k 1 = some f) (hf : Φ f [.obj k fs] c = some (o1, c)) (h1 : o1.av = .list (ps.map fun q => .tup [q.1, q.2.1]))
    (hi : ∀ q ∈ ps, ∃ o : RV, o.av = q.2.2 ∧ Φ 18 [bd, gr, q.2.1] c = some (o, c)) :
    ∃ q, q.length = 5 ∧ XS Φ W sN (LN e F (ts ++ [.tup [.obj k fs, bd]]) [r3, r4, r5, r6, r7]) c .next (LN e F (ts ++ ps.map fun q => .tup [q.1, q.2.2]) q) c := by
  have hs : small (ts ++ [AV.tup [.obj k fs, bd]]) = true := decide_eq_true (show _ ≤ 1000000 by simp; lia)
  have hs3 : small (ps.map fun q => AV.tup [q.1, q.2.1]) = true := decide_eq_true (show _ ≤ 1000000 by simp; lia)
  refine ex_2_1 (n_lay (Φ := Φ) (W := W) (e := e) (F := F) (gr := gr) (nd := .obj k fs) (bd := bd) (c := c) ps ts r6 r7 hl hi) fun q6 q7 hlay => ?_
  have hb : (k == 0) = false := by simpa using hk
  refine ⟨[.val gr, .val (.obj k fs), .val bd, q6, q7], rfl, ?_⟩
  refine x_seq (x_popT (p_own rfl) rfl hs lastTup_app (lm := LN e F ts [r3, r4, r5, r6, r7]) (by rw [List.dropLast_concat]; rfl) rfl) ?_
  refine x_seq (x_if (q := false) (t_of (?_ : ER Φ _ _ c (.v (.bool false)) c) rfl) x_skip) ?_
  · rw [← hb]; exact r_isi (k' := k) (EE.of (r_loc rfl) rfl) hk'
  refine x_seq (x_asg (r_meth (EE.of (r_loc rfl) rfl) hm0 l_nil hg)) ?_
  rw [h2]
  have hI : EI Φ (.meth (.loc 4) 1 .nil) (LN e F ts [.val gr, .val (.obj k fs), .val bd, r6, r7]) c (ps.map fun q => AV.tup [q.1, q.2.1]) c :=
    i_of (r := .v (.list (ps.map fun q => AV.tup [q.1, q.2.1]))) (by rw [← h1]; exact r_meth (EE.of (r_loc rfl) rfl) hm l_nil hf) rfl rfl
  exact x_seq (x_forT hI hs3 hlay) x_skip
end
end Mine
end
section
open PySem PySem.W PyProof.Rows
set_option Elab.async false
set_option maxRecDepth 100000
set_option linter.unusedVariables false
set_option linter.unusedSimpArgs false
namespace Mine
noncomputable def putU (d : Dc) : List Str → Dc
  | f :: fs => putU (d.put f (.bool true)) fs
  | [] => d
noncomputable def updU (s : Str → Option Unit) : List Str → Str → Option Unit
  | f :: fs => updU (upd s f ()) fs
  | [] => s
noncomputable def eU : Unit → AV := fun _ => .bool true
theorem Rd.putU : ∀ {fs : List Str} {d : Dc} {s : Str → Option Unit} {m : Nat}, Rd eU d s m → Rd eU (putU d fs) (updU s fs) (m + fs.length)
  | [], _, _, _, h => by simpa [Mine.putU, updU] using h
  | f :: fs, d, s, m, h => by
    have := Rd.putU (fs := fs) (h.put (x := f) (a := ()))
    rw [show m + 1 + fs.length = m + (f :: fs).length by simp; lia] at this
    exact this
theorem putU_len : ∀ (fs : List Str) (d : Dc), (putU d fs).1.length ≤ d.1.length + fs.length
  | [], d => by simp [putU]
  | f :: fs, d => by
    have h1 := putU_len fs (d.put f (.bool true)); have h2 := d.put_len f (.bool true)
    simp only [putU, List.length_cons]; lia
section
variable {Φ : CallF} {W : Nat} {c : Cells} {d : Dc} {G : List AV}
noncomputable def sSc : IS := .seq (.for1 5 (.idx (.loc 1) (.loc 4)) (.seq (.setIdx (.loc 3) (.loc 5) (.bool true)) .skip)) .skip
theorem sc_for {l0 l1 l2 l4 : LV} : ∀ (xs : List Str) (d : Dc) (l5 : LV), d.1.length + xs.length ≤ lim →
    ∃ q5, forL (exs tab Φ W (.seq (.setIdx (.loc 3) (.loc 5) (.bool true)) .skip)) (bind1 5) (xs.map .str) [l0, l1, l2, .own d.av, l4, l5] c = some (.next, [l0, l1, l2, .own (putU d xs).av, l4, q5], c)
  | [], d, l5, h => ⟨l5, rfl⟩
  | x :: xs, d, l5, h => by
    simp only [List.length_cons] at h
    have h2 := d.put_len x (.bool true)
    obtain ⟨q5, ih⟩ := sc_for xs (d.put x (.bool true)) (.val (.str x)) (by lia)
    refine ⟨q5, forL_cons rfl (x_seq (x_setDict (c1 := c) (c2 := c) (n := x) (x := .bool true) (EE.of r_bool rfl) (p_own rfl) (EE.of (r_loc rfl) rfl) rfl (by lia) rfl) x_skip) ih⟩
theorem sc_row {l0 l2 l5 : LV} {i : Nat} {xs : List Str} (hG : G[i]? = some (eL xs)) (hl : G.length ≤ 9) (hx : xs.length ≤ 9) (hd : d.1.length + xs.length ≤ lim) :
    ∃ q5, XS Φ W sSc [l0, .val (.list G), l2, .own d.av, .val (.int i), l5] c .next [l0, .val (.list G), l2, .own (putU d xs).av, .val (.int i), q5] c := by
  obtain ⟨q5, h⟩ := sc_for (Φ := Φ) (W := W) (c := c) (l0 := l0) (l1 := .val (.list G)) (l2 := l2) (l4 := .val (.int i)) xs d l5 hd
  exact ⟨q5, x_seq (x_for1 (i_of (r_idx_list (p_loc rfl) (EE.of (r_loc rfl) rfl) rfl (small9 hl) (itemAt_nat hG)) rfl rfl) (small9 (by simp; exact hx)) h) x_skip⟩
theorem sc_nil {p1 p2 : AV} : run W Φ 18 [p1, p2, .tup []] c = some (.v p1, c) := by kernel_rfl
theorem sc_0 {xs : List Str} (hG : G[0]? = some (eL xs)) (hl : G.length ≤ 9) (hx : xs.length ≤ 9) (hd : d.1.length + xs.length ≤ lim) :
    run W Φ 18 [d.av, .list G, nums [0]] c = some (.v (putU d xs).av, c) := by
  obtain ⟨q5, h⟩ := sc_row (Φ := Φ) (W := W) (c := c) (d := d) (l0 := .val d.av) (l2 := .val (nums [0])) (l5 := .un) (i := 0) hG hl hx hd
  refine run_xr (F := ⟨3, 6, b18⟩) rfl rfl rfl (xr_seq (x_if (q := false) (t_of (r_cmp rfl (EE.of (r_loc rfl) rfl) (p_of rfl (EE.of (r_tup l_nil rfl) rfl)) rfl rfl) rfl) x_skip) ?_)
  refine xr_seq (x_asg (r_copy (EE.of (r_loc rfl) rfl) (by lia))) ?_
  refine xr_seq (x_for1 (i_of (r_loc rfl) rfl rfl) rfl (forL_cons rfl h rfl)) ?_
  exact xr_seq (x_freeze rfl) (xr_stop (xr_ret (r_loc rfl)))
theorem sc_0j {xs ys : List Str} {j : Nat} (hG : G[0]? = some (eL xs)) (hJ : G[j]? = some (eL ys)) (hl : G.length ≤ 9) (hx : xs.length ≤ 9) (hy : ys.length ≤ 9) (hd : d.1.length + xs.length + ys.length ≤ lim) :
    run W Φ 18 [d.av, .list G, nums [0, j]] c = some (.v (putU (putU d xs) ys).av, c) := by
  have h3 := putU_len xs d
  obtain ⟨q5, h⟩ := sc_row (Φ := Φ) (W := W) (c := c) (d := d) (l0 := .val d.av) (l2 := .val (nums [0, j])) (l5 := .un) (i := 0) hG hl hx (by lia)
  obtain ⟨q6, h2⟩ := sc_row (Φ := Φ) (W := W) (c := c) (d := putU d xs) (l0 := .val d.av) (l2 := .val (nums [0, j])) (l5 := q5) (i := j) hJ hl hy (by lia)
  refine run_xr (F := ⟨3, 6, b18⟩) rfl rfl rfl (xr_seq (x_if (q := false) (t_of (r_cmp rfl (EE.of (r_loc rfl) rfl) (p_of rfl (EE.of (r_tup l_nil rfl) rfl)) rfl rfl) rfl) x_skip) ?_)
  refine xr_seq (x_asg (r_copy (EE.of (r_loc rfl) rfl) (by lia))) ?_
  refine xr_seq (x_for1 (i_of (r_loc rfl) rfl rfl) rfl (forL_cons rfl h (forL_cons rfl h2 rfl))) ?_
  exact xr_seq (x_freeze rfl) (xr_stop (xr_ret (r_loc rfl)))
end
noncomputable abbrev PhiN (W d : Nat) : CallF := callF tab fun? (W + 1) (d + 1)
noncomputable def wN (W d V : Nat) (l : Loc) (c : Cells) := whileL (ev tab (PhiN W d) (.loc 2)).t (exs tab (PhiN W d) (W + 1) sN) V l c
theorem five {q : List LV} (h : q.length = 5) : ∃ r3 r4 r5 r6 r7, q = [r3, r4, r5, r6, r7] := by
  match q, h with
  | [r3, r4, r5, r6, r7], _ => exact ⟨_, _, _, _, _, rfl⟩
theorem t_tasksN {Φ : CallF} {e : AV} {F : Dc} {ts : List AV} {t : AV} {rs : List LV} {c : Cells} (h : ts.length ≤ 1000) : ET Φ (.loc 2) (LN e F (ts ++ [t]) rs) c true c := by
  have := t_locl (Φ := Φ) (l := LN e F (ts ++ [t]) rs) (c := c) (i := 2) (xs := ts ++ [t]) rfl (decide_eq_true (show _ ≤ 1000000 by simp; lia))
  have e : (!(ts ++ [t]).isEmpty) = true := by cases ts <;> rfl
  rw [e] at this; exact this
noncomputable def GoN (e x bd : AV) (h : Nat) : Prop := ∀ F, Good F → ∃ F', Good F' ∧ ∃ N, ∀ W d V ts rs c, rs.length = 5 → ts.length + h ≤ 900 →
  ∃ rs', rs'.length = 5 ∧ wN W d (V + N) (LN e F (ts ++ [.tup [x, bd]]) rs) c = wN W d V (LN e F' ts rs') c
/-- parts laid one over the other: the last is on top -/
noncomputable def GoNs (e : AV) (ps : List (AV × AV)) (h : Nat) : Prop := ∀ F, Good F → ∃ F', Good F' ∧ ∃ N, ∀ W d V ts rs c, rs.length = 5 → ts.length + h ≤ 900 →
  ∃ rs', rs'.length = 5 ∧ wN W d (V + N) (LN e F (ts ++ ps.map fun q => .tup [q.1, q.2]) rs) c = wN W d V (LN e F' ts rs') c
theorem goNs_nil {e : AV} {h : Nat} : GoNs e [] h := fun F hF => ⟨F, hF, 0, fun W d V ts rs c hr ht => ⟨rs, hr, by simp⟩⟩
theorem goNs_cons {e x bd : AV} {ps : List (AV × AV)} {h h1 H : Nat} (g : GoN e x bd h) (gs : GoNs e ps h1) (hH : h ≤ H) (hH1 : h1 + 1 ≤ H) : GoNs e ((x, bd) :: ps) H := by
  intro F hF
  obtain ⟨F1, hF1, N1, hN1⟩ := gs F hF
  obtain ⟨F2, hF2, N2, hN2⟩ := g F1 hF1
  refine ⟨F2, hF2, N2 + N1, fun W d V ts rs c hr ht => ?_⟩
  obtain ⟨rs1, hr1, e1⟩ := hN1 W d (V + N2) (ts ++ [.tup [x, bd]]) rs c hr (by simp; lia)
  refine ex_1_2 (hN2 W d V ts rs1 c hr1 (by lia)) fun rs2 hr2 e2 => ?_
  refine ⟨rs2, hr2, ?_⟩
  have e3 := e1.trans e2
  simp only [List.append_assoc, List.singleton_append] at e3
  rw [← Nat.add_assoc]
  exact e3
theorem goN_var {e : AV} {d : Dc} {s : Str → Option Unit} {m h : Nat} {x : Str} (hd : Rd eU d s m) (hx : s x = none → x ∈ three) : GoN e (eV x) d.av h := by
  intro F hF
  have hc := hd.has x
  cases hs : s x with
  | some u =>
    rw [hs] at hc
    refine ⟨F, hF, 1, fun W d' V ts rs c hr ht => ?_⟩
    refine ex_5_1 (five hr) fun r3 r4 r5 r6 r7 eq0 => ?_
    subst eq0
    exact ⟨_, rfl, while_cont (t_tasksN (by lia)) (n_var_in (by lia) hc)⟩
  | none =>
    rw [hs] at hc
    refine ⟨_, hF.put (a := .bool true) (hx hs), 1, fun W d' V ts rs c hr ht => ?_⟩
    refine ex_5_1 (five hr) fun r3 r4 r5 r6 r7 eq0 => ?_
    subst eq0
    have h3 := three_len hF.1 hF.2.1
    exact ⟨_, rfl, while_cont (t_tasksN (by lia)) (n_var_out (by lia) hc (by unfold lim; lia))⟩
theorem goN_node {e : AV} {k f g h H : Nat} {fs : List AV} {bd gr : AV} {ps : List (AV × AV × AV)} (hk : k ≠ 0) (hk' : k < 10) (hp : ps.length ≤ 5)
    (hm0 : methOf k 0 = some g) (hg : ∀ W d c, ∃ o : RV, PhiN W d g [.obj k fs] c = some (o, c) ∧ o.av = gr) (hm : methOf k 1 = some f) (hf : ∀ W d c, ∃ o : RV, PhiN W d f [.obj k fs] c = some (o, c) ∧ o.av = .list (ps.map fun q => .tup [q.1, q.2.1]))
    (hi : ∀ q ∈ ps, ∀ W d c, ∃ o : RV, o.av = q.2.2 ∧ PhiN W d 18 [bd, gr, q.2.1] c = some (o, c)) (gs : GoNs e (ps.map fun q => (q.1, q.2.2)) h) (hH : h + 1 ≤ H) (hH5 : 6 ≤ H) : GoN e (.obj k fs) bd H := by
  intro F hF
  obtain ⟨F', hF', N, hN⟩ := gs F hF
  refine ⟨F', hF', N + 1, fun W d V ts rs c hr ht => ?_⟩
  refine ex_5_1 (five hr) fun r3 r4 r5 r6 r7 eq0 => ?_
  subst eq0
  refine ex_1_2 (hg W d c) fun o2 ho2 ho2' => ?_
  refine ex_1_2 (hf W d c) fun o1 ho1 ho1' => ?_
  refine ex_1_2 (n_open (Φ := PhiN W d) (W := W + 1) (c := c) (e := e) (ts := ts) (F := F) (r3 := r3) (r4 := r4) (r5 := r5) (r6 := r6) (r7 := r7) hk hk' (by lia) hm0 ho2 ho2' hm ho1 ho1' (fun q hq => hi q hq W d c)) fun q hq hx => ?_
  refine ex_1_2 (hN W d V ts q c hq (by lia)) fun rs' hr' e1 => ?_
  refine ⟨rs', hr', ?_⟩
  have s1 := while_next (n := V + N) (t_tasksN (Φ := PhiN W d) (e := e) (F := F) (ts := ts) (t := .tup [.obj k fs, bd]) (c := c) (by lia)) hx
  rw [← Nat.add_assoc]
  refine s1.trans (Eq.trans ?_ e1)
  rw [List.map_map]; rfl
/-- the free names are a, b, n -/
noncomputable def fvs : Tm → (Str → Option Unit) → Prop
  | .lit _, _ => True
  | .c0 (.v x) o z, s => (s x = none → x ∈ three) ∧ fvs z (upd s o ())
  | .c1 (.v x) o k t z, s => (s x = none → x ∈ three) ∧ fvs t (updU (upd s o ()) (fl k)) ∧ fvs z (upd s o ())
  | .c2 (.v x) o k t j u z, s => (s x = none → x ∈ three) ∧ fvs t (updU (upd s o ()) (fl k)) ∧ fvs u (updU (upd s o ()) (fl j)) ∧ fvs z (upd s o ())
  | _, _ => False
theorem free_go {e : AV} : ∀ (t : Tm) {d : Dc} {s : Str → Option Unit} {m : Nat}, fvs t s → Rd eU d s m → m + 2 * ht t ≤ 1000 → GoN e (eT t) d.av (20 + 10 * ht t)
  | .lit j, d, s, m, hv, hd, hm => goN_node (k := 1) (f := 4) (g := 3) (ps := []) (gr := .list []) (h := 0) (by decide) (by decide) (by simp) rfl (fun W d c => ⟨.o (.list []), rfl, rfl⟩) rfl (fun W d c => ⟨.o (.list []), rfl, rfl⟩) (by simp) goNs_nil (by lia) (by lia)
  | .lt _ _ _, _, _, _, hv, _, _ => by cases hv
  | .c0 (.v x) o z, d, s, m, hv, hd, hm => by
    simp only [ht] at hm ⊢
    have hz := free_go z (e := e) hv.2 (hd.put (x := o) (a := ())) (by lia)
    have hlim : d.1.length + 2 ≤ lim := by have := hd.2.1; unfold lim; lia
    refine goN_node (k := 5) (f := 13) (g := 12) (ps := [(eV x, nums [], d.av), (eT z, nums [0], (d.put o (.bool true)).av)]) (gr := eG [[o]]) (h := 24 + 10 * ht z) (by decide) (by decide) (by simp) rfl (fun W d c => ⟨_, c0_groups, rfl⟩) rfl (fun W d c => ⟨_, c0_parts eT_some, rfl⟩) ?_ (goNs_cons (goN_var (h := 0) hd hv.1) (goNs_cons hz (goNs_nil (h := 0)) (H := 22 + 10 * ht z) (by lia) (by lia)) (by lia) (by lia)) (by lia) (by lia)
    intro q hq W' d' c'
    simp only [List.mem_cons, List.not_mem_nil, or_false] at hq
    rcases hq with rfl | rfl
    · exact ⟨_, rfl, sc_nil⟩
    · exact ⟨_, rfl, sc_0 (G := [eL [o]]) (xs := [o]) rfl (by simp) (by simp) (by simp; lia)⟩
  | .c1 (.v x) o k t z, d, s, m, hv, hd, hm => by
    simp only [ht] at hm ⊢
    have hl := fl_len (k := k)
    have ht0 := free_go t (e := e) hv.2.1 ((hd.put (x := o) (a := ())).putU (fs := fl k)) (by lia)
    have hz := free_go z (e := e) hv.2.2 (hd.put (x := o) (a := ())) (by lia)
    have hlim : d.1.length + 3 ≤ lim := by have := hd.2.1; unfold lim; lia
    refine goN_node (k := 5) (f := 13) (g := 12) (ps := [(eV x, nums [], d.av), (eT t, nums [0, 1], (putU (d.put o (.bool true)) (fl k)).av), (eT z, nums [0], (d.put o (.bool true)).av)]) (gr := eG [[o], fl k]) (h := 25 + 10 * max (ht t) (ht z)) (by decide) (by decide) (by simp) rfl (fun W d c => ⟨_, c1_groups, by rw [eF_eL]; rfl⟩) rfl (fun W d c => ⟨_, c1_parts eT_some, rfl⟩) ?_
      (goNs_cons (goN_var (h := 0) hd hv.1) (goNs_cons ht0 (goNs_cons hz (goNs_nil (h := 0)) (H := 22 + 10 * max (ht t) (ht z)) (by lia) (by lia)) (H := 23 + 10 * max (ht t) (ht z)) (by lia) (by lia)) (by lia) (by lia)) (by lia) (by lia)
    intro q hq W' d' c'
    simp only [List.mem_cons, List.not_mem_nil, or_false] at hq
    rcases hq with rfl | rfl | rfl
    · exact ⟨_, rfl, sc_nil⟩
    · exact ⟨_, rfl, sc_0j (j := 1) (G := [eL [o], eL (fl k)]) (xs := [o]) (ys := fl k) rfl rfl (by simp) (by simp) (by lia) (by simp; lia)⟩
    · exact ⟨_, rfl, sc_0 (G := [eL [o], eL (fl k)]) (xs := [o]) rfl (by simp) (by simp) (by simp; lia)⟩
  | .c2 (.v x) o k t j u z, d, s, m, hv, hd, hm => by
    simp only [ht] at hm ⊢
    have hl := fl_len (k := k)
    have hl' := fl_len (k := j)
    have ht0 := free_go t (e := e) hv.2.1 ((hd.put (x := o) (a := ())).putU (fs := fl k)) (by lia)
    have hu0 := free_go u (e := e) hv.2.2.1 ((hd.put (x := o) (a := ())).putU (fs := fl j)) (by lia)
    have hz := free_go z (e := e) hv.2.2.2 (hd.put (x := o) (a := ())) (by lia)
    have hlim : d.1.length + 3 ≤ lim := by have := hd.2.1; unfold lim; lia
    refine goN_node (k := 5) (f := 13) (g := 12) (ps := [(eV x, nums [], d.av), (eT t, nums [0, 1], (putU (d.put o (.bool true)) (fl k)).av), (eT u, nums [0, 2], (putU (d.put o (.bool true)) (fl j)).av), (eT z, nums [0], (d.put o (.bool true)).av)]) (gr := eG [[o], fl k, fl j]) (h := 26 + 10 * max (ht t) (max (ht u) (ht z))) (by decide) (by decide) (by simp) rfl (fun W d c => ⟨_, c2_groups, by rw [eF_eL, eF_eL]; rfl⟩) rfl (fun W d c => ⟨_, c2_parts eT_some, rfl⟩) ?_
      (goNs_cons (goN_var (h := 0) hd hv.1) (goNs_cons ht0 (goNs_cons hu0 (goNs_cons hz (goNs_nil (h := 0)) (H := 22 + 10 * max (ht t) (max (ht u) (ht z))) (by lia) (by lia)) (H := 23 + 10 * max (ht t) (max (ht u) (ht z))) (by lia) (by lia)) (H := 24 + 10 * max (ht t) (max (ht u) (ht z))) (by lia) (by lia)) (by lia) (by lia)) (by lia) (by lia)
    intro q hq W' d' c'
    simp only [List.mem_cons, List.not_mem_nil, or_false] at hq
    rcases hq with rfl | rfl | rfl | rfl
    · exact ⟨_, rfl, sc_nil⟩
    · exact ⟨_, rfl, sc_0j (j := 1) (G := [eL [o], eL (fl k), eL (fl j)]) (xs := [o]) (ys := fl k) rfl rfl (by simp) (by simp) (by lia) (by simp; lia)⟩
    · exact ⟨_, rfl, sc_0j (j := 2) (G := [eL [o], eL (fl k), eL (fl j)]) (xs := [o]) (ys := fl j) rfl rfl (by simp) (by simp) (by lia) (by simp; lia)⟩
    · exact ⟨_, rfl, sc_0 (G := [eL [o], eL (fl k), eL (fl j)]) (xs := [o]) rfl (by simp) (by simp) (by simp; lia)⟩
  | .c0 (.n _) _ _, _, _, _, hv, _, _ => by cases hv
  | .c0 (.c _) _ _, _, _, _, hv, _, _ => by cases hv
  | .c0 .d _ _, _, _, _, hv, _, _ => by cases hv
  | .c1 (.n _) _ _ _ _, _, _, _, hv, _, _ => by cases hv
  | .c1 (.c _) _ _ _ _, _, _, _, hv, _, _ => by cases hv
  | .c1 .d _ _ _ _, _, _, _, hv, _, _ => by cases hv
  | .c2 (.n _) _ _ _ _ _ _, _, _, _, hv, _, _ => by cases hv
  | .c2 (.c _) _ _ _ _ _ _, _, _, _, hv, _, _ => by cases hv
  | .c2 .d _ _ _ _ _ _, _, _, _, hv, _, _ => by cases hv
end Mine
end
section
open PySem PySem.W PyProof.Rows
set_option Elab.async false
set_option maxRecDepth 100000
set_option linter.unusedVariables false
set_option linter.unusedSimpArgs false
namespace Mine
theorem insS_mem {x y : Str} : ∀ {l : List Str}, y ∈ insS x l → y = x ∨ y ∈ l
  | [], h => by simpa [insS] using h
  | z :: l, h => by
    simp only [insS] at h
    split at h
    · simpa using h
    · rcases List.mem_cons.1 h with h | h
      · exact .inr (by simp [h])
      · exact (insS_mem h).imp id (fun q => by simp [q])
theorem insS_len {x : Str} : ∀ {l : List Str}, (insS x l).length = l.length + 1
  | [] => rfl
  | z :: l => by simp only [insS]; split <;> simp [insS_len (l := l)]
theorem sortS_mem {y : Str} : ∀ {l : List Str}, y ∈ sortS l → y ∈ l
  | [], h => by cases h
  | x :: l, h => by
    rcases insS_mem h with h | h
    · simp [h]
    · simp [sortS_mem h]
theorem sortS_len : ∀ {l : List Str}, (sortS l).length = l.length
  | [] => rfl
  | x :: l => by simp only [sortS, insS_len, sortS_len (l := l), List.length_cons]
theorem free_ans {t : Tm} (hv : fvs t (fun _ => none)) (hh : ht t ≤ 80) : ∃ ks : List Str, ks.length ≤ 3 ∧ (∀ x ∈ ks, x ∈ three) ∧ ∃ N, ∀ W, N ≤ W → ∀ d c, callF tab fun? (W + 1) (d + 2) 19 [eT t] c = some (.o (eL ks), c) := by
  obtain ⟨F, hF, N, h⟩ := free_go t (e := eT t) (d := ([], [])) (m := 0) hv Rd.nil (by lia) ([], []) ⟨List.nodup_nil, by simp, rfl⟩
  have h3 := three_len hF.1 hF.2.1
  refine ⟨sortS F.1, by rw [sortS_len]; exact h3, fun x hx => hF.2.1 x (sortS_mem hx), N, fun W hW d c => ?_⟩
  obtain ⟨rs', hr', h6⟩ := h W d (W + 1 - N) [] (List.replicate 5 .un) c rfl (by simp; lia)
  rw [show W + 1 - N + N = W + 1 by lia] at h6
  rw [callF_succ]
  refine run_xr (F := ⟨1, 8, b19⟩) rfl rfl rfl ?_
  show XR _ _ b19 _ _ _ _
  rw [b19_eq]
  refine xr_seq (x_asg2 (r1 := .o (.dict [] [])) (r2 := .o (.list [.tup [eT t, Dc.av ([], [])]])) (c1 := c) r_dict0 (r_list (l_cons (EE.of (r_tup (l_cons (EE.of (r_loc rfl) rfl) (l_cons (EE.of r_dict0 rfl) l_nil)) rfl) rfl) l_nil) rfl)) ?_
  refine xr_seq (l1 := LN (eT t) F [] rs') (c1 := c) (x_whil (Eq.trans h6 ?_)) ?_
  · obtain ⟨j, hj⟩ : ∃ j, W + 1 - N = j + 1 := ⟨W - N, by lia⟩
    rw [hj]
    exact while_end (t_locl (i := 2) (xs := []) rfl rfl)
  · exact xr_stop (xr_ret (r_sorted (ks := F.1) (vs := F.2) (p_own rfl) rfl h3))
/-! avoid -/
theorem av_for {Φ : CallF} {W : Nat} {a0 a1 a3 l1 : AV} : ∀ (ks : List Str) (d : Dc) (l2 : LV), d.1.length + ks.length ≤ lim →
    ∃ q2, forL (exs tab Φ W (.seq (.setIdx (.attr (.loc 0) 14) (.loc 2) (.bool true)) .skip)) (bind1 2) (ks.map .str) [.val aFr, .val l1, l2] [a0, a1, d.av, a3] = some (.next, [.val aFr, .val l1, q2], [a0, a1, (putU d ks).av, a3])
  | [], d, l2, h => ⟨l2, rfl⟩
  | x :: xs, d, l2, h => by
    simp only [List.length_cons] at h
    have h2 := d.put_len x (.bool true)
    obtain ⟨q2, ih⟩ := av_for xs (d.put x (.bool true)) (.val (.str x)) (by lia)
    refine ⟨q2, forL_cons (c2 := [a0, a1, (d.put x (.bool true)).av, a3]) rfl (x_seq (x_setDict (ks := d.1) (vs := d.2) (n := x) (x := .bool true) (EE.of r_bool rfl) (p_of rfl (EE.of (r_attr (k := 9) (j := 0) (EE.of (r_loc rfl) rfl) rfl rfl) rfl)) (EE.of (r_loc rfl) rfl) rfl (by lia) rfl) x_skip) ih⟩
theorem avoid_ans {Φ : CallF} {W : Nat} {a0 a1 a3 : AV} {ks : List Str} {d : Dc} (hk : ks.length ≤ 9) (hd : d.1.length ≤ 9) : run W Φ 36 [aFr, eL ks] [a0, a1, d.av, a3] = some (.v .none, [a0, a1, (putU d ks).av, a3]) := by
  obtain ⟨q2, h⟩ := av_for (Φ := Φ) (W := W) (a0 := a0) (a1 := a1) (a3 := a3) (l1 := eL ks) ks d .un (by unfold lim; lia)
  exact run_next (F := ⟨2, 3, b36⟩) rfl rfl rfl (x_seq (x_for1 (i_of (r_loc rfl) rfl rfl) (small9 (by simp; exact hk)) h) x_skip)
theorem updU_mem : ∀ {ks : List Str} {s : Str → Option Unit} {x : Str}, updU s ks x ≠ none → s x ≠ none ∨ x ∈ ks
  | [], s, x, h => .inl h
  | k :: ks, s, x, h => by
    rcases updU_mem (ks := ks) h with h | h
    · by_cases e : x = k
      · exact .inr (by simp [e])
      · rw [upd_ne e] at h; exact .inl h
    · exact .inr (by simp [h])
theorem three_dotless : ∀ x ∈ three, dotless x ∧ 0 < x.length ∧ x.length ≤ 10 := by
  intro x hx
  simp only [three, List.mem_cons, List.not_mem_nil, or_false] at hx
  unfold dotless
  rcases hx with rfl | rfl | rfl <;> decide +kernel
theorem known_again_ans {t : Tm} (hv : fvs t (fun _ => none)) (hh : ht t ≤ 4) (hbo : bo (fun _ => 0) t) :
    ∃ r, NoAg r [] ∧ ht r ≤ 16 ∧ (∀ ρ v, (∀ x w, ρ x = some w → x ∈ three) → worth t ρ = some v → worth r ρ = some v) ∧
      ∀ a0 a1, SrcOk a0 → ∃ c' a0' rest, c' = a0' :: rest ∧ SrcOk a0' ∧ ∃ N, ∀ W, N ≤ W → ∀ d, callF tab fun? (W + 1) (d + 11) 34 [eT t, aFr] [a0, a1, .dict [] [], .dict [] []] = some (.v (eT r), c') := by
  obtain ⟨ks, hk1, hk2, N1, h1⟩ := free_ans hv (by lia)
  have hb : nb t ≤ bud 4 := Nat.le_trans nb_bud (bud_mono hh)
  have hb4 : bud 4 = 120 := by decide
  have hf4 : fb 4 ≤ 10000 := by decide
  refine ex_2_2 (renamed_ans (ak := (putU ([], []) ks).1) (t := t) (n := 0) (cnt := fun _ => 0) (by lia) hbo (by lia)) fun t' cnt1 hr h2 => ?_
  have hD : ∀ {cnt : Str → Nat} x, x ∈ three → old cnt x := fun x hx => have := three_dotless x hx; old_plain this.1 this.2.1 this.2.2
  obtain ⟨r, cnt2, n2, hfr, h3⟩ := facts_ans (ak := (putU ([], []) ks).1) (t := t') (m := 4) (n := 0 + nb t) (cnt := cnt1) (D := fun x => x ∈ three) (by lia) (by rw [hr.hht]; exact hh) (hr.hwf _ hD) hD hr.hbo (by lia)
  refine ⟨r, hfr.ha [] (by decide), by have := hfr.hh; omega, fun ρ v hd hw => hfr.hw ρ v hd (by nofun) (hr.hw _ _ _ (agr_id hd hD) hw), fun a0 a1 hs => ?_⟩
  have hS : Sx (putU ([], []) ks).1 (fun _ => 0) 0 [a0, a1, (putU ([], []) ks).av, .dict [] []] := by
    refine ⟨a0, a1, (putU ([], []) ks).2, [], [], rfl, fun b => rfl, Nat.le_refl _, fun b => Nat.le_refl _, fun x hx => ?_, rfl, hs⟩
    have hR := Rd.putU (fs := ks) (d := ([], [])) (s := fun _ => none) (m := 0) Rd.nil
    have := hR.has x
    rw [List.contains_iff_mem.2 hx] at this
    rcases updU_mem (ks := ks) (s := fun _ => none) (x := x) (by intro e; rw [e] at this; cases this) with h | h
    · exact absurd rfl h
    · exact (three_dotless x (hk2 x h)).1
  obtain ⟨c1, hc1, N2, h4⟩ := h2 _ hS
  obtain ⟨c2, hc2, N3, h5⟩ := h3 c1 hc1
  refine ex_5_7 (hc2) fun b0 b1 av nk nv e _ _ _ _ _ hs2 => ?_
  refine ⟨c2, b0, _, e, hs2, N1 + N2 + N3, fun W hW d => ?_⟩
  rw [callF_succ]
  refine run_xr (F := ⟨2, 2, b34⟩) rfl rfl rfl ?_
  refine xr_seq (x_expr (EE.of (r_meth (k := 9) (f := 36) (r := .v .none) (EE.of (r_loc rfl) rfl) rfl (l_cons (x := eL ks) (EE.of (r_call (l_cons (EE.of (r_loc rfl) rfl) l_nil) (h1 W (by lia) (d + 8) _)) rfl) l_nil) (avoid_ans (d := ([], [])) (by lia) (by simp))) rfl)) ?_
  exact xr_stop (xr_ret (r_meth (k := 8) (f := 33) (r := .v (eT r)) (EE.of (r_new (k := 8) (l_cons (EE.of (r_loc rfl) rfl) l_nil) rfl) rfl) rfl (l_cons (x := eT t') (EE.of (r_call (l_cons (EE.of (r_loc rfl) rfl) (l_cons (EE.of (r_loc rfl) rfl) l_nil)) (h4 W (by lia) (d + 4))) rfl) l_nil) (h5 W (by lia) d)))
end Mine
end
section
open PySem PySem.W PyProof.Rows
set_option Elab.async false
set_option maxRecDepth 100000
set_option linter.unusedVariables false
set_option linter.unusedSimpArgs false
namespace Mine
/-! _law_again -/
section
variable {Φ : CallF} {W : Nat} {l l' l1 l2 lm : Loc} {c c' c1 c2 c3 c4 : Cells} {e a b d e1 e2 e3 : IE} {x y z v : AV} {r r1 r2 : RV} {s s1 s2 : IS}
theorem r_and2 (h : EE Φ a l c (.bool true) c1) (h2 : EE Φ b l c1 y c2) : ER Φ (.and a b) l c (.v y) c2 := by
  exact bd_of (f := fun x c => boolV x fun q => if q = true then Mine.bd ((ev tab Φ b).e l c) fun y c => some (RV.v y, c) else some (.v (.bool false), c)) h ((if_pos (c := true = true) rfl).trans (bd_of h2 rfl) : (if true = true then Mine.bd ((ev tab Φ b).e l c1) (fun y c => some (RV.v y, c)) else some (.v (.bool false), c1)) = some (RV.v y, c2))
theorem compL_skip {el : Loc → Cells → Option (AV × Cells)} {co : Loc → Cells → Option (Bool × Cells)} {bd : AV → Loc → Option Loc} {xs ys : List AV} (hb : bd x l = some l1) (h : co l1 c = some (false, c)) (h2 : compL el co bd xs l c = some (ys, c1)) : compL el co bd (x :: xs) l c = some (ys, c1) := by
  exact ob_of hb (bd_of h ((if_neg Bool.false_ne_true).trans h2))
theorem strsOf_map : ∀ {l : List Str}, strsOf (l.map .str) = some l
  | [] => rfl
  | x :: l => om_of (strsOf_map (l := l)) rfl
/-- the loop over the parts -/
noncomputable def sAg : IS := .seq (.ifs (.call 44 (.cons (.loc 3) (.cons (.loc 1) .nil)))
  (.seq (.ret (.bool true))
  .skip)
  .skip)
  .skip
theorem ag_for {l0 l1 : AV} {l2 : LV} : ∀ {ps : List (AV × AV)} {l3 l4 l5 : LV}, (∀ p ∈ ps, Φ 44 [p.1, l1] c = some (.v (.bool false), c)) → ∃ l', forL (exs tab Φ W sAg) (bindT [3, 4]) (ps.map fun p => .tup [p.1, p.2]) [.val l0, .val l1, l2, l3, l4, l5] c = some (.next, l', c)
  | [], l3, l4, l5, _ => ⟨_, rfl⟩
  | p :: ps, l3, l4, l5, h => by
    obtain ⟨l', hl⟩ := ag_for (ps := ps) (l3 := .val p.1) (l4 := .val p.2) (l5 := l5) fun q hq => h q (List.mem_cons_of_mem _ hq)
    refine ⟨l', forL_cons rfl (x_seq (x_if (q := false) (t_of ?_ rfl) x_skip) x_skip) hl⟩
    exact r_call (l_cons (EE.of (r_loc rfl) rfl) (l_cons (EE.of (r_loc rfl) rfl) l_nil)) (h p List.mem_cons_self)
theorem ag_parts {k f : Nat} {fs : List AV} {sn : AV} {r : RV} {ps : List (AV × AV)} (hk : k < 10) (hk5 : (k == 5) = false) (hm : methOf k 1 = some f) (hc : Φ f [.obj k fs] c = some (r, c)) (hr : r.av = .list (ps.map fun p => .tup [p.1, p.2])) (hn : ps.length ≤ 9) (h : ∀ p ∈ ps, Φ 44 [p.1, sn] c = some (.v (.bool false), c)) : run W Φ 44 [.obj k fs, sn] c = some (.v (.bool false), c) := by
  obtain ⟨l', hl⟩ := ag_for (Φ := Φ) (W := W) (c := c) (l0 := .obj k fs) (l1 := sn) (l2 := .un) (ps := ps) (l3 := .un) (l4 := .un) (l5 := .un) h
  have hI : EI Φ (.meth (.loc 0) 1 .nil) [.val (.obj k fs), .val sn, .un, .un, .un, .un] c (ps.map fun p => .tup [p.1, p.2]) c := i_of (r := .v (.list (ps.map fun p => .tup [p.1, p.2]))) (by rw [← hr]; exact r_meth (EE.of (r_loc rfl) rfl) hm l_nil hc) rfl rfl
  refine run_xr (F := ⟨2, 6, b44⟩) rfl rfl rfl (xr_seq (x_if (q := false) (t_of ?_ rfl) x_skip) (xr_seq (x_forT hI (small9 (by simpa using hn)) hl) (xr_stop (xr_ret r_bool))))
  rw [← hk5]; exact r_isi (EE.of (r_loc rfl) rfl) hk
theorem ag_case {o : Str} {t : At} {alts : List AV} {z : AV} {seen : List Str} (hv : ∀ x ∈ vn t, x ∉ seen) (hs : seen.length ≤ 900) (hz : isNone z = false) (hal : alts.length ≤ 9) (ha : ∀ q ∈ alts, ∃ k fs b, q = .obj 4 [k, fs, b] ∧ Φ 44 [b, eL (seen ++ [o] ++ vn t)] c = some (.v (.bool false), c)) (hzz : Φ 44 [z, eL seen] c = some (.v (.bool false), c)) :
    run W Φ 44 [.obj 5 [eA t, .str o, .list alts, z], eL seen] c = some (.v (.bool false), c) := by
  have hat : ∀ {l2 l3 l4 l5 : LV}, EE Φ (.attr (.loc 0) 2) [.val (.obj 5 [eA t, .str o, .list alts, z]), .val (eL seen), l2, l3, l4, l5] c (eA t) c := EE.of (r_attr (k := 5) (j := 0) (EE.of (r_loc rfl) rfl) rfl rfl) rfl
  have s0 : ET Φ (.isi (.loc 0) 5) [.val (.obj 5 [eA t, .str o, .list alts, z]), .val (eL seen), .un, .un, .un, .un] c true c := t_of (r_isi (k' := 5) (EE.of (r_loc rfl) rfl) (by grind)) rfl
  have s1 : ET Φ (.and (.isi (.attr (.loc 0) 2) 0) (.cmp .isIn (.attr (.attr (.loc 0) 2) 0) (.loc 1))) [.val (.obj 5 [eA t, .str o, .list alts, z]), .val (eL seen), .un, .un, .un, .un] c false c := by
    cases t with
    | v x =>
      refine t_and2 (c1 := c) (t_of (r_isi (k' := 0) hat (by grind)) rfl) (t_of (r_cmp rfl (EE.of (r_attr (k := 0) (j := 0) hat rfl rfl) rfl) (p_loc rfl) (z := eL seen) rfl ?_) rfl)
      show (strsOf (seen.map .str)).map (·.contains x) = some false
      rw [strsOf_map]
      have := hv x (by simp [vn])
      simp [this]
    | n i => exact t_and1 (t_of (r_isi (k' := 1) (fs := [.str sx4, .int i]) hat (by grind)) rfl)
    | c x => exact t_and1 (t_of (r_isi (k' := 6) (fs := [.str sx8, .list [eV x]]) hat (by grind)) rfl)
    | d => exact t_and1 (t_of (r_isi (k' := 6) (fs := [.str sx9, .list []]) hat (by grind)) rfl)
  have s2 : ER Φ (.bin .add (.bin .add (.loc 1) (.list (.cons (.attr (.loc 0) 0) .nil))) (.ite (.isi (.attr (.loc 0) 2) 0) (.list (.cons (.attr (.attr (.loc 0) 2) 0) .nil)) (.list .nil))) [.val (.obj 5 [eA t, .str o, .list alts, z]), .val (eL seen), .un, .un, .un, .un] c (.v (eL (seen ++ [o] ++ vn t))) c := by
    refine r_bin (x := eL (seen ++ [o])) (y := eL (vn t)) (c1 := c) (EE.of (r_bin (x := eL seen) (y := .list [.str o]) (v := eL (seen ++ [o])) (c1 := c) (EE.of (r_loc rfl) rfl) (EE.of (r_list (l_cons (EE.of (r_attr (k := 5) (j := 1) (EE.of (r_loc rfl) rfl) rfl rfl) rfl) l_nil) rfl) rfl) ?_) rfl) ?_ ?_
    · exact (abin_l (by unfold lim; simp; lia)).trans (by simp [eL])
    · cases t with
      | v x => exact EE.of (r_ite (q := true) (t_of (r_isi (k' := 0) hat (by grind)) rfl) (r_list (l_cons (EE.of (r_attr (k := 0) (j := 0) hat rfl rfl) rfl) l_nil) rfl)) rfl
      | n i => exact EE.of (r_ite (q := false) (t_of (r_isi (k' := 1) (fs := [.str sx4, .int i]) hat (by grind)) rfl) (r_list l_nil rfl)) rfl
      | c x => exact EE.of (r_ite (q := false) (t_of (r_isi (k' := 6) (fs := [.str sx8, .list [eV x]]) hat (by grind)) rfl) (r_list l_nil rfl)) rfl
      | d => exact EE.of (r_ite (q := false) (t_of (r_isi (k' := 6) (fs := [.str sx9, .list []]) hat (by grind)) rfl) (r_list l_nil rfl)) rfl
    · have : (vn t).length ≤ 1 := by cases t <;> simp [vn]
      exact (abin_l (by unfold lim; simp; grind)).trans (by simp [eL])
  have s3 : ∀ (as : List AV), (∀ q ∈ as, ∃ k fs b, q = .obj 4 [k, fs, b] ∧ Φ 44 [b, eL (seen ++ [o] ++ vn t)] c = some (.v (.bool false), c)) → ∀ {q0 q1 q3 q4 q5 : LV}, compL (ev tab Φ (.loc 5)).e (ev tab Φ (.call 44 (.cons (.attr (.loc 5) 4) (.cons (.loc 2) .nil)))).t (bind1 5) as [q0, q1, .val (eL (seen ++ [o] ++ vn t)), q3, q4, q5] c = some ([], c) := by
    intro as; induction as with
    | nil => intro _ q0 q1 q3 q4 q5; rfl
    | cons q as ih =>
      intro h q0 q1 q3 q4 q5
      refine ex_3_2 (h q List.mem_cons_self) fun k fs b eq0 hb => ?_
      subst eq0
      refine compL_skip rfl (t_of ?_ rfl : ET Φ _ _ c false c) (ih (fun q hq => h q (List.mem_cons_of_mem _ hq)))
      exact r_call (l_cons (EE.of (r_attr (k := 4) (j := 2) (EE.of (r_loc rfl) rfl) rfl rfl) rfl) (l_cons (EE.of (r_loc rfl) rfl) l_nil)) hb
  refine run_xr (F := ⟨2, 6, b44⟩) rfl rfl rfl (xr_stop (xr_if (q := true) s0 (xr_seq (x_if (q := false) s1 x_skip) (xr_seq (x_asg s2) (xr_seq (x_if (q := false) (t_of (r_cmp (x := .list []) rfl (EE.of (r_comp1if (xs := alts) (ys := []) (i_of (r_attr (k := 5) (j := 2) (EE.of (r_loc rfl) rfl) rfl rfl) rfl rfl) (small9 hal) rfl (s3 alts ha)) rfl) (p_of rfl (EE.of (r_list l_nil rfl) rfl)) (z := .list []) rfl rfl) rfl) x_skip) (xr_stop (xr_ret (r_and2 (c1 := c) ?_ (EE.of (r_call (l_cons (EE.of (r_attr (k := 5) (j := 3) (EE.of (r_loc rfl) rfl) rfl rfl) rfl) (l_cons (EE.of (r_loc rfl) rfl) l_nil)) hzz) rfl)))))))))
  refine EE.of (r := .v (.bool (!isNone z))) (r_isNotN (EE.of (r_attr (k := 5) (j := 3) (EE.of (r_loc rfl) rfl) rfl rfl) rfl)) ?_
  rw [hz]; rfl
/-- atoms and literals hold no case -/
theorem again_v {x : Str} {sn : AV} (h1 : Φ 1 [eV x] c = some (.o (.list []), c)) : run W Φ 44 [eV x, sn] c = some (.v (.bool false), c) :=
  ag_parts (ps := []) (by grind) rfl rfl h1 rfl (by simp) (by simp)
theorem again_at {a : At} {sn : AV} {d : Nat} : callF tab fun? W (d + 3) 44 [eA a, sn] c = some (.v (.bool false), c) := by
  rw [callF_succ]
  cases a with
  | v x => exact again_v (by rw [callF_succ]; exact var_parts)
  | n k => exact ag_parts (ps := []) (f := 4) (by grind) rfl rfl (by rw [callF_succ]; exact lit_parts) rfl (by simp) (by simp)
  | c x =>
    refine ag_parts (ps := [(eV x, nums [])]) (f := 16) (by grind) rfl rfl (by rw [callF_succ]; exact con_parts1) rfl (by simp) ?_
    intro p hp; simp only [List.mem_singleton] at hp; subst hp
    rw [callF_succ]; exact again_v (by rw [callF_succ]; exact var_parts)
  | d => exact ag_parts (ps := []) (f := 16) (by grind) rfl rfl (by rw [callF_succ]; exact con_parts0) rfl (by simp) (by simp)
theorem again_ans {W : Nat} {c : Cells} : ∀ (t : Tm) {seen : List Str} {d : Nat}, NoAg t seen → seen.length + 2 * ht t ≤ 900 → callF tab fun? W (d + 4 + ht t) 44 [eT t, eL seen] c = some (.v (.bool false), c)
  | .lit n, seen, d, _, _ => by
    rw [show d + 4 + ht (.lit n) = (d + 1) + 3 by simp [ht]]
    exact again_at (a := .n n)
  | .lt x a t, seen, d, h, hl => by
    simp only [ht] at hl
    rw [show d + 4 + ht (.lt x a t) = (d + 4 + ht t) + 1 by simp [ht]; grind, callF_succ]
    refine ag_parts (ps := [(eA a, nums []), (eT t, nums [0])]) (f := 10) (by grind) rfl rfl (by rw [show d + 4 + ht t = (d + 3 + ht t) + 1 by grind, callF_succ]; exact lt_parts) rfl (by simp) ?_
    intro p hp
    simp only [List.mem_cons, List.not_mem_nil, or_false] at hp
    rcases hp with rfl | rfl
    · rw [show d + 4 + ht t = (d + 1 + ht t) + 3 by grind]; exact again_at
    · exact again_ans t h (by lia)
  | .c0 a o z, seen, d, ⟨h, h2⟩, hl => by
    simp only [ht] at hl
    rw [show d + 4 + ht (.c0 a o z) = (d + 4 + ht z) + 1 by simp [ht]; grind, callF_succ]
    exact ag_case h (by grind) eT_some (by simp) (by simp) (again_ans z h2 (by grind))
  | .c1 a o k t z, seen, d, ⟨h, h2, h3⟩, hl => by
    simp only [ht] at hl
    have hvl : (vn a).length ≤ 1 := by cases a <;> simp [vn]
    rw [show d + 4 + ht (.c1 a o k t z) = (d + 4 + max (ht t) (ht z)) + 1 by simp [ht]; grind, callF_succ]
    refine ag_case h (by grind) eT_some (by simp) ?_ ?_
    · intro q hq; simp only [List.mem_singleton] at hq; subst hq
      refine ⟨_, _, _, rfl, ?_⟩
      rw [show d + 4 + max (ht t) (ht z) = (d + (max (ht t) (ht z) - ht t)) + 4 + ht t by grind]
      exact again_ans t h2 (by simp; grind)
    · rw [show d + 4 + max (ht t) (ht z) = (d + (max (ht t) (ht z) - ht z)) + 4 + ht z by grind]
      exact again_ans z h3 (by lia)
  | .c2 a o k t k' u z, seen, d, ⟨h, h2, h3, h4⟩, hl => by
    simp only [ht] at hl
    have hvl : (vn a).length ≤ 1 := by cases a <;> simp [vn]
    rw [show d + 4 + ht (.c2 a o k t k' u z) = (d + 4 + max (ht t) (max (ht u) (ht z))) + 1 by simp [ht]; grind, callF_succ]
    generalize hm : max (ht t) (max (ht u) (ht z)) = m at hl ⊢
    refine ag_case h (by grind) eT_some (by simp) ?_ ?_
    · intro q hq; simp only [List.mem_cons, List.not_mem_nil, or_false] at hq
      rcases hq with rfl | rfl
      · refine ⟨_, _, _, rfl, ?_⟩
        rw [show d + 4 + m = (d + (m - ht t)) + 4 + ht t by grind]
        exact again_ans t h2 (by simp; grind)
      · refine ⟨_, _, _, rfl, ?_⟩
        rw [show d + 4 + m = (d + (m - ht u)) + 4 + ht u by grind]
        exact again_ans u h3 (by simp; grind)
    · rw [show d + 4 + m = (d + (m - ht z)) + 4 + ht z by grind]
      exact again_ans z h4 (by lia)
end
end Mine
end
section
open PySem PySem.W PyProof.Rows
set_option Elab.async false
set_option maxRecDepth 100000
set_option linter.unusedVariables false
set_option linter.unusedSimpArgs false
namespace Mine
/-! _law_worth -/
noncomputable def vt : Vl → List AV
  | .I n => [.str sx4, .int n]
  | .C n => [.str sx8, .tup [.str sx4, .int n]]
  | .D => [.str sx9]
noncomputable def eVl (v : Vl) : AV := .tup (vt v)
noncomputable def vh : Vl → Str
  | .I _ => sx4
  | .C _ => sx8
  | .D => sx9
section
variable {Φ : CallF} {W : Nat} {l l' l1 l2 lm : Loc} {c c' c1 c2 c3 c4 : Cells} {e a b d e1 e2 e3 : IE} {x y z v : AV} {r r1 r2 : RV} {s s1 s2 : IS}
theorem wo_var {x : Str} {d : Dc} {v : AV} (h : d.get x = some v) : run W Φ 43 [eV x, d.av] c = some (.v v, c) :=
  run_xr (F := ⟨2, 8, b43⟩) rfl rfl rfl (xr_seq (x_if (q := false) (t_of (r_isi (k' := 0) (fs := [.str x]) (EE.of (r_loc rfl) rfl) (by grind)) rfl) x_skip) (xr_stop (xr_if (q := true) (t_of (r_isi (k' := 0) (fs := [.str x]) (EE.of (r_loc rfl) rfl) (by grind)) rfl) (xr_stop (xr_ret (r_idx_dict (p_loc rfl) (EE.of (r_attr (k := 0) (j := 0) (EE.of (r_loc rfl) rfl) rfl rfl) rfl) rfl h))))))
theorem wo_lit {n : Int} : run W Φ 43 [.obj 1 [.str sx4, .int n], x] c = some (.v (.tup [.str sx4, .int n]), c) := by kernel_rfl
theorem wo_con0 : run W Φ 43 [.obj 6 [.str sx9, .list []], x] c = some (.v (.tup [.str sx9]), c) := by kernel_rfl
theorem wo_con1 {p : AV} (h : Φ 43 [p, x] c = some (.v y, c)) : run W Φ 43 [.obj 6 [.str sx8, .list [p]], x] c = some (.v (.tup [.str sx8, y]), c) := by
  refine run_xr (F := ⟨2, 8, b43⟩) rfl rfl rfl ?_
  refine xr_seq (x_if (q := false) (t_of (r_isi (k' := 6) (fs := [.str sx8, .list [p]]) (EE.of (r_loc rfl) rfl) (by grind)) rfl) x_skip) ?_
  refine xr_seq (x_if (q := false) (t_of (r_isi (k' := 6) (fs := [.str sx8, .list [p]]) (EE.of (r_loc rfl) rfl) (by grind)) rfl) x_skip) ?_
  refine xr_stop (xr_if (q := true) (t_of (r_isi (k' := 6) (fs := [.str sx8, .list [p]]) (EE.of (r_loc rfl) rfl) (by grind)) rfl) (xr_stop (xr_ret ?_)))
  refine r_bin (x := .tup [.str sx8]) (y := .tup [y]) (EE.of (r_tup (l_cons (EE.of (r_attr (k := 6) (j := 0) (EE.of (r_loc rfl) rfl) rfl rfl) rfl) l_nil) rfl) rfl) (EE.of (r_tupOf (xs := [y]) (EE.of (r_comp1 (xs := [p]) (ys := [y]) (i_of (r_attr (k := 6) (j := 1) (EE.of (r_loc rfl) rfl) rfl rfl) rfl rfl) rfl rfl (compL_cons rfl (EE.of (r_call (l_cons (EE.of (r_loc rfl) rfl) (l_cons (EE.of (r_loc rfl) rfl) l_nil)) h) rfl : EE Φ _ _ _ _ c) rfl)) rfl) rfl) rfl) rfl
theorem atom_worth {t : At} {ρ : Env} {d : Dc} {m : Nat} {w : Vl} {dd : Nat} (h : wA t ρ = some w) (hd : Rd eVl d ρ m) : callF tab fun? W (dd + 3) 43 [eA t, d.av] c = some (.v (eVl w), c) := by
  rw [callF_succ]
  cases t with
  | v x =>
    refine wo_var ?_
    rw [hd.2.2, show ρ x = some w from h]; rfl
  | n k => cases h; exact wo_lit
  | c x =>
    simp only [wA] at h
    rcases hr : ρ x with _ | _ | _ | _ <;> rw [hr] at h <;> cases h
    refine wo_con1 ?_
    rw [callF_succ]
    refine wo_var ?_
    rw [hd.2.2, hr]; rfl
  | d => cases h; exact wo_con0
theorem wo_let {x : Str} {p b q : AV} {d : Dc} {vv : AV} {r : AV} (hl : d.1.length ≤ lim) (h : Φ 43 [p, d.av] c = some (.v vv, c)) (h2 : Φ 43 [b, (d.put x vv).av] c = some (.v r, c)) : run W Φ 43 [.obj 3 [.list [.tup [.str x, p]], b, q], d.av] c = some (.v r, c) := by
  refine run_xr (F := ⟨2, 8, b43⟩) rfl rfl rfl ?_
  refine xr_seq (x_if (q := false) (t_of (r_isi (k' := 3) (EE.of (r_loc rfl) rfl) (by grind)) rfl) x_skip) ?_
  refine xr_seq (x_if (q := false) (t_of (r_isi (k' := 3) (EE.of (r_loc rfl) rfl) (by grind)) rfl) x_skip) ?_
  refine xr_seq (x_if (q := false) (t_of (r_isi (k' := 3) (EE.of (r_loc rfl) rfl) (by grind)) rfl) x_skip) ?_
  refine xr_seq (x_asg (r_copy (ks := d.1) (vs := d.2) (EE.of (r_loc rfl) rfl) hl)) ?_
  refine xr_stop (xr_if (q := true) (t_not (q := false) (t_of (r_isi (k' := 3) (EE.of (r_loc rfl) rfl) (by grind)) rfl)) ?_)
  refine xr_seq (x_forT (xs := [.tup [.str x, p]]) (i_of (r_attr (k := 3) (j := 0) (EE.of (r_loc rfl) rfl) rfl rfl) rfl rfl) rfl (forL_cons (c2 := c) rfl (x_seq (x_setDict (c1 := c) (ks := d.1) (vs := d.2) (n := x) (x := vv) (EE.of (r_call (l_cons (EE.of (r_loc rfl) rfl) (l_cons (EE.of (r_loc rfl) rfl) l_nil)) h) rfl) (p_own rfl) (EE.of (r_loc rfl) rfl) rfl hl rfl) x_skip) rfl)) ?_
  exact xr_seq (x_freeze rfl) (xr_stop (xr_ret (r_call (r := .v r) (l_cons (EE.of (r_attr (k := 3) (j := 1) (EE.of (r_loc rfl) rfl) rfl rfl) rfl) (l_cons (EE.of (r_loc rfl) rfl) l_nil)) h2)))
/-! a case -/
noncomputable def kc : Ky → Vl → Bool
  | .c _, .C _ => true
  | .d, .D => true
  | _, _ => false
noncomputable def tWo : IE := .or (.cmp .eq (.attr (.loc 4) 7) (.tup (.cons (.str sx1) (.cons (.idx (.loc 3) (.int 0)) .nil)))) (.cmp .eq (.attr (.loc 4) 7) (.bin .add (.tup (.cons (.str sx2) .nil)) (.loc 3)))
theorem wo_test {k : Ky} {v : Vl} {q : Option (List Int)} {f b : AV} {l0 l1 l2 l5 l6 l7 : LV} (h : mt k v = some q) : ET Φ tWo [l0, l1, l2, .val (eVl v), .val (.obj 4 [eK k, f, b]), l5, l6, l7] c q.isSome c := by
  have hk : EE Φ (.attr (.loc 4) 7) [l0, l1, l2, .val (eVl v), .val (.obj 4 [eK k, f, b]), l5, l6, l7] c (eK k) c := EE.of (r_attr (k := 4) (j := 0) (EE.of (r_loc rfl) rfl) rfl rfl) rfl
  have h1 : ET Φ (.cmp .eq (.attr (.loc 4) 7) (.tup (.cons (.str sx1) (.cons (.idx (.loc 3) (.int 0)) .nil)))) [l0, l1, l2, .val (eVl v), .val (.obj 4 [eK k, f, b]), l5, l6, l7] c (kc k v) c := by
    refine t_of (r_cmp (z := .tup [.str sx1, .str (vh v)]) rfl hk (p_of rfl (EE.of (r_tup (l_cons (EE.of r_str rfl) (l_cons (EE.of (r_idx_tup (xs := vt v) (v := .str (vh v)) (n := 0) (p_loc rfl) (EE.of r_int rfl) rfl ?_ ?_) rfl) l_nil)) rfl) rfl)) rfl ?_) rfl
    · cases v <;> rfl
    · cases v <;> rfl
    · cases k <;> cases v <;> rfl
  cases hkc : kc k v with
  | true =>
    rw [hkc] at h1
    have : q.isSome = true := by
      cases k <;> cases v <;> simp [kc] at hkc <;> simp [mt] at h <;> subst h <;> rfl
    rw [this]; exact t_or1 h1
  | false =>
    rw [hkc] at h1
    refine t_or2 h1 (t_of (r_cmp (z := .tup (.str sx2 :: vt v)) rfl hk (p_of rfl (EE.of (r_bin (x := .tup [.str sx2]) (y := eVl v) (c1 := c) (v := .tup (.str sx2 :: vt v)) (EE.of (r_tup (l_cons (EE.of r_str rfl) l_nil) rfl) rfl) (EE.of (r_loc rfl) rfl) ?_) rfl)) rfl ?_) rfl)
    · cases v <;> rfl
    · cases k <;> cases v <;> simp [kc] at hkc <;> simp [mt] at h <;> (try subst h) <;> try rfl
      rename_i i j
      show some ((sx2 == sx2 && (sx4 == sx4 && (i == j && true))) && true) = some _
      by_cases e : i = j <;> simp [e]
noncomputable def sWf : IS := .seq (.for1 6 (.range1 (.len (.attr (.loc 4) 8)))
  (.seq (.setIdx (.loc 2) (.idx (.attr (.loc 4) 8) (.loc 6)) (.idx (.loc 3) (.bin .add (.int 1) (.loc 6))))
  .skip))
  (.seq (.freeze 2)
  (.seq (.ret (.call 43 (.cons (.attr (.loc 4) 4) (.cons (.loc 2) .nil))))
  .skip))
noncomputable def sWo : IS := .seq (.ifs tWo sWf .skip) .skip
noncomputable def putF (d : Dc) : List Str → List Int → Dc
  | f :: fs, n :: ns => putF (d.put f (eVl (.I n))) fs ns
  | _, _ => d
theorem Rd.putF : ∀ {fs : List Str} {ns : List Int} {d : Dc} {s : Env} {m : Nat}, Rd eVl d s m → Rd eVl (putF d fs ns) (updF s fs ns) (m + fs.length)
  | [], _, d, s, m, h => h
  | _ :: _, [], d, s, m, h => h.le (by grind)
  | f :: fs, n :: ns, d, s, m, h => by
    have := Rd.putF (fs := fs) (ns := ns) (h.put (x := f) (a := .I n))
    exact this.le (by simp; grind)
theorem wo_fit {k : Ky} {v : Vl} {m : List Int} {d : Dc} {b r : AV} {l0 l1 l5 l6 l7 : LV} (h : mt k v = some (some m)) (hl : d.1.length ≤ lim) (h2 : Φ 43 [b, (putF d (fl k) m).av] c = some (.v r, c)) : XR Φ W sWf [l0, l1, .own d.av, .val (eVl v), .val (.obj 4 [eK k, .list (eF k), b]), l5, l6, l7] c (.v r) c := by
  have hr : ∀ {l5 l6 l7 : LV}, XR Φ W (.seq (.freeze 2) (.seq (.ret (.call 43 (.cons (.attr (.loc 4) 4) (.cons (.loc 2) .nil)))) .skip)) [l0, l1, .own (putF d (fl k) m).av, .val (eVl v), .val (.obj 4 [eK k, .list (eF k), b]), l5, l6, l7] c (.v r) c := fun {l5 l6 l7} =>
    xr_seq (x_freeze rfl) (xr_stop (xr_ret (r_call (r := .v r) (l_cons (EE.of (r_attr (k := 4) (j := 2) (EE.of (r_loc rfl) rfl) rfl rfl) rfl) (l_cons (EE.of (r_loc rfl) rfl) l_nil)) h2)))
  have hf : ∀ {l5 l6 l7 : LV}, EE Φ (.attr (.loc 4) 8) [l0, l1, .own d.av, .val (eVl v), .val (.obj 4 [eK k, .list (eF k), b]), l5, l6, l7] c (.list (eF k)) c := fun {l5 l6 l7} => EE.of (r_attr (k := 4) (j := 1) (EE.of (r_loc rfl) rfl) rfl rfl) rfl
  cases k with
  | c f =>
    cases v <;> simp [mt] at h
    rename_i n; subst h
    refine xr_seq (x_for1 (xs := [.int 0]) (i_range1 (n := 1) (EE.of (r_len (p_of rfl hf) rfl rfl) rfl) (by unfold lim; grind)) rfl (forL_cons (c2 := c) rfl (x_seq (x_setDict (c1 := c) (c2 := c) (ks := d.1) (vs := d.2) (n := f) (x := eVl (.I n)) ?_ (p_own rfl) ?_ rfl hl rfl) x_skip) rfl)) hr
    · exact EE.of (r_idx_tup (n := 1) (p_loc rfl) (EE.of (r_bin (EE.of r_int rfl) (EE.of (r_loc rfl) rfl) rfl) rfl) rfl rfl rfl) rfl
    · exact EE.of (r_idx_list (xs := [.str f]) (n := 0) (p_of rfl hf) (EE.of (r_loc rfl) rfl) rfl rfl rfl) rfl
  | d =>
    cases v <;> simp [mt] at h
    subst h
    exact xr_seq (x_for1 (xs := []) (i_range1 (n := 0) (EE.of (r_len (p_of rfl hf) rfl rfl) rfl) (by unfold lim; grind)) rfl rfl) hr
  | n j =>
    cases v <;> simp [mt] at h
    obtain ⟨h, rfl⟩ := h
    exact xr_seq (x_for1 (xs := []) (i_range1 (n := 0) (EE.of (r_len (p_of rfl hf) rfl rfl) rfl) (by unfold lim; grind)) rfl rfl) hr
theorem wo_take {k : Ky} {v : Vl} {m : List Int} {d : Dc} {b r : AV} {as : List AV} {l0 l1 l4 l5 l6 l7 : LV} (h : mt k v = some (some m)) (hl : d.1.length ≤ lim) (h2 : Φ 43 [b, (putF d (fl k) m).av] c = some (.v r, c)) : ∃ l', forL (exs tab Φ W sWo) (bind1 4) (.obj 4 [eK k, .list (eF k), b] :: as) [l0, l1, .own d.av, .val (eVl v), l4, l5, l6, l7] c = some (.ret (.v r), l', c) :=
  ⟨_, forL_ret rfl (x_stop (x_if (q := true) (wo_test h) (wo_fit (W := W) (l0 := l0) (l1 := l1) (l5 := l5) (l6 := l6) (l7 := l7) h hl h2).choose_spec) rfl)⟩
theorem wo_skip {k : Ky} {v : Vl} {d : Dc} {f b : AV} {as : List AV} {l0 l1 l4 l5 l6 l7 : LV} {o : Option (Fl × Loc × Cells)} (h : mt k v = some none) (h2 : forL (exs tab Φ W sWo) (bind1 4) as [l0, l1, .own d.av, .val (eVl v), .val (.obj 4 [eK k, f, b]), l5, l6, l7] c = o) : forL (exs tab Φ W sWo) (bind1 4) (.obj 4 [eK k, f, b] :: as) [l0, l1, .own d.av, .val (eVl v), l4, l5, l6, l7] c = o :=
  forL_cons rfl (x_seq (x_if (q := false) (wo_test h) x_skip) x_skip) h2
theorem wo_case {p : AV} {o : Str} {as : List AV} {zz : AV} {d : Dc} {v : Vl} {r : AV} {l' : Loc} (hl : d.1.length ≤ lim) (has : as.length ≤ 9) (h : Φ 43 [p, d.av] c = some (.v (eVl v), c))
    (h2 : (∃ l', forL (exs tab Φ W sWo) (bind1 4) as [.val (.obj 5 [p, .str o, .list as, zz]), .val d.av, .own (d.put o (eVl v)).av, .val (eVl v), .un, .un, .un, .un] c = some (.ret (.v r), l', c)) ∨
      ((∃ l4, forL (exs tab Φ W sWo) (bind1 4) as [.val (.obj 5 [p, .str o, .list as, zz]), .val d.av, .own (d.put o (eVl v)).av, .val (eVl v), .un, .un, .un, .un] c = some (.next, [.val (.obj 5 [p, .str o, .list as, zz]), .val d.av, .own (d.put o (eVl v)).av, .val (eVl v), l4, .un, .un, .un], c)) ∧ Φ 43 [zz, (d.put o (eVl v)).av] c = some (.v r, c))) :
    run W Φ 43 [.obj 5 [p, .str o, .list as, zz], d.av] c = some (.v r, c) := by
  refine run_xr (F := ⟨2, 8, b43⟩) rfl rfl rfl ?_
  refine xr_seq (x_if (q := false) (t_of (r_isi (k' := 5) (EE.of (r_loc rfl) rfl) (by grind)) rfl) x_skip) ?_
  refine xr_seq (x_if (q := false) (t_of (r_isi (k' := 5) (EE.of (r_loc rfl) rfl) (by grind)) rfl) x_skip) ?_
  refine xr_seq (x_if (q := false) (t_of (r_isi (k' := 5) (EE.of (r_loc rfl) rfl) (by grind)) rfl) x_skip) ?_
  refine xr_seq (x_asg (r_copy (ks := d.1) (vs := d.2) (EE.of (r_loc rfl) rfl) hl)) ?_
  refine xr_seq (x_if (q := false) (t_not (q := true) (t_of (r_isi (k' := 5) (EE.of (r_loc rfl) rfl) (by grind)) rfl)) x_skip) ?_
  refine xr_seq (x_asg (r_call (r := .v (eVl v)) (l_cons (EE.of (r_attr (k := 5) (j := 0) (EE.of (r_loc rfl) rfl) rfl rfl) rfl) (l_cons (EE.of (r_loc rfl) rfl) l_nil)) h)) ?_
  refine xr_seq (l1 := [.val (.obj 5 [p, .str o, .list as, zz]), .val d.av, .own (d.put o (eVl v)).av, .val (eVl v), .un, .un, .un, .un]) (c1 := c) (x_setDict (c1 := c) (c2 := c) (ks := d.1) (vs := d.2) (n := o) (x := eVl v) (EE.of (r_loc rfl) rfl) (p_own rfl) (EE.of (r_attr (k := 5) (j := 1) (EE.of (r_loc rfl) rfl) rfl rfl) rfl) rfl hl rfl) ?_
  have hI : EI Φ (.attr (.loc 0) 9) [.val (.obj 5 [p, .str o, .list as, zz]), .val d.av, .own (d.put o (eVl v)).av, .val (eVl v), .un, .un, .un, .un] c as c := i_of (r_attr (k := 5) (j := 2) (EE.of (r_loc rfl) rfl) rfl rfl) rfl rfl
  rcases h2 with ⟨l', h2⟩ | ⟨⟨l4, h2⟩, h3⟩
  · exact xr_stop ⟨_, x_for1 hI (small9 has) h2⟩
  · exact xr_seq (x_for1 hI (small9 has) h2) (xr_seq (x_freeze rfl) (xr_stop (xr_ret (r_call (r := .v r) (l_cons (EE.of (r_attr (k := 5) (j := 3) (EE.of (r_loc rfl) rfl) rfl rfl) rfl) (l_cons (EE.of (r_loc rfl) rfl) l_nil)) h3))))
theorem worth_ans {W : Nat} {c : Cells} : ∀ (t : Tm) {ρ : Env} {d : Dc} {m dd : Nat} {v : Int}, worth t ρ = some v → Rd eVl d ρ m → m + 3 * ht t ≤ 900 → callF tab fun? W (dd + 3 + ht t) 43 [eT t, d.av] c = some (.v (.tup [.str sx4, .int v]), c)
  | .lit n, ρ, d, m, dd, v, h, hd, hm => by
    cases h
    exact atom_worth (t := .n n) (w := .I n) rfl hd
  | .lt x a t, ρ, d, m, dd, v, h, hd, hm => by
    simp only [ht] at hm
    simp only [worth] at h
    rcases ha : wA a ρ with _ | w <;> rw [ha] at h
    · cases h
    rw [show dd + 3 + ht (.lt x a t) = (dd + 3 + ht t) + 1 by simp [ht]; grind, callF_succ]
    refine wo_let (vv := eVl w) (by have := hd.2.1; unfold lim; grind) ?_ (worth_ans t h hd.put (by grind))
    rw [show dd + 3 + ht t = (dd + ht t) + 3 by grind]; exact atom_worth ha hd
  | .c0 a o z, ρ, d, m, dd, v, h, hd, hm => by
    simp only [ht] at hm
    simp only [worth] at h
    rcases ha : wA a ρ with _ | w <;> rw [ha] at h
    · cases h
    rw [show dd + 3 + ht (.c0 a o z) = (dd + 3 + ht z) + 1 by simp [ht]; grind, callF_succ]
    refine wo_case (l' := []) (v := w) (by have := hd.2.1; unfold lim; grind) (by simp) ?_ (.inr ⟨⟨.un, rfl⟩, worth_ans z h hd.put (by grind)⟩)
    rw [show dd + 3 + ht z = (dd + ht z) + 3 by grind]; exact atom_worth ha hd
  | .c1 a o k t z, ρ, d, m, dd, v, h, hd, hm => by
    simp only [ht] at hm
    simp only [worth] at h
    rcases ha : wA a ρ with _ | w <;> rw [ha] at h
    · cases h
    rw [show dd + 3 + ht (.c1 a o k t z) = (dd + 3 + max (ht t) (ht z)) + 1 by simp [ht]; grind, callF_succ]
    have hp := hd.put (x := o) (a := w)
    have hln := hp.2.1
    have hf := fl_len (k := k)
    refine wo_case (l' := []) (v := w) (by have := hd.2.1; unfold lim; grind) (by simp) ?_ ?_
    · rw [show dd + 3 + max (ht t) (ht z) = (dd + max (ht t) (ht z)) + 3 by grind]; exact atom_worth ha hd
    simp only at h
    rcases hk : mt k w with _ | _ | ms <;> simp only [hk] at h
    · cases h
    · refine .inr ⟨⟨_, wo_skip hk rfl⟩, ?_⟩
      rw [show dd + 3 + max (ht t) (ht z) = (dd + (max (ht t) (ht z) - ht z)) + 3 + ht z by grind]
      exact worth_ans z h hp (by grind)
    · refine .inl (wo_take hk (by unfold lim; grind) ?_)
      rw [show dd + 3 + max (ht t) (ht z) = (dd + (max (ht t) (ht z) - ht t)) + 3 + ht t by grind]
      exact worth_ans t h hp.putF (by grind)
  | .c2 a o k t k' u z, ρ, d, m, dd, v, h, hd, hm => by
    simp only [ht] at hm
    simp only [worth] at h
    rcases ha : wA a ρ with _ | w <;> rw [ha] at h
    · cases h
    rw [show dd + 3 + ht (.c2 a o k t k' u z) = (dd + 3 + max (ht t) (max (ht u) (ht z))) + 1 by simp [ht]; grind, callF_succ]
    generalize hmm : max (ht t) (max (ht u) (ht z)) = mm at hm ⊢
    have hp := hd.put (x := o) (a := w)
    have hln := hp.2.1
    have hf := fl_len (k := k)
    have hf' := fl_len (k := k')
    refine wo_case (l' := []) (v := w) (by have := hd.2.1; unfold lim; grind) (by simp) ?_ ?_
    · rw [show dd + 3 + mm = (dd + mm) + 3 by grind]; exact atom_worth ha hd
    simp only at h
    rcases hk : mt k w with _ | _ | ms <;> simp only [hk] at h
    · cases h
    · rcases hk' : mt k' w with _ | _ | ms' <;> simp only [hk'] at h
      · cases h
      · refine .inr ⟨⟨_, wo_skip hk (wo_skip hk' rfl)⟩, ?_⟩
        rw [show dd + 3 + mm = (dd + (mm - ht z)) + 3 + ht z by grind]
        exact worth_ans z h hp (by grind)
      · refine .inl ?_
        obtain ⟨l', hl'⟩ := wo_take (Φ := callF tab fun? W (dd + 3 + mm)) (W := W) (c := c) (d := d.put o (eVl w)) (b := eT u) (r := .tup [.str sx4, .int v]) (as := []) (l0 := .val (.obj 5 [eA a, .str o, .list [.obj 4 [eK k, .list (eF k), eT t], .obj 4 [eK k', .list (eF k'), eT u]], eT z])) (l1 := .val d.av) (l4 := .val (.obj 4 [eK k, .list (eF k), eT t])) (l5 := .un) (l6 := .un) (l7 := .un) hk' (by unfold lim; grind) (by
          rw [show dd + 3 + mm = (dd + (mm - ht u)) + 3 + ht u by grind]
          exact worth_ans u h hp.putF (by grind))
        exact ⟨l', wo_skip hk hl'⟩
    · refine .inl (wo_take hk (by unfold lim; grind) ?_)
      rw [show dd + 3 + mm = (dd + (mm - ht t)) + 3 + ht t by grind]
      exact worth_ans t h hp.putF (by grind)
end
end Mine
end
section
open PySem PySem.W PyProof.Rows
set_option Elab.async false
set_option maxRecDepth 100000
set_option linter.unusedVariables false
set_option linter.unusedSimpArgs false
namespace Mine
/-! takes, one of many, ends -/
section
variable {Φ : CallF} {W : Nat} {l l' l1 l2 lm : Loc} {c c' c1 c2 c3 c4 : Cells} {e a b d e1 e2 e3 : IE} {x y z v : AV} {r r1 r2 : RV} {s s1 s2 : IS}
theorem r_cell {u v w : AV} {p q : LV} {rest : Cells} {i : Nat} (h : [u, v][i]? = some w) : ER Φ (.idx (.loc 0) (.int i)) [.val (.cell 0), p, q] (.list [u, v] :: rest) (.v w) (.list [u, v] :: rest) :=
  r_idx_list (n := (i : Int)) (p_loc rfl) (EE.of r_int rfl) rfl rfl (itemAt_nat h)
theorem amod {u t : Int} (h0 : 0 < t) (h1 : t < 2147483648) : abin .mod (.int u) (.int t) = some (.int (u.fmod t)) := by
  exact if_pos (c := t ≠ 0 ∧ t.natAbs < 2 ^ 62) ⟨by grind, by grind⟩
theorem adiv {u t : Int} (h0 : 0 < t) (h1 : t < 2147483648) : abin .fdiv (.int u) (.int t) = some (.int (u.fdiv t)) := by
  exact if_pos (c := t ≠ 0 ∧ t.natAbs < 2 ^ 62) ⟨by grind, by grind⟩
theorem amul {u t : Int} (h0 : 0 ≤ t) (h1 : t < 2147483648) : abin .mul (.int u) (.int t) = some (.int (u * t)) := by
  exact if_pos (c := t.natAbs < 2 ^ 62) (by grind)
theorem take_ans {top : Int} {a0 : AV} (h0 : 0 < top) (h1 : top < 100) (hs : SrcOk a0) : ∃ a0' r, SrcOk a0' ∧ 0 ≤ r ∧ r < top ∧ ∀ Φ W rest, run W Φ 39 [.cell 0, .int top] (a0 :: rest) = some (.v (.int r), a0' :: rest) := by
  refine ex_2_1 (hs) fun u v eq0 => ?_
  subst eq0
  by_cases hu : u > 0
  · refine ⟨.list [.int (u.fdiv top), .int v], u.fmod top, ⟨_, _, rfl⟩, Int.fmod_nonneg_of_pos _ h0, Int.fmod_lt_of_pos _ h0, fun Φ W rest => ?_⟩
    refine run_xr (F := ⟨2, 3, b39⟩) rfl rfl rfl ?_
    refine xr_stop (xr_if (q := true) (t_of (r_cmp (x := .int u) (z := .int 0) rfl (EE.of (r_cell (i := 0) rfl) rfl) (p_of rfl (EE.of r_int rfl)) rfl (congrArg some (decide_eq_true hu))) rfl) ?_)
    refine xr_seq (x_asg (r_bin (EE.of (r_intOf (n := u) (EE.of (r_cell (i := 0) rfl) rfl)) rfl) (EE.of (r_loc rfl) rfl) (amod h0 (by grind)))) ?_
    refine xr_seq (l1 := [.val (.cell 0), .val (.int top), .val (.int (u.fmod top))]) (c1 := .list [.int (u.fdiv top), .int v] :: rest) (x_setList (us := [.int u, .int v]) (n := 0) (EE.of (r_bin (EE.of (r_cell (i := 0) rfl) rfl) (EE.of (r_loc rfl) rfl) (adiv h0 (by grind))) rfl) (p_loc rfl) (EE.of r_int rfl) rfl (by grind) (by simp) rfl rfl) ?_
    exact xr_stop (xr_ret (r_loc rfl))
  · have g0 := Int.fmod_nonneg_of_pos (v * 39373 + 7) (show (0 : Int) < 2147483647 by grind)
    have g1 := Int.fmod_lt_of_pos (v * 39373 + 7) (show (0 : Int) < 2147483647 by grind)
    generalize hw : (v * 39373 + 7).fmod 2147483647 = w at g0 g1
    refine ⟨.list [.int u, .int w], (((w * w).fmod 2147483629).fdiv 32).fmod top, ⟨_, _, rfl⟩, Int.fmod_nonneg_of_pos _ h0, Int.fmod_lt_of_pos _ h0, fun Φ W rest => ?_⟩
    refine run_xr (F := ⟨2, 3, b39⟩) rfl rfl rfl ?_
    refine xr_seq (x_if (q := false) (t_of (r_cmp (x := .int u) (z := .int 0) rfl (EE.of (r_cell (i := 0) rfl) rfl) (p_of rfl (EE.of r_int rfl)) rfl (congrArg some (decide_eq_false (by omega)))) rfl) x_skip) ?_
    refine xr_seq (l1 := [.val (.cell 0), .val (.int top), .un]) (c1 := .list [.int u, .int w] :: rest) (x_setList (us := [.int u, .int v]) (n := 1) (x := .int w) (EE.of (r_bin (y := .int 2147483647) (EE.of (r_intOf (n := v * 39373 + 7) (EE.of (r_bin (x := .int (v * 39373)) (EE.of (r_bin (EE.of (r_cell (i := 1) rfl) rfl) (EE.of r_int rfl) (amul (by grind) (by grind))) rfl) (EE.of r_int rfl) rfl) rfl)) rfl) (EE.of r_int rfl) (amod (by grind) (by grind))) (by rw [hw]; rfl)) (p_loc rfl) (EE.of r_int rfl) rfl (by grind) (by simp) rfl rfl) ?_
    refine xr_stop (xr_ret (r_bin (EE.of (r_intOf (n := ((w * w).fmod 2147483629).fdiv 32) (EE.of (r_bin (EE.of (r_bin (EE.of (r_intOf (n := w * w) (EE.of (r_bin (EE.of (r_cell (i := 1) rfl) rfl) (EE.of (r_cell (i := 1) rfl) rfl) (amul g0 (by grind))) rfl)) rfl) (EE.of r_int rfl) (amod (by grind) (by grind))) rfl) (EE.of r_int rfl) (adiv (by grind) (by grind))) rfl)) rfl) (EE.of (r_loc rfl) rfl) (amod h0 (by grind))))
theorem one_ans {xs : List AV} {a0 : AV} (h0 : 0 < xs.length) (h1 : xs.length ≤ 9) (hs : SrcOk a0) : ∃ a0' x, x ∈ xs ∧ SrcOk a0' ∧ ∀ W d rest, callF tab fun? W (d + 2) 40 [.cell 0, .list xs] (a0 :: rest) = some (.v x, a0' :: rest) := by
  refine ex_2_4 (take_ans (top := (xs.length : Int)) (by lia) (by lia) hs) fun a0' r hs' g0 g1 h => ?_
  have hr : r.toNat < xs.length := by grind
  refine ⟨a0', xs[r.toNat], List.getElem_mem hr, hs', fun W d rest => ?_⟩
  rw [callF_succ]
  refine run_xr (F := ⟨2, 2, b40⟩) rfl rfl rfl (xr_stop (xr_ret (r_idx_list (n := r) (c1 := a0 :: rest) (p_loc rfl) (EE.of (r_call (r := .v (.int r)) (l_cons (EE.of (r_loc rfl) rfl) (l_cons (EE.of (r_len (p_loc rfl) rfl (small9 h1)) rfl) l_nil)) (by rw [callF_succ]; exact h _ _ _)) rfl) rfl (small9 h1) ?_)))
  simp only [itemAt]; rw [if_pos g0]
  exact List.getElem?_eq_getElem hr
theorem end_ans {a0 : AV} {b : Int} : run W Φ 41 [.cell 1] [a0, .list [.int b]] = some (.v (eT (.lit (100 + (b + 1)))), [a0, .list [.int (b + 1)]]) := by kernel_rfl
end
/-! names -/
noncomputable def nuS (k : Nat) : Str := Str.ofString (toString (k : Int))
noncomputable def nS (k : Nat) : Str := sx5 ++ nuS k
noncomputable def nT (k : Nat) : Str := sx6 ++ nuS k
theorem nu_len {k : Nat} (h : k ≤ 3) : sx5.length + (nuS k).length ≤ lim ∧ sx6.length + (nuS k).length ≤ lim := by
  have : ∀ j : Fin 4, sx5.length + (nuS j).length ≤ lim ∧ sx6.length + (nuS j).length ≤ lim := by decide +kernel
  exact this ⟨k, by lia⟩
theorem nS_ne {i j : Nat} (hi : i ≤ 3) (hj : j ≤ 3) (h : i ≠ j) : nS i ≠ nS j ∧ nT i ≠ nT j := by
  have : ∀ i j : Fin 4, i ≠ j → nS i ≠ nS j ∧ nT i ≠ nT j := by decide +kernel
  exact this ⟨i, by grind⟩ ⟨j, by grind⟩ (fun q => h (by simpa using q))
theorem st_ne {i j : Nat} (hi : i ≤ 3) (hj : j ≤ 3) : nS i ≠ nT j := by
  have : ∀ i j : Fin 4, nS i ≠ nT j := by decide +kernel
  exact this ⟨i, by grind⟩ ⟨j, by grind⟩
theorem st_old {i : Nat} (hi : i ≤ 3) : old (fun _ => 0) (nS i) ∧ old (fun _ => 0) (nT i) := by
  have : ∀ i : Fin 4, (46 ∉ (nS i).cps.toList ∧ 0 < (nS i).length ∧ (nS i).length ≤ 10) ∧ 46 ∉ (nT i).cps.toList ∧ 0 < (nT i).length ∧ (nT i).length ≤ 10 := by decide +kernel
  have := this ⟨i, by grind⟩
  exact ⟨old_plain this.1.1 this.1.2.1 this.1.2.2, old_plain this.2.1 this.2.2.1 this.2.2.2⟩
theorem three_ne {x : Str} {j : Nat} (h : x ∈ three) (hj : j ≤ 3) : x ≠ nS j ∧ x ≠ nT j := by
  have : ∀ x ∈ three, ∀ j : Fin 4, x ≠ nS j ∧ x ≠ nT j := by decide +kernel
  exact this x h ⟨j, by grind⟩
end Mine
end
section
open PySem PySem.W PyProof.Rows
set_option Elab.async false
set_option maxRecDepth 100000
set_option linter.unusedVariables false
set_option linter.unusedSimpArgs false
namespace Mine
/-! the trees that are built: their law -/
noncomputable abbrev Nms := List (Str × Bool)
noncomputable def isC : Vl → Bool
  | .I _ => false
  | _ => true
noncomputable def Srt (ns : Nms) (ρ : Env) : Prop := ∀ p ∈ ns, ∃ w, ρ p.1 = some w ∧ isC w = p.2
noncomputable def Fre (k : Nat) (ns : Nms) : Prop := ∀ p ∈ ns, ∀ j, j ≤ k → p.1 ≠ nS j ∧ p.1 ≠ nT j
structure Gt (ns : Nms) (k : Nat) (t : Tm) : Prop where
  hh : ht t ≤ k
  fv : ∀ σ : Str → Option Unit, (∀ p ∈ ns, σ p.1 = none → p.1 ∈ three) → fvs t σ
  bo : bo (fun _ => 0) t
  ws : ∀ ρ, Srt ns ρ → ∃ v, worth t ρ = some v
theorem gt_lit {ns : Nms} {n : Int} : Gt ns 0 (.lit n) := ⟨Nat.le_refl _, fun _ _ => trivial, trivial, fun ρ _ => ⟨n, rfl⟩⟩
/-- does the key fit the sort; the names that it brings -/
noncomputable def fit (s : Bool) : Ky → Prop
  | .n _ => s = false
  | _ => s = true
noncomputable def ext (ns : Nms) (k : Ky) : Nms := ns ++ (fl k).map fun f => (f, false)
/-- one alternative is good -/
noncomputable def Ga (ns : Nms) (s : Bool) (k : Nat) (p : Ky × Tm) : Prop := fit s p.1 ∧ (∀ f ∈ fl p.1, f = nT (k + 1)) ∧ Gt (ext (ns ++ [(nS (k + 1), s)]) p.1) k p.2
theorem srt_own {ns : Nms} {k : Nat} {ρ : Env} {s : Bool} {w : Vl} (hf : Fre (k + 1) ns) (h : Srt ns ρ) (hw : isC w = s) : Srt (ns ++ [(nS (k + 1), s)]) (upd ρ (nS (k + 1)) w) := by
  intro p hp
  rcases List.mem_append.1 hp with hp | hp
  · rw [upd_ne (hf p hp _ (Nat.le_refl _)).1]; exact h p hp
  · simp only [List.mem_singleton] at hp; subst hp
    exact ⟨w, upd_same, hw⟩
theorem srt_fl {ns : Nms} {k : Nat} {ρ : Env} {s : Bool} {y : Ky} {w : Vl} {m : List Int} (hk : k + 1 ≤ 3) (hf : Fre (k + 1) ns) (h : Srt (ns ++ [(nS (k + 1), s)]) ρ) (hy : ∀ f ∈ fl y, f = nT (k + 1)) (hm : mt y w = some (some m)) : Srt (ext (ns ++ [(nS (k + 1), s)]) y) (updF ρ (fl y) m) := by
  have h0 : ∀ {ns' : Nms} {ρ : Env}, Srt ns' ρ → (∀ p ∈ ns', p.1 ≠ nT (k + 1)) → ∀ i, Srt (ns' ++ [(nT (k + 1), false)]) (upd ρ (nT (k + 1)) (.I i)) := by
    intro ns' ρ h1 h2 i p hp
    rcases List.mem_append.1 hp with hp | hp
    · rw [upd_ne (h2 p hp)]; exact h1 p hp
    · simp only [List.mem_singleton] at hp; subst hp
      exact ⟨_, upd_same, rfl⟩
  cases y with
  | c f =>
    cases w <;> simp [mt] at hm
    subst hm
    have := hy f (by simp [fl]); subst this
    refine h0 h ?_ _
    intro p hp
    rcases List.mem_append.1 hp with hp | hp
    · exact (hf p hp _ (Nat.le_refl _)).2
    · simp only [List.mem_singleton] at hp; subst hp
      exact st_ne hk hk
  | d => cases m <;> simpa [ext, fl, updF] using h
  | n i => cases m <;> simpa [ext, fl, updF] using h
theorem mt_some {s : Bool} {y : Ky} {w : Vl} (h : fit s y) (hw : isC w = s) : ∃ q, mt y w = some q := by
  cases y <;> cases w <;> simp [fit, isC] at h hw <;> first | exact ⟨_, rfl⟩ | (subst hw; cases h)
theorem ga_worth {ns : Nms} {s : Bool} {k : Nat} {p : Ky × Tm} {ρ : Env} {w : Vl} (hk : k + 1 ≤ 3) (hf : Fre (k + 1) ns) (h : Ga ns s k p) (hs : Srt ns ρ) (hw : isC w = s) : mt p.1 w = some none ∨ ∃ m v, mt p.1 w = some (some m) ∧ worth p.2 (updF (upd ρ (nS (k + 1)) w) (fl p.1) m) = some v := by
  obtain ⟨q, hq⟩ := mt_some h.1 hw
  cases q with
  | none => exact .inl hq
  | some m =>
    obtain ⟨v, hv⟩ := h.2.2.ws _ (srt_fl hk hf (srt_own hf hs hw) h.2.1 hq)
    exact .inr ⟨m, v, hq, hv⟩
theorem ga_fv {ns : Nms} {s : Bool} {k : Nat} {p : Ky × Tm} {σ : Str → Option Unit} (h : Ga ns s k p) (hs : ∀ q ∈ ns, σ q.1 = none → q.1 ∈ three) : fvs p.2 (updU (upd σ (nS (k + 1)) ()) (fl p.1)) := by
  refine h.2.2.fv _ fun q hq hn => ?_
  rcases List.mem_append.1 hq with hq | hq
  · have h2 : ∀ {l : List Str} {σ : Str → Option Unit} {x : Str}, updU σ l x = none → σ x = none := by
      intro l; induction l with
      | nil => intro σ x h; exact h
      | cons f l ih =>
        intro σ x h
        have := ih h
        by_cases e : x = f
        · subst e; rw [upd_same] at this; cases this
        · rwa [upd_ne e] at this
    have h3 := h2 hn
    rcases List.mem_append.1 hq with hq | hq
    · by_cases e : q.1 = nS (k + 1)
      · rw [e, upd_same] at h3; cases h3
      · rw [upd_ne e] at h3; exact hs q hq h3
    · simp only [List.mem_singleton] at hq; subst hq
      rw [upd_same] at h3; cases h3
  · exfalso
    refine ex_1_2 (List.mem_map.1 hq) fun f hf eq0 => ?_
    subst eq0
    cases hp : p.1 with
    | c g =>
      simp only [hp, fl, List.mem_singleton] at hf; subst hf
      simp only [hp, fl, updU, upd_same] at hn; cases hn
    | d => simp [hp, fl] at hf
    | n i => simp [hp, fl] at hf
theorem gz_fv {ns : Nms} {s : Bool} {k : Nat} {z : Tm} {σ : Str → Option Unit} (h : Gt (ns ++ [(nS (k + 1), s)]) k z) (hs : ∀ q ∈ ns, σ q.1 = none → q.1 ∈ three) : fvs z (upd σ (nS (k + 1)) ()) := by
  refine h.fv _ fun q hq h3 => ?_
  rcases List.mem_append.1 hq with hq | hq
  · by_cases e : q.1 = nS (k + 1)
    · rw [e, upd_same] at h3; cases h3
    · rw [upd_ne e] at h3; exact hs q hq h3
  · simp only [List.mem_singleton] at hq; subst hq
    rw [upd_same] at h3; cases h3
/-- the case of a row of alternatives -/
noncomputable def ofAl (x o : Str) (z : Tm) : List (Ky × Tm) → Tm
  | [] => .c0 (.v x) o z
  | [p] => .c1 (.v x) o p.1 p.2 z
  | p :: q :: _ => .c2 (.v x) o p.1 p.2 q.1 q.2 z
theorem eT_ofAl {x o : Str} {z : Tm} : ∀ {al : List (Ky × Tm)}, al.length ≤ 2 → eT (ofAl x o z al) = .obj 5 [eV x, .str o, .list (al.map fun p => eAl p.1 p.2), eT z]
  | [], _ => rfl
  | [_], _ => rfl
  | [_, _], _ => rfl
  | _ :: _ :: _ :: _, h => by simp at h
theorem gt_ofAl {ns : Nms} {s : Bool} {k : Nat} {x : Str} {z : Tm} {al : List (Ky × Tm)} (hk : k + 1 ≤ 3) (hf : Fre (k + 1) ns) (hx : (x, s) ∈ ns) (hl : al.length ≤ 2) (ha : ∀ p ∈ al, Ga ns s k p) (hz : Gt (ns ++ [(nS (k + 1), s)]) k z) : Gt ns (k + 1) (ofAl x (nS (k + 1)) z al) := by
  have ho := (st_old hk).1
  have hfo : ∀ p ∈ al, ∀ f ∈ fl p.1, old (fun _ => 0) f := fun p hp f h => by rw [(ha p hp).2.1 f h]; exact (st_old hk).2
  match al, hl with
  | [], _ => exact {
      hh := by have := hz.hh; simp only [ofAl, ht]; lia
      fv := fun σ h => ⟨h _ hx, gz_fv hz h⟩
      bo := ⟨ho, hz.bo⟩
      ws := fun ρ hs => by
        refine ex_1_2 (hs _ hx) fun w hw hc => ?_
        simp only at hw hc
        obtain ⟨v, hv⟩ := hz.ws _ (srt_own hf hs hc)
        exact ⟨v, by simp only [ofAl, worth, wA, hw, hv]⟩ }
  | [p], _ =>
    have hp := ha p (by simp)
    exact {
      hh := by have := hz.hh; have := hp.2.2.hh; simp only [ofAl, ht]; lia
      fv := fun σ h => ⟨h _ hx, ga_fv hp h, gz_fv hz h⟩
      bo := ⟨ho, hfo p (by simp), hp.2.2.bo, hz.bo⟩
      ws := fun ρ hs => by
        refine ex_1_2 (hs _ hx) fun w hw hc => ?_
        simp only at hw hc
        obtain ⟨v, hv⟩ := hz.ws _ (srt_own hf hs hc)
        rcases ga_worth hk hf hp hs hc with h | ⟨m, v', h, h'⟩
        · exact ⟨v, by simp only [ofAl, worth, wA, hw, hv, h]⟩
        · exact ⟨v', by simp only [ofAl, worth, wA, hw, h', h]⟩ }
  | [p, q], _ =>
    have hp := ha p (by simp)
    have hq := ha q (by simp)
    exact {
      hh := by have := hz.hh; have := hp.2.2.hh; have := hq.2.2.hh; simp only [ofAl, ht]; lia
      fv := fun σ h => ⟨h _ hx, ga_fv hp h, ga_fv hq h, gz_fv hz h⟩
      bo := ⟨ho, hfo p (by simp), hfo q (by simp), hp.2.2.bo, hq.2.2.bo, hz.bo⟩
      ws := fun ρ hs => by
        refine ex_1_2 (hs _ hx) fun w hw hc => ?_
        simp only at hw hc
        obtain ⟨v, hv⟩ := hz.ws _ (srt_own hf hs hc)
        rcases ga_worth hk hf hp hs hc with h | ⟨m, v', h, h'⟩
        · rcases ga_worth hk hf hq hs hc with g | ⟨m', v'', g, g'⟩
          · exact ⟨v, by simp only [ofAl, worth, wA, hw, hv, h, g]⟩
          · exact ⟨v'', by simp only [ofAl, worth, wA, hw, g', h, g]⟩
        · exact ⟨v', by simp only [ofAl, worth, wA, hw, h', h]⟩ }
  | _ :: _ :: _ :: _, h => simp at h
theorem fr_own {ns : Nms} {k : Nat} {s : Bool} (hk : k + 1 ≤ 3) (h : Fre (k + 1) ns) : Fre k (ns ++ [(nS (k + 1), s)]) := by
  intro p hp j hj
  rcases List.mem_append.1 hp with hp | hp
  · exact h p hp j (by lia)
  · simp only [List.mem_singleton] at hp; subst hp
    exact ⟨(nS_ne (by lia) (by lia) (by lia)).1, st_ne (by lia) (by lia)⟩
theorem fr_field {ns : Nms} {k : Nat} {s : Bool} (hk : k + 1 ≤ 3) (h : Fre k ns) : Fre k (ns ++ [(nT (k + 1), s)]) := by
  intro p hp j hj
  rcases List.mem_append.1 hp with hp | hp
  · exact h p hp j hj
  · simp only [List.mem_singleton] at hp; subst hp
    exact ⟨fun e => st_ne (by lia) (by lia) e.symm, (nS_ne (by lia) (by lia) (by lia)).2⟩
end Mine
end
section
open PySem PySem.W PyProof.Rows
set_option Elab.async false
set_option maxRecDepth 100000
set_option linter.unusedVariables false
set_option linter.unusedSimpArgs false
namespace Mine
/-! _law_tree, the walk -/
noncomputable def eSo : Bool → Str
  | true => sx7
  | false => sx4
noncomputable def eN1 (p : Str × Bool) : AV := .tup [.str p.1, .str (eSo p.2)]
noncomputable def eNs (ns : Nms) : AV := .list (ns.map eN1)
noncomputable def sC : IS := .ifs (.cmp .gt (.call 39 (.cons (.loc 0) (.cons (.int 4) .nil))) (.int 0))
  (.seq (.append (.loc 9) (.new 4 (.cons (.tup (.cons (.str sx1) (.cons (.str sx8) .nil))) (.cons (.list (.cons (.loc 7) .nil)) (.cons (.call 42 (.cons (.loc 0) (.cons (.loc 1) (.cons (.bin .add (.loc 8) (.list (.cons (.tup (.cons (.loc 7) (.cons (.str sx4) .nil))) .nil))) (.cons (.bin .sub (.loc 3) (.int 1)) .nil))))) .nil)))))
  .skip)
  .skip
noncomputable def sD : IS := .ifs (.cmp .eq (.call 39 (.cons (.loc 0) (.cons (.int 2) .nil))) (.int 0))
  (.seq (.append (.loc 9) (.new 4 (.cons (.tup (.cons (.str sx1) (.cons (.str sx9) .nil))) (.cons (.list .nil) (.cons (.call 42 (.cons (.loc 0) (.cons (.loc 1) (.cons (.loc 8) (.cons (.bin .sub (.loc 3) (.int 1)) .nil))))) .nil)))))
  .skip)
  .skip
noncomputable def sIb : IS := .seq (.append (.loc 9) (.new 4 (.cons (.tup (.cons (.str sx2) (.cons (.str sx4) (.cons (.loc 10) .nil)))) (.cons (.list .nil) (.cons (.call 42 (.cons (.loc 0) (.cons (.loc 1) (.cons (.loc 8) (.cons (.bin .sub (.loc 3) (.int 1)) .nil))))) .nil)))))
  .skip
noncomputable def sI : IS := .for1 10 (.range1 (.bin .add (.int 1) (.call 39 (.cons (.loc 0) (.cons (.int 2) .nil))))) sIb
noncomputable def sAl : IS := .ifs (.cmp .eq (.loc 5) (.str sx7)) (.seq sC (.seq sD .skip)) (.seq sI .skip)
/-- the locals while the alternatives are made -/
noncomputable def LA (k : Nat) (p2 p4 p5 p6 : AV) (f : Str) (ns : Nms) (as : List AV) (q : LV) : Loc := [.val (.cell 0), .val (.cell 1), .val p2, .val (.int ((k + 1 : Nat) : Int)), .val p4, .val p5, .val p6, .val (.str f), .val (eNs ns), .own (.list as), q]
section
variable {Φ : CallF} {W : Nat} {l l' l1 l2 lm : Loc} {c c' c1 c2 c3 c4 : Cells} {e a b d e1 e2 e3 : IE} {x y z v : AV} {r r1 r2 : RV} {s s1 s2 : IS}
variable {k : Nat} {p2 p4 p5 p6 : AV} {f : Str} {ns : Nms} {as : List AV} {q : LV} {u : AV} {t : Tm}
theorem a_deep : EE Φ (.bin .sub (.loc 3) (.int 1)) (LA k p2 p4 p5 p6 f ns as q) c (.int (k : Nat)) c :=
  EE.of (r_bin (v := .int (k : Nat)) (EE.of (r_loc rfl) rfl) (EE.of r_int rfl) (by show some (AV.int (((k + 1 : Nat) : Int) - 1)) = _; rw [show ((k + 1 : Nat) : Int) - 1 = (k : Nat) by lia])) rfl
theorem a_sub (h : Φ 42 [.cell 0, .cell 1, eNs ns, .int (k : Nat)] c = some (.v u, c1)) : EE Φ (.call 42 (.cons (.loc 0) (.cons (.loc 1) (.cons (.loc 8) (.cons (.bin .sub (.loc 3) (.int 1)) .nil))))) (LA k p2 p4 p5 p6 f ns as q) c u c1 :=
  EE.of (r_call (r := .v u) (l_cons (EE.of (r_loc rfl) rfl) (l_cons (EE.of (r_loc rfl) rfl) (l_cons (EE.of (r_loc rfl) rfl) (l_cons a_deep l_nil)))) h) rfl
theorem a_subF (hl : ns.length ≤ 100) (h : Φ 42 [.cell 0, .cell 1, eNs (ns ++ [(f, false)]), .int (k : Nat)] c = some (.v u, c1)) : EE Φ (.call 42 (.cons (.loc 0) (.cons (.loc 1) (.cons (.bin .add (.loc 8) (.list (.cons (.tup (.cons (.loc 7) (.cons (.str sx4) .nil))) .nil))) (.cons (.bin .sub (.loc 3) (.int 1)) .nil))))) (LA k p2 p4 p5 p6 f ns as q) c u c1 := by
  refine EE.of (r_call (r := .v u) (l_cons (EE.of (r_loc rfl) rfl) (l_cons (EE.of (r_loc rfl) rfl) (l_cons (EE.of (r_bin (x := eNs ns) (y := .list [eN1 (f, false)]) (v := eNs (ns ++ [(f, false)])) (c1 := c) (EE.of (r_loc rfl) rfl) (EE.of (r_list (l_cons (EE.of (r_tup (l_cons (EE.of (r_loc rfl) rfl) (l_cons (EE.of r_str rfl) l_nil)) rfl) rfl) l_nil) rfl) rfl) ?_) rfl) (l_cons a_deep l_nil)))) h) rfl
  exact (abin_l (by unfold lim; simp; lia)).trans (by simp [eNs])
/-- one more alternative -/
theorem x_al {kk ff bb : IE} {ak af : AV} (ha : as.length ≤ 9) (h1 : EE Φ kk (LA k p2 p4 p5 p6 f ns as q) c ak c) (h2 : EE Φ ff (LA k p2 p4 p5 p6 f ns as q) c af c) (h3 : EE Φ bb (LA k p2 p4 p5 p6 f ns as q) c u c1) :
    XS Φ W (.append (.loc 9) (.new 4 (.cons kk (.cons ff (.cons bb .nil))))) (LA k p2 p4 p5 p6 f ns as q) c .next (LA k p2 p4 p5 p6 f ns (as ++ [.obj 4 [ak, af, u]]) q) c1 :=
  x_append (us := as) (p_own rfl) rfl (EE.of (r_new (k := 4) (l_cons h1 (l_cons h2 (l_cons h3 l_nil))) rfl) rfl) rfl (small9 ha) rfl
theorem t_take {top r : Int} {o : Cm} {qq : Bool} (ho : nnone o = none) (h : Φ 39 [.cell 0, .int top] c = some (.v (.int r), c1)) (hq : acmp o (.int r) (.int 0) = some qq) : ET Φ (.cmp o (.call 39 (.cons (.loc 0) (.cons (.int top) .nil))) (.int 0)) (LA k p2 p4 p5 p6 f ns as q) c qq c1 :=
  t_of (r_cmp ho (EE.of (r_call (r := .v (.int r)) (l_cons (EE.of (r_loc rfl) rfl) (l_cons (EE.of r_int rfl) l_nil)) h) rfl) (p_of rfl (EE.of r_int rfl)) rfl hq) rfl
theorem x_C_no {r : Int} (h : Φ 39 [.cell 0, .int 4] c = some (.v (.int r), c1)) (hr : ¬ r > 0) : XS Φ W sC (LA k p2 p4 p5 p6 f ns as q) c .next (LA k p2 p4 p5 p6 f ns as q) c1 :=
  x_if (q := false) (t_take rfl h (congrArg some (by simpa using hr))) x_skip
theorem x_C_yes {r : Int} (h : Φ 39 [.cell 0, .int 4] c = some (.v (.int r), c1)) (hr : r > 0) (ha : as.length ≤ 9) (hn : ns.length ≤ 100) (h2 : Φ 42 [.cell 0, .cell 1, eNs (ns ++ [(f, false)]), .int (k : Nat)] c1 = some (.v (eT t), c2)) :
    XS Φ W sC (LA k p2 p4 p5 p6 f ns as q) c .next (LA k p2 p4 p5 p6 f ns (as ++ [eAl (.c f) t]) q) c2 :=
  x_if (q := true) (t_take rfl h (congrArg some (by simpa using hr))) (x_seq (x_al (ak := eK (.c f)) (af := .list [.str f]) ha (EE.of (r_tup (l_cons (EE.of r_str rfl) (l_cons (EE.of r_str rfl) l_nil)) rfl) rfl) (EE.of (r_list (l_cons (EE.of (r_loc rfl) rfl) l_nil) rfl) rfl) (a_subF hn h2)) x_skip)
theorem x_D_no {r : Int} (h : Φ 39 [.cell 0, .int 2] c = some (.v (.int r), c1)) (hr : r ≠ 0) : XS Φ W sD (LA k p2 p4 p5 p6 f ns as q) c .next (LA k p2 p4 p5 p6 f ns as q) c1 :=
  x_if (q := false) (t_take rfl h (by show some (r == 0) = _; simpa using hr)) x_skip
theorem x_D_yes {r : Int} (h : Φ 39 [.cell 0, .int 2] c = some (.v (.int r), c1)) (hr : r = 0) (ha : as.length ≤ 9) (h2 : Φ 42 [.cell 0, .cell 1, eNs ns, .int (k : Nat)] c1 = some (.v (eT t), c2)) :
    XS Φ W sD (LA k p2 p4 p5 p6 f ns as q) c .next (LA k p2 p4 p5 p6 f ns (as ++ [eAl .d t]) q) c2 :=
  x_if (q := true) (t_take rfl h (by show some (r == 0) = _; simpa using hr)) (x_seq (x_al (ak := eK .d) (af := .list []) ha (EE.of (r_tup (l_cons (EE.of r_str rfl) (l_cons (EE.of r_str rfl) l_nil)) rfl) rfl) (EE.of (r_list l_nil rfl) rfl) (a_sub h2)) x_skip)
theorem x_I {j : Int} (ha : as.length ≤ 9) (h2 : Φ 42 [.cell 0, .cell 1, eNs ns, .int (k : Nat)] c = some (.v (eT t), c1)) :
    XS Φ W sIb (LA k p2 p4 p5 p6 f ns as (.val (.int j))) c .next (LA k p2 p4 p5 p6 f ns (as ++ [eAl (.n j) t]) (.val (.int j))) c1 :=
  x_seq (x_al (ak := eK (.n j)) (af := .list []) ha (EE.of (r_tup (l_cons (EE.of r_str rfl) (l_cons (EE.of r_str rfl) (l_cons (EE.of (r_loc rfl) rfl) l_nil))) rfl) rfl) (EE.of (r_list l_nil rfl) rfl) (a_sub h2)) x_skip
theorem i_I {r : Int} {n : Nat} (h : Φ 39 [.cell 0, .int 2] c = some (.v (.int r), c1)) (hr : 1 + r = (n : Int)) (hn : n ≤ 9) : EI Φ (.range1 (.bin .add (.int 1) (.call 39 (.cons (.loc 0) (.cons (.int 2) .nil))))) (LA k p2 p4 p5 p6 f ns as q) c ((List.range n).map fun j : Nat => AV.int (j : Int)) c1 :=
  i_range1 (EE.of (r_bin (v := .int (n : Nat)) (EE.of r_int rfl) (EE.of (r_call (r := .v (.int r)) (l_cons (EE.of (r_loc rfl) rfl) (l_cons (EE.of r_int rfl) l_nil)) h) rfl) (by show some (AV.int (1 + r)) = _; rw [hr])) rfl) (by unfold lim; lia)
/-- what a call for a smaller tree answers -/
noncomputable def TrOk (k : Nat) : Prop := ∀ {ns : Nms} {a0 : AV} {b : Int}, 0 < ns.length → ns.length + 2 * k ≤ 9 → Fre k ns → SrcOk a0 → ∃ t a0' b', Gt ns k t ∧ SrcOk a0' ∧ ∀ W d, callF tab fun? W (d + 3 + k) 42 [.cell 0, .cell 1, eNs ns, .int (k : Nat)] [a0, .list [.int b]] = some (.v (eT t), [a0', .list [.int b']])
/-- some alternatives more -/
noncomputable def Als (s : IS) (N : Nms) (so : Bool) (k : Nat) (n : Nat) (a0 : AV) (b : Int) : Prop := ∃ (al : List (Ky × Tm)) (a0' : AV) (b' : Int), al.length ≤ n ∧ (∀ p ∈ al, Ga N so k p) ∧ SrcOk a0' ∧
  ∀ W d p2 p4 p5 p6 as q, as.length + al.length ≤ 9 → ∃ q', XS (callF tab fun? W (d + 3 + k)) W s (LA k p2 p4 p5 p6 (nT (k + 1)) (N ++ [(nS (k + 1), so)]) as q) [a0, .list [.int b]] .next (LA k p2 p4 p5 p6 (nT (k + 1)) (N ++ [(nS (k + 1), so)]) (as ++ al.map fun p => eAl p.1 p.2) q') [a0', .list [.int b']]
theorem take_run {W d k : Nat} {top r : Int} {rest : Cells} {a0 a0' : AV} (h : ∀ Φ W rest, run W Φ 39 [.cell 0, .int top] (a0 :: rest) = some (.v (.int r), a0' :: rest)) : callF tab fun? W (d + 3 + k) 39 [.cell 0, .int top] (a0 :: rest) = some (.v (.int r), a0' :: rest) := by
  rw [show d + 3 + k = (d + 2 + k) + 1 by lia, callF_succ]; exact h _ _ _
theorem als_C {N : Nms} {k : Nat} {a0 : AV} {b : Int} (ih : TrOk k) (hk : k + 1 ≤ 3) (hl : N.length + 2 * (k + 1) ≤ 9) (hf : Fre (k + 1) N) (hs : SrcOk a0) : Als sC N true k 1 a0 b := by
  obtain ⟨a1, r, h1, _, _, hr⟩ := take_ans (top := 4) (by lia) (by lia) hs
  by_cases hr0 : r > 0
  · obtain ⟨t, a2, b2, g, h2, hc⟩ := ih (ns := N ++ [(nS (k + 1), true)] ++ [(nT (k + 1), false)]) (b := b) (by simp) (by simp; lia) (fr_field hk (fr_own hk hf)) h1
    refine ⟨[(.c (nT (k + 1)), t)], a2, b2, by simp, ?_, h2, fun W d p2 p4 p5 p6 as q hal => ⟨q, ?_⟩⟩
    · intro p hp; simp only [List.mem_singleton] at hp; subst hp
      exact ⟨rfl, by simp [fl], g⟩
    · exact x_C_yes (take_run hr) hr0 (by simp at hal; lia) (by simp; lia) (hc W d)
  · exact ⟨[], a1, b, by simp, by simp, h1, fun W d p2 p4 p5 p6 as q hal => ⟨q, by rw [List.map_nil, List.append_nil]; exact x_C_no (take_run hr) hr0⟩⟩
theorem ext_nil {N : Nms} {y : Ky} (h : fl y = []) : ext N y = N := by simp [ext, h]
theorem als_D {N : Nms} {k : Nat} {a0 : AV} {b : Int} (ih : TrOk k) (hk : k + 1 ≤ 3) (hl : N.length + 2 * (k + 1) ≤ 9) (hf : Fre (k + 1) N) (hs : SrcOk a0) : Als sD N true k 1 a0 b := by
  obtain ⟨a1, r, h1, _, _, hr⟩ := take_ans (top := 2) (by lia) (by lia) hs
  by_cases hr0 : r = 0
  · obtain ⟨t, a2, b2, g, h2, hc⟩ := ih (ns := N ++ [(nS (k + 1), true)]) (b := b) (by simp) (by simp; lia) (fr_own hk hf) h1
    refine ⟨[(.d, t)], a2, b2, by simp, ?_, h2, fun W d p2 p4 p5 p6 as q hal => ⟨q, ?_⟩⟩
    · intro p hp; simp only [List.mem_singleton] at hp; subst hp
      exact ⟨rfl, by simp [fl], by rw [ext_nil rfl]; exact g⟩
    · exact x_D_yes (take_run hr) hr0 (by simp at hal; lia) (hc W d)
  · exact ⟨[], a1, b, by simp, by simp, h1, fun W d p2 p4 p5 p6 as q hal => ⟨q, by rw [List.map_nil, List.append_nil]; exact x_D_no (take_run hr) hr0⟩⟩
theorem als_I {N : Nms} {k : Nat} {a0 : AV} {b : Int} (ih : TrOk k) (hk : k + 1 ≤ 3) (hl : N.length + 2 * (k + 1) ≤ 9) (hf : Fre (k + 1) N) (hs : SrcOk a0) : Als sI N false k 2 a0 b := by
  obtain ⟨a1, r, h1, g0, g1, hr⟩ := take_ans (top := 2) (by lia) (by lia) hs
  obtain ⟨t, a2, b2, g, h2, hc⟩ := ih (ns := N ++ [(nS (k + 1), false)]) (b := b) (by simp) (by simp; lia) (fr_own hk hf) h1
  have hG : ∀ {i : Int} {t : Tm}, Gt (N ++ [(nS (k + 1), false)]) k t → Ga N false k (.n i, t) := fun {i t} g => ⟨rfl, by simp [fl], by rw [ext_nil rfl]; exact g⟩
  by_cases hr0 : r = 0
  · refine ⟨[(.n 0, t)], a2, b2, by simp, ?_, h2, fun W d p2 p4 p5 p6 as q hal => ⟨.val (.int 0), ?_⟩⟩
    · intro p hp; simp only [List.mem_singleton] at hp; subst hp
      exact hG g
    · exact x_for1 (i_I (n := 1) (take_run hr) (by lia) (by lia)) rfl (forL_cons rfl (x_I (j := 0) (by simp at hal; lia) (hc W d)) rfl)
  · obtain ⟨t', a3, b3, g', h3, hc'⟩ := ih (ns := N ++ [(nS (k + 1), false)]) (b := b2) (by simp) (by simp; lia) (fr_own hk hf) h2
    refine ⟨[(.n 0, t), (.n 1, t')], a3, b3, by simp, ?_, h3, fun W d p2 p4 p5 p6 as q hal => ⟨.val (.int 1), ?_⟩⟩
    · intro p hp; simp only [List.mem_cons, List.not_mem_nil, or_false] at hp
      rcases hp with rfl | rfl
      · exact hG g
      · exact hG g'
    · refine x_for1 (i_I (n := 2) (take_run hr) (by lia) (by lia)) rfl (forL_cons rfl (x_I (j := 0) (by simp at hal; lia) (hc W d)) (forL_cons rfl (x_I (j := 1) (by simp at hal ⊢; lia) (hc' W d)) ?_))
      simp only [List.map_cons, List.map_nil, List.append_assoc, List.cons_append, List.nil_append]; rfl
end
end Mine
end
section
open PySem PySem.W PyProof.Rows
set_option Elab.async false
set_option maxRecDepth 100000
set_option linter.unusedVariables false
set_option linter.unusedSimpArgs false
namespace Mine
/-! _law_tree, its answer -/
theorem als_all {N : Nms} {so : Bool} {k : Nat} {a0 : AV} {b : Int} (ih : TrOk k) (hk : k + 1 ≤ 3) (hl : N.length + 2 * (k + 1) ≤ 9) (hf : Fre (k + 1) N) (hs : SrcOk a0) : ∃ (al : List (Ky × Tm)) (a0' : AV) (b' : Int), al.length ≤ 2 ∧ (∀ p ∈ al, Ga N so k p) ∧ SrcOk a0' ∧
    ∀ W d p2 p4 p6 q, ∃ q', XS (callF tab fun? W (d + 3 + k)) W sAl (LA k p2 p4 (.str (eSo so)) p6 (nT (k + 1)) (N ++ [(nS (k + 1), so)]) [] q) [a0, .list [.int b]] .next (LA k p2 p4 (.str (eSo so)) p6 (nT (k + 1)) (N ++ [(nS (k + 1), so)]) (al.map fun p => eAl p.1 p.2) q') [a0', .list [.int b']] := by
  cases so with
  | true =>
    refine ex_3_4 (als_C (b := b) ih hk hl hf hs) fun al a1 b1 h1 h2 h3 h4 => ?_
    refine ex_3_4 (als_D (b := b1) ih hk hl hf h3) fun al' a2 b2 g1 g2 g3 g4 => ?_
    refine ⟨al ++ al', a2, b2, by simp; lia, ?_, g3, fun W d p2 p4 p6 q => ?_⟩
    · intro p hp
      rcases List.mem_append.1 hp with hp | hp
      · exact h2 p hp
      · exact g2 p hp
    · obtain ⟨q1, e1⟩ := h4 W d p2 p4 (.str (eSo true)) p6 [] q (by simp; lia)
      obtain ⟨q2, e2⟩ := g4 W d p2 p4 (.str (eSo true)) p6 (al.map fun p => eAl p.1 p.2) q1 (by simp; lia)
      rw [List.nil_append] at e1
      rw [← List.map_append] at e2
      exact ⟨q2, x_if (q := true) (t_of (r_cmp (x := .str sx7) (z := .str sx7) rfl (EE.of (r_loc rfl) rfl) (p_of rfl (EE.of r_str rfl)) rfl rfl) rfl) (x_seq e1 (x_seq e2 x_skip))⟩
  | false =>
    refine ex_3_4 (als_I (b := b) ih hk hl hf hs) fun al a1 b1 h1 h2 h3 h4 => ?_
    refine ⟨al, a1, b1, h1, h2, h3, fun W d p2 p4 p6 q => ?_⟩
    obtain ⟨q1, e1⟩ := h4 W d p2 p4 (.str (eSo false)) p6 [] q (by simp; lia)
    rw [List.nil_append] at e1
    exact ⟨q1, x_if (q := false) (t_of (r_cmp (x := .str sx4) (z := .str sx7) rfl (EE.of (r_loc rfl) rfl) (p_of rfl (EE.of r_str rfl)) rfl rfl) rfl) (x_seq e1 x_skip)⟩
theorem r_nu {Φ : CallF} {l : Loc} {c : Cells} {s : Str} {k : Nat} (hk : k ≤ 3) (h : l.at 3 = .val (.int (k : Int))) (hs : s.length + (nuS k).length ≤ lim) : ER Φ (.bin .add (.str s) (.strOf (.loc 3))) l c (.v (.str (s ++ nuS k))) c :=
  r_bin (EE.of r_str rfl) (EE.of (r_strOf (EE.of (r_loc h) rfl) (by lia) (by lia)) rfl) (abin_s hs)
theorem tree_ans : ∀ {k : Nat}, k ≤ 3 → TrOk k
  | 0, hk => by
      intro hn hl hf hs
      rename_i ns a0 b
      refine ⟨.lit (100 + (b + 1)), a0, b + 1, gt_lit, hs, fun W d => ?_⟩
      rw [show d + 3 + 0 = (d + 2) + 1 by lia, callF_succ]
      refine run_xr (F := ⟨4, 11, b42⟩) rfl rfl rfl (xr_stop (xr_if (q := true) (t_of (r_cmp (x := .int 0) (z := .int 0) rfl (EE.of (r_loc rfl) rfl) (p_of rfl (EE.of r_int rfl)) rfl rfl) rfl) (xr_stop (xr_ret (r_call (r := .v (eT (.lit (100 + (b + 1))))) (l_cons (EE.of (r_loc rfl) rfl) l_nil) (by rw [callF_succ]; exact end_ans))))))
  | k + 1, hk => by
    intro hn hl hf hs
    rename_i ns a0 b
    have ih : TrOk k := tree_ans (by lia)
    obtain ⟨a1, x, hx, hs1, hone⟩ := one_ans (xs := ns.map eN1) (by simpa using hn) (by simp; lia) hs
    obtain ⟨⟨x, so⟩, hmem, rfl⟩ := List.mem_map.1 hx
    refine ex_3_4 (als_all (so := so) (b := b) ih hk hl hf hs1) fun al a2 b2 g1 g2 hs2 g3 => ?_
    obtain ⟨z, a3, b3, gz, hs3, hz⟩ := ih (ns := ns ++ [(nS (k + 1), so)]) (b := b2) (by simp) (by simp; lia) (fr_own hk hf) hs2
    refine ⟨ofAl x (nS (k + 1)) z al, a3, b3, gt_ofAl hk hf hmem g1 g2 gz, hs3, fun W d => ?_⟩
    rw [show d + 3 + (k + 1) = (d + 3 + k) + 1 by lia, callF_succ]
    obtain ⟨q', hal⟩ := g3 W d (eNs ns) (.str x) (.str (nS (k + 1))) .un
    have hnu := nu_len hk
    refine run_xr (F := ⟨4, 11, b42⟩) rfl rfl rfl ?_
    refine xr_seq (x_if (q := false) (t_of (r_cmp (x := .int ((k + 1 : Nat) : Int)) (z := .int 0) rfl (EE.of (r_loc rfl) rfl) (p_of rfl (EE.of r_int rfl)) rfl ?_) rfl) x_skip) ?_
    · show some (((k + 1 : Nat) : Int) == 0) = some false
      have : ¬ ((k + 1 : Nat) : Int) = 0 := by lia
      simpa using this
    refine xr_seq (x_asgT (x := eN1 (x, so)) (EE.of (r_call (r := .v (eN1 (x, so))) (l_cons (EE.of (r_loc rfl) rfl) (l_cons (EE.of (r_loc rfl) rfl) l_nil)) (by rw [show d + 3 + k = (d + 1 + k) + 2 by lia]; exact hone W _ _)) rfl) rfl) ?_
    refine xr_seq (x_asg2 (r_nu hk rfl hnu.1) (r_nu hk rfl hnu.2)) ?_
    refine xr_seq (l1 := LA k (eNs ns) (.str x) (.str (eSo so)) (.str (nS (k + 1))) (nT (k + 1)) (ns ++ [(nS (k + 1), so)]) [] .un) (c1 := [a1, .list [.int b]]) (x_asg2 (r1 := .v (eNs (ns ++ [(nS (k + 1), so)]))) (r2 := .o (.list [])) (c1 := [a1, .list [.int b]]) (r_bin (x := eNs ns) (y := .list [eN1 (nS (k + 1), so)]) (EE.of (r_loc rfl) rfl) (EE.of (r_list (l_cons (EE.of (r_tup (l_cons (EE.of (r_loc rfl) rfl) (l_cons (EE.of (r_loc rfl) rfl) l_nil)) rfl) rfl) l_nil) rfl) rfl) ?_) (r_list l_nil rfl)) ?_
    · exact (abin_l (by unfold lim; simp; lia)).trans (by simp [eNs])
    refine xr_seq hal ?_
    refine xr_seq (x_freeze rfl) (xr_stop (xr_ret ?_))
    rw [eT_ofAl g1]
    refine r_new (k := 5) (l_cons (x := eV x) (EE.of (r_new (k := 0) (l_cons (EE.of (r_loc rfl) rfl) l_nil) rfl) rfl) (l_cons (EE.of (r_loc rfl) rfl) (l_cons (EE.of (r_loc rfl) rfl) (l_cons (EE.of (r_call (r := .v (eT z)) (l_cons (EE.of (r_loc rfl) rfl) (l_cons (EE.of (r_loc rfl) rfl) (l_cons (EE.of (r_loc rfl) rfl) (l_cons (EE.of (r_bin (x := .int ((k + 1 : Nat) : Int)) (v := .int (k : Nat)) (EE.of (r_loc rfl) rfl) (EE.of r_int rfl) ?_) rfl) l_nil)))) (hz W d)) rfl) l_nil)))) rfl
    show some (AV.int (((k + 1 : Nat) : Int) - 1)) = _
    rw [show ((k + 1 : Nat) : Int) - 1 = (k : Nat) by lia]
end Mine
end
section
open PySem PySem.W PyProof.Rows
set_option Elab.async false
set_option maxRecDepth 100000
set_option linter.unusedVariables false
set_option linter.unusedSimpArgs false
namespace Mine
/-! law: the pool, the worlds -/
theorem r_fresh {Φ : CallF} {l : Loc} {c c1 : Cells} (h : Φ 36 [.obj 9 [.cell c.length, .cell (c.length + 1)], .tup []] (c ++ [.dict [] [], .dict [] []]) = some (.v .none, c1)) : ER Φ .fresh l c (.v (.obj 9 [.cell c.length, .cell (c.length + 1)])) c1 := by
  exact ER.bd rfl h rfl
theorem fresh_ans {Φ : CallF} {W : Nat} {c : Cells} : run W Φ 36 [aFr, .tup []] c = some (.v .none, c) := by kernel_rfl
theorem pool_ans {ns : List Int} (h : ns.length ≤ 63) : ∃ a0, SrcOk a0 ∧ ∀ Φ W c, run W Φ 38 [.list (ns.map .int), .int 0] c = some (.o a0, c) := by
  obtain ⟨z, hz⟩ : ∃ z : Int, ∀ {Φ : CallF} {W : Nat} {c : Cells}, XS Φ W (.ifs (.cmp .lt (.loc 1) (.len (.loc 0))) (.seq (.asg 2 (.idx (.loc 0) (.loc 1))) .skip) .skip) [.val (.list (ns.map .int)), .val (.int 0), .val (.int 0), .un, .un] c .next [.val (.list (ns.map .int)), .val (.int 0), .val (.int z), .un, .un] c := by
    have hs : small (ns.map AV.int) = true := decide_eq_true (show (ns.map AV.int).length ≤ 1000000 by simp; lia)
    cases ns with
    | nil => exact ⟨0, fun {Φ W c} => rfl⟩
    | cons n ns =>
      refine ⟨n, fun {Φ W c} => x_if (q := true) (t_of (r_cmp (x := .int 0) (z := .int (((n :: ns).map AV.int).length : Nat)) rfl (EE.of (r_loc rfl) rfl) (p_of rfl (EE.of (r_len (p_loc rfl) rfl hs) rfl)) rfl ?_) rfl) (x_seq (x_asg (r_idx_list (n := 0) (v := .int n) (p_loc rfl) (EE.of (r_loc rfl) rfl) rfl hs rfl)) x_skip)⟩
      simp only [acmp_lt]; simp
      try lia
  generalize hm : (if z < -1 - z then -1 - z else z) = m
  refine ⟨.list [.int (m * (if decide (m ≥ 1000000000000000000) then 1 else 0)), .int (((m.fmod 2147483629 + 7919 * 0 * 0 + 31 * 0 + 17) * 48271).fmod 2147483647)], ⟨_, _, rfl⟩, fun Φ W c => ?_⟩
  refine run_xr (F := ⟨2, 5, b38⟩) rfl rfl rfl ?_
  refine xr_seq (x_asg r_int) (xr_seq hz ?_)
  refine xr_seq (c1 := c) (x_asg (r := .v (.int m)) ?_) ?_
  · rw [← hm]
    exact r_max (EE.of (r_intOf (n := z) (EE.of (r_loc rfl) rfl)) rfl) (EE.of (r_intOf (n := -1 - z) (EE.of (r_bin (EE.of (r_neg (EE.of r_int rfl)) rfl) (EE.of (r_loc rfl) rfl) rfl) rfl)) rfl)
  refine xr_seq (x_asg (r_bin (EE.of (r_intOf (n := (m.fmod 2147483629 + 7919 * 0 * 0 + 31 * 0 + 17) * 48271) (EE.of (r_bin (x := .int (m.fmod 2147483629 + 7919 * 0 * 0 + 31 * 0 + 17)) (EE.of (r_bin (x := .int (m.fmod 2147483629 + 7919 * 0 * 0 + 31 * 0)) (EE.of (r_bin (x := .int (m.fmod 2147483629 + 7919 * 0 * 0)) (y := .int (31 * 0)) (EE.of (r_bin (x := .int (m.fmod 2147483629)) (y := .int (7919 * 0 * 0)) (EE.of (r_bin (EE.of (r_intOf (n := m) (EE.of (r_loc rfl) rfl)) rfl) (EE.of r_int rfl) (amod (by lia) (by lia))) rfl)
    (EE.of (r_bin (x := .int (7919 * 0)) (EE.of (r_bin (EE.of r_int rfl) (EE.of (r_loc rfl) rfl) (amul (by lia) (by lia))) rfl) (EE.of (r_loc rfl) rfl) (amul (by lia) (by lia))) rfl) rfl) rfl)
    (EE.of (r_bin (EE.of r_int rfl) (EE.of (r_loc rfl) rfl) (amul (by lia) (by lia))) rfl) rfl) rfl)
    (EE.of r_int rfl) rfl) rfl) (EE.of r_int rfl) (amul (by lia) (by lia))) rfl)) rfl) (EE.of r_int rfl) (amod (by lia) (by lia)))) ?_
  refine xr_stop (xr_ret (r_list (l_cons (EE.of (r_bin (x := .int m) (EE.of (r_loc rfl) rfl) (EE.of (r_intOfB (n := decide (m ≥ 1000000000000000000)) (EE.of (r_cmp (x := .int m) (z := .int 1000000000000000000) rfl (EE.of (r_loc rfl) rfl) (p_of rfl (EE.of (r_bin (v := .int 1000000000000000000) (EE.of r_int rfl) (EE.of r_int rfl) rfl) rfl)) rfl rfl) rfl)) rfl) ?_) rfl) (l_cons (EE.of (r_loc rfl) rfl) l_nil)) rfl))
  split
  · exact amul (by lia) (by lia)
  · exact amul (by lia) (by lia)
noncomputable def base3 : Nms := [(sx12, true), (sx11, true), (sx10, false)]
theorem fr_base {k : Nat} (hk : k ≤ 3) : Fre k base3 := by
  intro p hp j hj
  simp only [base3, List.mem_cons, List.not_mem_nil, or_false] at hp
  rcases hp with rfl | rfl | rfl <;> exact three_ne (by simp [three]) (by lia)
/-- the value of a cell name -/
noncomputable def eW : IE := .ite (.cmp .eq (.call 39 (.cons (.loc 5) (.cons (.int 3) .nil))) (.int 0)) (.tup (.cons (.str sx9) .nil)) (.tup (.cons (.str sx8) (.cons (.tup (.cons (.str sx4) (.cons (.call 39 (.cons (.loc 5) (.cons (.int 3) .nil))) .nil))) .nil)))
theorem e_take {W : Nat} {l : Loc} {a a' : AV} {r : Int} {rest : Cells} (h5 : l.at 5 = .val (.cell 0)) (h : ∀ Φ W rest, run W Φ 39 [.cell 0, .int 3] (a :: rest) = some (.v (.int r), a' :: rest)) : EE (callF tab fun? W 40) (.call 39 (.cons (.loc 5) (.cons (.int 3) .nil))) l (a :: rest) (.int r) (a' :: rest) :=
  EE.of (r_call (r := .v (.int r)) (l_cons (EE.of (r_loc h5) rfl) (l_cons (EE.of r_int rfl) l_nil)) (take_run (d := 37) (k := 0) h)) rfl
theorem w_val {a : AV} (hs : SrcOk a) : ∃ a' v, SrcOk a' ∧ isC v = true ∧ ∀ W (l : Loc) rest, l.at 5 = .val (.cell 0) → EE (callF tab fun? W 40) eW l (a :: rest) (eVl v) (a' :: rest) := by
  refine ex_2_4 (take_ans (top := 3) (by lia) (by lia) hs) fun a1 r h1 _ _ hr => ?_
  refine ex_2_4 (take_ans (top := 3) (by lia) (by lia) h1) fun a2 r' h2 _ _ hr' => ?_
  have ht : ∀ W (l : Loc) rest, l.at 5 = .val (.cell 0) → ∀ q, (r == 0) = q → ET (callF tab fun? W 40) (.cmp .eq (.call 39 (.cons (.loc 5) (.cons (.int 3) .nil))) (.int 0)) l (a :: rest) q (a1 :: rest) := fun W l rest h5 q hq =>
    t_of (r_cmp (z := .int 0) rfl (e_take h5 hr) (p_of rfl (EE.of r_int rfl)) rfl (by show some (r == 0) = _; rw [hq])) rfl
  by_cases h0 : r = 0
  · exact ⟨a1, .D, h1, rfl, fun W l rest h5 => EE.of (r_ite (q := true) (ht W l rest h5 true (by simpa using h0)) (r_tup (l_cons (EE.of r_str rfl) l_nil) rfl)) rfl⟩
  · exact ⟨a2, .C r', h2, rfl, fun W l rest h5 => EE.of (r_ite (q := false) (ht W l rest h5 false (by simpa using h0)) (r_tup (l_cons (EE.of r_str rfl) (l_cons (EE.of (r_tup (l_cons (EE.of r_str rfl) (l_cons (e_take h5 hr') l_nil)) rfl) rfl) l_nil)) rfl)) rfl⟩
/-- one world -/
noncomputable def sW : IS := .seq (.asg 7 (.dict1 (.str sx10) (.tup (.cons (.str sx4) (.cons (.call 39 (.cons (.loc 5) (.cons (.int 3) .nil))) .nil)))))
  (.seq (.for1 8 (.list (.cons (.str sx12) (.cons (.str sx11) .nil)))
  (.seq (.setIdx (.loc 7) (.loc 8) eW)
  .skip))
  (.seq (.freeze 7)
  (.seq (.ifs (.cmp .ne (.call 43 (.cons (.loc 3) (.cons (.loc 7) .nil))) (.call 43 (.cons (.loc 2) (.cons (.loc 7) .nil))))
  (.seq (.ret (.bool false))
  .skip)
  .skip)
  .skip)))
theorem three_env {i : Int} {v v' : Vl} (hv : isC v = true) (hv' : isC v' = true) : Srt base3 (upd (upd (upd (fun _ => none) sx10 (.I i)) sx12 v) sx11 v') ∧ ∀ x w, upd (upd (upd (fun _ => none) sx10 (.I i)) sx12 v) sx11 v' x = some w → x ∈ three := by
  have e1 : sx12 ≠ sx11 := by decide +kernel
  have e2 : sx10 ≠ sx11 := by decide +kernel
  have e3 : sx10 ≠ sx12 := by decide +kernel
  refine ⟨fun p hp => ?_, fun x w h => ?_⟩
  · simp only [base3, List.mem_cons, List.not_mem_nil, or_false] at hp
    rcases hp with rfl | rfl | rfl
    · exact ⟨v, by rw [upd_ne e1, upd_same], hv⟩
    · exact ⟨v', by rw [upd_same], hv'⟩
    · exact ⟨.I i, by rw [upd_ne e2, upd_ne e3, upd_same], rfl⟩
  · by_cases g1 : x = sx11
    · subst g1; simp [three]
    rw [upd_ne g1] at h
    by_cases g2 : x = sx12
    · subst g2; simp [three]
    rw [upd_ne g2] at h
    by_cases g3 : x = sx10
    · subst g3; simp [three]
    rw [upd_ne g3] at h; cases h
theorem world_ans {t r : Tm} {a : AV} (hs : SrcOk a) (ht1 : ht t ≤ 16) (hr1 : ht r ≤ 16) (hw : ∀ ρ, Srt base3 ρ → ∃ v, worth t ρ = some v) (hr : ∀ ρ v, (∀ x w, ρ x = some w → x ∈ three) → worth t ρ = some v → worth r ρ = some v) :
    ∃ a', SrcOk a' ∧ ∀ W rest l0 l1 l4 l6 q7 q8, ∃ q7' q8', XS (callF tab fun? W 40) W sW [l0, l1, .val (eT t), .val (eT r), l4, .val (.cell 0), l6, q7, q8] (a :: rest) .next [l0, l1, .val (eT t), .val (eT r), l4, .val (.cell 0), l6, q7', q8'] (a' :: rest) := by
  refine ex_2_4 (take_ans (top := 3) (by lia) (by lia) hs) fun a1 i h1 _ _ hi => ?_
  refine ex_2_3 (w_val h1) fun a2 v h2 hv hev => ?_
  refine ex_2_3 (w_val h2) fun a3 v' h3 hv' hev' => ?_
  obtain ⟨hsrt, hdom⟩ := three_env (i := i) hv hv'
  obtain ⟨n, hn⟩ := hw _ hsrt
  have hn' := hr _ _ hdom hn
  have hR := (((Rd.nil (enc := eVl) (m := 0)).put (x := sx10) (a := .I i)).put (x := sx12) (a := v)).put (x := sx11) (a := v')
  generalize hd : ((Dc.put ([], []) sx10 (eVl (.I i))).put sx12 (eVl v)).put sx11 (eVl v') = d at hR
  refine ⟨a3, h3, fun W rest l0 l1 l4 l6 q7 q8 => ⟨.val d.av, .val (.str sx11), ?_⟩⟩
  refine x_seq (x_asg (r_dict1 (n := sx10) (y := eVl (.I i)) (EE.of r_str rfl) (EE.of (r_tup (l_cons (EE.of r_str rfl) (l_cons (e_take rfl hi) l_nil)) rfl) rfl))) ?_
  refine x_seq (l1 := [l0, l1, .val (eT t), .val (eT r), l4, .val (.cell 0), l6, .own d.av, .val (.str sx11)]) (c1 := a3 :: rest) ?_ ?_
  · rw [← hd]
    refine x_for1 (xs := [.str sx12, .str sx11]) (i_of (r_list (l_cons (EE.of r_str rfl) (l_cons (EE.of r_str rfl) l_nil)) rfl) rfl rfl) rfl (forL_cons rfl (x_seq (x_setDict (ks := [sx10]) (vs := [eVl (.I i)]) (n := sx12) (x := eVl v) (hev _ _ _ rfl) (p_own rfl) (EE.of (r_loc rfl) rfl) rfl (by unfold lim; simp) rfl) x_skip) (forL_cons (c2 := a3 :: rest) rfl (x_seq (x_setDict (ks := ((Dc.put ([], []) sx10 (eVl (.I i))).put sx12 (eVl v)).1) (vs := ((Dc.put ([], []) sx10 (eVl (.I i))).put sx12 (eVl v)).2) (n := sx11) (x := eVl v') (hev' _ _ _ rfl) (p_own rfl) (EE.of (r_loc rfl) rfl) rfl ?_ rfl) x_skip) rfl))
    have g1 := (Dc.put ([], []) sx10 (eVl (.I i))).put_len sx12 (eVl v)
    have g2 := Dc.put_len ([], []) sx10 (eVl (.I i))
    simp only [List.length_nil] at g2
    unfold lim; lia
  refine x_seq (x_freeze rfl) (x_seq (x_if (q := false) (t_of (r_cmp (c1 := a3 :: rest) (x := .tup [.str sx4, .int n]) (z := .tup [.str sx4, .int n]) rfl (EE.of (r_call (r := .v (.tup [.str sx4, .int n])) (l_cons (EE.of (r_loc rfl) rfl) (l_cons (EE.of (r_loc rfl) rfl) l_nil)) ?_) rfl) (p_of rfl (EE.of (r_call (r := .v (.tup [.str sx4, .int n])) (l_cons (EE.of (r_loc rfl) rfl) (l_cons (EE.of (r_loc rfl) rfl) l_nil)) ?_) rfl)) rfl ?_) rfl) x_skip) x_skip)
  · have := worth_ans (W := W) (c := a3 :: rest) r (dd := 37 - ht r) hn' hR (by lia)
    rwa [show 37 - ht r + 3 + ht r = 40 by lia] at this
  · have := worth_ans (W := W) (c := a3 :: rest) t (dd := 37 - ht t) hn hR (by lia)
    rwa [show 37 - ht t + 3 + ht t = 40 by lia] at this
  · show some (!((sx4 == sx4 && (n == n && true)) && true)) = some false
    simp
end Mine
end
section
open PySem PySem.W PyProof.Rows
set_option Elab.async false
set_option maxRecDepth 100000
set_option linter.unusedVariables false
set_option linter.unusedSimpArgs false
namespace Mine
/-! the law's answer -/
theorem pure_law (ns : List Int) (h : ns.length ≤ 63) : ∃ W d cc, d + 1 ≤ 98 ∧ callF tab fun? W (d + 1) 45 [.list (ns.map .int)] [] = some (.v (.bool true), cc) := by
  refine ex_1_2 (pool_ans h) fun a0 hs0 hpool => ?_
  refine ex_2_4 (take_ans (top := 2) (by grind) (by grind) hs0) fun a1 r hs1 g0 g1 htk => ?_
  have hk : (2 + r).toNat ≤ 3 := by lia
  have hkr : 2 + r = (((2 + r).toNat : Nat) : Int) := by grind
  generalize (2 + r).toNat = k at hk hkr
  obtain ⟨t, a2, b, gt, hs2, htree⟩ := tree_ans hk (ns := base3) (a0 := a1) (b := 0) (by simp [base3]) (by simp [base3]; grind) (fr_base hk) hs1
  have hht := gt.hh
  have hfv : fvs t (fun _ => none) := gt.fv _ fun p hp _ => by
    simp only [base3, List.mem_cons, List.not_mem_nil, or_false] at hp
    rcases hp with rfl | rfl | rfl <;> simp [three]
  refine ex_1_4 (known_again_ans hfv (by grind) gt.bo) fun u hna hhu hwu hka => ?_
  obtain ⟨c', a3, rest, rfl, hs3, N, hrun⟩ := hka a2 (.list [.int b]) hs2
  refine ex_1_2 (world_ans (t := t) (r := u) hs3 (by grind) hhu gt.ws hwu) fun a4 hs4 w1 => ?_
  refine ex_1_2 (world_ans (t := t) (r := u) hs4 (by grind) hhu gt.ws hwu) fun a5 hs5 w2 => ?_
  refine ex_1_2 (world_ans (t := t) (r := u) hs5 (by grind) hhu gt.ws hwu) fun a6 hs6 w3 => ?_
  refine ⟨N + 1, 40, a6 :: rest, by grind, ?_⟩
  rw [callF_succ]
  refine run_xr (F := ⟨1, 9, b45⟩) rfl rfl rfl ?_
  refine xr_seq (x_asg2 (r1 := .o a0) (r2 := .o (.list [.int 0])) (c1 := []) (r_callO (l_cons (EE.of (r_loc rfl) rfl) (l_cons (EE.of r_int rfl) l_nil)) (by rw [show (40 : Nat) = 39 + 1 from rfl, callF_succ]; exact hpool _ _ _)) (r_list (l_cons (EE.of r_int rfl) l_nil) rfl)) ?_
  refine xr_seq (x_promote (x := a0) rfl) (xr_seq (x_promote (x := .list [.int 0]) rfl) ?_)
  refine xr_seq (x_asg (r := .o (eNs base3)) (c1 := [a0, .list [.int 0]]) (r_list (l_cons (EE.of (r_tup (l_cons (EE.of r_str rfl) (l_cons (EE.of r_str rfl) l_nil)) rfl) rfl) (l_cons (EE.of (r_tup (l_cons (EE.of r_str rfl) (l_cons (EE.of r_str rfl) l_nil)) rfl) rfl) (l_cons (EE.of (r_tup (l_cons (EE.of r_str rfl) (l_cons (EE.of r_str rfl) l_nil)) rfl) rfl) l_nil))) rfl)) ?_
  refine xr_seq (x_freeze rfl) ?_
  have htree' := htree (N + 1) (37 - k)
  rw [show 37 - k + 3 + k = 40 by grind] at htree'
  refine xr_seq (x_asg (r := .v (eT t)) (c1 := [a2, .list [.int b]]) (r_call (r := .v (eT t)) (c1 := [a1, .list [.int 0]]) (l_cons (EE.of (r_loc rfl) rfl) (l_cons (EE.of (r_loc rfl) rfl) (l_cons (EE.of (r_loc rfl) rfl) (l_cons (EE.of (r_bin (v := .int (k : Nat)) (EE.of r_int rfl) (EE.of (r_call (r := .v (.int r)) (l_cons (EE.of (r_loc rfl) rfl) (l_cons (EE.of r_int rfl) l_nil)) (take_run (d := 37) (k := 0) htk)) rfl) ?_) rfl) l_nil)))) htree')) ?_
  · show some (AV.int (2 + r)) = _
    rw [hkr]
  refine xr_seq (x_asg (r := .v (eT u)) (c1 := a3 :: rest) (r_call (r := .v (eT u)) (c1 := [a2, .list [.int b], .dict [] [], .dict [] []]) (l_cons (EE.of (r_loc rfl) rfl) (l_cons (x := aFr) (EE.of (r_fresh (by rw [show (40 : Nat) = 39 + 1 from rfl, callF_succ]; exact fresh_ans)) rfl) l_nil)) (hrun N (Nat.le_refl _) 29))) ?_
  have hag := again_ans (W := N + 1) (c := a3 :: rest) u (d := 36 - ht u) hna (by simp; grind)
  rw [show 36 - ht u + 4 + ht u = 40 by grind] at hag
  refine xr_seq (x_if (q := false) (c1 := a3 :: rest) (t_of (r_call (r := .v (.bool false)) (l_cons (EE.of (r_loc rfl) rfl) (l_cons (EE.of (r_list l_nil rfl) rfl) l_nil)) hag) rfl) x_skip) ?_
  refine ex_2_1 (w1 (N + 1) rest (.val (.list (ns.map .int))) (.val (eNs base3)) (.val (.int 0)) (.val (.cell 1)) .un .un) fun p1 p2 e1 => ?_
  refine ex_2_1 (w2 (N + 1) rest (.val (.list (ns.map .int))) (.val (eNs base3)) (.val (.int 1)) (.val (.cell 1)) p1 p2) fun p3 p4 e2 => ?_
  refine ex_2_1 (w3 (N + 1) rest (.val (.list (ns.map .int))) (.val (eNs base3)) (.val (.int 2)) (.val (.cell 1)) p3 p4) fun p5 p6 e3 => ?_
  refine xr_seq (c1 := a6 :: rest) (x_for1 (xs := [.int 0, .int 1, .int 2]) (i_range1 (n := 3) (EE.of r_int rfl) (by unfold lim; grind)) rfl (forL_cons rfl e1 (forL_cons rfl e2 (forL_cons rfl e3 rfl)))) ?_
  exact xr_stop (xr_ret r_bool)
end Mine
end
section
open PySem PySem.W PyProof.Rows
set_option Elab.async false
set_option maxRecDepth 1000000
set_option maxHeartbeats 8000000
set_option linter.unusedVariables false
namespace Mine
theorem pure_use {vs : List Value} {ns : List Int} (HI : IntsAre vs ns) (h : ns.length ≤ 63) : ∃ W d cc, d + 1 ≤ 98 ∧ callF tab fun? W (d + 1) 45 [.list (ns.map .int)] [] = some (.v (.bool true), cc) := pure_law ns h
theorem post_true (a : List WData) : PySem.Challenge.rw_og0018_01.row.claim.post a (WData.bool true) a = true := by
  show (WShape.has [] (WData.bool true) .bool && WTm.holds [] (.eq .res (.lit (.bool true))) { args := a, res := some (WData.bool true), after := a }) = true
  have h1 : WShape.has [] (WData.bool true) .bool = true := by decide +kernel
  rw [h1, Bool.true_and]
  have h2 : same (WData.bool true) (WData.bool true) = true := by decide +kernel
  simp [WTm.holds, WTm.value, h2]
theorem frag_facts {K : Frag} (h : fragOk K = true) : KOk K ∧ (∀ n, fnOk K n = true) ∧ lawOk K = true := by
  unfold fragOk at h
  simp only [Bool.and_eq_true] at h
  obtain ⟨h1, h2, h3, h4, h5⟩ := h
  exact ⟨kOk_of h1 h2 h3, fnOk_of fun n hn => List.all_eq_true.mp h4 n (by simpa using hn), h5⟩
theorem left0 : LeftO PySem.Challenge.rw_og0018_01.row.prog q0 ["Fresh"] Xt0 Yf0 (fun _ => true) 7624 true := left_of open0 size0 looks0 mine0
theorem said0 : PySem.Challenge.rw_og0018_01.wellSaid = true := by kernel_rfl
theorem t : PySem.Challenge.rw_og0018_01.Holds := by
  w_on
  refine holds_law said0 fun said => ?_
  refine holds_open (q := q0) (loose := ["Fresh"]) (Xt := Xt0) (XP := XL q0 []) (Yf := Yf0) (Ya := fun _ => true) (YP := fun _ h => ∃ K : Frag, K.In h ∧ fragOk K = true) (N := 7624) left0 (fun w s e => ⟨_, fragH_in _, e⟩) (fun w h h' x k => ?_) (fun s e => xl_of s (Bool.and_eq_true_iff.mp e).1) XL.keeps (by rfl) (by rfl) (by rfl) (fun s e => recFacts_of (Bool.and_eq_true_iff.mp e).2) (by rfl) said (by decide +kernel) ⟨rfl, rfl, rfl, rfl, rfl, by decide +kernel⟩ ?hw ?hc
  · obtain ⟨K, a, b⟩ := x
    exact ⟨K, Frag.In.keeps a k, b⟩
  case hw => w_witness2
  intro w s₀ s₁ mg mb G Y fa o pm cd doc dV kV ho hd hcd hD hmg hg args vals as hpre hlay hrd hwl hlo
  obtain ⟨K, KX, KF⟩ := Y
  refine Ground.open G ?_
  intro T B D TE TW
  refine guard_noD D (by decide +kernel) ?_
  clear D
  obtain ⟨_, _, M⟩ := bmod_of_top T
  have TA := at_of_top T
  obtain ⟨_, _, he, B0⟩ := based_of_top T rfl hmg ho hd
  have he' : cd = _ := he
  subst he'
  clear he
  clear hmg
  wrow_args hpre hlay hrd hwl hlo
  refine enter_call ?_
  w_top on
  try refine codeAny_mono ?_ (fun _ _ g => GoodW.toG g)
  have K0 := below_caller (Top.heap T)
  w_call any ho hd hcd hD T F
  clear hd TA
  rename Top _ _ _ _ _ _ => T
  rename Well _ _ _ _ => W1
  rename Heap.IsList _ _ _ => HL
  rename IntsAre _ _ => HI
  rename Fr _ _ _ _ => FF
  rename ((_ : Array _) = #[]) => hg
  rename (¬ (_ : Int) < _) => hc
  obtain ⟨KO, FO, LO⟩ := frag_facts KF
  obtain ⟨W, d, cc, hd', hp⟩ := pure_use HI (by omega)
  refine law_join KO FO KX T.g T.b T.builtins T.nolimit (well_list W1 HL) HI FF (by rfl) (by kernel_rfl) LO ⟨rfl, ?_, ?_⟩ hp fun h' tk hk => ?_
  · have : callerA.depth = 301 := rfl
    omega
  · have : callerA.units = 4 := rfl
    omega
  · refine ⟨.inl ⟨.bool true, .bool true, [], rfl, ?_, .bool _, ?_, ?_⟩, hk, rfl, hg⟩
    · intro cls; rfl
    · exact post_true _
    · intro _; exact ⟨.nil, fun a h => nomatch h⟩
end Mine
end
theorem PySem.Challenge.cw_og0018_01_holds : PySem.Challenge.rw_og0018_01.Holds :=
  Mine.t
