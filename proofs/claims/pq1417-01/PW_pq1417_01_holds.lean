import PyProof.Rows.All
import Wide.All
import OpenK.AllK
import Wide.FinOn
import PySem.Eval
import KE.KRevIter
import KE.KIsNot
import PyProof.ExcAttrAll.Exception
import PyProof.NsDelKeeps
import KE.KNestM
import PyProof.ExcInit
import PyProof.ExcClass2
import PyProof.ExcBaseAll.Exception
import Lean
import PySem.Challenge.RW_pq1417_01
section
set_option genInjectivity false
set_option genSizeOf false
open PySem PySem.W PyProof.Rows
set_option Elab.async false
set_option maxRecDepth 10000000
set_option maxHeartbeats 0
namespace Mine.Hd

theorem end_through (t : Thread) : (endAt 0 t).isSome = through t := by
  obtain ⟨cur, code, pos, stack⟩ := t
  cases stack with
  | cons fr rest => rfl
  | nil => cases cur with
    | pure fin => cases fin <;> rfl
    | _ => rfl
theorem topRun_of_seg {tb : String → Option PySem.Builtin} {p : Program} {w : World} {n₀ : Nat} {ann : Option Value} {N : Nat} : ∀ {s s' : Shared} {t : Thread} {f : Flow} {c : Code} {q : Pos},
    segRun tb p w n₀ ann 0 N s t = some (f, s', c, q) → topRun tb p w n₀ ann N s t = some s' := by
  induction N with
  | zero => intro s s' t f c q h; cases h
  | succ N ih =>
    intro s s' t f c q h
    have e := end_through t
    change (match endAt 0 t with
      | some f => some (f, s, t.code, t.pos)
      | none => match stepOk n₀ ann t with
        | false => none
        | true => match step (denote tb) p w s t with
          | .go s' t' => segRun tb p w n₀ ann 0 N s' t'
          | .halt _ _ => none) = some (f, s', c, q) at h
    change (match through t with
      | true => some s
      | false => match stepOk n₀ ann t with
        | false => none
        | true => match step (denote tb) p w s t with
          | .go s' t' => topRun tb p w n₀ ann N s' t'
          | .halt _ _ => none) = some s'
    rw [← e]
    cases he : endAt 0 t with
    | some f' => rw [he] at h; cases h; rfl
    | none =>
      rw [he] at h
      cases hk : stepOk n₀ ann t with
      | false => rw [hk] at h; cases h
      | true =>
        rw [hk] at h
        cases hs : step (denote tb) p w s t with
        | halt _ _ => rw [hs] at h; cases h
        | go s2 t2 => rw [hs] at h; exact ih h

noncomputable def ofList : List Obj → Nat → BT → BT
  | [], _, t => t
  | o :: r, i, t => ofList r (i + 1) (t.ins i o)
noncomputable def sT (w : World) (os : OsState) : SharedT := ⟨ofList (boot_heap w.params).objs.toList 0 .nil, 11, (boot_heap w.params).life, #[], boot_drawn, boot_toks, os⟩
noncomputable def sB (w : World) (os : OsState) : Shared := ⟨boot_heap w.params, #[], boot_drawn, boot_toks, os⟩
theorem sT_abs (w : World) (os : OsState) : (sT w os).abs = sB w os := by kernel_rfl

noncomputable abbrev p : Program := PySem.Challenge.pw_pq1417_01
noncomputable def keep : List Nat := [86]
noncomputable def q : Program := view p keep
noncomputable def loose : List Str := (["_wall", "get_attr", "dim_of", "class_attr", "language_class", "shape_class", "plain_class", "implicit_class", "CoveError", "Refusal", "RError", "LimitReached", "ReturnSignal", "LoopSignal", "Null", "Missing", "Vector", "Symbol", "Call", "Closure", "Builtin", "Environment", "Promise", "Dots", "null"] : List Str) ++ (["missing", "flag", "text", "symbol", "call_of", "is_atomic", "is_function", "share", "Dispatch", "dispatch_class", "function_from", "find_method", "first_method", "default_method", "plain_value", "plain_form", "quoted_call", "internal_call", "call_method", "lookup_here", "lookup", "Matching", "doubled_text", "argument_text", "plain_text"] : List Str) ++ (["unused_text", "match_names", "done_promise", "bound_argument", "dots_argument", "default_binding", "bind_formals", "dots_of", "is_dots_place", "dots_place", "frame_of", "is_empty_formal", "is_empty_name", "Frame", "Evaluator", "hands_on", "is_untagged", "first_argument", "one_text", "class_words", "inner_function", "check_empty", "method_value", "s_UseMethod", "_law_take"] : List Str) ++ (["_law_teller"] : List Str)
noncomputable abbrev row : RowW := PySem.Challenge.rw_pq1417_01.row.toRowW
noncomputable abbrev Xt (s : Shared) : Bool := xlAt q [] s && recOk (RowW.records row) s
noncomputable def N : Nat := 8000

noncomputable def ran (p : Program) (w : World) (n₀ : Nat) (ann : Option Value) (N : Nat) (t : SharedT) : Option (Flow × SharedT × Code × Pos) := segRunT treeTable p w n₀ ann 0 N t (topStub p)
noncomputable def endsA (p : Program) (h₀ : Heap) (s : Shared) : Bool := staticsOk (importedModules p.main.body) h₀ s.heap && namesBound p s.heap && gensDone s && laidKept h₀ s.heap
noncomputable def seenB (p q : Program) (loose : List Str) (Xt : Shared → Bool) (s : Shared) := openSeen q loose (importedModules p.main.body) Xt true s

theorem said : OpenLaw.wellSaid PySem.Challenge.rw_pq1417_01 = true := by
  rw [Fast.te9446332074065402090]
  iterate 18 (refine look_both ?_ (by as_aux_lemma => kernel_rfl))
  as_aux_lemma => kernel_rfl
theorem runA (w : World) (os : OsState) : (ran p w 11 (some (.ref 6)) N (sT w os)).map (fun r => endsA p (sB w os).heap r.2.1.abs) = some true := by
  unfold ran endsA
  rw [Fast.te10110043849684766642, Fast.te14364793385576792824]
  kernel_rfl
theorem runB (w : World) (os : OsState) : (ran p w 11 (some (.ref 6)) N (sT w os)).map (fun r => seenB p q loose Xt r.2.1.abs) = some (openGood q loose) := by
  unfold ran seenB
  rw [Fast.te10110043849684766642, Fast.te14364793385576792824, Fast.te4187177175401517315]
  kernel_rfl

theorem bootHead (w : World) (os : OsState) : ((sB w os).heap.isNs mainGlobals && (sB w os).gens.size == 0) = true ∧ (sB w os).heap.objs.size = 11 ∧ (sB w os).heap.nsMap mainGlobals "__annotations__" = some (.ref 6) :=
  ⟨by kernel_rfl, by kernel_rfl, by kernel_rfl⟩
theorem opens : opening p = plainProg p.main.scope.names := by kernel_rfl
theorem fences (s : Shared) : fenceModules? p s = some s := by kernel_rfl
theorem boot_is {s : Shared} {w : World} (h : (s.heap, s.gens, s.drawn, s.toks) = (boot_heap w.params, Array.mk [], boot_drawn, boot_toks)) : s = sB w s.os := by
  obtain ⟨a, b, c, d, e⟩ := s
  simp only [Prod.mk.injEq] at h
  obtain ⟨h1, h2, h3, h4⟩ := h
  subst h1 h2 h3 h4
  rfl
noncomputable abbrev orow : OpenRow := PySem.Challenge.rw_pq1417_01.row
theorem hsome : (defOf q orow.name).isSome = true := by kernel_rfl
noncomputable def dk : DefRec × List (Str × Expr) := (defOf q orow.name).get hsome
theorem hdef : defOf q orow.name = some (dk.1, dk.2) := by kernel_rfl
theorem hthe : orow.prog.theDef orow.name = some (dk.1.params, dk.1.body, dk.1.scope) := by kernel_rfl
theorem hkw : kwWritten? dk.1.params.kwonlyargs dk.1.params.kw_defaults = some dk.2 := by kernel_rfl
theorem hok : (chainsOk q && opensWell orow.prog && (frees orow.toRowW && orow.within.isEmpty)) = true := by decide +kernel
theorem hbare : orow.prog.bare := ⟨rfl, rfl, rfl, rfl, rfl, by decide +kernel⟩
theorem hprom : orow.toRowW.promised := by
  refine ⟨[.list []], ?_, ?_⟩ <;> decide +kernel

end Mine.Hd
end
section
set_option genInjectivity false
set_option genSizeOf false
set_option tactic.hygienic false
set_option genSizeOf false
set_option genInjectivity false
namespace Mine
noncomputable abbrev Ix := Nat
inductive AV where
  | none | bool (b : Bool) | int (n : Int) | str (p : List Nat) | ref (i : Ix) | fn (a : Nat) | bi (k : Nat) | opt (k : Nat) | anyi
  deriving Inhabited
inductive E where
  | k (c : AV)
  | loc (x : Nat)
  | cel (x : Nat)
  | attr (o : E) (n : Nat)
  | mcall (o : E) (n : Nat) (as : List E)
  | call (f : E) (as : List E)
  | bin (op : Nat) (a b : E)
  | neg (a : E)
  | notE (a : E)
  | cmp (op : Nat) (a b : E)
  | bool (isAnd : Bool) (es : List E)
  | ite (c a b : E)
  | list (es : List E)
  | tup (es : List E)
  | dict (ks vs : List E)
  | sub (o i : E)
  | from_ (o lo : E)
  | lcomp (elt : E) (tg : List Nat) (it : E) (ifs : List E) (cs : List Nat)
  | dcomp (ke ve : E) (tg : List Nat) (it : E) (ifs : List E) (cs : List Nat)
  | menu (vs : List AV) (f : Nat) (src : E) (n : Nat)
  | nas (x : Nat)
  | bad
  deriving Inhabited
inductive Tg where
  | loc (x : Nat) | cel (x : Nat) | tup (xs : List Nat) | attr (o : E) (n : Nat) | sub (o i : E)
  deriving Inhabited
set_option genCtorIdx false in
inductive S where
  | expr (e : E) | pass | cont
  | ret (e : E)
  | asg (t : Tg) (e : E)
  | aug (o : E) (n : Nat) (e : E)
  | augn (x : Nat) (e : E)
  | iff (c : E) (a b : List S)
  | for (t : List Nat) (it : E) (body : List S)
  | while (c : E) (body : List S)
  | raise (e : E)
  | reraise
  | try_ (body : List S) (hs : List (Nat × Option Nat × List S)) (fin : List S)
  | defc (x : Nat) (ps : List Nat) (body : List S) (cs : List Nat)
  | bad
  deriving Inhabited
inductive Ob where
  | inst (C : Nat) (d : Ix)
  | idict (fs : List (Nat × AV))
  | list (vs : List AV)
  | tup (vs : List AV)
  | dict (kv : List (List Nat × AV)) (ep : Nat)
  | pdict (kv : List (List Nat × AV)) (out : List (List Nat))
  | lset (ins outs : List (List Nat))
  | ns (fs : List (Nat × AV))
  | cell (v : Option AV)
  | clo (ps : List Nat) (body : List S) (cs : List (Nat × Ix)) (j : Ix)
  | code
  | range (a b : Int)
  | itL (j : Ix) (k : Nat)
  | itT (j : Ix) (k : Nat)
  | itR (x : Int) (n : Nat)
  | itV (j : Ix) (k : Nat)
  | itVe
  | itD (j : Ix) (k : Nat) (n ep : Nat)
  | exc (C : Nat) (d : Option Ix)   -- d: twice the dict's index; one more where a frame has been noted
  | src (j : Ix)
  | nums
  deriving Inhabited
set_option genCtorIdx false in
inductive Tr where
  | nil
  | node (v : Option Ob) (l r : Tr)
  deriving Inhabited
namespace Tr
noncomputable def get : Tr → Nat → Option Ob
  | .nil, _ => none
  | .node v l r, i => match Nat.beq i 0 with
    | true => v
    | false => match Nat.beq (i % 2) 1 with
      | true => l.get (i / 2)
      | false => r.get (i / 2 - 1)
noncomputable def setF : Nat → Tr → Nat → Ob → Tr
  | 0, t, _, _ => t
  | f + 1, .nil, i, o => match Nat.beq i 0 with
    | true => .node (some o) .nil .nil
    | false => match Nat.beq (i % 2) 1 with
      | true => .node none (setF f .nil (i / 2) o) .nil
      | false => .node none .nil (setF f .nil (i / 2 - 1) o)
  | f + 1, .node v l r, i, o => match Nat.beq i 0 with
    | true => .node (some o) l r
    | false => match Nat.beq (i % 2) 1 with
      | true => .node v (setF f l (i / 2) o) r
      | false => .node v l (setF f r (i / 2 - 1) o)
noncomputable def set (t : Tr) (i : Nat) (o : Ob) : Tr := setF (i + 1) t i o
noncomputable def delF : Nat → Tr → Nat → Tr
  | 0, t, _ => t
  | _ + 1, .nil, _ => .nil
  | f + 1, .node v l r, i => match Nat.beq i 0 with
    | true => .node none l r
    | false => match Nat.beq (i % 2) 1 with
      | true => .node v (delF f l (i / 2)) r
      | false => .node v l (delF f r (i / 2 - 1))
end Tr
noncomputable def nd : Option Ix → Bool
  | some d => Nat.beq (d % 2) 1
  | none => false
noncomputable def TB0 : Nat := 1000000007
structure St where
  hp : Tr
  nx : Nat
  sy : Nat
  lo : Nat
  hi : Nat
  loc : Ix
  cel : List (Nat × Ix)
  hd : Bool
  tb : Option Ix   -- the made code of the one inner def
  deriving Inhabited
noncomputable def St.isRo (s : St) (i : Ix) : Bool := Nat.ble s.lo i && Nat.blt i s.hi
noncomputable def St.get (s : St) (i : Ix) : Option Ob := s.hp.get i
noncomputable def St.put (s : St) (i : Ix) (o : Ob) : St := ⟨s.hp.set i o, s.nx, s.sy, s.lo, s.hi, s.loc, s.cel, s.hd, s.tb⟩
noncomputable def St.kill (s : St) (i : Ix) : St := ⟨s.hp.delF (i + 1) i, s.nx, s.sy, s.lo, s.hi, s.loc, s.cel, s.hd, s.tb⟩
noncomputable def St.wk (s : St) (i : Ix) (k : St → Bool) : Bool := match s.isRo i with | true => false | false => k (s.kill i)
noncomputable def St.wkNs (s : St) (i : Ix) (k : St → Bool) : Bool := match s.get i with
  | some (.ns _) => s.wk i k
  | _ => false
noncomputable def St.back (s t : St) : St := ⟨s.hp, s.nx, s.sy, s.lo, s.hi, t.loc, t.cel, t.hd, s.tb⟩
noncomputable def St.into (s : St) (l : Ix) (c : List (Nat × Ix)) : St := ⟨s.hp, s.nx, s.sy, s.lo, s.hi, l, c, s.hd, s.tb⟩
noncomputable def St.hold (s : St) : St := ⟨s.hp, s.nx, s.sy, s.lo, s.hi, s.loc, s.cel, true, s.tb⟩
noncomputable def St.setTb (s : St) (j : Ix) : St := ⟨s.hp, s.nx, s.sy, s.lo, s.hi, s.loc, s.cel, s.hd, some j⟩
noncomputable def St.sym (s : St) : St := ⟨s.hp, s.nx, s.sy + 1, s.lo, s.hi, s.loc, s.cel, s.hd, s.tb⟩
noncomputable def St.wr (s : St) (i : Ix) (o : Ob) (k : St → Bool) : Bool := match s.isRo i with | true => false | false => k (s.put i o)
noncomputable def St.new (s : St) (o : Ob) : St := ⟨s.hp.set s.nx o, s.nx + 1, s.sy, s.lo, s.hi, s.loc, s.cel, s.hd, s.tb⟩
noncomputable abbrev KV := AV → St → Bool
noncomputable abbrev KX := Ix → St → Bool
inductive Fl where
  | next | cont | ret (v : AV)
  deriving Inhabited

noncomputable def S0 : Nat := 1114112
noncomputable def eqP : List Nat → List Nat → Option Bool
  | [], [] => some true
  | [], b :: _ => match Nat.blt b 1114112 with | true => some false | false => none
  | a :: _, [] => match Nat.blt a 1114112 with | true => some false | false => none
  | a :: r, b :: q => match Nat.beq a b with
    | true => eqP r q
    | false => match Nat.blt a 1114112 && Nat.blt b 1114112 with | true => some false | false => none
noncomputable def eqB : Bool → Bool → Bool
  | true, b => b
  | false, true => false
  | false, false => true
noncomputable def eqI (a b : Int) : Bool := match a, b with
  | .ofNat a, .ofNat b => Nat.beq a b
  | .negSucc a, .negSucc b => Nat.beq a b
  | _, _ => false
noncomputable def eqV : AV → AV → Option Bool
  | .none, .none => some true
  | .none, .str _ => some false
  | .str _, .none => some false
  | .none, .int _ => some false
  | .int _, .none => some false
  | .bool a, .bool b => some (eqB a b)
  | .int a, .int b => some (eqI a b)
  | .str a, .str b => eqP a b
  | .opt a, .opt b => match Nat.beq a b with | true => some true | false => none
  | _, _ => none
noncomputable def eqL : List AV → List AV → Option Bool
  | [], [] => some true
  | [], _ :: _ => some false
  | _ :: _, [] => some false
  | a :: r, b :: q => match eqV a b with
    | some true => eqL r q
    | some false => match Nat.beq r.length q.length with | true => some false | false => some false
    | none => none
noncomputable def flatV : AV → Bool
  | .none => true
  | .int _ => true
  | .str _ => true
  | .opt _ => true
  | _ => false
noncomputable def flatL : List AV → Bool
  | [] => true
  | a :: r => match flatV a with | true => flatL r | false => false
noncomputable def look : List (Nat × AV) → Nat → Option AV
  | [], _ => none
  | (y, v) :: r, x => match Nat.beq y x with | true => some v | false => look r x
noncomputable def lookI : List (Nat × Ix) → Nat → Option Ix
  | [], _ => none
  | (y, v) :: r, x => match Nat.beq y x with | true => some v | false => lookI r x
noncomputable def putA : List (Nat × AV) → Nat → AV → List (Nat × AV)
  | [], x, v => [(x, v)]
  | (y, w) :: r, x, v => match Nat.beq y x with | true => (y, v) :: r | false => (y, w) :: putA r x v
noncomputable def delA : List (Nat × AV) → Nat → List (Nat × AV)
  | [], _ => []
  | (y, w) :: r, x => match Nat.beq y x with | true => delA r x | false => (y, w) :: delA r x
noncomputable def inS : List (List Nat) → List Nat → Bool
  | [], _ => false
  | k :: r, x => match eqP k x with | some true => true | _ => inS r x
noncomputable def lookK (x : List Nat) : List (List Nat × AV) → Option (Option AV)
  | [] => some none
  | (k, v) :: r => match eqP k x with
    | some true => some (some v)
    | some false => lookK x r
    | none => none
noncomputable def lookP (o : List (List Nat)) (x : List Nat) : List (List Nat × AV) → Option (Option AV)
  | [] => match inS o x with
      | true => some none
      | false => none
  | (k, v) :: r => match eqP k x with
    | some true => some (some v)
    | _ => lookP o x r
noncomputable def putK : List (List Nat × AV) → List Nat → AV → Option (List (List Nat × AV))
  | [], x, v => some [(x, v)]
  | (k, w) :: r, x, v => match eqP k x with
    | some true => some ((k, v) :: r)
    | some false => match putK r x v with | some l => some ((k, w) :: l) | none => none
    | none => none
noncomputable def lowP : List Nat → Bool
  | [] => true
  | c :: r => match Nat.blt c 1114112 with | true => lowP r | false => false
noncomputable def inL : List AV → AV → Option Bool
  | [], _ => some false
  | a :: r, x => match eqV a x with
    | some true => some true
    | some false => inL r x
    | none => none
noncomputable def nth : List AV → Nat → Option AV
  | [], _ => none
  | a :: _, 0 => some a
  | _ :: r, n + 1 => nth r n
noncomputable def dropN : Nat → List AV → List AV
  | 0, l => l
  | n + 1, _ :: r => dropN n r
  | _ + 1, [] => []
noncomputable def lastOf : List AV → Option AV
  | [] => none
  | [a] => some a
  | _ :: r => lastOf r
noncomputable def initOf : List AV → List AV
  | [] => []
  | [_] => []
  | a :: r => a :: initOf r
noncomputable def rep : Nat → List AV → List AV
  | 0, _ => []
  | n + 1, l => l ++ rep n l
noncomputable def upInt : Nat → Int → List AV
  | 0, _ => []
  | n + 1, a => .int a :: upInt n (a + 1)
noncomputable def joinC : List Nat → List AV → Option (List Nat)
  | _, [] => some []
  | _, [.str a] => some a
  | sep, .str a :: r => match joinC sep r with | some l => some (a ++ sep ++ l) | none => none
  | _, _ => none

noncomputable def okL (l : List AV) : Bool := Nat.ble l.length 1000
noncomputable def okP (l : List Nat) : Bool := Nat.ble l.length 10000
structure Fn where
  ps : List Nat
  dfl : List AV
  cells : List Nat
  body : List S
  deriving Inhabited
structure Cl where
  init : Option Nat
  flds : List Nat
  meths : List (Nat × Nat)
  exc : Bool
  deriving Inhabited
structure Glob where
  fn : Nat → Option Fn
  cl : Nat → Option Cl
  take : Nat

noncomputable def isExc (G : Glob) (C : Nat) : Bool := match G.cl C with
  | some c => c.exc
  | none => false
noncomputable def hasN : List Nat → Nat → Bool
  | [], _ => false
  | y :: r, x => match Nat.beq y x with | true => true | false => hasN r x
noncomputable def Glob.fld (G : Glob) (x : Bool) (C n : Nat) : Bool := match G.cl C with
  | some c => match eqB c.exc x with | true => hasN c.flds n | false => false
  | none => false
structure Rn where
  ev : E → St → KV → KX → Bool
  tst : E → St → (Bool → St → Bool) → KX → Bool
  exs : List S → St → (Fl → St → Bool) → KX → Bool
  call : AV → List AV → St → KV → KX → Bool
  lp : Ix → List Nat → List S → St → (Fl → St → Bool) → Bool
  lc : Ix → Ix → E → List Nat → List E → St → (St → Bool) → Bool
  dc : Ix → Ix → E → E → List Nat → List E → St → (St → Bool) → Bool

section
variable (G : Glob) (R : Rn)
noncomputable def noX : KX := fun _ _ => false
noncomputable def evs : List E → St → (List AV → St → Bool) → KX → Bool
  | [], s, k, _ => k [] s
  | e :: r, s, k, x => R.ev e s (fun v s => evs r s (fun vs s => k (v :: vs) s) x) x
noncomputable def fieldOf (s : St) (i : Ix) (n : Nat) : Option AV := match s.get i with
  | some (.inst C d) => match G.fld false C n, s.get d with | true, some (.idict fs) => look fs n | _, _ => none
  | some (.exc C (some d)) => match G.fld true C n, s.get (d / 2) with | true, some (.idict fs) => look fs n | _, _ => none
  | _ => none
noncomputable def evAttr (v : AV) (n : Nat) (s : St) (k : KV) : Bool := match v with
  | .ref i => match fieldOf G s i n with
    | some v => k v s
    | none => false
  | _ => false
noncomputable def eqO (a b : AV) (s : St) : Option Bool := match a, b with
  | .ref i, .ref j => match s.get i, s.get j with
    | some (.list l), some (.list m) => match flatL l && flatL m with | true => eqL l m | false => none
    | _, _ => none
  | a, b => eqV a b
noncomputable def inO (a b : AV) (s : St) : Option Bool := match a with
  | .str p => match b with
    | .ref j => match s.get j with
      | some (.list l) => match flatL l with | true => inL l (.str p) | false => none
      | some (.tup l) => match flatL l with | true => inL l (.str p) | false => none
      | some (.dict kv _) => match lookK p kv with | some r => some r.isSome | none => none
      | some (.pdict kv o) => match lookP o p kv with | some r => some r.isSome | none => none
      | some (.lset i o) => match inS i p with
        | true => some true
        | false => match inS o p with
          | true => some false
          | false => none
      | _ => none
    | _ => none
  | _ => none
noncomputable def isO (a b : AV) : Option Bool := match b with
  | .none => match a with | .none => some true | .opt _ => none | _ => some false
  | _ => none
noncomputable def ltO (a b : AV) : Option Bool := match a, b with | .int a, .int b => some (decide (a < b)) | _, _ => none
noncomputable def geO (a b : AV) : Option Bool := match a, b with | .int a, .int b => some (decide (b ≤ a)) | _, _ => none
noncomputable def notO : Option Bool → Option Bool
  | some b => some (!b)
  | none => none
noncomputable def cmpO (op : Nat) (a b : AV) (s : St) : Option Bool := match op with
  | 0 => eqO a b s
  | 1 => notO (eqO a b s)
  | 2 => isO a b
  | 3 => notO (isO a b)
  | 4 => inO a b s
  | 5 => notO (inO a b s)
  | 6 => ltO a b
  | 7 => ltO b a
  | 8 => geO a b
  | _ => none
noncomputable def evCmp (op : Nat) (a b : AV) (s : St) (k : KV) : Bool := match cmpO op a b s with
  | some r => k (.bool r) s
  | none => match op, a, b with
    | 0, .anyi, .int _ => match k (.bool true) s with | true => k (.bool false) s | false => false
    | _, _, _ => false
inductive Rs where
  | v (v : AV) | o (b : Ob)
noncomputable def useR (r : Option Rs) (s : St) (k : KV) : Bool := match r with
  | some (.v v) => k v s
  | some (.o b) => k (.ref s.nx) (s.new b)
  | none => false
noncomputable def newL (l : List AV) : Option Rs := match okL l with | true => some (.o (.list l)) | false => none
noncomputable def addO (a b : AV) (s : St) : Option Rs := match a, b with
  | .int a, .int b => some (.v (.int (a + b)))
  | .str a, .str b => match okP (a ++ b) with | true => some (.v (.str (a ++ b))) | false => none
  | .ref i, .ref j => match s.get i, s.get j with
    | some (.list l), some (.list m) => newL (l ++ m)
    | _, _ => none
  | _, _ => none
noncomputable def mulO (a b : AV) (s : St) : Option Rs := match a, b with
  | .ref i, .int (.ofNat n) => match s.get i with
    | some (.list l) => match Nat.ble n 1000 with | true => newL (rep n l) | false => none
    | _ => none
  | _, _ => none
noncomputable def binO (op : Nat) (a b : AV) (s : St) : Option Rs := match op with
  | 0 => addO a b s
  | 1 => mulO a b s
  | _ => none
noncomputable def evBin (op : Nat) (a b : AV) (s : St) (k : KV) : Bool := useR (binO op a b s) s k
noncomputable def incr (a b : AV) (s : St) (k : KV) : Bool := match a, b with
  | .int a, .int b => k (.int (a + b)) s
  | _, _ => false
noncomputable def iterOf (v : AV) (s : St) (k : Ix → St → Bool) : Bool := match v with
  | .ref j => match s.get j with
    | some (.list _) => k s.nx (s.new (.itL j 0))
    | some (.tup _) => k s.nx (s.new (.itT j 0))
    | some (.range (.ofNat a) (.ofNat b)) => match Nat.ble a b && Nat.ble b 1000000 with
      | true => k s.nx (s.new (.itR (.ofNat a) (b - a)))
      | false => false
    | some (.itV _ _) => k j s
    | some .itVe => k j s
    | some (.dict kv ep) => k s.nx (s.new (.itD j 0 kv.length ep))
    | _ => false
  | _ => false
noncomputable def endI (i : Ix) (s : St) (k : Option AV → St → Bool) : Bool := match s.hd with
  | true => false
  | false => s.wk i (k none)
noncomputable def nextI (i : Ix) (s : St) (k : Option AV → St → Bool) : Bool := match s.get i with
    | some (.itL j n) => match s.get j with
      | some (.list l) => match nth l n with
        | some v => s.wr i (.itL j (n + 1)) (k (some v))
        | none => s.wk i (k none)
      | _ => false
    | some (.itT j n) => match s.get j with
      | some (.tup l) => match nth l n with
        | some v => s.wr i (.itT j (n + 1)) (k (some v))
        | none => endI i s k
      | _ => false
    | some (.itR a n) => match n with
      | m + 1 => s.wr i (.itR (a + 1) m) (k (some (.int a)))
      | 0 => endI i s k
    | some (.itV j n) => match s.get j with
      | some (.list l) => match nth l n with
        | some v => match n with
          | m + 1 => s.wr i (.itV j m) (k (some v))
          | 0 => s.wr i .itVe (k (some v))
        | none => false
      | _ => false
    | some .itVe => endI i s k
    | some (.itD j n m ep) => match s.get j with
      | some (.dict kv ep') => match Nat.beq ep ep' && Nat.beq m kv.length with
        | true => match nth (kv.map fun p => .str p.1) n with
          | some v => s.wr i (.itD j (n + 1) m ep) (k (some v))
          | none => endI i s k
        | false => false
      | _ => false
    | _ => false
noncomputable def storeLoc (x : Nat) (v : AV) (s : St) (k : St → Bool) : Bool := match s.get s.loc with
  | some (.ns fs) => s.wr s.loc (.ns (putA fs x v)) k
  | _ => false
noncomputable def storeCel (x : Nat) (v : AV) (s : St) (k : St → Bool) : Bool := match lookI s.cel x with
  | some c => match s.get c with
    | some (.cell _) => s.wr c (.cell (some v)) k
    | _ => false
  | none => false
noncomputable def storeAll : List Nat → List AV → St → (St → Bool) → Bool
  | [], [], s, k => k s
  | x :: xs, v :: vs, s, k => storeLoc x v s fun s => storeAll xs vs s k
  | _, _, _, _ => false
noncomputable def storeTg (t : List Nat) (v : AV) (s : St) (k : St → Bool) : Bool := match t with
  | [x] => storeLoc x v s k
  | xs => match s.hd, v with
    | false, .ref i => match s.get i with
      | some (.tup l) => storeAll xs l s k
      | _ => false
    | _, _ => false
noncomputable def setAttr (o : AV) (n : Nat) (v : AV) (s : St) (k : St → Bool) : Bool := match o with
  | .ref i => match s.get i with
    | some (.inst C d) => match G.fld false C n, s.get d with | true, some (.idict fs) => (match Nat.ble fs.length 100 with | true => s.wr d (.idict (putA fs n v)) k | false => false) | _, _ => false
    | some (.exc C (some d)) => match G.fld true C n, s.get (d / 2) with | true, some (.idict fs) => (match Nat.ble fs.length 100 with | true => s.wr (d / 2) (.idict (putA fs n v)) k | false => false) | _, _ => false
    | some (.exc C none) => match G.fld true C n with | true => (s.new (.idict [])).wr i (.exc C (some (2 * s.nx))) fun s1 => s1.wr s.nx (.idict (putA [] n v)) k | false => false
    | _ => false
  | _ => false
noncomputable def epO (a b ep : Nat) : Nat := match Nat.beq a b with
  | true => ep
  | false => ep + 1
noncomputable def setSub (o i v : AV) (s : St) (k : St → Bool) : Bool := match o with
  | .ref j => match s.get j with
    | some (.dict kv ep) => match i with
      | .str p => match Nat.ble kv.length 1000, putK kv p v with | true, some l => s.wr j (.dict l (epO l.length kv.length ep)) k | _, _ => false
      | _ => false
    | some (.list l) => match i with
      | .int (.ofNat n) => match Nat.ble n 1000, nth l n with
        | true, some _ => s.wr j (.list (l.set n v)) k
        | _, _ => false
      | _ => false
    | _ => false
  | _ => false
noncomputable def asg (t : Tg) (v : AV) (s : St) (k : St → Bool) (x : KX) : Bool := match t with
  | .loc n => storeLoc n v s k
  | .cel n => storeCel n v s k
  | .tup xs => storeTg xs v s k
  | .attr o n => R.ev o s (fun o s => setAttr G o n v s k) x
  | .sub o i => R.ev o s (fun o s => R.ev i s (fun i s => setSub o i v s k) x) x
noncomputable def valO : Option AV → Option Rs
  | some v => some (.v v)
  | none => none
noncomputable def keyO : Option (Option AV) → Option Rs
  | some (some v) => some (.v v)
  | _ => none
noncomputable def subO (o i : AV) (s : St) : Option Rs := match o with
  | .ref j => match s.get j with
    | some (.list l) => match i with
      | .int (.ofNat n) => match Nat.ble n 1000 with | true => valO (nth l n) | false => none
      | .int (.negSucc 0) => valO (lastOf l)
      | _ => none
    | some (.tup l) => match i with
      | .int (.ofNat n) => match Nat.ble n 1000 with | true => valO (nth l n) | false => none
      | _ => none
    | some (.dict kv _) => match i with
      | .str p => keyO (lookK p kv)
      | _ => none
    | some (.pdict kv o) => match i with
      | .str p => keyO (lookP o p kv)
      | _ => none
    | _ => none
  | _ => none
noncomputable def getSub (o i : AV) (s : St) (k : KV) : Bool := useR (subO o i s) s k
noncomputable def fromO (o lo : AV) (s : St) : Option Rs := match o, lo with
  | .ref j, .int (.ofNat n) => match s.get j with
    | some (.list l) => match okL l with | true => some (.o (.list (dropN n l))) | false => none
    | _ => none
  | _, _ => none
noncomputable def bindPs : List Nat → List AV → List AV → Option (List (Nat × AV))
  | [], [], _ => some []
  | p :: ps, v :: vs, d => match bindPs ps vs d with | some l => some ((p, v) :: l) | none => none
  | p :: ps, [], d => match Nat.blt ps.length d.length with
    | true => match nth d (d.length - (ps.length + 1)) with
      | some v => match bindPs ps [] d with | some l => some ((p, v) :: l) | none => none
      | none => none
    | false => none
  | [], _ :: _, _ => none
noncomputable def splitCells (cells : List Nat) : List (Nat × AV) → List (Nat × AV)
  | [] => []
  | (x, v) :: r => match cells.any (Nat.beq x) with
    | true => splitCells cells r
    | false => (x, v) :: splitCells cells r
noncomputable def mkCells : List Nat → List (Nat × AV) → St → List (Nat × Ix) → St × List (Nat × Ix)
  | [], _, s, l => (s, l)
  | x :: r, b, s, l => mkCells r b (s.new (.cell (look b x))) ((x, s.nx) :: l)
noncomputable def noteE (i : Ix) (s : St) (k : St → Bool) : Bool := match s.get i with
  | some (.exc C (some d)) => s.wr i (.exc C (some (2 * (d / 2) + 1))) k
  | _ => false
noncomputable def enter (f : Fn) (clo : List (Nat × Ix)) (args : List AV) (s : St) (k : KV) (x : KX) : Bool :=
  match bindPs f.ps args f.dfl, s.isRo s.nx with
  | none, _ => false
  | _, true => false
  | some b, false =>
    let s1 := s.new (.ns (splitCells f.cells b))
    match mkCells f.cells b s1 clo with
    | (s2, cs) => R.exs f.body (s2.into s.nx cs)
        (fun fl s3 => match fl with
          | .ret v => k v (s3.back s)
          | .next => k .none (s3.back s)
          | .cont => false)
        (fun i s3 => noteE i s3 fun s3 => x i (s3.back s))
noncomputable def isNone : AV → Bool | .none => true | _ => false
noncomputable def takes : Nat → (Nat → Bool) → Bool
  | 0, _ => true
  | n + 1, k => match k n with | true => takes n k | false => false
noncomputable def lenO (args : List AV) (s : St) : Option Rs := match args with
  | [.ref i] => match s.get i with
    | some (.list l) => match okL l with | true => some (.v (.int l.length)) | false => none
    | _ => none
  | _ => none
noncomputable def listO (args : List AV) (s : St) : Option Rs := match args with
  | [.ref i] => match s.get i with
    | some (.list l) => newL l
    | _ => none
  | _ => none
noncomputable def rangeO (args : List AV) : Option Rs := match args with
  | [.int b] => some (.o (.range 0 b))
  | [.int a, .int b] => some (.o (.range a b))
  | _ => none
noncomputable def isiO (args : List AV) (s : St) : Option Rs := match args with
  | [.ref i, .fn c] => match s.get i with
    | some (.inst C d) => match s.get d with
      | some (.idict _) => some (.v (.bool (Nat.beq C c)))
      | _ => none
    | _ => none
  | _ => none
noncomputable def strO (args : List AV) : Option Rs := match args with
  | [.str p] => some (.v (.str p))
  | _ => none
noncomputable def revO (args : List AV) (s : St) : Option Rs := match args with
  | [.ref i] => match s.get i with
    | some (.list l) => match l.length with
      | m + 1 => some (.o (.itV i m))
      | 0 => some (.o .itVe)
    | _ => none
  | _ => none
noncomputable def biO (n : Nat) (args : List AV) (s : St) : Option Rs := match n with
  | 0 => lenO args s
  | 1 => listO args s
  | 2 => rangeO args
  | 4 => isiO args s
  | 5 => strO args
  | 6 => revO args s
  | _ => none
noncomputable def getO : Option (Option AV) → Option Rs
  | some (some v) => some (.v v)
  | some none => some (.v .none)
  | none => none
noncomputable def joinO (p : List Nat) (l : List AV) : Option Rs := match joinC p l with
  | some r => match okP p && okP r with | true => some (.v (.str r)) | false => none
  | none => none
noncomputable def appB (args : List AV) (s : St) (k : KV) : Bool := match args with
  | [.ref i, v] => match s.get i with
    | some (.list l) => match okL l with | true => s.wr i (.list (l ++ [v])) (k .none) | false => false
    | _ => false
  | _ => false
noncomputable def popB (args : List AV) (s : St) (k : KV) : Bool := match args with
  | [.ref i] => match s.get i with
    | some (.list l) => match okL l, lastOf l with | true, some v => s.wr i (.list (initOf l)) (k v) | _, _ => false
    | _ => false
  | _ => false
noncomputable def dgetO (args : List AV) (s : St) : Option Rs := match args with
  | [.ref i, .str p] => match s.get i with
    | some (.dict kv _) => getO (lookK p kv)
    | some (.pdict kv out) => getO (lookP out p kv)
    | _ => none
  | _ => none
noncomputable def sjoinO (args : List AV) (s : St) : Option Rs := match args with
  | [.str p, .ref i] => match s.get i with
    | some (.list l) => joinO p l
    | _ => none
  | _ => none
noncomputable def callB (n : Nat) (args : List AV) (s : St) (k : KV) : Bool := match n with
  | 100 => appB args s k
  | 101 => popB args s k
  | 102 => useR (dgetO args s) s k
  | 103 => useR (sjoinO args s) s k
  | n => useR (biO n args s) s k
noncomputable def methO (o : AV) (n : Nat) (s : St) : Option (AV × List AV) := match o with
  | .ref i => match s.get i with
    | some (.inst C d) => match s.get d with
      | some (.idict fs) => match look fs n with
        | some v => match G.fld false C n with | true => some (v, []) | false => none
        | none => match G.cl C with
          | some c => match c.exc, lookI c.meths n with
            | false, some f => some (.fn f, [o])
            | _, _ => none
          | none => none
      | _ => none
    | some (.list _) => match n with
      | 0 => some (.bi 100, [o])
      | 1 => some (.bi 101, [o])
      | _ => none
    | some (.dict _ _) => match n with
      | 2 => some (.bi 102, [o])
      | _ => none
    | some (.pdict _ _) => match n with
      | 2 => some (.bi 102, [o])
      | _ => none
    | _ => none
  | .str _ => match n with
    | 3 => some (.bi 103, [o])
    | _ => none
  | _ => none
noncomputable def isiG (n : Nat) (args : List AV) (s : St) : Bool := match n with
  | 4 => match args with
    | [.ref i, .fn c] => match s.get i with
      | some (.inst C _) => match G.cl C, G.cl c with
        | some cc, some _ => eqB cc.exc false
        | _, _ => false
      | _ => false
    | _ => false
  | _ => true
noncomputable def callF (v : AV) (args : List AV) (s : St) (k : KV) (x : KX) : Bool := match v with
  | .fn a => match Nat.blt a 100000, Nat.beq a G.take with
    | false, _ => false
    | true, true => match args with
      | [.ref i, .int (.ofNat (n + 1))] => match s.get i with
        | some (.src j) => match s.get j, s.isRo i || s.isRo j with
          | some .nums, false => match Nat.ble n 1000, Nat.beq n 2 with
            | true, true => k .anyi s
            | true, false => takes (n + 1) fun m => k (.int (.ofNat m)) s
            | false, _ => false
          | _, _ => false
        | _ => false
      | _ => false
    | true, false => match G.fn a with
      | some f => enter R f [] args s k x
      | none => match G.cl a with
        | some c =>
          match c.exc with
          | true => match c.init with
            | some i => match G.fn i with
              | some f => enter R f [] (.ref s.nx :: args) (s.new (.exc a none)) (fun v s2 => match v with | .none => k (.ref s.nx) s2 | _ => false) x
              | none => false
            | none => false
          | false => match c.init with
            | some i => match G.fn i with
              | some f => enter R f [] (.ref (s.nx + 1) :: args) ((s.new (.idict [])).new (.inst a s.nx)) (fun v s2 => match v with | .none => k (.ref (s.nx + 1)) s2 | _ => false) x
              | none => false
            | none => false
        | none => false
  | .ref i => match s.get i with
    | some (.clo ps b cs j) => match s.get j with
      | some .code => enter R ⟨ps, [], [], b⟩ cs args s k x
      | _ => false
    | _ => false
  | .bi n => match isiG G n args s with
    | true => callB n args s k
    | false => false
  | _ => false
noncomputable def ifsT : List E → St → (Bool → St → Bool) → KX → Bool
  | [], s, k, _ => k true s
  | e :: r, s, k, x => R.tst e s (fun b s => match b with | true => ifsT r s k x | false => k false s) x
noncomputable def tgI (tg : List Nat) (i : Ix) (s : St) : Bool := match tg with
  | [_] => true
  | _ => match s.get i with | some (.itL _ _) => true | _ => false
noncomputable def emitL (a : Ix) (elt : E) (s : St) (k : St → Bool) : Bool := R.ev elt s (fun v s => match s.get a with
  | some (.list l) => match okL l with | true => s.wr a (.list (l ++ [v])) k | false => false
  | _ => false) noX
noncomputable def lcS (i a : Ix) (elt : E) (tg : List Nat) (ifs : List E) (s : St) (k : St → Bool) : Bool := nextI i s fun o s => match o with
  | none => k s
  | some v => match tgI tg i s with
   | false => false
   | true => storeTg tg v s fun s => ifsT R ifs s (fun b s => match b with
    | true => emitL R a elt s fun s => R.lc i a elt tg ifs s k
    | false => R.lc i a elt tg ifs s k) noX
noncomputable def emitD (a : Ix) (ke ve : E) (s : St) (k : St → Bool) : Bool := R.ev ke s (fun kv s => R.ev ve s (fun v s => match s.get a with
  | some (.dict _ _) => setSub (.ref a) kv v s k
  | _ => false) noX) noX
noncomputable def dcS (i a : Ix) (ke ve : E) (tg : List Nat) (ifs : List E) (s : St) (k : St → Bool) : Bool := nextI i s fun o s => match o with
  | none => k s
  | some v => match tgI tg i s with
   | false => false
   | true => storeTg tg v s fun s => ifsT R ifs s (fun b s => match b with
    | true => emitD R a ke ve s fun s => R.dc i a ke ve tg ifs s k
    | false => R.dc i a ke ve tg ifs s k) noX
noncomputable def lpS (i : Ix) (t : List Nat) (body : List S) (s : St) (k : Fl → St → Bool) : Bool := nextI i s fun o s => match o with
  | none => k .next s
  | some v => match tgI t i s with
   | false => false
   | true => storeTg t v s fun s => R.exs body s (fun fl s => match fl with
      | .ret v => k (.ret v) s
      | _ => R.lp i t body s k) noX
noncomputable def keepC : List (Nat × Ix) → List Nat → Option (List (Nat × Ix))
  | _, [] => some []
  | cs, x :: r => match lookI cs x, keepC cs r with | some i, some l => some ((x, i) :: l) | _, _ => none
noncomputable def evE (e : E) (s : St) (k : KV) (x : KX) : Bool := match e with
  | .k c => k c s
  | .loc n => match s.get s.loc with
    | some (.ns fs) => match look fs n with | some v => k v s | none => false
    | _ => false
  | .cel n => match lookI s.cel n with
    | some c => match s.get c with | some (.cell (some v)) => k v s | _ => false
    | none => false
  | .attr o n => R.ev o s (fun v s => evAttr G v n s k) x
  | .mcall o n as => R.ev o s (fun v s => match methO G v n s with
      | some (f, first) => evs R as s (fun vs s => R.call f (first ++ vs) s k x) x
      | none => false) x
  | .call f as => R.ev f s (fun v s => evs R as s (fun vs s => R.call v vs s k x) x) x
  | .bin op a b => R.ev a s (fun a s => R.ev b s (fun b s => evBin op a b s k) x) x
  | .neg a => R.ev a s (fun v s => match v with | .int n => k (.int (-n)) s | _ => false) x
  | .notE a => R.ev a s (fun v s => match v with | .bool b => k (.bool (!b)) s | _ => false) x
  | .cmp op a b => R.ev a s (fun a s => R.ev b s (fun b s => evCmp op a b s k) x) x
  | .bool _ [] => false
  | .bool _ [a] => R.ev a s k x
  | .bool i (a :: r) => R.ev a s (fun v s => match v with
      | .bool b => match eqB b i with
        | true => R.ev (.bool i r) s k x
        | false => k v s
      | _ => false) x
  | .ite c a b => R.tst c s (fun t s => match t with | true => R.ev a s k x | false => R.ev b s k x) x
  | .list es => evs R es s (fun vs s => match okL vs with | true => k (.ref s.nx) (s.new (.list vs)) | false => false) x
  | .tup es => evs R es s (fun vs s => match okL vs with | true => k (.ref s.nx) (s.new (.tup vs)) | false => false) x
  | .dict [] [] => k (.ref s.nx) (s.new (.dict [] 0))
  | .dict [a] [b] => R.ev a (s.new (.dict [] 0)) (fun a s2 => R.ev b s2 (fun b s3 => match s3.get s.nx with
      | some (.dict _ _) => setSub (.ref s.nx) a b s3 fun s4 => k (.ref s.nx) s4
      | _ => false) x) x
  | .dict _ _ => false
  | .sub o i => R.ev o s (fun o s => R.ev i s (fun i s => getSub o i s k) x) x
  | .from_ o lo => R.ev o s (fun o s => R.ev lo s (fun lo s => useR (fromO o lo s) s k) x) x
  | .lcomp elt tg it ifs cs => match keepC s.cel cs with
      | some cl => R.ev it s (fun v s => iterOf v s fun i s => R.lc i s.nx elt tg ifs (((s.new (.list [])).new (.ns [])).into (s.nx + 1) cl) fun s3 => s3.wkNs (s.nx + 1) fun s4 => k (.ref s.nx) (s4.back s)) x
      | none => false
  | .dcomp ke ve tg it ifs cs => match keepC s.cel cs with
      | some cl => R.ev it s (fun v s => iterOf v s fun i s => R.dc i s.nx ke ve tg ifs (((s.new (.dict [] 0)).new (.ns [])).into (s.nx + 1) cl) fun s3 => s3.wkNs (s.nx + 1) fun s4 => k (.ref s.nx) (s4.back s)) x
      | none => false
  | .menu vs f src n => match Nat.beq f G.take && okL vs, n with
    | true, 4 => R.ev src (s.new (.list vs)) (fun v s1 => match v with
        | .ref i => match s1.get i with
          | some (.src j) => match s1.get j, s1.get s.nx, s1.isRo i || s1.isRo j with
            | some .nums, some (.list [.str a, .str b, .str c, .none]), false => match Nat.ble a.length 50 && Nat.ble b.length 50 && Nat.ble c.length 50 && lowP a && lowP b && lowP c with
              | true => k (.opt s1.sy) s1.sym.sym
              | false => false
            | _, _, _ => false
          | _ => false
        | _ => false) x
    | _, _ => false
  | .nas n => match s.get s.loc with
    | some (.ns fs) => match look fs n with
      | some (.opt j) => k (.str [1114112 + j]) s
      | some (.str p) => k (.str p) s
      | some .none => k (.str [78, 65]) s
      | _ => false
    | _ => false
  | .bad => false
noncomputable def tstE (e : E) (s : St) (k : Bool → St → Bool) (x : KX) : Bool := match e with
  | .notE a => R.tst a s (fun b s => k (!b) s) x
  | .bool i [] => k i s
  | .bool i (a :: r) => R.tst a s (fun b s => match eqB b i with
      | true => R.tst (.bool i r) s k x
      | false => k b s) x
  | .ite c a b => R.tst c s (fun t s => match t with | true => R.tst a s k x | false => R.tst b s k x) x
  | e => R.ev e s (fun v s => match v with | .bool b => k b s | _ => false) x
noncomputable def delLoc (x : Nat) (s : St) (k : St → Bool) : Bool := match s.get s.loc with
  | some (.ns fs) => s.wr s.loc (.ns (delA fs x)) k
  | _ => false
noncomputable def handle (h : Bool) (i : Ix) (C : Nat) : List (Nat × Option Nat × List S) → St → (Fl → St → Bool) → KX → Bool
  | [], s, _, x => x i s
  | (c, n, body) :: r, s, k, x => match isExc G c with
    | false => false
    | true => match Nat.beq C c with
      | true => match n with
        | some n => storeLoc n (.ref i) s.hold fun s => R.exs body s (fun fl s => delLoc n s fun s => k fl ⟨s.hp, s.nx, s.sy, s.lo, s.hi, s.loc, s.cel, h, s.tb⟩) noX
        | none => false
      | false => handle h i C r s k x
noncomputable def finN (fin : List S) (k : Fl → St → Bool) (fl : Fl) (s : St) : Bool := match fin with
  | [] => k fl s
  | fin => R.exs fin s (fun f s => match f with | .next => k fl s | _ => false) noX
noncomputable def finX (fin : List S) (x : KX) (i : Ix) (s : St) : Bool := match fin with
  | [] => x i s
  | fin => noteE i s fun s => R.exs fin s.hold (fun f s3 => match f with | .next => x i ⟨s3.hp, s3.nx, s3.sy, s3.lo, s3.hi, s3.loc, s3.cel, s.hd, s3.tb⟩ | _ => false) noX
noncomputable def exS (st : S) (s : St) (k : Fl → St → Bool) (x : KX) : Bool := match st with
  | .expr e => R.ev e s (fun _ s => k .next s) x
  | .pass => k .next s
  | .cont => k .cont s
  | .ret e => R.ev e s (fun v s => k (.ret v) s) x
  | .asg t e => R.ev e s (fun v s => asg G R t v s (fun s => k .next s) x) x
  | .aug o n e => R.ev o s (fun o s => evAttr G o n s fun old s => R.ev e s (fun v s => incr old v s fun w s => setAttr G o n w s fun s => k .next s) x) x
  | .augn n e => R.ev (.loc n) s (fun old s => R.ev e s (fun v s => incr old v s fun w s => storeLoc n w s fun s => k .next s) x) x
  | .iff c a b => R.tst c s (fun t s => match t with | true => R.exs a s k x | false => R.exs b s k x) x
  | .for t it body => R.ev it s (fun v s => iterOf v s fun i s => R.lp i t body s k) x
  | .while c body => R.tst c s (fun t s => match t with
      | true => R.exs body s (fun fl s => match fl with
        | .ret v => k (.ret v) s
        | _ => R.exs [.while c body] s k noX) noX
      | false => k .next s) noX
  | .raise e => R.ev e s (fun v s => match s.hd, v with
      | false, .ref i => match s.get i with
        | some (.exc C _) => match isExc G C with | true => x i s | false => false
        | _ => false
      | _, _ => false) x
  | .try_ body hs fin => R.exs body s (finN R fin k)
      (fun i s => noteE i s fun s => match s.get i with
        | some (.exc C _) => match isExc G C with
          | false => false
           | true => handle G R s.hd i C hs s (finN R fin k) (finX R fin x)
        | _ => false)
  | .defc n ps b cs => match keepC s.cel cs with
    | some cl => match s.tb with
      | none => storeLoc n (.ref (s.nx + 1)) (((s.new .code).setTb s.nx).new (.clo ps b cl s.nx)) fun s => k .next s
      | some j => match s.get j, Nat.beq j TB0 with
        | some .code, false => storeLoc n (.ref s.nx) (s.new (.clo ps b cl j)) fun s => k .next s
        | _, _ => false
    | none => false
  | .reraise => false
  | .bad => false
noncomputable def exsL : List S → St → (Fl → St → Bool) → KX → Bool
  | [], s, k, _ => k .next s
  | a :: r, s, k, x => exS G R a s (fun fl s => match fl with
      | .next => exsL r s k x
      | fl => k fl s) x
noncomputable def stepR : Rn := ⟨evE G R, tstE R, exsL G R, callF G R, lpS R, lcS R, dcS R⟩
end
noncomputable def run (G : Glob) : Nat → Rn
  | 0 => ⟨fun _ _ _ _ => false, fun _ _ _ _ => false, fun _ _ _ _ => false, fun _ _ _ _ _ => false, fun _ _ _ _ _ => false, fun _ _ _ _ _ _ _ => false, fun _ _ _ _ _ _ _ _ => false⟩
  | n + 1 => stepR G (run G n)
end Mine
end
section
set_option genInjectivity false
set_option genSizeOf false
set_option tactic.hygienic false
open PySem
namespace Mine
structure Cx where
  kinds : List (Str × NameKind)
  gl : Str → Option AV
  id : Str → Option Nat
  own : Option (Str × Pos)   -- the def that the text makes, and its place
noncomputable def cps (s : Str) : List Nat := s.cps.toList
noncomputable def lowAll : List Nat → Bool
  | [] => true
  | c :: r => match Nat.blt c 1114112 with | true => lowAll r | false => false
noncomputable def constAV : Const → Option AV
  | .none => some .none
  | .bool b => some (.bool b)
  | .int n => some (.int n)
  | .str s => match lowAll (cps s) with | true => some (.str (cps s)) | false => none
  | _ => none
noncomputable def constsOf : List Expr → Option (List AV)
  | [] => some []
  | .Constant c _ _ :: r => match constAV c, constsOf r with | some a, some l => some (a :: l) | _, _ => none
  | _ => none
noncomputable def cmpN : CmpOp → Nat
  | .Eq => 0 | .NotEq => 1 | .Is => 2 | .IsNot => 3 | .In => 4 | .NotIn => 5 | .Lt => 6 | .Gt => 7 | .GtE => 8 | .LtE => 9
noncomputable def binN : Operator → Nat
  | .Add => 0 | .Mult => 1 | _ => 9
noncomputable def nameE (cx : Cx) (x : Str) : E := match x == "__debug__" || x == "__classdict__" with
  | true => .bad
  | false => match cx.kinds.lookup x with
    | some .local => match cx.id x with | some n => .loc n | none => .bad
    | some .cell => match cx.id x with | some n => .cel n | none => .bad
    | some .free => match cx.id x with | some n => .cel n | none => .bad
    | some .globalImplicit => match cx.gl x with | some v => .k v | none => .bad
    | _ => .bad
noncomputable def thenO {α β : Type} (o : Option α) (f : α → Option β) : Option β := match o with
  | some a => f a
  | none => none
noncomputable def tgNames (cx : Cx) : List Expr → Option (List Nat)
  | [] => some []
  | .Name x _ :: r => match cx.kinds.lookup x == some .local with | true => thenO (cx.id x) fun n => thenO (tgNames cx r) fun l => some (n :: l) | false => none
  | _ => none
noncomputable def tgOf (cx : Cx) : Expr → Option (List Nat)
  | .Name x _ => match cx.kinds.lookup x == some .local with | true => thenO (cx.id x) fun n => some [n] | false => none
  | .Tuple es _ _ => match es with | _ :: _ :: _ => tgNames cx es | _ => none
  | _ => none
noncomputable def freesOf (cx : Cx) : List (Str × NameKind) → Option (List Nat)
  | [] => some []
  | (x, .free) :: r => match cx.id x, freesOf cx r with | some n, some l => some (n :: l) | _, _ => none
  | _ :: r => freesOf cx r
noncomputable def notSuper : Expr → Bool
  | .Call (.Name _ _) [] [] _ => false
  | _ => true
noncomputable def notSet : Expr → Bool
  | .Set .. => false
  | _ => true
noncomputable def isSlice : Expr → Bool
  | .Slice .. => true
  | _ => false
noncomputable def plainArgs : List Expr → Bool
  | [] => true
  | .Starred .. :: _ => false
  | _ :: r => plainArgs r
noncomputable def scOk (sc : Scope) : Bool := (sc.kind == .function) && sc.names.all fun x => x.2 != .cell && (sc.names.lookup x.1 == some x.2)
noncomputable def compB (f : Expr → E) : BoolOp → List Expr → E
  | .And, vs => .bool true (vs.map f)
  | .Or, vs => .bool false (vs.map f)
noncomputable def compU (f : Expr → E) : UnaryOp → Expr → E
  | .Not, a => .notE (f a)
  | .USub, a => .neg (f a)
  | _, _ => .bad
noncomputable def isName : Expr → Option Str
  | .Name x _ => some x
  | _ => none
noncomputable def isStrC : Expr → Option Str
  | .Constant (.str s) _ _ => some s
  | _ => none
noncomputable def isNoneC : Expr → Bool
  | .Constant .none _ _ => true
  | _ => false
noncomputable def isIntC : Expr → Option Int
  | .Constant (.int m) _ _ => some m
  | _ => none
noncomputable def isIs : List CmpOp → Bool
  | [.Is] => true
  | _ => false
noncomputable def oneE : List Expr → Option Expr
  | [r] => some r
  | _ => none
noncomputable def nasP (t a b : Expr) : Option (Str × Str × Str) := match t with
  | .Compare l ops rs _ => match isIs ops with
    | true => thenO (isName l) fun y => thenO (oneE rs) fun r => thenO (isStrC a) fun s => thenO (isName b) fun z => match isNoneC r with | true => some (y, s, z) | false => none
    | false => none
  | _ => none
noncomputable def compIf (f : Expr → E) (cx : Cx) (t a b : Expr) : E := match nasP t a b with
  | some (y, s, z) => match y == z && (s == ("NA" : Str)) && !(y == ("__debug__" : Str)) && cx.kinds.lookup y == some .local, cx.id y with
    | true, some i => .nas i
    | _, _ => .bad
  | none => .ite (f t) (f a) (f b)
noncomputable def oneK : List (Option Expr) → Option Expr
  | [some k] => some k
  | _ => none
noncomputable def compD (f : Expr → E) (ks : List (Option Expr)) (vs : List Expr) : E := match ks.isEmpty && vs.isEmpty with
  | true => .dict [] []
  | false => match oneK ks, oneE vs with
    | some k, some v => .dict [f k] [f v]
    | _, _ => .bad
noncomputable def oneOp : List CmpOp → Option CmpOp
  | [op] => some op
  | _ => none
noncomputable def compCmp (f : Expr → E) (a : Expr) (ops : List CmpOp) (rs : List Expr) : E := match oneOp ops, oneE rs with
  | some op, some b => match behindInMarks op b with | false => .cmp (cmpN op) (f a) (f b) | true => .bad
  | _, _ => .bad
noncomputable def attrOf : Expr → Option (Expr × Str × Pos)
  | .Attribute o m p => some (o, m, p)
  | _ => none
noncomputable def compCall (f : Expr → E) (cx : Cx) (g : Expr) (as : List Expr) (ks : List Keyword) (p : Pos) : E := match ks with
  | [] => match attrOf g with
    | some (o, m, ap) => match cx.id m, notSuper o && plainArgs as && Nat.ble as.length 25 && (ap.endLine == p.line) with | some m, true => .mcall (f o) m (as.map f) | _, _ => .bad
    | none => match plainArgs as with | true => .call (f g) (as.map f) | false => .bad
  | _ => .bad
noncomputable def listOf : Expr → Option (List Expr)
  | .List es _ => some es
  | _ => none
noncomputable def callOf : Expr → Option (Expr × List Expr)
  | .Call g as ks _ => match ks with | [] => some (g, as) | _ => none
  | _ => none
noncomputable def twoE : List Expr → Option (Expr × Expr)
  | [a, b] => some (a, b)
  | _ => none
noncomputable def menuP (o i : Expr) : Option (List Expr × Str × Expr × Int) := match listOf o, callOf i with
  | some es, some (g, as) => match isName g, twoE as with
    | some x, some (src, c) => match isIntC c with | some m => some (es, x, src, m) | none => none
    | _, _ => none
  | _, _ => none
noncomputable def fromP : Expr → Option Expr
  | .Slice (some lo) none none _ => some lo
  | _ => none
noncomputable def fnOf : E → Option Nat
  | .k (.fn a) => some a
  | _ => none
noncomputable def compSub (f : Expr → E) (cx : Cx) (o i : Expr) : E := match menuP o i with
  | some (es, g, src, m) => match constsOf es, fnOf (nameE cx g) with
    | some vs, some a => match plainArgs [src] with | true => .menu vs a (f src) m.toNat | false => .bad
    | _, _ => .bad
  | none => match fromP i with
    | some lo => .from_ (f o) (f lo)
    | none => match isSlice i with | false => .sub (f o) (f i) | true => .bad
noncomputable def isZ (i : Int) : Bool := match i with
  | .ofNat n => Nat.beq n 0
  | .negSucc _ => false
noncomputable def oneC : List Comprehension → Option Comprehension
  | [c] => some c
  | _ => none
noncomputable def compLC (F : Cx → Expr → E) (cx : Cx) (elt : Expr) (gs : List Comprehension) (sc : Scope) : E := match oneC gs with
  | some c =>
    let cx' : Cx := ⟨sc.names, cx.gl, cx.id, none⟩
    match tgOf cx' c.target, freesOf cx sc.names, notSet c.iter && scOk sc && isZ c.is_async with
    | some t, some fr, true => .lcomp (F cx' elt) t (F cx c.iter) (c.ifs.map (F cx')) fr
    | _, _, _ => .bad
  | none => .bad
noncomputable def compDC (F : Cx → Expr → E) (cx : Cx) (ke ve : Expr) (gs : List Comprehension) (sc : Scope) : E := match oneC gs with
  | some c =>
    let cx' : Cx := ⟨sc.names, cx.gl, cx.id, none⟩
    match tgOf cx' c.target, freesOf cx sc.names, notSet c.iter && scOk sc && isZ c.is_async with
    | some t, some fr, true => .dcomp (F cx' ke) (F cx' ve) t (F cx c.iter) (c.ifs.map (F cx')) fr
    | _, _, _ => .bad
  | none => .bad
noncomputable def compE : Nat → Cx → Expr → E
  | 0, _, _ => .bad
  | n + 1, cx, e => match e with
    | .Constant c _ _ => match constAV c with | some v => .k v | none => .bad
    | .Name x _ => nameE cx x
    | .BoolOp op vs _ => compB (compE n cx) op vs
    | .BinOp a op b _ => .bin (binN op) (compE n cx a) (compE n cx b)
    | .UnaryOp op a _ => compU (compE n cx) op a
    | .IfExp t a b _ => compIf (compE n cx) cx t a b
    | .Dict ks vs _ => compD (compE n cx) ks vs
    | .List es _ => match plainArgs es with | true => .list (es.map (compE n cx)) | false => .bad
    | .Tuple es _ _ => match plainArgs es with | true => .tup (es.map (compE n cx)) | false => .bad
    | .Compare a ops rs _ => compCmp (compE n cx) a ops rs
    | .Call g as ks p => compCall (compE n cx) cx g as ks p
    | .Attribute o m _ => match cx.id m, notSuper o with | some m, true => .attr (compE n cx o) m | _, _ => .bad
    | .Subscript o i _ => compSub (compE n cx) cx o i
    | .ListComp elt gs sc _ => compLC (compE n) cx elt gs sc
    | .DictComp ke ve gs sc _ => compDC (compE n) cx ke ve gs sc
    | _ => .bad
noncomputable def compTg (n : Nat) (cx : Cx) : Expr → Option Tg
  | .Name x _ => match cx.kinds.lookup x == some .local with
    | true => thenO (cx.id x) fun n => some (.loc n)
    | false => match cx.kinds.lookup x == some .cell with
      | true => thenO (cx.id x) fun n => some (.cel n)
      | false => none
  | .Tuple es k p => (tgOf cx (.Tuple es k p)).map .tup
  | .Attribute o m _ => match cx.id m with | some m => some (.attr (compE n cx o) m) | none => none
  | .Subscript o i _ => match isSlice i with | false => some (.sub (compE n cx o) (compE n cx i)) | true => none
  | _ => none
noncomputable def plainVal : Expr → Bool
  | .ListComp .. | .SetComp .. | .DictComp .. => false
  | _ => true
noncomputable def notTup : Expr → Bool
  | .Tuple .. => false
  | .List .. => false
  | _ => true
noncomputable def compHs (f : Stmt → S) (cx : Cx) : List ExceptHandler → Option (List (Nat × Option Nat × List S))
  | [] => some []
  | .ExceptHandler (some (.Name c _)) (some x) (b0 :: b) _ :: r => match nameE cx c, cx.kinds.lookup x, cx.id x, compHs f cx r with
    | .k (.fn a), some .local, some m, some l => some ((a, some m, (b0 :: b).map f) :: l)
    | _, _, _, _ => none
  | _ => none
noncomputable def psIds (cx : Cx) : List Arg → Option (List Nat)
  | [] => some []
  | ⟨x, none, _⟩ :: r => match cx.id x, psIds cx r with | some n, some l => some (n :: l) | _, _ => none
  | _ => none
noncomputable def noDup : List Str → Bool
  | [] => true
  | x :: r => match r.contains x with | true => false | false => noDup r
noncomputable def noCells (l : List (Str × NameKind)) : Bool := l.all (·.2 != .cell)
noncomputable def funOk (a : Arguments) (sc : Scope) : Bool := a.posonlyargs.isEmpty && a.vararg.isNone && a.kwonlyargs.isEmpty && a.kw_defaults.isEmpty && a.kwarg.isNone && noDup (a.args.map (·.arg)) && sc.kind == .function && !sc.isCoroutine && !sc.isGenerator &&
  a.args.all fun x => sc.names.lookup x.arg == some .local || sc.names.lookup x.arg == some .cell
noncomputable def compRet (cx : Cx) (o : Option Expr) : S := match o with
  | some e => .ret (compE 100 cx e)
  | none => .ret (.k .none)
noncomputable def compAsg (cx : Cx) (ts : List Expr) (e : Expr) : S := match ts with
  | [t] => match compTg 100 cx t, notTup t || notTup e with
    | some t, true => .asg t (compE 100 cx e)
    | _, _ => .bad
  | _ => .bad
noncomputable def isAdd : Operator → Bool
  | .Add => true
  | _ => false
noncomputable def locOf : E → Option Nat
  | .loc n => some n
  | _ => none
noncomputable def compAug (cx : Cx) (t : Expr) (op : Operator) (e : Expr) : S := match isAdd op with
  | true => match attrOf t with
    | some (o, m, _) => match cx.id m with | some m => .aug (compE 100 cx o) m (compE 100 cx e) | none => .bad
    | none => match isName t with
      | some x => match cx.kinds.lookup x == some .local, locOf (nameE cx x) with | true, some n => .augn n (compE 100 cx e) | _, _ => .bad
      | none => .bad
  | false => .bad
noncomputable def compRaise (cx : Cx) (a b : Option Expr) : S := match b with
  | none => match a with
    | some e => .raise (compE 100 cx e)
    | none => .reraise
  | some _ => .bad
noncomputable def compFor (f : Stmt → S) (cx : Cx) (t it : Expr) (b o : List Stmt) : S := match o with
  | [] => match tgOf cx t, notSet it with | some t, true => .for t (compE 100 cx it) (b.map f) | _, _ => .bad
  | _ => .bad
noncomputable def compWhile (f : Stmt → S) (cx : Cx) (t : Expr) (b o : List Stmt) : S := match o with
  | [] => .while (compE 100 cx t) (b.map f)
  | _ => .bad
noncomputable def compTry (f : Stmt → S) (cx : Cx) (b : List Stmt) (hs : List ExceptHandler) (o fin : List Stmt) : S := match o with
  | [] => match compHs f cx hs, hs.isEmpty && fin.isEmpty with | some hs, false => .try_ (b.map f) hs (fin.map f) | _, _ => .bad
  | _ => .bad
noncomputable def compDef (F : Cx → Stmt → S) (cx : Cx) (f : Str) (ps : Arguments) (b : List Stmt) (ds : List Expr) (r : Option Expr) (ts : List TypeParam) (sc : Scope) (tsc : Option Scope) (f' : Str) (pos : Pos) : S := match ds.isEmpty && r.isNone && ts.isEmpty && tsc.isNone with
  | true => match cx.own, cx.kinds.lookup f == some .local, cx.id f, freesOf cx sc.names, psIds cx ps.args with
      | some fp, true, some n, some fr, some is => match f == fp.1 && f' == f && pos == fp.2 && ps.defaults.isEmpty && funOk ps sc && noCells sc.names with
        | true => .defc n is (b.map (F ⟨sc.names, cx.gl, cx.id, none⟩)) fr
        | false => .bad
      | _, _, _, _, _ => .bad
  | false => .bad
noncomputable def compS : Nat → Cx → Stmt → S
  | 0, _, _ => .bad
  | n0 + 1, cx, s => match s with
    | .Expr e _ => match plainVal e with | true => .expr (compE 100 cx e) | false => .bad
    | .Pass _ => .pass
    | .Continue _ => .cont
    | .Return o _ => compRet cx o
    | .Assign ts e _ => compAsg cx ts e
    | .AugAssign t op e _ => compAug cx t op e
    | .If t a b _ => .iff (compE 100 cx t) (a.map (compS n0 cx)) (b.map (compS n0 cx))
    | .For t it b o _ => compFor (compS n0 cx) cx t it b o
    | .While t b o _ => compWhile (compS n0 cx) cx t b o
    | .Raise a b _ => compRaise cx a b
    | .Try b hs o fin _ => compTry (compS n0 cx) cx b hs o fin
    | .FunctionDef f ps b ds r ts sc tsc f' pos => compDef (compS n0) cx f ps b ds r ts sc tsc f' pos
    | _ => .bad
end Mine
end
section
set_option genInjectivity false
set_option genSizeOf false
set_option tactic.hygienic false
open PySem PySem.W PySem.Calls PyProof.Rows PySem.SeqAt
set_option maxRecDepth 100000
namespace Mine
theorem no_tt {P : Prop} (h : false = true) : P := (Bool.false_ne_true h).elim
theorem no_ns {α : Type} {a : α} {P : Prop} (h : none = some a) : P := nomatch h
theorem and_tt {a b : Bool} (h : (match a with | true => b | false => false) = true) : a = true ∧ b = true := by
  induction a with
  | false => first | exact no_tt h | exact no_ns h | induction h
  | true => exact ⟨rfl, h⟩
inductive ThenO {α β : Type} (o : Option α) (f : α → Option β) (r : Option β) : Prop where
  | mk (a : α) (h1 : o = some a) (h2 : f a = r)
theorem thenO_some {α β : Type} {o : Option α} {f : α → Option β} {r : β} (h : thenO o f = some r) : ThenO o f (some r) := by
  induction o with
  | none => exact no_ns h
  | some a => exact ⟨a, rfl, h⟩
noncomputable def strOf (l : List Nat) : Str := ⟨l.toArray⟩
noncomputable def biVal : Nat → Option Value
  | 0 => some (.builtin "len")
  | 1 => some (.type "list")
  | 2 => some (.type "range")
  | 4 => some (.builtin "isinstance")
  | 5 => some (.type "str")
  | 6 => some (.type "reversed")
  | 100 => some (.builtin "list.append")
  | 101 => some (.builtin "list.pop")
  | 102 => some (.builtin "dict.get")
  | 103 => some (.builtin "str.join")
  | _ => none
noncomputable def refOk : List Value → Bool
  | [.type a] => a == "object"
  | [.type a, .type b, .type c] => a == "Exception" && b == "BaseException" && c == "object"
  | .ref _ :: r => refOk r
  | _ => false
noncomputable def overOk (K : Frag) (C : Addr) : Bool := (clsIn K C).any fun cd => refOk cd.mro && cd.hasDict
noncomputable def vFlat : Value → Prop
  | .none => True
  | .int _ _ => True
  | .str _ _ => True
  | _ => False
noncomputable def vEq : Value → Value → Bool
  | .none, .none => true
  | .int a _, .int b _ => a == b
  | .str a _, .str b _ => a == b
  | _, _ => false
noncomputable def cellIds (cx : Cx) : List (Str × NameKind) → Option (List Nat)
  | [] => some []
  | (x, .cell) :: r => match cx.id x, cellIds cx r with | some n, some l => some (n :: l) | _, _ => none
  | _ :: r => cellIds cx r
noncomputable def tailIn (K : Frag) : List Value → Bool
  | [.type a, .type b, .type c] => a == "Exception" && b == "BaseException" && c == "object"
  | .ref A :: r => match K.lookup A with
    | some ⟨_, _, .cls cd, _⟩ => nsOkIn K cd.ns && (nsIn K cd.ns "__init__" == some none) && tailIn K r
    | _ => false
  | _ => false
set_option genCtorIdx false in
inductive KT (α : Type) where
  | nil
  | node (k : Nat) (v : α) (l r : KT α)
namespace KT
variable {α : Type}
noncomputable def get : KT α → Nat → Option α
  | .nil, _ => none
  | .node k v l r, x => match Nat.beq x k with
    | true => some v
    | false => match Nat.blt x k with
      | true => l.get x
      | false => r.get x
noncomputable def list : KT α → List (Nat × α)
  | .nil => []
  | .node k v l r => (k, v) :: (l.list ++ r.list)
end KT
noncomputable def eqN : List Nat → List Nat → Bool
  | [], [] => true
  | a :: r, b :: q => match Nat.beq a b with | true => eqN r q | false => false
  | _, _ => false
noncomputable def codeL : List Nat → Nat
  | [] => 1
  | c :: r => Nat.add c (Nat.mul 2097152 (codeL r))
noncomputable def nthL : List (List Nat) → Nat → Option (List Nat)
  | [], _ => none
  | a :: _, 0 => some a
  | _ :: r, n + 1 => nthL r n
noncomputable def nmOf (ns : List (List Nat)) (i : Nat) : Str := match nthL ns i with
  | some l => strOf l
  | none => strOf (List.replicate (1000 + i) 97)
noncomputable def idOfT (ns : List (List Nat)) (T : KT Nat) (x : Str) : Option Nat := match T.get (codeL (cps x)) with
  | some i => match nthL ns i with
    | some l => match eqN l (cps x) with | true => some i | false => none
    | none => none
  | none => none
noncomputable def glOfT (T : KT (List Nat × AV)) (x : Str) : Option AV := match T.get (codeL (cps x)) with
  | some (l, v) => match eqN l (cps x) with | true => some v | false => none
  | none => none
noncomputable def glChk (K : Frag) (l : List Nat) (v : AV) : Bool := match v with
  | .fn a => match nsIn K mainGlobals (strOf l) with
    | some (some (.ref b)) => Nat.beq a b
    | _ => false
  | .bi k => match nsIn K mainGlobals (strOf l) with
    | some none => match nsIn K builtinsNs (strOf l), biVal k with
      | some (some u), some w => u == w
      | _, _ => false
    | _ => false
  | _ => false
noncomputable def dvOf : Value → Option AV
  | .none => some .none
  | .int n _ => some (.int n)
  | .str x _ => match lowAll (cps x) with | true => some (.str (cps x)) | false => none
  | _ => none
noncomputable def nonesOf : List Value → Option (List AV)
  | [] => some []
  | v :: r => match dvOf v, nonesOf r with | some a, some l => some (a :: l) | _, _ => none
noncomputable def dflIn (K : Frag) : Value → Option (List AV)
  | .none => some []
  | .ref T => match K.lookup T with
    | some ⟨_, _, .seq items _, _⟩ => nonesOf items.toList
    | _ => none
  | _ => none
structure Tabs where
  ns : List (List Nat)
  idT : KT Nat
  glT : KT (List Nat × AV)
  teller : Addr
  told : Str
noncomputable def Tabs.cx (T : Tabs) (kinds : List (Str × NameKind)) (own : Option (Str × Pos)) : Cx := ⟨kinds, glOfT T.glT, idOfT T.ns T.idT, own⟩
noncomputable def ownOf (T : Tabs) (tpos : Pos) (a : Addr) : Option (Str × Pos) := match Nat.beq a T.teller with | true => some (T.told, tpos) | false => none
noncomputable def fnIn (K : Frag) (T : Tabs) (tc : Addr) (tpos : Pos) (tq : Str) (a : Addr) : Option Fn := match K.lookup a with
  | some ⟨.type t, _, .func ⟨_, qual, params, .stmts body, scope, gls, [], dV, _, _, _, _, .ref c, _, bs⟩, _⟩ =>
    match t == "function" && Nat.beq gls mainGlobals && Nat.beq bs builtinsNs && funOk params scope && codeIn K (.ref c) qual && noDup (scope.names.map (·.1)) &&
      (match ownOf T tpos a with | some (f, _) => Nat.beq c tc && (qual ++ ".<locals>.") ++ f == tq | none => true) with
    | true => match psIds (T.cx scope.names (ownOf T tpos a)) params.args, cellIds (T.cx scope.names (ownOf T tpos a)) scope.names, dflIn K dV with
      | some ps, some cells, some dfl => match Nat.ble dfl.length ps.length && Nat.ble ps.length 100 with
        | true => some ⟨ps, dfl, cells, body.map (compS 100 (T.cx scope.names (ownOf T tpos a)))⟩
        | false => none
      | _, _, _ => none
    | false => none
  | _ => none
noncomputable def isNo (o : Option (Option Value)) : Bool := match o with | some none => true | _ => false
noncomputable def isBu (o : Option (Option Value)) (t : String) : Bool := match o with | some (some (.builtin s)) => s == t | _ => false
noncomputable def isRf (o : Option (Option Value)) (a : Addr) : Bool := match o with | some (some (.ref b)) => Nat.beq b a | _ => false
noncomputable def isTr (o : Option Bool) (b : Bool) : Bool := match o with | some c => eqB c b | none => false
noncomputable def plChk (K : Frag) (nm : Nat → Str) (C : Addr) (c : Cl) : Bool :=
  isBu (findIn K (.ref C) "__getattribute__") "object.__getattribute__" && isNo (findIn K (.ref C) "__getattr__") && hasDictIn K C && c.flds.all (fun n => isNo (findIn K (.ref C) (nm n))) &&
    isBu (findIn K (.ref C) "__setattr__") "object.__setattr__" && overOk K C && makesIn K C && (match c.init with | some i => isRf (findIn K (.ref C) "__init__") i && isFn K (.ref i) | none => true) &&
    c.meths.all fun p => isRf (findIn K (.ref C) (nm p.1)) p.2 && isFn K (.ref p.2)
noncomputable def exChk (K : Frag) (nm : Nat → Str) (C : Addr) (c : Cl) : Bool :=
  isBu (findIn K (.ref C) "__getattribute__") "BaseException.__getattribute__" && isNo (findIn K (.ref C) "__getattr__") && hasDictIn K C && c.flds.all (fun n => isNo (findIn K (.ref C) (nm n))) &&
    isBu (findIn K (.ref C) "__setattr__") "object.__setattr__" && overOk K C && isTr (mroIn K C (.type "BaseException")) true && (match typeIn K (.ref C) with | some (.type t) => t == "type" | _ => false) &&
    isTr (instIn K (.ref C) (.type "tuple")) false && (clsIn K C).isSome
noncomputable def emChk (K : Frag) (C i : Addr) : Bool := match K.lookup C with
  | some ⟨.type t, _, .cls cd, ⟨[_, _, _, _, some (.builtin nw), _]⟩⟩ => t == "type" && (match cd.mro with | .ref C' :: bm => Nat.beq C' C && tailIn K bm | _ => false) && !cd.hasDel && nw == "Exception.__new__" && nsOkIn K cd.ns && isRf (nsIn K cd.ns "__init__") i
  | _ => false
noncomputable def isBase (K : Frag) (C : Addr) : Bool := plainGet K C "__class__" && hasDictIn K C && isBu (findIn K (.ref C) "__class__") "object.__class__" && isTr (mroIn K C (.type "object")) true
noncomputable def isAny (K : Frag) : Bool := isBu (specialIn K (.builtin "object.__class__") "__get__") "getset_descriptor.__get__" && isTr (takesIn K (.builtin "object.__class__")) true
noncomputable def isPair (K : Frag) (C c : Addr) : Bool := match Nat.beq C c with | true => isIn K (.ref C) c | false => kin_not K C c
structure Prg where
  T : Tabs
  fns : KT Fn
  cls : KT Cl
  take : Addr
  tc : Addr
  tP : Addr
  tpos : Pos
  tq : Str
noncomputable def Prg.G (P : Prg) : Glob := ⟨P.fns.get, P.cls.get, P.take⟩
noncomputable def clChk (K : Frag) (nm : Nat → Str) (C : Addr) (c : Cl) : Bool := match c.exc with
  | true => exChk K nm C c && (match c.init with | some i => emChk K C i | none => true)
  | false => plChk K nm C c && isBase K C
noncomputable def pairChk (K : Frag) (p q : Nat × Cl) : Bool := match p.2.exc with
  | true => match q.2.exc with | true => isTr (mroIn K p.1 (.ref q.1)) (Nat.beq p.1 q.1) | false => true
  | false => isPair K p.1 q.1
noncomputable def bmChk (K : Frag) (tP : Addr) : Bool := match nsIn K mainGlobals "__builtins__" with
  | some (some (.ref b)) => !(Nat.beq b builtinsNs) && !(Nat.beq b mainGlobals) && !(Nat.beq b tP) && (match K.lookup b with | some ⟨.type t, some d, .plain, _⟩ => t == "module" && Nat.beq d builtinsNs | _ => false)
  | _ => false
noncomputable def chk (K : Frag) (P : Prg) : Bool :=
  isNo (nsIn K cStatics "sys.recursionlimit") && nsOkIn K cStatics && nsOkIn K mainGlobals && nsOkIn K builtinsNs && (P.T.glT.list.all fun p => glChk K p.2.1 p.2.2) && keepIn K (.ref P.take) &&
    (P.cls.list.all fun p => keepIn K (.ref p.1) && clChk K (nmOf P.T.ns) p.1 p.2) && (P.cls.list.all fun p => P.cls.list.all fun q => pairChk K p q) && isAny K && codeHdIn K P.tc P.tP && bmChk K P.tP && (K.lookup P.tP).isNone && Nat.beq mainGlobals P.tP == false && Nat.beq P.tP cStatics == false
noncomputable def fnsOf (K : Frag) (P : Prg) : List (Option Fn) := P.fns.list.map fun p => fnIn K P.T P.tc P.tpos P.tq p.1
noncomputable def bodyOf : Stmt → List Stmt
  | .FunctionDef _ _ b _ _ _ _ _ _ _ => b
  | _ => []
noncomputable def takeBody : List Stmt := bodyOf (PySem.Challenge.pw_pq1417_01.main.body.getD 84 (.Pass default))
noncomputable def takeChk (K : Frag) (a : Addr) : Bool := match K.lookup a with
  | some ⟨.type t, _, .func ⟨_, qual, params, .stmts _, scope, gls, [], .none, _, _, _, _, .ref c, _, bs⟩, _⟩ =>
    t == "function" && Nat.beq gls mainGlobals && Nat.beq bs builtinsNs && funOk params scope && codeIn K (.ref c) qual && noCells scope.names && (params.args.map (·.arg) == [("source" : Str), ("most" : Str)]) &&
      (scope.names.lookup ("source" : Str) == some .local) && (scope.names.lookup ("most" : Str) == some .local) && (scope.names.lookup ("found" : Str) == some .local)
  | _ => false
noncomputable def textIn (K : Frag) (a : Addr) : Option (List Stmt) := match K.lookup a with
  | some ⟨_, _, .func ⟨_, _, _, .stmts b, _, _, _, _, _, _, _, _, _, _, _⟩, _⟩ => some b
  | _ => none
noncomputable def lawBody : List Stmt := bodyOf (PySem.Challenge.pw_pq1417_01.main.body.getD 86 (.Pass default))
noncomputable def lawChk (K : Frag) (a : Addr) : Bool := (match K.lookup a with
  | some ⟨_, _, .func ⟨_, _, _, _, scope, _, _, _, _, _, _, _, _, _, _⟩, _⟩ =>
    (scope.names.lookup ("script" : Str) == some .local) && (scope.names.lookup ("list" : Str) == some .globalImplicit) && (scope.names.lookup ("sum" : Str) == some .globalImplicit) && (scope.names.lookup ("source" : Str) == some .cell)
  | _ => false) && isNo (nsIn K mainGlobals "list") && isNo (nsIn K mainGlobals "sum") && (match nsIn K builtinsNs "list" with | some (some (.type t)) => t == "list" | _ => false) && isBu (nsIn K builtinsNs "sum") "sum"
end Mine
end
section
set_option genInjectivity false
set_option genSizeOf false
open PySem PySem.W
set_option maxRecDepth 1000000
set_option Elab.async false
namespace Mine
noncomputable def nsL : List (List Nat) := [[97, 112, 112, 101, 110, 100], [112, 111, 112], [103, 101, 116], [106, 111, 105, 110], [118], [110, 97, 109, 101], [97, 116, 116, 114, 115], [100, 105, 109, 115], [105, 116, 101, 109, 115], [102, 111, 117, 110, 100], [107, 105, 110, 100], [114, 111, 119, 115], [97, 114, 103, 115], [115, 104, 97, 114, 101, 100], [105, 110, 116, 101, 114, 112], [101, 110, 118], [118, 97, 108, 117, 101], [102, 114, 97, 109, 101], [102, 111, 114, 99, 101], [112, 97, 114, 101, 110, 116], [103, 101, 110, 101, 114, 105, 99], [99, 108, 115], [103, 114, 111, 117, 112], [99, 108, 97, 115, 115, 101, 115], [101, 110, 118, 115], [112, 108, 97, 99, 101], [109, 101, 116, 104, 111, 100], [98, 117, 105, 108, 116, 105, 110], [99, 97, 108, 108], [118, 97, 108, 117, 101, 115], [115, 97, 118, 101, 100], [102, 97, 117, 108, 116], [109, 101, 115, 115, 97, 103, 101], [116, 97, 103], [112, 108, 97, 105, 110, 95, 118, 97, 108, 117, 101], [115, 112, 101, 99, 105, 97, 108], [118, 105, 115, 105, 98, 108, 101], [99, 117, 114, 114, 101, 110, 116], [102, 110], [115, 105, 103, 110, 97, 108, 95, 101, 114, 114, 111, 114], [100, 105, 115, 112, 97, 116, 99, 104], [97, 112, 112, 108, 121, 95, 99, 108, 111, 115, 117, 114, 101], [110, 101, 119, 95, 101, 110, 118], [102, 111, 114, 109, 97, 108, 115], [115, 104, 111, 119], [109, 97, 116, 99, 104, 105, 110, 103], [114, 101, 115, 116], [97, 114, 103], [101, 120, 97, 99, 116], [112, 97, 114, 116, 105, 97, 108], [112, 111, 115, 105, 116, 105, 111, 110, 97, 108], [112, 108, 97, 99, 101, 115], [101, 120, 112, 114], [112, 114, 111, 109, 105, 115, 101], [115, 116, 97, 116, 101], [99, 108, 111, 115, 117, 114, 101], [110, 97, 109, 101, 115], [100, 101, 102, 97, 117, 108, 116], [98, 111, 117, 110, 100], [102, 111, 114, 109, 97, 108], [100, 111, 116, 115, 95, 97, 114, 103, 117, 109, 101, 110, 116], [110, 117, 109, 98, 101, 114], [102, 114, 97, 109, 101, 115], [102, 117, 110, 99, 116, 105, 111, 110], [115, 116, 97, 114, 116, 115, 119, 105, 116, 104], [119, 104, 97, 116], [115, 112, 101, 99, 105, 97, 108, 115], [98, 97, 115, 101], [111, 98, 106], [108, 101, 102, 116], [105, 110, 110, 101, 114], [119, 111, 114, 100, 115], [99, 97, 108, 108, 101, 114], [110, 97, 109, 101, 100], [116, 97, 103, 115], [101, 118, 97, 108], [115, 111, 117, 114, 99, 101], [109, 111, 115, 116], [116, 111, 108, 100], [86, 101, 99, 116, 111, 114], [115, 99, 114, 105, 112, 116], [99, 111, 117, 110, 116], [104, 101, 108, 100], [114, 101, 97, 100, 121], [102, 105, 116, 116, 105, 110, 103], [100, 117, 101], [101, 114, 114, 111, 114], [100, 101, 102, 105, 110, 101], [103, 108, 111, 98, 97, 108, 115], [95], [115, 116, 114], [111, 110, 101], [97, 116], [115, 101, 108, 102], [99, 111, 110, 100, 105, 116, 105, 111, 110], [108, 111, 111, 115, 101], [99, 111, 100, 101], [98, 111, 100, 121], [108, 111, 99, 107, 101, 100], [108, 111, 99, 107, 115], [99, 97, 108, 108, 95, 101, 110, 118], [100, 101, 102, 95, 101, 110, 118], [117, 115, 101, 100], [112, 97, 114, 116, 105, 97, 108, 95, 111, 102], [105, 115, 95, 102, 114, 101, 101], [111, 110, 95, 101, 120, 105, 116], [108, 105, 109, 105, 116], [109, 111, 115, 116, 95, 102, 114, 97, 109, 101, 115], [115, 116, 101, 112, 115], [110, 101, 120, 116, 95, 110, 117, 109, 98, 101, 114], [111, 117, 116], [119, 97, 114, 110, 105, 110, 103, 115], [104, 97, 110, 100, 108, 101, 114, 115], [114, 101, 115, 116, 97, 114, 116, 115], [116, 97, 114, 103, 101, 116, 115], [100, 105, 115, 112, 97, 116, 99, 104, 101, 114], [115, 105, 103, 110, 97, 108, 108, 101, 114], [119, 97, 114, 110, 101, 114], [100, 101, 112, 97, 114, 115, 101, 114], [115, 52], [101], [118, 97, 114, 105, 97, 98, 108, 101], [112, 108, 97, 105, 110, 95, 99, 97, 108, 108], [114, 117, 110, 110, 105, 110, 103, 95, 99, 97, 108, 108], [104, 101, 97, 100], [102, 105, 110, 100, 95, 102, 117, 110, 99, 116, 105, 111, 110], [102], [107, 101, 101, 112], [116, 105, 99, 107], [102, 117, 110, 99, 116, 105, 111, 110, 95, 111, 102], [112, 114, 111, 109, 105, 115, 101, 95, 97, 114, 103, 115], [99, 97, 108, 108, 95, 115, 112, 101, 99, 105, 97, 108], [101, 97, 103, 101, 114, 95, 97, 114, 103, 115], [99, 97, 108, 108, 95, 98, 117, 105, 108, 116, 105, 110], [105, 116, 101, 109], [101, 120, 116, 101, 110, 100], [115, 112, 114, 101, 97, 100, 95, 100, 111, 116, 115], [114, 101, 102, 117, 115, 97, 108], [108, 111, 115, 116], [115, 105, 103, 110, 97, 108], [115, 104, 111, 119, 101, 114], [108, 101, 97, 118, 101], [114, 117, 110, 95, 101, 120, 105, 116, 115], [102, 97, 105, 108, 101, 100], [102, 105, 114, 115, 116]]
noncomputable def idT : KT Nat := (.node 85074648214108971311326925404822831212 98 (.node 19343873802097692384428132 7 (.node 19343735451464362996269160 124 (.node 9223825035848843380 33 (.node 4398155563123 119 (.node 2097254 126 (.node 2097253 120 (.node 2097247 89 .nil .nil) .nil) (.node 2097270 4 .nil .nil)) (.node 9223816239783084143 91 (.node 4398289780833 92 (.node 4398277197926 38 .nil .nil) .nil) (.node 9223816239797764196 85 .nil .nil))) (.node 9223877812430045283 21 (.node 9223864618296803440 1 (.node 9223838229990473839 68 (.node 9223825035884494945 47 .nil .nil) .nil) (.node 9223873414400311411 90 .nil .nil)) (.node 9223882210495430767 110 (.node 9223882210461876327 2 .nil .nil) (.node 9223891006573772901 15 .nil .nil)))) (.node 19343800015077417081110644 128 (.node 19343744674849594011549795 96 (.node 19343735451512741528862836 78 (.node 19343735451512741507891304 82 (.node 19343735451481955211673717 102 .nil .nil) .nil) (.node 19343735451521537609302123 10 .nil .nil)) (.node 19343744674915564679856226 67 (.node 19343744674889176400789614 5 .nil .nil) (.node 19343753898256815217442931 93 .nil .nil))) (.node 19343846131946397439623275 127 (.node 19343818461830286906753129 134 (.node 19343809238489036337709155 28 (.node 19343809238440657870127205 75 .nil .nil) .nil) (.node 19343827685219915937087594 3 .nil .nil)) (.node 19343873802071304088584308 74 (.node 19343864578738849700642917 52 .nil .nil) (.node 19343873802071304124235873 12 .nil .nil))))) (.node 40566772832497749671526736593011 54 (.node 19343929142290331107065954 97 (.node 19343883025496117509881970 46 (.node 19343883025416952678973559 65 (.node 19343873802141672862122098 11 (.node 19343873802137274813513829 24 .nil .nil) .nil) (.node 19343883025438942905237612 69 .nil .nil)) (.node 19343883025496117530853485 77 (.node 19343883025496117530853484 138 .nil .nil) (.node 19343910695594635894456435 44 .nil .nil))) (.node 40566772832340952346900188627056 25 (.node 40566753489629295693199732375650 58 (.node 40566753489546285349266056544371 30 (.node 40566753489546285309683637944430 73 .nil .nil) .nil) (.node 40566753489629295693199732375654 9 .nil .nil)) (.node 40566772832433186067268748968038 17 (.node 40566772832340952421666985607270 18 .nil .nil) (.node 40566772832488526361062522486892 95 .nil .nil)))) (.node 40567043631816779761796073390185 8 (.node 40567024289022112728977588093029 86 (.node 40566985603451225279870986616935 22 (.node 40566772832516196415600414687340 141 (.node 40566772832506973091942063145078 16 .nil .nil) .nil) (.node 40567024288929878991016845901929 70 .nil .nil)) (.node 40567043631742992820685567426670 56 (.node 40567043631733769470638974566519 71 .nil .nil) (.node 40567043631798333008926260330604 99 .nil .nil))) (.node 40567062974620670294194718244966 31 (.node 40567062974537659857902143275109 48 (.node 40567043631862896687951044935777 6 (.node 40567043631844449877906637717619 108 .nil .nil) .nil) (.node 40567062974593000142899798605932 106 .nil .nil)) (.node 40567062974685233885258578919526 144 (.node 40567062974639117038268457156707 81 .nil .nil) (.node 40567159688612452400272934699122 83 .nil .nil)))))) (.node 178415829781266695085224973842497010522914916 57 (.node 85075297251390373427464832067561324656 19 (.node 85075134992190915466556785552852516969 14 (.node 85074648214302399414795224728981209197 26 (.node 85074648214283056574011256959458607201 0 (.node 85074648214108971375890520866698559603 13 (.node 85074648214108971320550323829927313510 143 .nil .nil) .nil) (.node 85074648214283056574011274551661428837 135 .nil .nil)) (.node 85074972732585258504045182338069430374 59 (.node 85074688779102263914245549020892102756 87 (.node 85074688778889493053003788588555436147 76 .nil .nil) .nil) (.node 85074972732585258513268505996400001139 139 .nil .nil))) (.node 85075216121771301772247484927483838550 79 (.node 85075216121577873585768978009091473527 117 (.node 85075216121577873567322207547102855267 72 (.node 85075216121577873475088491576643551342 61 .nil .nil) .nil) (.node 85075216121577873668779313146659602547 140 .nil .nil)) (.node 85075256686397080879886379099984232550 62 (.node 85075256686397080787652658731423891568 51 .nil .nil) (.node 85075256686397080953673403773298409590 29 .nil .nil)))) (.node 178415149216086639964903971424686181600723059 35 (.node 178414553722390741198473610811905341732683894 36 (.node 178414553722106787773507469577111077465882729 104 (.node 178414383581085586581104942029892873405595751 20 (.node 85075297251429059090585988348575219827 80 .nil .nil) .nil) (.node 178414553722187917083094373227552170963894381 32 .nil .nil)) (.node 178414553722674695068324462888149626069713008 53 (.node 178414553722634130481230972253542754226798691 55 .nil .nil) (.node 178414723863655331441519742434840117638070374 84 .nil .nil))) (.node 178415744710674964463752854945575435962941543 88 (.node 178415319357594619200565157101313712143204450 27 (.node 178415149216086640158332268583727910963118194 137 (.node 178415149216086639964904128222067982705098864 49 .nil .nil) .nil) (.node 178415744710391011077472524405916430640349283 23 .nil .nil)) (.node 178415744710999483094782580244568237555056756 114 (.node 178415744710674964463752956402681035511300198 43 .nil .nil) (.node 178415829781145000685631540054912888513495151 105 .nil .nil))))) (.node 1645586159687166840359713631049633122700386578092353656971067507 64 (.node 374164935851056070643779839270120202936712584757367 111 (.node 374162794980112505643245778772795659099864987336813 45 (.node 178415999922531284883386283943482139768520814 42 (.node 178415999922531284883386283943407372977832036 101 (.node 178415829781347824414154727500225133926154339 37 .nil .nil) .nil) (.node 374162438168019187685861175118811766872060958081142 121 .nil .nil)) (.node 374164043821928693949872171502642137042380570755174 63 (.node 374162973385138317825411206164782416436772716150884 40 .nil .nil) (.node 374164757444924341418158507874357159346903126638692 118 .nil .nil))) (.node 784678872829245404374362324211225019769151751966271996003 94 (.node 374164935852161988498532011363139963366528662896754 113 (.node 374164935851991846787729105207261523240339076284520 112 (.node 374164935851481423075088362654404533023793785864307 66 .nil .nil) .nil) (.node 374165471069536329155763312144539999318213857902691 100 .nil .nil)) (.node 784680743552233217738039012112671783257114041146734018674 142 (.node 784680369405137971858279565605166310539279200186370359411 116 .nil .nil) (.node 1645584590409862269809678564707287553335771338205675594132226160 103 .nil .nil)))) (.node 3451062406510391849105380990669303626615416184275134533139993393627251 136 (.node 3451039369447373988815280363510165714877833587476689627805541294145648 34 (.node 1645594006058723907244910095580470957152866951918292121656754276 115 (.node 1645589298235041376919592465649257797745385366812977621383512176 122 (.node 1645589298230925790628147164526287439099691316400440917910093936 50 .nil .nil) .nil) (.node 1645594790697189121202378443088683674724619783063579890706022501 132 .nil .nil)) (.node 3451060760994064957281612965886209899943113209237596816127472145793134 109 (.node 3451041014947223478855907378146131671827413082654184806562003433816166 129 .nil .nil) (.node 3451062406498622282603241590707420803915663835967537001055016902983789 107 .nil .nil))) (.node 7237402427916689730243784305132844656180578900290172468655708468770311766128 130 (.node 7237385173554113764518237679764563877740638718839069806517314092950523740259 133 (.node 7237378271812703472718293874290243222945664650540399963374540475485845979250 123 (.node 7237378271794602928864862343214289762308488216500064150591725675461526683747 131 .nil .nil) .nil) (.node 7237398977056680371420466596548349370476917136787437077314153008294633930867 39 .nil .nil)) (.node 15177896791510062010426779024522142988130689492848164974761874520872989119939084390 125 (.node 15177831658470218659333093014745473050173539357192292026324295715872267621143412833 41 .nil .nil) (.node 15177940213540075124244643860005695834495429684138431377831519005095755653423562852 60 .nil .nil)))))))
noncomputable def glT : KT (List Nat × AV) := (.node 1645595575341266497343862127756442079735518594671634263396319344 ([112, 108, 97, 105, 110, 95, 116, 101, 120, 116], (.fn 645)) (.node 178414638793104165832682975006684007018528867 ([99, 97, 108, 108, 95, 111, 102], (.fn 441)) (.node 40566772832377845892222189305970 ([114, 97, 110, 103, 101], (.bi 2)) (.node 19343809238489036379652206 ([110, 117, 108, 108], (.fn 406)) (.node 19343809238489036337709123 ([67, 97, 108, 108], (.fn 288)) (.node 9223873414400311411 ([115, 116, 114], (.bi 5)) (.node 9223855822182809708 ([108, 101, 110], (.bi 0)) .nil .nil) .nil) (.node 19343809238489036379652174 ([78, 117, 108, 108], (.fn 195)) .nil .nil)) (.node 19343883025496117518270572 ([108, 105, 115, 116], (.bi 1)) (.node 19343873802128478722588740 ([68, 111, 116, 115], (.fn 395)) .nil .nil) (.node 19343883025518107742437492 ([116, 101, 120, 116], (.fn 427)) .nil .nil))) (.node 85075216121771301753800806824404844626 ([82, 69, 114, 114, 111, 114], (.fn 119)) (.node 85074729343940813938466541399976181860 ([100, 105, 109, 95, 111, 102], (.fn 35)) (.node 40566772832479302927453001875571 ([115, 104, 97, 114, 101], (.fn 462)) (.node 40566772832433186067268748968006 ([70, 114, 97, 109, 101], (.fn 749)) .nil .nil) .nil) (.node 85074972732856057786181744877589495891 ([83, 121, 109, 98, 111, 108], (.fn 266)) .nil .nil)) (.node 178414553722634130481230972253542754226798659 ([67, 108, 111, 115, 117, 114, 101], (.fn 310)) (.node 85075216121771301772247484927483838550 ([86, 101, 99, 116, 111, 114], (.fn 245)) .nil .nil) (.node 178414553722674695068324462888149626069712976 ([80, 114, 111, 109, 105, 115, 101], (.fn 374)) .nil .nil)))) (.node 374164757446200400334676517491806773067049716416615 ([103, 101, 116, 95, 97, 116, 116, 114], (.fn 28)) (.node 374162616574235987584342631001534805220491169628262 ([102, 114, 97, 109, 101, 95, 111, 102], (.fn 718)) (.node 178415319357594619200565157101313712143204418 ([66, 117, 105, 108, 116, 105, 110], (.fn 331)) (.node 178415149216086640158332268583727910963118162 ([82, 101, 102, 117, 115, 97, 108], (.fn 100)) (.node 178414723863655331441519733211463682736783437 ([77, 105, 115, 115, 105, 110, 103], (.fn 216)) .nil .nil) .nil) (.node 374162259761462105988366655873947516244950155001970 ([114, 101, 118, 101, 114, 115, 101, 100], (.bi 6)) .nil .nil)) (.node 374162973385138317825411206164782416436772716150852 ([68, 105, 115, 112, 97, 116, 99, 104], (.fn 479)) (.node 374162794980112505643245778772795659099864987336781 ([77, 97, 116, 99, 104, 105, 110, 103], (.fn 620)) .nil .nil) (.node 374164043821928693544223960086804838101405562568808 ([104, 97, 110, 100, 115, 95, 111, 110], (.fn 970)) .nil .nil))) (.node 1645583805767655616120791039516824408733243411686673814703308905 ([105, 115, 105, 110, 115, 116, 97, 110, 99, 101], (.bi 4)) (.node 784680369406922031984585809226270508166000431390265442371 ([67, 111, 118, 101, 69, 114, 114, 111, 114], (.fn 80)) (.node 784675505528759369447121069138770943585706173123641999455 ([95, 108, 97, 119, 95, 116, 97, 107, 101], (.fn 1029)) (.node 374165114258463858583095799930661560111146473619567 ([111, 110, 101, 95, 116, 101, 120, 116], (.fn 991)) .nil .nil) .nil) (.node 784680369406922032154726303085741670834920868004801544261 ([69, 118, 97, 108, 117, 97, 116, 111, 114], (.fn 959)) .nil .nil)) (.node 1645590082875003169267311929452501541162587634393171754269802608 ([112, 108, 97, 105, 110, 95, 102, 111, 114, 109], (.fn 530)) (.node 1645589298230925790628146483961553596584451621458288515926196300 ([76, 111, 111, 112, 83, 105, 103, 110, 97, 108], (.fn 176)) .nil .nil) (.node 1645594006064336075673132131703277607173511994761954254806581347 ([99, 108, 97, 115, 115, 95, 97, 116, 116, 114], (.fn 42)) .nil .nil))))) (.node 7237354115712008243923391771773536864902931059758857020723630396845322141796 ([100, 111, 110, 101, 95, 112, 114, 111, 109, 105, 115, 101], (.fn 663)) (.node 3451062406497837646757042849079384653642969141027271893954703623454819 ([99, 108, 97, 115, 115, 95, 119, 111, 114, 100, 115], (.fn 996)) (.node 3451039369447373988815280363510165714877833587476689627805541294145648 ([112, 108, 97, 105, 110, 95, 118, 97, 108, 117, 101], (.fn 523)) (.node 3451037723938108839811123911053085704382560289946735463540530320769126 ([102, 105, 110, 100, 95, 109, 101, 116, 104, 111, 100], (.fn 502)) (.node 3451037723938108839811123911053085703084486191370045589882908648145011 ([115, 95, 85, 115, 101, 77, 101, 116, 104, 111, 100], (.fn 1022)) (.node 3451037723930262462267743821663738891275633756166552226870922458431593 ([105, 115, 95, 117, 110, 116, 97, 103, 103, 101, 100], (.fn 977)) .nil .nil) .nil) (.node 3451037723938108839811123911053085704382560289946809250508029049176163 ([99, 97, 108, 108, 95, 109, 101, 116, 104, 111, 100], (.fn 549)) .nil .nil)) (.node 3451054178983682052245689879901452283804858209998238856942833685758057 ([105, 115, 95, 102, 117, 110, 99, 116, 105, 111, 110], (.fn 455)) (.node 3451050887972213493689677178521272288651682143338459024906357510766705 ([113, 117, 111, 116, 101, 100, 95, 99, 97, 108, 108], (.fn 537)) .nil .nil) (.node 3451060760994064961023056979045998653075266410095529381932362859806815 ([95, 108, 97, 119, 95, 116, 101, 108, 108, 101, 114], (.fn 1036)) .nil .nil))) (.node 3451064052018087717437675148948678019995854022408687295671151498362997 ([117, 110, 117, 115, 101, 100, 95, 116, 101, 120, 116], (.fn 650)) (.node 3451062406509607206150437214627901082219486937687486889381917752295536 ([112, 108, 97, 105, 110, 95, 99, 108, 97, 115, 115], (.fn 63)) (.node 3451062406509607206150437214627901082219486763602233428479574569648243 ([115, 104, 97, 112, 101, 95, 99, 108, 97, 115, 115], (.fn 56)) (.node 3451062406498622282603241590707080521264789337138111467698696260419693 ([109, 97, 116, 99, 104, 95, 110, 97, 109, 101, 115], (.fn 656)) .nil .nil) .nil) (.node 3451064052010241340268440549153428224824115295363138733288933617041477 ([69, 110, 118, 105, 114, 111, 110, 109, 101, 110, 116], (.fn 353)) .nil .nil)) (.node 7237350664815797784054359711435411810675303308571410551023712419426083012684 ([76, 105, 109, 105, 116, 82, 101, 97, 99, 104, 101, 100], (.fn 138)) (.node 3451072279537735776715779945295274835331013093524203467544215408345187 ([99, 104, 101, 99, 107, 95, 101, 109, 112, 116, 121], (.fn 1010)) .nil .nil) (.node 7237350664832252829627578132312800791117295077182685655890888488097037680742 ([102, 105, 114, 115, 116, 95, 109, 101, 116, 104, 111, 100], (.fn 509)) .nil .nil)))) (.node 31830204841101704426756001728479478005771990688236985046243714343555136172575621151457380 ([100, 101, 102, 97, 117, 108, 116, 95, 109, 101, 116, 104, 111, 100], (.fn 516)) (.node 15177831658452964260556021535658194392355757313540736178775431232154338115763306601 ([105, 115, 95, 101, 109, 112, 116, 121, 95, 110, 97, 109, 101], (.fn 732)) (.node 7237402427924917239691553637383342473596959894895617582866106785127838253154 ([98, 105, 110, 100, 95, 102, 111, 114, 109, 97, 108, 115], (.fn 690)) (.node 7237378271794602932788052424409355487929750463518121122020237790927015379026 ([82, 101, 116, 117, 114, 110, 83, 105, 103, 110, 97, 108], (.fn 157)) (.node 7237354115715299255391942844896071049287478057995838590241484700998212517997 ([109, 101, 116, 104, 111, 100, 95, 118, 97, 108, 117, 101], (.fn 1017)) .nil .nil) .nil) (.node 7237405878817836692799855313968018006990345254802287979624305830713461047396 ([100, 111, 117, 98, 108, 101, 100, 95, 116, 101, 120, 116], (.fn 631)) .nil .nil)) (.node 15177889554504484692974095082296900820163207238847118043842440973669827810248622182 ([102, 117, 110, 99, 116, 105, 111, 110, 95, 102, 114, 111, 109], (.fn 495)) (.node 15177882317488554713218115435055532156378975215233836120775674468333776184014798953 ([105, 110, 116, 101, 114, 110, 97, 108, 95, 99, 97, 108, 108], (.fn 542)) .nil .nil) (.node 15177940213540075124244643860005695834495429684138431377831519005095755653423562852 ([100, 111, 116, 115, 95, 97, 114, 103, 117, 109, 101, 110, 116], (.fn 677)) .nil .nil))) (.node 31830432497641460127534703773972575526804187272668046992700113152036064451658631564230761 ([105, 109, 112, 108, 105, 99, 105, 116, 95, 99, 108, 97, 115, 115], (.fn 70)) (.node 31830432497641460127534703773972575526804184596578453027760746292217244613995567108849772 ([108, 97, 110, 103, 117, 97, 103, 101, 95, 99, 108, 97, 115, 115], (.fn 49)) (.node 31830356612108909565290540484834661211844251731305514873151814945997131462209084397191273 ([105, 110, 110, 101, 114, 95, 102, 117, 110, 99, 116, 105, 111, 110], (.fn 1003)) .nil .nil) (.node 31830432497641460127534703773972575526804185131795997510899511928693603992747793069375588 ([100, 105, 115, 112, 97, 116, 99, 104, 95, 99, 108, 97, 115, 115], (.fn 488)) .nil .nil)) (.node 31830447674705995626959903360298665030703759352950279640882125763917378050563755772739686 ([102, 105, 114, 115, 116, 95, 97, 114, 103, 117, 109, 101, 110, 116], (.fn 984)) (.node 31830447674705995626959903360298665030703759352950279640882125454432322112371696926195810 ([98, 111, 117, 110, 100, 95, 97, 114, 103, 117, 109, 101, 110, 116], (.fn 670)) .nil .nil) (.node 66752873228972335227531933225285577579555210556052040262003280032261958383723228042925866745956 ([100, 101, 102, 97, 117, 108, 116, 95, 98, 105, 110, 100, 105, 110, 103], (.fn 684)) .nil .nil))))))
noncomputable def f28 : Fn := ⟨[4, 5], [], [], [.iff (.cmp 2 (.attr (.loc 4) 6) (.k .none)) [.ret (.k .none)] [], .ret (.mcall (.attr (.loc 4) 6) 2 [(.loc 5)])]⟩ -- get_attr
noncomputable def f35 : Fn := ⟨[4], [], [], [.asg (.loc 7) (.call (.k (.fn 28)) [(.loc 4), (.k (.str [100, 105, 109]))]), .iff (.cmp 2 (.loc 7) (.k .none)) [.ret (.k .none)] [], .ret (.call (.k (.bi 1)) [(.attr (.loc 7) 8)])]⟩ -- dim_of
noncomputable def f42 : Fn := ⟨[4], [], [], [.asg (.loc 9) (.call (.k (.fn 28)) [(.loc 4), (.k (.str [99, 108, 97, 115, 115]))]), .iff (.cmp 2 (.loc 9) (.k .none)) [.ret (.list [])] [], .ret (.call (.k (.bi 1)) [(.attr (.loc 9) 8)])]⟩ -- class_attr
noncomputable def f56 : Fn := ⟨[4], [], [], [.asg (.loc 7) (.call (.k (.fn 35)) [(.loc 4)]), .iff (.cmp 2 (.loc 7) (.k .none)) [.ret (.list [])] [], .ret (.ite (.cmp 0 (.call (.k (.bi 0)) [(.loc 7)]) (.k (.int (.ofNat 2)))) (.list [(.k (.str [109, 97, 116, 114, 105, 120])), (.k (.str [97, 114, 114, 97, 121]))]) (.list [(.k (.str [97, 114, 114, 97, 121]))]))]⟩ -- shape_class
noncomputable def f63 : Fn := ⟨[4], [], [], [.asg (.loc 10) (.attr (.loc 4) 10), .iff (.cmp 0 (.loc 10) (.k (.str [108, 97, 110, 103, 117, 97, 103, 101]))) [.ret (.call (.k (.fn 49)) [(.loc 4)])] [], .iff (.cmp 0 (.loc 10) (.k (.str [115, 121, 109, 98, 111, 108]))) [.ret (.k (.str [110, 97, 109, 101]))] [], .iff (.cmp 0 (.loc 10) (.k (.str [83, 52]))) [.ret (.attr (.loc 4) 5)] [], .iff (.bool false [(.cmp 0 (.loc 10) (.k (.str [99, 108, 111, 115, 117, 114, 101]))), (.cmp 0 (.loc 10) (.k (.str [98, 117, 105, 108, 116, 105, 110]))), (.cmp 0 (.loc 10) (.k (.str [115, 112, 101, 99, 105, 97, 108])))]) [.ret (.k (.str [102, 117, 110, 99, 116, 105, 111, 110]))] [], .ret (.loc 10)]⟩ -- plain_class
noncomputable def f70 : Fn := ⟨[4], [], [], [.asg (.loc 10) (.call (.k (.fn 63)) [(.loc 4)]), .asg (.loc 11) (.bin 0 (.call (.k (.fn 56)) [(.loc 4)]) (.list [(.loc 10)])), .iff (.bool false [(.cmp 0 (.attr (.loc 4) 10) (.k (.str [105, 110, 116, 101, 103, 101, 114]))), (.cmp 0 (.attr (.loc 4) 10) (.k (.str [100, 111, 117, 98, 108, 101])))]) [.expr (.mcall (.loc 11) 0 [(.k (.str [110, 117, 109, 101, 114, 105, 99]))])] [], .ret (.loc 11)]⟩ -- implicit_class
noncomputable def f97 : Fn := ⟨[93, 32], [], [], [.asg (.attr (.loc 93) 32) (.loc 32)]⟩ -- Refusal___init__
noncomputable def f116 : Fn := ⟨[93, 32, 28, 94], [], [], [.asg (.attr (.loc 93) 32) (.loc 32), .asg (.attr (.loc 93) 28) (.loc 28), .asg (.attr (.loc 93) 94) (.loc 94)]⟩ -- RError___init__
noncomputable def f154 : Fn := ⟨[93, 61, 16], [], [], [.asg (.attr (.loc 93) 61) (.loc 61), .asg (.attr (.loc 93) 16) (.loc 16)]⟩ -- ReturnSignal___init__
noncomputable def f192 : Fn := ⟨[93], [], [], [.asg (.attr (.loc 93) 10) (.k (.str [78, 85, 76, 76])), .asg (.attr (.loc 93) 6) (.k .none)]⟩ -- Null___init__
noncomputable def f213 : Fn := ⟨[93], [], [], [.asg (.attr (.loc 93) 10) (.k (.str [109, 105, 115, 115, 105, 110, 103])), .asg (.attr (.loc 93) 6) (.k .none)]⟩ -- Missing___init__
noncomputable def f235 : Fn := ⟨[93, 10, 8, 6], [.none], [], [.asg (.attr (.loc 93) 10) (.loc 10), .asg (.attr (.loc 93) 8) (.loc 8), .asg (.attr (.loc 93) 6) (.loc 6), .asg (.attr (.loc 93) 13) (.k (.bool false)), .asg (.attr (.loc 93) 95) (.k (.bool false))]⟩ -- Vector___init__
noncomputable def f263 : Fn := ⟨[93, 5], [], [], [.asg (.attr (.loc 93) 10) (.k (.str [115, 121, 109, 98, 111, 108])), .asg (.attr (.loc 93) 5) (.loc 5), .asg (.attr (.loc 93) 6) (.k .none)]⟩ -- Symbol___init__
noncomputable def f285 : Fn := ⟨[93, 8, 74, 6], [.none], [], [.asg (.attr (.loc 93) 10) (.k (.str [108, 97, 110, 103, 117, 97, 103, 101])), .asg (.attr (.loc 93) 8) (.loc 8), .asg (.attr (.loc 93) 74) (.loc 74), .asg (.attr (.loc 93) 6) (.loc 6), .asg (.attr (.loc 93) 96) (.k .none)]⟩ -- Call___init__
noncomputable def f307 : Fn := ⟨[93, 43, 97, 15, 6], [.none], [], [.asg (.attr (.loc 93) 10) (.k (.str [99, 108, 111, 115, 117, 114, 101])), .asg (.attr (.loc 93) 43) (.loc 43), .asg (.attr (.loc 93) 97) (.loc 97), .asg (.attr (.loc 93) 15) (.loc 15), .asg (.attr (.loc 93) 6) (.loc 6)]⟩ -- Closure___init__
noncomputable def f328 : Fn := ⟨[93, 5, 35, 38, 22], [], [], [.asg (.attr (.loc 93) 10) (.ite (.loc 35) (.k (.str [115, 112, 101, 99, 105, 97, 108])) (.k (.str [98, 117, 105, 108, 116, 105, 110]))), .asg (.attr (.loc 93) 5) (.loc 5), .asg (.attr (.loc 93) 35) (.loc 35), .asg (.attr (.loc 93) 38) (.loc 38), .asg (.attr (.loc 93) 22) (.loc 22), .asg (.attr (.loc 93) 6) (.k .none)]⟩ -- Builtin___init__
noncomputable def f350 : Fn := ⟨[93, 61, 19, 6], [.none], [], [.asg (.attr (.loc 93) 10) (.k (.str [101, 110, 118, 105, 114, 111, 110, 109, 101, 110, 116])), .asg (.attr (.loc 93) 61) (.loc 61), .asg (.attr (.loc 93) 19) (.loc 19), .asg (.attr (.loc 93) 6) (.loc 6), .asg (.attr (.loc 93) 17) (.dict [] []), .asg (.attr (.loc 93) 98) (.k (.bool false)), .asg (.attr (.loc 93) 99) (.dict [] [])]⟩ -- Environment___init__
noncomputable def f371 : Fn := ⟨[93, 52, 15], [], [], [.asg (.attr (.loc 93) 10) (.k (.str [112, 114, 111, 109, 105, 115, 101])), .asg (.attr (.loc 93) 52) (.loc 52), .asg (.attr (.loc 93) 15) (.loc 15), .asg (.attr (.loc 93) 16) (.k .none), .asg (.attr (.loc 93) 54) (.k (.int (.ofNat 0))), .asg (.attr (.loc 93) 57) (.k (.bool false)), .asg (.attr (.loc 93) 6) (.k .none)]⟩ -- Promise___init__
noncomputable def f406 : Fn := ⟨[], [], [], [.ret (.call (.k (.fn 195)) [])]⟩ -- null
noncomputable def f441 : Fn := ⟨[5, 12], [], [], [.asg (.loc 8) (.bin 0 (.list [(.call (.k (.fn 266)) [(.loc 5)])]) (.call (.k (.bi 1)) [(.loc 12)])), .ret (.call (.k (.fn 288)) [(.loc 8), (.bin 1 (.list [(.k .none)]) (.call (.k (.bi 0)) [(.loc 8)]))])]⟩ -- call_of
noncomputable def f455 : Fn := ⟨[4], [], [], [.ret (.cmp 4 (.attr (.loc 4) 10) (.tup [(.k (.str [99, 108, 111, 115, 117, 114, 101])), (.k (.str [98, 117, 105, 108, 116, 105, 110])), (.k (.str [115, 112, 101, 99, 105, 97, 108]))]))]⟩ -- is_function
noncomputable def f462 : Fn := ⟨[4], [], [], [.iff (.call (.k (.bi 4)) [(.loc 4), (.k (.fn 245))]) [.asg (.attr (.loc 4) 13) (.k (.bool true))] [], .ret (.loc 4)]⟩ -- share
noncomputable def f476 : Fn := ⟨[93, 20, 23, 68, 100, 101, 22], [], [], [.asg (.attr (.loc 93) 20) (.loc 20), .asg (.attr (.loc 93) 23) (.loc 23), .asg (.attr (.loc 93) 68) (.loc 68), .asg (.attr (.loc 93) 100) (.loc 100), .asg (.attr (.loc 93) 101) (.loc 101), .asg (.attr (.loc 93) 22) (.loc 22)]⟩ -- Dispatch___init__
noncomputable def f488 : Fn := ⟨[4], [], [], [.iff (.bool true [(.cmp 3 (.attr (.loc 4) 6) (.k .none)), (.cmp 4 (.k (.str [99, 108, 97, 115, 115])) (.attr (.loc 4) 6))]) [.ret (.lcomp (.nas 5) [5] (.call (.k (.fn 42)) [(.loc 4)]) [] [])] [], .ret (.call (.k (.fn 70)) [(.loc 4)])]⟩ -- dispatch_class
noncomputable def f495 : Fn := ⟨[14, 5, 15], [], [], [.while (.cmp 3 (.loc 15) (.k .none)) [.iff (.cmp 4 (.loc 5) (.attr (.loc 15) 17)) [.asg (.loc 16) (.sub (.attr (.loc 15) 17) (.loc 5)), .iff (.cmp 0 (.attr (.loc 16) 10) (.k (.str [112, 114, 111, 109, 105, 115, 101]))) [.asg (.loc 16) (.mcall (.loc 14) 18 [(.loc 16)])] [], .iff (.call (.k (.fn 455)) [(.loc 16)]) [.ret (.loc 16)] []] [], .asg (.loc 15) (.attr (.loc 15) 19)], .ret (.k .none)]⟩ -- function_from
noncomputable def f502 : Fn := ⟨[14, 20, 21, 15], [], [], [.ret (.call (.k (.fn 495)) [(.loc 14), (.bin 0 (.bin 0 (.loc 20) (.k (.str [46]))) (.loc 21)), (.loc 15)])]⟩ -- find_method
noncomputable def f509 : Fn := ⟨[14, 20, 22, 23, 24], [], [], [.for [25] (.call (.k (.bi 2)) [(.call (.k (.bi 0)) [(.loc 23)])]) [.for [5] (.tup [(.loc 20), (.loc 22)]) [.iff (.cmp 0 (.loc 5) (.k (.str []))) [.cont] [], .for [15] (.loc 24) [.asg (.loc 26) (.call (.k (.fn 502)) [(.loc 14), (.loc 5), (.sub (.loc 23) (.loc 25)), (.loc 15)]), .iff (.cmp 3 (.loc 26) (.k .none)) [.ret (.tup [(.loc 25), (.loc 26)])] []]]], .ret (.tup [(.neg (.k (.int (.ofNat 1)))), (.k .none)])]⟩ -- first_method
noncomputable def f516 : Fn := ⟨[14, 20, 24], [], [], [.for [15] (.loc 24) [.asg (.loc 26) (.call (.k (.fn 502)) [(.loc 14), (.loc 20), (.k (.str [100, 101, 102, 97, 117, 108, 116])), (.loc 15)]), .iff (.cmp 3 (.loc 26) (.k .none)) [.ret (.loc 26)] []], .ret (.k .none)]⟩ -- default_method
noncomputable def f523 : Fn := ⟨[14, 16], [], [], [.iff (.cmp 0 (.attr (.loc 16) 10) (.k (.str [112, 114, 111, 109, 105, 115, 101]))) [.ret (.mcall (.loc 14) 18 [(.loc 16)])] [], .ret (.loc 16)]⟩ -- plain_value
noncomputable def f542 : Fn := ⟨[14, 27, 12, 28, 15], [], [14], [.asg (.loc 29) (.lcomp (.tup [(.loc 33), (.call (.k (.fn 523)) [(.cel 14), (.loc 16)])]) [33, 16] (.loc 12) [] [14]), .iff (.attr (.loc 27) 35) [.asg (.tup [27, 29]) (.call (.k (.fn 530)) [(.cel 14), (.loc 27), (.loc 29)])] [], .asg (.attr (.cel 14) 36) (.k (.bool true)), .asg (.loc 30) (.attr (.cel 14) 37), .asg (.attr (.cel 14) 37) (.loc 28), .try_ [.iff (.notE (.attr (.loc 27) 35)) [.ret (.mcall (.loc 27) 38 [(.cel 14), (.loc 29), (.loc 15)])] [], .ret (.mcall (.loc 27) 38 [(.cel 14), (.call (.k (.fn 537)) [(.loc 27), (.loc 29)]), (.loc 15)])] [(100, some 31, [.asg (.loc 32) (.attr (.loc 31) 32)])] [.asg (.attr (.cel 14) 37) (.loc 30)], .ret (.mcall (.cel 14) 39 [(.loc 32), (.loc 28)])]⟩ -- internal_call
noncomputable def f549 : Fn := ⟨[14, 26, 12, 28, 15, 40], [], [], [.iff (.cmp 0 (.attr (.loc 26) 10) (.k (.str [99, 108, 111, 115, 117, 114, 101]))) [.ret (.mcall (.loc 14) 41 [(.loc 26), (.loc 12), (.loc 28), (.loc 15), (.loc 40)])] [], .iff (.cmp 1 (.attr (.loc 40) 22) (.k (.str []))) [.asg (.loc 15) (.mcall (.loc 14) 42 [(.loc 15)]), .asg (.sub (.attr (.loc 15) 17) (.k (.str [46, 71, 101, 110, 101, 114, 105, 99]))) (.call (.k (.fn 427)) [(.attr (.loc 40) 20)])] [], .ret (.call (.k (.fn 542)) [(.loc 14), (.loc 26), (.loc 12), (.loc 28), (.loc 15)])]⟩ -- call_method
noncomputable def f577 : Fn := ⟨[93, 43, 74], [], [], [.asg (.attr (.loc 93) 43) (.loc 43), .asg (.attr (.loc 93) 74) (.loc 74), .asg (.attr (.loc 93) 102) (.bin 1 (.list [(.k (.int (.ofNat 0)))]) (.call (.k (.bi 0)) [(.loc 74)])), .asg (.attr (.loc 93) 51) (.dict [] [])]⟩ -- Matching___init__
noncomputable def f584 : Fn := ⟨[93], [], [], [.for [5] (.attr (.loc 93) 43) [.iff (.cmp 1 (.loc 5) (.k (.str [46, 46, 46]))) [.for [25] (.call (.k (.bi 2)) [(.call (.k (.bi 0)) [(.attr (.loc 93) 74)])]) [.iff (.bool true [(.cmp 0 (.sub (.attr (.loc 93) 74) (.loc 25)) (.loc 5)), (.cmp 0 (.sub (.attr (.loc 93) 102) (.loc 25)) (.k (.int (.ofNat 0))))]) [.iff (.cmp 4 (.loc 5) (.attr (.loc 93) 51)) [.raise (.call (.k (.fn 100)) [(.call (.k (.fn 631)) [(.loc 5)])])] [], .asg (.sub (.attr (.loc 93) 51) (.loc 5)) (.loc 25), .asg (.sub (.attr (.loc 93) 102) (.loc 25)) (.k (.int (.ofNat 2)))] []]] []]]⟩ -- Matching_exact
noncomputable def f591 : Fn := ⟨[93], [], [], [.for [5] (.attr (.loc 93) 43) [.iff (.cmp 0 (.loc 5) (.k (.str [46, 46, 46]))) [.ret (.k .none)] [], .iff (.cmp 5 (.loc 5) (.attr (.loc 93) 51)) [.expr (.mcall (.loc 93) 103 [(.loc 5)])] []]]⟩ -- Matching_partial
noncomputable def f598 : Fn := ⟨[93, 5], [], [], [.for [25] (.call (.k (.bi 2)) [(.call (.k (.bi 0)) [(.attr (.loc 93) 74)])]) [.asg (.loc 33) (.sub (.attr (.loc 93) 74) (.loc 25)), .iff (.bool true [(.cmp 1 (.sub (.attr (.loc 93) 102) (.loc 25)) (.k (.int (.ofNat 2)))), (.cmp 3 (.loc 33) (.k .none)), (.cmp 1 (.loc 33) (.k (.str []))), (.mcall (.loc 5) 64 [(.loc 33)])]) [.iff (.cmp 0 (.sub (.attr (.loc 93) 102) (.loc 25)) (.k (.int (.ofNat 1)))) [.raise (.call (.k (.fn 100)) [.bad])] [], .iff (.cmp 4 (.loc 5) (.attr (.loc 93) 51)) [.raise (.call (.k (.fn 100)) [(.call (.k (.fn 631)) [(.loc 5)])])] [], .asg (.sub (.attr (.loc 93) 51) (.loc 5)) (.loc 25), .asg (.sub (.attr (.loc 93) 102) (.loc 25)) (.k (.int (.ofNat 1)))] []]]⟩ -- Matching_partial_of
noncomputable def f605 : Fn := ⟨[93], [], [], [.asg (.loc 25) (.k (.int (.ofNat 0))), .for [5] (.attr (.loc 93) 43) [.iff (.cmp 0 (.loc 5) (.k (.str [46, 46, 46]))) [.ret (.k .none)] [], .iff (.cmp 5 (.loc 5) (.attr (.loc 93) 51)) [.while (.bool true [(.cmp 6 (.loc 25) (.call (.k (.bi 0)) [(.attr (.loc 93) 74)])), (.notE (.mcall (.loc 93) 104 [(.loc 25)]))]) [.augn 25 (.k (.int (.ofNat 1)))], .iff (.cmp 6 (.loc 25) (.call (.k (.bi 0)) [(.attr (.loc 93) 74)])) [.asg (.sub (.attr (.loc 93) 51) (.loc 5)) (.loc 25), .asg (.sub (.attr (.loc 93) 102) (.loc 25)) (.k (.int (.ofNat 2)))] []] []]]⟩ -- Matching_positional
noncomputable def f612 : Fn := ⟨[93, 25], [], [], [.ret (.bool true [(.cmp 0 (.sub (.attr (.loc 93) 102) (.loc 25)) (.k (.int (.ofNat 0)))), (.bool false [(.cmp 2 (.sub (.attr (.loc 93) 74) (.loc 25)) (.k .none)), (.cmp 0 (.sub (.attr (.loc 93) 74) (.loc 25)) (.k (.str [])))])])]⟩ -- Matching_is_free
noncomputable def f617 : Fn := ⟨[93], [], [93], [.ret (.lcomp (.loc 25) [25] (.call (.k (.bi 2)) [(.call (.k (.bi 0)) [(.attr (.cel 93) 74)])]) [(.cmp 0 (.sub (.attr (.cel 93) 102) (.loc 25)) (.k (.int (.ofNat 0))))] [93])]⟩ -- Matching_rest
noncomputable def f656 : Fn := ⟨[43, 12, 44], [.none], [], [.asg (.loc 45) (.call (.k (.fn 620)) [(.loc 43), (.lcomp (.sub (.loc 47) (.k (.int (.ofNat 0)))) [47] (.loc 12) [] [])]), .expr (.mcall (.loc 45) 48 []), .expr (.mcall (.loc 45) 49 []), .expr (.mcall (.loc 45) 50 []), .asg (.loc 46) (.mcall (.loc 45) 46 []), .iff (.bool true [(.cmp 7 (.call (.k (.bi 0)) [(.loc 46)]) (.k (.int (.ofNat 0)))), (.cmp 5 (.k (.str [46, 46, 46])) (.loc 43))]) [.raise (.call (.k (.fn 100)) [(.call (.k (.fn 650)) [(.loc 12), (.loc 46), (.loc 44)])])] [], .ret (.tup [(.attr (.loc 45) 51), (.loc 46)])]⟩ -- match_names
noncomputable def f663 : Fn := ⟨[52, 16], [], [], [.asg (.loc 53) (.call (.k (.fn 374)) [(.loc 52), (.k .none)]), .asg (.attr (.loc 53) 16) (.loc 16), .asg (.attr (.loc 53) 54) (.k (.int (.ofNat 2))), .ret (.loc 53)]⟩ -- done_promise
noncomputable def f670 : Fn := ⟨[16], [], [], [.iff (.bool false [(.cmp 0 (.attr (.loc 16) 10) (.k (.str [112, 114, 111, 109, 105, 115, 101]))), (.cmp 0 (.attr (.loc 16) 10) (.k (.str [109, 105, 115, 115, 105, 110, 103])))]) [.ret (.loc 16)] [], .ret (.call (.k (.fn 663)) [(.loc 16), (.call (.k (.fn 462)) [(.loc 16)])])]⟩ -- bound_argument
noncomputable def f690 : Fn := ⟨[55, 12, 15, 44], [.none], [12], [.asg (.loc 56) (.lcomp (.sub (.loc 59) (.k (.int (.ofNat 0)))) [59] (.attr (.loc 55) 43) [] []), .asg (.tup [51, 46]) (.call (.k (.fn 656)) [(.loc 56), (.cel 12), (.loc 44)]), .for [5, 57] (.attr (.loc 55) 43) [.iff (.cmp 0 (.loc 5) (.k (.str [46, 46, 46]))) [.asg (.sub (.attr (.loc 15) 17) (.loc 5)) (.call (.k (.fn 395)) [(.lcomp (.call (.k (.fn 677)) [(.sub (.cel 12) (.loc 25))]) [25] (.loc 46) [] [12])])] [.iff (.cmp 4 (.loc 5) (.loc 51)) [.asg (.loc 58) (.call (.k (.fn 670)) [(.sub (.sub (.cel 12) (.sub (.loc 51) (.loc 5))) (.k (.int (.ofNat 1))))]), .iff (.cmp 0 (.attr (.loc 58) 10) (.k (.str [109, 105, 115, 115, 105, 110, 103]))) [.asg (.loc 58) (.call (.k (.fn 684)) [(.loc 57), (.loc 15)])] [], .asg (.sub (.attr (.loc 15) 17) (.loc 5)) (.loc 58)] [.asg (.sub (.attr (.loc 15) 17) (.loc 5)) (.call (.k (.fn 684)) [(.loc 57), (.loc 15)])]]]]⟩ -- bind_formals
noncomputable def f718 : Fn := ⟨[14, 61], [], [], [.for [17] (.call (.k (.bi 6)) [(.attr (.loc 14) 62)]) [.iff (.cmp 0 (.attr (.attr (.loc 17) 15) 61) (.loc 61)) [.ret (.loc 17)] []], .ret (.k .none)]⟩ -- frame_of
noncomputable def f746 : Fn := ⟨[93, 28, 63, 15, 72, 12], [], [], [.asg (.attr (.loc 93) 28) (.loc 28), .asg (.attr (.loc 93) 63) (.loc 63), .asg (.attr (.loc 93) 15) (.loc 15), .asg (.attr (.loc 93) 72) (.loc 72), .asg (.attr (.loc 93) 12) (.loc 12), .asg (.attr (.loc 93) 105) (.list []), .asg (.attr (.loc 93) 40) (.k .none)]⟩ -- Frame___init__
noncomputable def f768 : Fn := ⟨[93, 106, 107], [(.int (.ofNat 20000)), (.int (.ofNat 40))], [], [.asg (.attr (.loc 93) 106) (.loc 106), .asg (.attr (.loc 93) 107) (.loc 107), .asg (.attr (.loc 93) 108) (.k (.int (.ofNat 0))), .asg (.attr (.loc 93) 109) (.k (.int (.ofNat 0))), .asg (.attr (.loc 93) 67) (.mcall (.loc 93) 42 [(.k .none)]), .asg (.attr (.loc 93) 88) (.mcall (.loc 93) 42 [(.attr (.loc 93) 67)]), .asg (.attr (.loc 93) 62) (.list []), .asg (.attr (.loc 93) 110) (.list []), .asg (.attr (.loc 93) 111) (.list []), .asg (.attr (.loc 93) 112) (.list []), .asg (.attr (.loc 93) 113) (.list []), .asg (.attr (.loc 93) 114) (.k (.int (.ofNat 0))), .asg (.attr (.loc 93) 36) (.k (.bool true)), .asg (.attr (.loc 93) 37) (.k .none), .asg (.attr (.loc 93) 115) (.k .none), .asg (.attr (.loc 93) 116) (.k .none), .asg (.attr (.loc 93) 117) (.k .none), .asg (.attr (.loc 93) 118) (.k .none), .asg (.attr (.loc 93) 119) (.k .none)]⟩ -- Evaluator___init__
noncomputable def f775 : Fn := ⟨[93, 19], [], [], [.asg (.loc 15) (.call (.k (.fn 353)) [(.attr (.loc 93) 109), (.loc 19)]), .aug (.loc 93) 109 (.k (.int (.ofNat 1))), .ret (.loc 15)]⟩ -- Evaluator_new_env
noncomputable def f783 : Fn := ⟨[93, 5, 35, 38, 22], [(.str [])], [], [.asg (.sub (.attr (.attr (.loc 93) 67) 17) (.loc 5)) (.call (.k (.fn 331)) [(.loc 5), (.loc 35), (.loc 38), (.loc 22)])]⟩ -- Evaluator_define
noncomputable def f790 : Fn := ⟨[93], [], [], [.aug (.loc 93) 108 (.k (.int (.ofNat 1))), .iff (.cmp 7 (.attr (.loc 93) 108) (.attr (.loc 93) 106)) [.raise (.call (.k (.fn 138)) [(.k (.str [115, 116, 101, 112, 115]))])] []]⟩ -- Evaluator_tick
noncomputable def f797 : Fn := ⟨[93, 32, 28], [], [], [.iff (.cmp 3 (.attr (.loc 93) 116) (.k .none)) [.expr (.mcall (.loc 93) 116 [(.loc 93), (.loc 32), (.loc 28)])] [], .raise (.call (.k (.fn 119)) [(.loc 32), (.loc 28), (.k .none)])]⟩ -- Evaluator_signal_error
noncomputable def f819 : Fn := ⟨[93, 120, 15], [], [], [.asg (.attr (.loc 93) 36) (.k (.bool true)), .asg (.loc 10) (.attr (.loc 120) 10), .iff (.cmp 0 (.loc 10) (.k (.str [115, 121, 109, 98, 111, 108]))) [.ret (.mcall (.loc 93) 121 [(.attr (.loc 120) 5), (.loc 15)])] [], .iff (.cmp 0 (.loc 10) (.k (.str [108, 97, 110, 103, 117, 97, 103, 101]))) [.ret (.mcall (.loc 93) 122 [(.loc 120), (.loc 15)])] [], .iff (.cmp 0 (.loc 10) (.k (.str [112, 114, 111, 109, 105, 115, 101]))) [.ret (.mcall (.loc 93) 18 [(.loc 120)])] [], .iff (.cmp 0 (.loc 10) (.k (.str [109, 105, 115, 115, 105, 110, 103]))) [.expr (.mcall (.loc 93) 39 [(.k (.str [97, 114, 103, 117, 109, 101, 110, 116, 32, 105, 115, 32, 109, 105, 115, 115, 105, 110, 103, 44, 32, 119, 105, 116, 104, 32, 110, 111, 32, 100, 101, 102, 97, 117, 108, 116])), (.mcall (.loc 93) 123 [])])] [], .ret (.call (.k (.fn 462)) [(.loc 120)])]⟩ -- Evaluator_eval
noncomputable def f848 : Fn := ⟨[93, 5, 15, 28], [.none], [], [.while (.cmp 3 (.loc 15) (.k .none)) [.asg (.loc 9) (.mcall (.attr (.loc 15) 17) 2 [(.loc 5)]), .iff (.cmp 3 (.loc 9) (.k .none)) [.iff (.cmp 0 (.attr (.loc 9) 10) (.k (.str [112, 114, 111, 109, 105, 115, 101]))) [.asg (.loc 9) (.mcall (.loc 93) 18 [(.loc 9)])] [], .iff (.cmp 0 (.attr (.loc 9) 10) (.k (.str [109, 105, 115, 115, 105, 110, 103]))) [.expr (.mcall (.loc 93) 39 [(.bin 0 (.bin 0 (.k (.str [97, 114, 103, 117, 109, 101, 110, 116, 32, 34])) (.loc 5)) (.k (.str [34, 32, 105, 115, 32, 109, 105, 115, 115, 105, 110, 103, 44, 32, 119, 105, 116, 104, 32, 110, 111, 32, 100, 101, 102, 97, 117, 108, 116]))), (.loc 28)])] [], .iff (.call (.k (.fn 455)) [(.loc 9)]) [.ret (.loc 9)] []] [], .asg (.loc 15) (.attr (.loc 15) 19)], .ret (.mcall (.loc 93) 39 [(.bin 0 (.bin 0 (.k (.str [99, 111, 117, 108, 100, 32, 110, 111, 116, 32, 102, 105, 110, 100, 32, 102, 117, 110, 99, 116, 105, 111, 110, 32, 34])) (.loc 5)) (.k (.str [34]))), (.loc 28)])]⟩ -- Evaluator_find_function
noncomputable def f855 : Fn := ⟨[93, 28, 15], [], [], [.asg (.loc 124) (.sub (.attr (.loc 28) 8) (.k (.int (.ofNat 0)))), .iff (.cmp 0 (.attr (.loc 124) 10) (.k (.str [115, 121, 109, 98, 111, 108]))) [.ret (.mcall (.loc 93) 125 [(.attr (.loc 124) 5), (.loc 15), (.loc 28)])] [], .iff (.bool true [(.cmp 0 (.attr (.loc 124) 10) (.k (.str [99, 104, 97, 114, 97, 99, 116, 101, 114]))), (.cmp 0 (.call (.k (.bi 0)) [(.attr (.loc 124) 8)]) (.k (.int (.ofNat 1)))), (.cmp 3 (.sub (.attr (.loc 124) 8) (.k (.int (.ofNat 0)))) (.k .none))]) [.ret (.mcall (.loc 93) 125 [(.sub (.attr (.loc 124) 8) (.k (.int (.ofNat 0)))), (.loc 15), (.loc 28)])] [], .asg (.loc 9) (.mcall (.loc 93) 75 [(.loc 124), (.loc 15)]), .iff (.notE (.call (.k (.fn 455)) [(.loc 9)])) [.ret (.mcall (.loc 93) 39 [(.k (.str [97, 116, 116, 101, 109, 112, 116, 32, 116, 111, 32, 97, 112, 112, 108, 121, 32, 110, 111, 110, 45, 102, 117, 110, 99, 116, 105, 111, 110])), (.mcall (.loc 93) 123 [])])] [], .ret (.loc 9)]⟩ -- Evaluator_function_of
noncomputable def f869 : Fn := ⟨[93, 28, 15], [], [], [.expr (.mcall (.loc 93) 128 []), .asg (.loc 126) (.mcall (.loc 93) 129 [(.loc 28), (.loc 15)]), .iff (.cmp 0 (.attr (.loc 126) 10) (.k (.str [99, 108, 111, 115, 117, 114, 101]))) [.ret (.mcall (.loc 93) 41 [(.loc 126), (.mcall (.loc 93) 130 [(.from_ (.attr (.loc 28) 8) (.k (.int (.ofNat 1)))), (.from_ (.attr (.loc 28) 74) (.k (.int (.ofNat 1)))), (.loc 15)]), (.loc 28), (.loc 15)])] [], .iff (.cmp 0 (.attr (.loc 126) 10) (.k (.str [115, 112, 101, 99, 105, 97, 108]))) [.ret (.mcall (.loc 93) 131 [(.loc 126), (.loc 28), (.loc 15)])] [], .asg (.loc 127) (.bool false [(.cmp 0 (.attr (.loc 126) 22) (.k (.str [105, 110, 100, 101, 120]))), (.call (.k (.fn 970)) [(.loc 126)])]), .iff (.bool true [(.loc 127), (.cmp 7 (.call (.k (.bi 0)) [(.attr (.loc 28) 8)]) (.k (.int (.ofNat 1)))), (.call (.k (.fn 732)) [(.sub (.attr (.loc 28) 8) (.k (.int (.ofNat 1)))), (.loc 15)])]) [.expr (.mcall (.loc 93) 121 [(.attr (.sub (.attr (.loc 28) 8) (.k (.int (.ofNat 1)))) 5), (.loc 15)])] [], .asg (.loc 12) (.mcall (.loc 93) 132 [(.from_ (.attr (.loc 28) 8) (.k (.int (.ofNat 1)))), (.from_ (.attr (.loc 28) 74) (.k (.int (.ofNat 1)))), (.loc 15), (.loc 127), (.loc 28)]), .ret (.mcall (.loc 93) 133 [(.loc 126), (.loc 28), (.loc 12), (.loc 15)])]⟩ -- Evaluator_plain_call
noncomputable def f883 : Fn := ⟨[93, 8, 74, 15], [], [], [.asg (.loc 12) (.list []), .for [25] (.call (.k (.bi 2)) [(.call (.k (.bi 0)) [(.loc 8)])]) [.asg (.loc 134) (.sub (.loc 8) (.loc 25)), .iff (.bool true [(.cmp 0 (.attr (.loc 134) 10) (.k (.str [115, 121, 109, 98, 111, 108]))), (.cmp 0 (.attr (.loc 134) 5) (.k (.str [46, 46, 46])))]) [.expr (.mcall (.loc 12) 135 [(.mcall (.loc 93) 136 [(.loc 15)])])] [.iff (.bool false [(.cmp 0 (.attr (.loc 134) 10) (.k (.str [115, 121, 109, 98, 111, 108]))), (.cmp 0 (.attr (.loc 134) 10) (.k (.str [108, 97, 110, 103, 117, 97, 103, 101])))]) [.expr (.mcall (.loc 12) 0 [(.tup [(.sub (.loc 74) (.loc 25)), (.call (.k (.fn 374)) [(.loc 134), (.loc 15)])])])] [.expr (.mcall (.loc 12) 0 [(.tup [(.sub (.loc 74) (.loc 25)), (.call (.k (.fn 462)) [(.loc 134)])])])]]], .ret (.loc 12)]⟩ -- Evaluator_promise_args
noncomputable def f905 : Fn := ⟨[93, 126, 28, 15], [], [], [.asg (.loc 30) (.attr (.loc 93) 37), .asg (.attr (.loc 93) 37) (.loc 28), .asg (.attr (.loc 93) 36) (.k (.bool true)), .try_ [.ret (.mcall (.loc 126) 38 [(.loc 93), (.loc 28), (.loc 15)])] [(100, some 137, [.asg (.loc 32) (.attr (.loc 137) 32)])] [.asg (.attr (.loc 93) 37) (.loc 30)], .ret (.mcall (.loc 93) 39 [(.loc 32), (.loc 28)])]⟩ -- Evaluator_call_special
noncomputable def f920 : Fn := ⟨[93, 55, 12, 28, 72, 40], [.none], [], [.iff (.cmp 8 (.call (.k (.bi 0)) [(.attr (.loc 93) 62)]) (.attr (.loc 93) 107)) [.expr (.mcall (.loc 93) 39 [(.k (.str [101, 118, 97, 108, 117, 97, 116, 105, 111, 110, 32, 110, 101, 115, 116, 101, 100, 32, 116, 111, 111, 32, 100, 101, 101, 112, 108, 121, 58, 32, 105, 110, 102, 105, 110, 105, 116, 101, 32, 114, 101, 99, 117, 114, 115, 105, 111, 110])), (.loc 28)])] [], .asg (.loc 15) (.mcall (.loc 93) 42 [(.attr (.loc 55) 15)]), .try_ [.expr (.call (.k (.fn 690)) [(.loc 55), (.loc 12), (.loc 15), (.mcall (.loc 93) 140 [])]), .asg (.loc 32) (.k .none)] [(100, some 137, [.asg (.loc 32) (.attr (.loc 137) 32)])] [], .iff (.cmp 3 (.loc 32) (.k .none)) [.expr (.mcall (.loc 93) 39 [(.loc 32), (.loc 28)])] [], .asg (.loc 17) (.call (.k (.fn 749)) [(.loc 28), (.loc 55), (.loc 15), (.loc 72), (.loc 12)]), .iff (.cmp 3 (.loc 40) (.k .none)) [.asg (.attr (.loc 17) 40) (.loc 40), .asg (.sub (.attr (.loc 15) 17) (.k (.str [46, 71, 101, 110, 101, 114, 105, 99]))) (.call (.k (.fn 427)) [(.attr (.loc 40) 20)])] [], .expr (.mcall (.attr (.loc 93) 62) 0 [(.loc 17)]), .asg (.loc 16) (.call (.k (.fn 406)) []), .asg (.loc 138) (.k (.bool false)), .try_ [.asg (.loc 16) (.mcall (.loc 93) 75 [(.attr (.loc 55) 97), (.loc 15)])] [(157, some 139, [.iff (.cmp 1 (.attr (.loc 139) 61) (.attr (.loc 15) 61)) [.reraise] [], .asg (.loc 16) (.attr (.loc 139) 16)]), (176, some 139, [.iff (.cmp 1 (.attr (.loc 139) 61) (.attr (.loc 15) 61)) [.reraise] [], .asg (.loc 138) (.k (.bool true))])] [.asg (.loc 16) (.mcall (.loc 93) 141 [(.loc 17), (.loc 16)])], .iff (.loc 138) [.expr (.mcall (.loc 93) 39 [(.k (.str [110, 111, 32, 108, 111, 111, 112, 32, 102, 111, 114, 32, 98, 114, 101, 97, 107, 47, 110, 101, 120, 116, 44, 32, 106, 117, 109, 112, 32, 116, 111, 32, 116, 111, 112, 32, 108, 101, 118, 101, 108])), (.loc 28)])] [], .ret (.loc 16)]⟩ -- Evaluator_apply_closure
noncomputable def f927 : Fn := ⟨[93, 17, 16], [], [], [.asg (.loc 36) (.attr (.loc 93) 36), .asg (.loc 138) (.k (.bool false)), .try_ [.expr (.mcall (.loc 93) 142 [(.loc 17)])] [(157, some 139, [.iff (.cmp 1 (.attr (.loc 139) 61) (.attr (.attr (.loc 17) 15) 61)) [.reraise] [], .asg (.loc 16) (.attr (.loc 139) 16)]), (176, some 139, [.iff (.cmp 1 (.attr (.loc 139) 61) (.attr (.attr (.loc 17) 15) 61)) [.reraise] [], .asg (.loc 138) (.k (.bool true))])] [.expr (.mcall (.attr (.loc 93) 62) 1 [])], .asg (.attr (.loc 93) 36) (.loc 36), .iff (.loc 138) [.expr (.mcall (.loc 93) 39 [(.k (.str [110, 111, 32, 108, 111, 111, 112, 32, 102, 111, 114, 32, 98, 114, 101, 97, 107, 47, 110, 101, 120, 116, 44, 32, 106, 117, 109, 112, 32, 116, 111, 32, 116, 111, 112, 32, 108, 101, 118, 101, 108])), (.attr (.loc 17) 28)])] [], .ret (.loc 16)]⟩ -- Evaluator_leave
noncomputable def f934 : Fn := ⟨[93, 17], [], [], [.asg (.loc 143) (.k .none), .while (.cmp 7 (.call (.k (.bi 0)) [(.attr (.loc 17) 105)]) (.k (.int (.ofNat 0)))) [.asg (.loc 144) (.mcall (.attr (.loc 17) 105) 1 [(.k (.int (.ofNat 0)))]), .try_ [.expr (.mcall (.loc 93) 75 [(.loc 144), (.attr (.loc 17) 15)])] [(80, some 31, [.asg (.loc 143) (.loc 31)])] []], .iff (.cmp 3 (.loc 143) (.k .none)) [.raise (.loc 143)] []]⟩ -- Evaluator_run_exits
noncomputable def f941 : Fn := ⟨[93], [], [118], [.asg (.cel 118) (.attr (.loc 93) 118), .iff (.cmp 2 (.cel 118) (.k .none)) [.ret (.k .none)] [], .bad, .ret (.loc 44)]⟩ -- Evaluator_shower
noncomputable def f977 : Fn := ⟨[33], [], [], [.ret (.bool false [(.cmp 2 (.loc 33) (.k .none)), (.cmp 0 (.loc 33) (.k (.str [])))])]⟩ -- is_untagged
noncomputable def f984 : Fn := ⟨[14, 17], [], [], [.asg (.loc 12) (.attr (.loc 17) 12), .iff (.cmp 0 (.call (.k (.bi 0)) [(.loc 12)]) (.k (.int (.ofNat 0)))) [.ret (.call (.k (.fn 406)) [])] [], .asg (.loc 9) (.k .none), .asg (.loc 43) (.attr (.attr (.loc 17) 63) 43), .iff (.bool true [(.cmp 7 (.call (.k (.bi 0)) [(.loc 43)]) (.k (.int (.ofNat 0)))), (.cmp 1 (.sub (.sub (.loc 43) (.k (.int (.ofNat 0)))) (.k (.int (.ofNat 0)))) (.k (.str [46, 46, 46])))]) [.asg (.loc 5) (.sub (.sub (.loc 43) (.k (.int (.ofNat 0)))) (.k (.int (.ofNat 0)))), .for [33, 16] (.loc 12) [.iff (.bool true [(.cmp 2 (.loc 9) (.k .none)), (.cmp 0 (.loc 33) (.loc 5))]) [.asg (.loc 9) (.loc 16)] []], .for [33, 16] (.loc 12) [.iff (.bool true [(.cmp 2 (.loc 9) (.k .none)), (.cmp 3 (.loc 33) (.k .none)), (.cmp 1 (.loc 33) (.k (.str []))), (.mcall (.loc 5) 64 [(.loc 33)])]) [.asg (.loc 9) (.loc 16)] []], .for [33, 16] (.loc 12) [.iff (.bool true [(.cmp 2 (.loc 9) (.k .none)), (.call (.k (.fn 977)) [(.loc 33)])]) [.asg (.loc 9) (.loc 16)] []]] [], .iff (.cmp 2 (.loc 9) (.k .none)) [.asg (.loc 9) (.sub (.sub (.loc 12) (.k (.int (.ofNat 0)))) (.k (.int (.ofNat 1))))] [], .iff (.cmp 0 (.attr (.loc 9) 10) (.k (.str [109, 105, 115, 115, 105, 110, 103]))) [.ret (.call (.k (.fn 406)) [])] [], .ret (.call (.k (.fn 523)) [(.loc 14), (.loc 9)])]⟩ -- first_argument
noncomputable def f991 : Fn := ⟨[16, 65], [], [], [.iff (.bool false [(.cmp 1 (.attr (.loc 16) 10) (.k (.str [99, 104, 97, 114, 97, 99, 116, 101, 114]))), (.cmp 1 (.call (.k (.bi 0)) [(.attr (.loc 16) 8)]) (.k (.int (.ofNat 1)))), (.cmp 2 (.sub (.attr (.loc 16) 8) (.k (.int (.ofNat 0)))) (.k .none))]) [.raise (.call (.k (.fn 100)) [(.bin 0 (.bin 0 (.k (.str [39])) (.loc 65)) (.k (.str [39, 32, 97, 114, 103, 117, 109, 101, 110, 116, 32, 109, 117, 115, 116, 32, 98, 101, 32, 97, 32, 99, 104, 97, 114, 97, 99, 116, 101, 114, 32, 115, 116, 114, 105, 110, 103])))])] [], .ret (.sub (.attr (.loc 16) 8) (.k (.int (.ofNat 0))))]⟩ -- one_text
noncomputable def f996 : Fn := ⟨[23], [], [], [.iff (.cmp 0 (.call (.k (.bi 0)) [(.loc 23)]) (.k (.int (.ofNat 1)))) [.ret (.bin 0 (.bin 0 (.k (.str [34])) (.sub (.loc 23) (.k (.int (.ofNat 0))))) (.k (.str [34])))] [], .ret (.bin 0 (.bin 0 (.k (.str [34, 99, 40])) (.mcall (.k (.str [44, 32])) 3 [(.lcomp (.bin 0 (.bin 0 (.k (.str [39])) (.loc 21)) (.k (.str [39]))) [21] (.loc 23) [] [])])) (.k (.str [41, 34])))]⟩ -- class_words
noncomputable def f1003 : Fn := ⟨[14, 20], [], [], [.asg (.loc 9) (.mcall (.attr (.attr (.loc 14) 67) 17) 2 [(.loc 20)]), .iff (.bool false [(.cmp 2 (.loc 9) (.k .none)), (.cmp 0 (.attr (.loc 9) 10) (.k (.str [98, 117, 105, 108, 116, 105, 110])))]) [.ret (.loc 9)] [], .asg (.loc 66) (.tup [(.k (.str [36])), (.k (.str [36, 60, 45])), (.k (.str [115, 117, 98, 115, 101, 116])), (.k (.str [116, 114, 97, 110, 115, 102, 111, 114, 109])), (.k (.str [99, 98, 105, 110, 100])), (.k (.str [114, 98, 105, 110, 100])), (.k (.str [100, 97, 116, 97, 46, 102, 114, 97, 109, 101]))]), .iff (.bool true [(.cmp 0 (.attr (.loc 9) 10) (.k (.str [115, 112, 101, 99, 105, 97, 108]))), (.cmp 4 (.loc 20) (.loc 66))]) [.ret (.loc 9)] [], .ret (.k .none)]⟩ -- inner_function
noncomputable def f1017 : Fn := ⟨[14, 20, 68, 17], [], [], [.asg (.loc 24) (.list [(.attr (.loc 17) 72), (.attr (.attr (.loc 17) 63) 15)]), .asg (.loc 23) (.call (.k (.fn 488)) [(.loc 68)]), .asg (.tup [25, 26]) (.call (.k (.fn 509)) [(.loc 14), (.loc 20), (.k (.str [])), (.loc 23), (.loc 24)]), .asg (.loc 69) (.from_ (.loc 23) (.bin 0 (.loc 25) (.k (.int (.ofNat 1))))), .iff (.cmp 2 (.loc 26) (.k .none)) [.asg (.loc 26) (.call (.k (.fn 516)) [(.loc 14), (.loc 20), (.loc 24)]), .asg (.loc 69) (.list [])] [], .asg (.loc 40) (.call (.k (.fn 479)) [(.loc 20), (.loc 69), (.loc 68), (.attr (.loc 17) 72), (.attr (.attr (.loc 17) 63) 15), (.k (.str []))]), .iff (.cmp 3 (.loc 26) (.k .none)) [.ret (.call (.k (.fn 549)) [(.loc 14), (.loc 26), (.attr (.loc 17) 12), (.attr (.loc 17) 28), (.attr (.loc 17) 72), (.loc 40)])] [], .asg (.loc 70) (.call (.k (.fn 1003)) [(.loc 14), (.loc 20)]), .iff (.cmp 3 (.loc 70) (.k .none)) [.expr (.call (.k (.fn 1010)) [(.loc 70), (.attr (.loc 17) 12)]), .ret (.call (.k (.fn 542)) [(.loc 14), (.loc 70), (.attr (.loc 17) 12), (.attr (.loc 17) 28), (.attr (.loc 17) 72)])] [], .asg (.loc 71) (.call (.k (.fn 996)) [(.loc 23)]), .raise (.call (.k (.fn 100)) [(.bin 0 (.bin 0 (.bin 0 (.k (.str [110, 111, 32, 97, 112, 112, 108, 105, 99, 97, 98, 108, 101, 32, 109, 101, 116, 104, 111, 100, 32, 102, 111, 114, 32, 39])) (.loc 20)) (.k (.str [39, 32, 97, 112, 112, 108, 105, 101, 100, 32, 116, 111, 32, 97, 110, 32, 111, 98, 106, 101, 99, 116, 32, 111, 102, 32, 99, 108, 97, 115, 115, 32]))) (.loc 71))])]⟩ -- method_value
noncomputable def f1022 : Fn := ⟨[14, 28, 15], [], [28, 12, 51], [.asg (.cel 12) (.lcomp (.tup [(.sub (.attr (.cel 28) 74) (.loc 25)), (.sub (.attr (.cel 28) 8) (.loc 25))]) [25] (.call (.k (.bi 2)) [(.k (.int (.ofNat 1))), (.call (.k (.bi 0)) [(.attr (.cel 28) 8)])]) [] [28]), .asg (.cel 51) (.sub (.call (.k (.fn 656)) [(.list [(.k (.str [103, 101, 110, 101, 114, 105, 99])), (.k (.str [111, 98, 106, 101, 99, 116]))]), (.cel 12), (.k (.fn 645))]) (.k (.int (.ofNat 0)))), .asg (.loc 73) (.dcomp (.loc 5) (.sub (.sub (.cel 12) (.sub (.cel 51) (.loc 5))) (.k (.int (.ofNat 1)))) [5] (.cel 51) [(.cmp 1 (.attr (.sub (.sub (.cel 12) (.sub (.cel 51) (.loc 5))) (.k (.int (.ofNat 1)))) 10) (.k (.str [109, 105, 115, 115, 105, 110, 103])))] [12, 51]), .iff (.cmp 5 (.k (.str [103, 101, 110, 101, 114, 105, 99])) (.loc 73)) [.raise (.call (.k (.fn 100)) [(.k (.str [97, 114, 103, 117, 109, 101, 110, 116, 32, 34, 103, 101, 110, 101, 114, 105, 99, 34, 32, 105, 115, 32, 109, 105, 115, 115, 105, 110, 103, 44, 32, 119, 105, 116, 104, 32, 110, 111, 32, 100, 101, 102, 97, 117, 108, 116]))])] [], .asg (.loc 20) (.call (.k (.fn 991)) [(.mcall (.loc 14) 75 [(.sub (.loc 73) (.k (.str [103, 101, 110, 101, 114, 105, 99]))), (.loc 15)]), (.k (.str [103, 101, 110, 101, 114, 105, 99]))]), .asg (.loc 17) (.call (.k (.fn 718)) [(.loc 14), (.attr (.loc 15) 61)]), .iff (.cmp 2 (.loc 17) (.k .none)) [.raise (.call (.k (.fn 100)) [(.k (.str [85, 115, 101, 77, 101, 116, 104, 111, 100, 32, 99, 97, 108, 108, 101, 100, 32, 102, 114, 111, 109, 32, 111, 117, 116, 115, 105, 100, 101, 32, 97, 32, 102, 117, 110, 99, 116, 105, 111, 110]))])] [], .iff (.cmp 4 (.k (.str [111, 98, 106, 101, 99, 116])) (.loc 73)) [.asg (.loc 68) (.mcall (.loc 14) 75 [(.sub (.loc 73) (.k (.str [111, 98, 106, 101, 99, 116]))), (.loc 15)])] [.asg (.loc 68) (.call (.k (.fn 984)) [(.loc 14), (.loc 17)])], .raise (.call (.k (.fn 157)) [(.attr (.attr (.loc 17) 15) 61), (.call (.k (.fn 1017)) [(.loc 14), (.loc 20), (.loc 68), (.loc 17)])])]⟩ -- s_UseMethod
noncomputable def f1029 : Fn := ⟨[76, 77], [], [], [.iff (.cmp 0 (.sub (.loc 76) (.k (.int (.ofNat 1)))) (.k (.int (.ofNat 0)))) [.asg (.sub (.loc 76) (.k (.int (.ofNat 2)))) (.bin 9 (.bin 1 (.sub (.loc 76) (.k (.int (.ofNat 2)))) (.k (.int (.ofNat 40014)))) (.k (.int (.ofNat 2147483563)))), .asg (.sub (.loc 76) (.k (.int (.ofNat 1)))) (.ite (.cmp 1 (.sub (.loc 76) (.k (.int (.ofNat 0)))) (.list [])) (.mcall (.sub (.loc 76) (.k (.int (.ofNat 0)))) 1 [(.k (.int (.ofNat 0)))]) (.bin 9 (.sub (.loc 76) (.k (.int (.ofNat 2)))) (.k (.int (.ofNat 11))))), .asg (.sub (.loc 76) (.k (.int (.ofNat 1)))) (.ite (.cmp 8 (.sub (.loc 76) (.k (.int (.ofNat 1)))) (.k (.int (.ofNat 0)))) (.sub (.loc 76) (.k (.int (.ofNat 1)))) (.neg (.sub (.loc 76) (.k (.int (.ofNat 1))))))] [], .asg (.loc 9) (.bin 9 (.sub (.loc 76) (.k (.int (.ofNat 1)))) (.loc 77)), .asg (.sub (.loc 76) (.k (.int (.ofNat 1)))) (.bin 9 (.sub (.loc 76) (.k (.int (.ofNat 1)))) (.loc 77)), .ret (.loc 9)]⟩ -- _law_take
noncomputable def f1036 : Fn := ⟨[5], [], [5], [.defc 78 [14, 12, 15] [.ret (.call (.k (.fn 245)) [(.k (.str [99, 104, 97, 114, 97, 99, 116, 101, 114])), (.list [(.cel 5)])])] [5], .ret (.loc 78)]⟩ -- _law_teller
noncomputable def f1041 : Fn := ⟨[80], [], [76, 23, 83], [.asg (.cel 76) (.list [(.call (.k (.bi 1)) [.bad]), (.k (.int (.ofNat 0))), (.bin 0 (.k (.int (.ofNat 1))) (.bin 9 (.call .bad [.bad]) (.k (.int (.ofNat 9973)))))]), .asg (.loc 14) (.call (.k (.fn 959)) []), .expr (.mcall (.loc 14) 87 [(.k (.str [85, 115, 101, 77, 101, 116, 104, 111, 100])), (.k (.bool true)), (.k (.fn 1022))]), .asg (.sub (.attr (.attr (.loc 14) 88) 17) (.k (.str [102]))) (.call (.k (.fn 310)) [(.list [(.tup [(.k (.str [120])), (.call (.k (.fn 216)) [])])]), (.call (.k (.fn 441)) [(.k (.str [85, 115, 101, 77, 101, 116, 104, 111, 100])), (.list [(.call (.k (.fn 245)) [(.k (.str [99, 104, 97, 114, 97, 99, 116, 101, 114])), (.list [(.k (.str [102]))])])])]), (.attr (.loc 14) 88)]), .asg (.loc 81) (.bin 0 (.k (.int (.ofNat 1))) (.call (.k (.fn 1029)) [(.cel 76), (.k (.int (.ofNat 5)))])), .asg (.loc 4) (.call (.k (.fn 245)) [(.k (.str [105, 110, 116, 101, 103, 101, 114])), (.list [(.k (.int (.ofNat 6)))])]), .asg (.loc 82) (.ite (.cmp 6 (.loc 81) (.k (.int (.ofNat 5)))) (.lcomp (.menu [(.str [97]), (.str [98]), (.str [78, 65]), .none] 1029 (.cel 76) 4) [89] (.call (.k (.bi 2)) [(.loc 81)]) [] [76]) (.list [])), .asg (.cel 23) (.list [(.k (.str [105, 110, 116, 101, 103, 101, 114])), (.k (.str [110, 117, 109, 101, 114, 105, 99]))]), .iff (.cmp 1 (.loc 82) (.list [])) [.asg (.attr (.loc 4) 6) (.dict [(.k (.str [99, 108, 97, 115, 115]))] [(.call (.k (.fn 245)) [(.k (.str [99, 104, 97, 114, 97, 99, 116, 101, 114])), (.call (.k (.bi 1)) [(.loc 82)])])]), .asg (.cel 23) (.lcomp (.call (.k (.bi 5)) [(.nas 91)]) [91] (.loc 82) [] [])] [], .asg (.cel 83) (.list []), .for [5] (.list [(.k (.str [97])), (.k (.str [98])), (.k (.str [78, 65])), (.k (.str [105, 110, 116, 101, 103, 101, 114])), (.k (.str [110, 117, 109, 101, 114, 105, 99])), (.k (.str [100, 101, 102, 97, 117, 108, 116]))]) [.iff (.cmp 0 (.call (.k (.fn 1029)) [(.cel 76), (.k (.int (.ofNat 3)))]) (.k (.int (.ofNat 1)))) [.expr (.mcall (.cel 83) 0 [(.loc 5)]), .asg (.sub (.attr (.attr (.loc 14) 88) 17) (.bin 0 (.k (.str [102, 46])) (.loc 5))) (.call (.k (.fn 331)) [(.bin 0 (.k (.str [102, 46])) (.loc 5)), (.k (.bool false)), (.call (.k (.fn 1036)) [(.bin 0 (.k (.str [102, 46])) (.loc 5))]), (.k (.str []))])] []], .iff (.bool false [(.cmp 1 (.call (.k (.bi 1)) [(.call (.k (.fn 488)) [(.loc 4)])]) (.cel 23)), (.bool true [(.cmp 1 (.loc 82) (.list [])), (.cmp 1 (.attr (.sub (.attr (.loc 4) 6) (.k (.str [99, 108, 97, 115, 115]))) 8) (.loc 82))])]) [.ret (.k (.bool false))] [], .for [5] (.cel 23) [.asg (.loc 26) (.call (.k (.fn 502)) [(.loc 14), (.k (.str [102])), (.loc 5), (.attr (.loc 14) 88)]), .iff (.bool false [(.cmp 1 (.cmp 3 (.loc 26) (.k .none)) (.cmp 4 (.loc 5) (.cel 83))), (.bool true [(.cmp 3 (.loc 26) (.k .none)), (.cmp 1 (.attr (.loc 26) 5) (.bin 0 (.k (.str [102, 46])) (.loc 5)))])]) [.ret (.k (.bool false))] []], .asg (.loc 84) (.lcomp (.loc 92) [92] (.call (.k (.bi 2)) [(.call (.k (.bi 0)) [(.cel 23)])]) [(.cmp 4 (.sub (.cel 23) (.loc 92)) (.cel 83))] [23, 83]), .asg (.tup [25, 26]) (.call (.k (.fn 509)) [(.loc 14), (.k (.str [102])), (.k (.str [])), (.call (.k (.fn 488)) [(.loc 4)]), (.list [(.attr (.loc 14) 88)])]), .iff (.bool false [(.cmp 1 (.loc 25) (.ite (.cmp 1 (.loc 84) (.list [])) (.sub (.loc 84) (.k (.int (.ofNat 0)))) (.neg (.k (.int (.ofNat 1)))))), (.cmp 1 (.cmp 2 (.loc 26) (.k .none)) (.cmp 0 (.loc 84) (.list [])))]) [.ret (.k (.bool false))] [], .asg (.loc 85) (.k (.str [])), .iff (.cmp 1 (.loc 84) (.list [])) [.asg (.loc 85) (.bin 0 (.k (.str [102, 46])) (.sub (.cel 23) (.sub (.loc 84) (.k (.int (.ofNat 0))))))] [.iff (.cmp 4 (.k (.str [100, 101, 102, 97, 117, 108, 116])) (.cel 83)) [.asg (.loc 85) (.k (.str [102, 46, 100, 101, 102, 97, 117, 108, 116]))] []], .try_ [.asg (.loc 78) (.mcall (.loc 14) 75 [(.call (.k (.fn 441)) [(.k (.str [102])), (.list [(.loc 4)])]), (.attr (.loc 14) 88)])] [(119, some 86, [.asg (.loc 71) (.ite (.cmp 0 (.call (.k (.bi 0)) [(.cel 23)]) (.k (.int (.ofNat 1)))) (.bin 0 (.bin 0 (.k (.str [34])) (.sub (.cel 23) (.k (.int (.ofNat 0))))) (.k (.str [34]))) (.bin 0 (.bin 0 (.k (.str [34, 99, 40])) (.mcall (.k (.str [44, 32])) 3 [(.lcomp (.bin 0 (.bin 0 (.k (.str [39])) (.loc 91)) (.k (.str [39]))) [91] (.cel 23) [] [])])) (.k (.str [41, 34])))), .ret (.bool true [(.cmp 0 (.loc 85) (.k (.str []))), (.cmp 0 (.attr (.loc 86) 32) (.bin 0 (.k (.str [110, 111, 32, 97, 112, 112, 108, 105, 99, 97, 98, 108, 101, 32, 109, 101, 116, 104, 111, 100, 32, 102, 111, 114, 32, 39, 102, 39, 32, 97, 112, 112, 108, 105, 101, 100, 32, 116, 111, 32, 97, 110, 32, 111, 98, 106, 101, 99, 116, 32, 111, 102, 32, 99, 108, 97, 115, 115, 32])) (.loc 71)))])])] [], .ret (.bool true [(.cmp 1 (.loc 85) (.k (.str []))), (.cmp 0 (.attr (.loc 78) 8) (.list [(.loc 85)]))])]⟩ -- law
noncomputable def fnT : KT Fn := (.node 598 f598 (.node 371 f371 (.node 154 f154 (.node 63 f63 (.node 42 f42 (.node 35 f35 (.node 28 f28 .nil .nil) .nil) (.node 56 f56 .nil .nil)) (.node 97 f97 (.node 70 f70 .nil .nil) (.node 116 f116 .nil .nil))) (.node 285 f285 (.node 235 f235 (.node 213 f213 (.node 192 f192 .nil .nil) .nil) (.node 263 f263 .nil .nil)) (.node 328 f328 (.node 307 f307 .nil .nil) (.node 350 f350 .nil .nil)))) (.node 509 f509 (.node 476 f476 (.node 455 f455 (.node 441 f441 (.node 406 f406 .nil .nil) .nil) (.node 462 f462 .nil .nil)) (.node 495 f495 (.node 488 f488 .nil .nil) (.node 502 f502 .nil .nil))) (.node 549 f549 (.node 523 f523 (.node 516 f516 .nil .nil) (.node 542 f542 .nil .nil)) (.node 584 f584 (.node 577 f577 .nil .nil) (.node 591 f591 .nil .nil))))) (.node 869 f869 (.node 746 f746 (.node 663 f663 (.node 617 f617 (.node 612 f612 (.node 605 f605 .nil .nil) .nil) (.node 656 f656 .nil .nil)) (.node 690 f690 (.node 670 f670 .nil .nil) (.node 718 f718 .nil .nil))) (.node 797 f797 (.node 783 f783 (.node 775 f775 (.node 768 f768 .nil .nil) .nil) (.node 790 f790 .nil .nil)) (.node 848 f848 (.node 819 f819 .nil .nil) (.node 855 f855 .nil .nil)))) (.node 991 f991 (.node 934 f934 (.node 920 f920 (.node 905 f905 (.node 883 f883 .nil .nil) .nil) (.node 927 f927 .nil .nil)) (.node 977 f977 (.node 941 f941 .nil .nil) (.node 984 f984 .nil .nil))) (.node 1022 f1022 (.node 1003 f1003 (.node 996 f996 .nil .nil) (.node 1017 f1017 .nil .nil)) (.node 1036 f1036 (.node 1029 f1029 .nil .nil) (.node 1041 f1041 .nil .nil))))))
noncomputable def c100 : Cl := ⟨some 97, [32], [], true⟩
noncomputable def c119 : Cl := ⟨some 116, [32, 28, 94], [], true⟩
noncomputable def c138 : Cl := ⟨none, [65], [], true⟩
noncomputable def c157 : Cl := ⟨some 154, [61, 16], [], true⟩
noncomputable def c176 : Cl := ⟨none, [61], [], true⟩
noncomputable def c195 : Cl := ⟨some 192, [10, 6], [], false⟩
noncomputable def c216 : Cl := ⟨some 213, [10, 6], [], false⟩
noncomputable def c245 : Cl := ⟨some 235, [10, 8, 6, 13, 95], [], false⟩
noncomputable def c266 : Cl := ⟨some 263, [10, 5, 6], [], false⟩
noncomputable def c288 : Cl := ⟨some 285, [10, 8, 74, 6, 96], [], false⟩
noncomputable def c310 : Cl := ⟨some 307, [10, 43, 97, 15, 6], [], false⟩
noncomputable def c331 : Cl := ⟨some 328, [10, 5, 35, 38, 22, 6], [], false⟩
noncomputable def c353 : Cl := ⟨some 350, [10, 61, 19, 6, 17, 98, 99], [], false⟩
noncomputable def c374 : Cl := ⟨some 371, [10, 52, 15, 16, 54, 57, 6], [], false⟩
noncomputable def c395 : Cl := ⟨none, [10, 12, 6], [], false⟩
noncomputable def c479 : Cl := ⟨some 476, [20, 23, 68, 100, 101, 22], [], false⟩
noncomputable def c620 : Cl := ⟨some 577, [43, 74, 102, 51], [(48, 584), (49, 591), (103, 598), (50, 605), (104, 612), (46, 617)], false⟩
noncomputable def c749 : Cl := ⟨some 746, [28, 63, 15, 72, 12, 105, 40], [], false⟩
noncomputable def c959 : Cl := ⟨some 768, [106, 107, 108, 109, 67, 88, 62, 110, 111, 112, 113, 114, 36, 37, 115, 116, 117, 118, 119], [(42, 775), (87, 783), (128, 790), (39, 797), (75, 819), (125, 848), (129, 855), (122, 869), (130, 883), (131, 905), (41, 920), (141, 927), (142, 934), (140, 941)], false⟩
noncomputable def clT : KT Cl := (.node 288 c288 (.node 176 c176 (.node 138 c138 (.node 119 c119 (.node 100 c100 .nil .nil) .nil) (.node 157 c157 .nil .nil)) (.node 245 c245 (.node 216 c216 (.node 195 c195 .nil .nil) .nil) (.node 266 c266 .nil .nil))) (.node 395 c395 (.node 353 c353 (.node 331 c331 (.node 310 c310 .nil .nil) .nil) (.node 374 c374 .nil .nil)) (.node 749 c749 (.node 620 c620 (.node 479 c479 .nil .nil) .nil) (.node 959 c959 .nil .nil))))
noncomputable def addrs : List Addr := [0, 2, 3, 4, 27, 28, 34, 35, 41, 42, 55, 56, 62, 63, 69, 70, 79, 80, 96, 97, 99, 100, 115, 116, 118, 119, 137, 138, 153, 154, 156, 157, 175, 176, 191, 192, 194, 195, 212, 213, 215, 216, 228, 234, 235, 244, 245, 262, 263, 265, 266, 278, 284, 285, 287, 288, 300, 306, 307, 309, 310, 327, 328, 330, 331, 343, 349, 350, 352, 353, 370, 371, 373, 374, 394, 395, 405, 406, 440, 441, 454, 455, 461, 462, 475, 476, 478, 479, 487, 488, 494, 495, 501, 502, 508, 509, 515, 516, 522, 523, 541, 542, 548, 549, 576, 577, 583, 584, 590, 591, 597, 598, 604, 605, 611, 612, 616, 617, 619, 620, 651, 655, 656, 662, 663, 669, 670, 685, 689, 690, 717, 718, 745, 746, 748, 749, 761, 767, 768, 774, 775, 776, 782, 783, 789, 790, 796, 797, 818, 819, 841, 847, 848, 854, 855, 868, 869, 882, 883, 904, 905, 913, 919, 920, 926, 927, 933, 934, 940, 941, 958, 959, 976, 977, 983, 984, 990, 991, 995, 996, 1002, 1003, 1016, 1017, 1021, 1022, 1028, 1029, 1035, 1036, 1040, 1041]
noncomputable def PP : Prg := ⟨⟨nsL, idT, glT, 1036, strOf [116, 111, 108, 100]⟩, fnT, clT, 1029, 1035, 1031, ⟨834, 4, 835, 42⟩, strOf [95, 108, 97, 119, 95, 116, 101, 108, 108, 101, 114, 46, 60, 108, 111, 99, 97, 108, 115, 62, 46, 116, 111, 108, 100]⟩
-- law 1041
end Mine
end
section
set_option genInjectivity false
set_option genSizeOf false
open PySem PySem.W PyProof.Rows
set_option Elab.async false
set_option maxRecDepth 10000000
set_option maxHeartbeats 0
namespace Mine
open Mine.Hd
noncomputable def fragOf (as : List Addr) (h : Heap) : Frag := as.filterMap fun a => (h.get? a).map (a, ·)
noncomputable def getT (t : SharedT) (a : Addr) : Option Obj := match Nat.blt a t.n with
  | true => alive ((t.tree.get a).getD default)
  | false => none
theorem getT_ok (t : SharedT) (a : Addr) : t.abs.heap.get? a = getT t a := by
  unfold getT
  change (match (absHeap t.tree t.n t.life).objs[a]? with
    | some ⟨_, _, .freed, _⟩ => none
    | o => o) = _
  rw [absHeap_at]
  cases h : Nat.blt a t.n with
  | true =>
    rw [if_pos (Nat.blt_eq.mp h)]
    dsimp only
    generalize (t.tree.get a).getD default = o
    obtain ⟨c, d, dt, sl⟩ := o
    cases dt <;> rfl
  | false => rw [if_neg fun q => by rw [Nat.blt_eq.mpr q] at h; cases h]
noncomputable def fragT (as : List Addr) (t : SharedT) : Frag := as.filterMap fun a => (getT t a).map (a, ·)
theorem fragT_ok (as : List Addr) (t : SharedT) : fragOf as t.abs.heap = fragT as t := by
  unfold fragOf fragT
  congr 1
  funext a
  rw [getT_ok]
noncomputable def emptyTab : Option Obj → Bool
  | some ⟨.none, none, .fields ⟨[]⟩, ⟨[]⟩⟩ => true
  | _ => false
noncomputable def tabEmpty (h : Heap) (a : Addr) : Bool := emptyTab (h.get? a)
noncomputable def chk2 (K : Frag) : Bool := chk K PP && takeChk K PP.take && lawChk K 1041 && isRf (nsIn K mainGlobals "law") 1041
noncomputable abbrev YT := Bool × Bool × List (Option Fn) × Option (List Stmt) × Option (List Stmt)
noncomputable def Yf (s : Shared) : YT := (chk2 (fragOf addrs s.heap), tabEmpty s.heap PP.tP, fnsOf (fragOf addrs s.heap) PP, textIn (fragOf addrs s.heap) PP.take, textIn (fragOf addrs s.heap) 1041)
noncomputable def Ya : YT := (true, true, PP.fns.list.map (fun p => some p.2), some takeBody, some lawBody)
noncomputable def YfT (t : SharedT) : YT := (chk2 (fragT addrs t), emptyTab (getT t PP.tP), fnsOf (fragT addrs t) PP, textIn (fragT addrs t) PP.take, textIn (fragT addrs t) 1041)
theorem YfT_ok (t : SharedT) : Yf t.abs = YfT t := by
  unfold Yf YfT tabEmpty
  rw [fragT_ok, getT_ok]
theorem runC (w : World) (os : OsState) : (ran p w 11 (some (.ref 6)) N (sT w os)).map (fun r => Yf r.2.1.abs) = some Ya := by
  rw [show (fun r : Flow × SharedT × Code × Pos => Yf r.2.1.abs) = fun r => YfT r.2.1 from funext fun r => YfT_ok r.2.1]
  unfold ran
  rw [Fast.te10110043849684766642, Fast.te14364793385576792824]
  kernel_rfl
end Mine
end
section
set_option genInjectivity false
set_option genSizeOf false
set_option tactic.hygienic false
open PySem PySem.W PyProof.Rows
namespace Mine
noncomputable def txt (σ : List Str) : List Nat → Option (List Nat)
  | [] => some []
  | c :: r => match txt σ r with
    | none => none
    | some l => match Nat.blt c 1114112 with
      | true => some (c :: l)
      | false => match σ[c - 1114112]? with
        | some s => some (s.cps.toList ++ l)
        | none => none
inductive VStr (σ : List Str) (p : List Nat) (v : Value) : Prop where
  | mk (l : List Nat) (t : Tok) (h : txt σ p = some l) (e : v = .str (strOf l) t)
inductive VRef (ρ : List Addr) (i : Nat) (v : Value) : Prop where
  | mk (a : Addr) (h : ρ[i]? = some a) (e : v = .ref a)
inductive VOpt (σ : List Str) (k : Nat) (v : Value) : Prop where
  | mk (x f : Str) (h1 : σ[k]? = some x) (h2 : σ[k + 1]? = some f) (h : (f.cps.size = 0 ∧ x = strOf [78, 65] ∧ v = .none) ∨ (f.cps.size ≠ 0 ∧ ∃ t, v = .str x t))
noncomputable def VR (ρ : List Addr) (σ : List Str) : AV → Value → Prop
  | .none, v => v = .none
  | .bool b, v => v = .bool b
  | .int n, v => ∃ t, v = .int n t
  | .str p, v => VStr σ p v
  | .ref i, v => VRef ρ i v
  | .fn a, v => v = .ref a
  | .bi k, v => biVal k = some v
  | .opt k, v => VOpt σ k v
  | .anyi, v => ∃ n t, v = .int n t
noncomputable def VRs (ρ : List Addr) (σ : List Str) : List AV → List Value → Prop
  | [], [] => True
  | a :: r, v :: s => VR ρ σ a v ∧ VRs ρ σ r s
  | _, _ => False
set_option tactic.hygienic true in
theorem txt_mono {σ : List Str} (more : List Str) : ∀ {p : List Nat} {l : List Nat}, txt σ p = some l → txt (σ ++ more) p = some l := by
  intro p
  induction p with
  | nil =>
    intro _ h
    exact h
  | cons c r ih =>
    intro l h
    unfold txt at h ⊢
    induction e : txt σ r with
    | none => rw [e] at h; first | exact no_tt h | exact no_ns h | induction h
    | some l' =>
      rw [e] at h; rw [ih e]
      dsimp only at h ⊢
      split at h
      · exact h
      · split at h
        · rename_i s hs
          rw [List.getElem?_append_left (List.getElem?_eq_some_iff.mp hs).1, hs]; exact h
        · first | exact no_tt h | exact no_ns h | induction h
theorem at_mono {α : Type} {l : List α} (more : List α) {i : Nat} {a : α} (h : l[i]? = some a) : (l ++ more)[i]? = some a := by
  rw [List.getElem?_append_left (List.getElem?_eq_some_iff.mp h).1]; exact h
theorem VR.mono {ρ : List Addr} {σ : List Str} (m1 : List Addr) (m2 : List Str) {a : AV} {v : Value} (h : VR ρ σ a v) : VR (ρ ++ m1) (σ ++ m2) a v := by
  induction a with
  | str p => obtain ⟨l, t, e, h⟩ := h; exact ⟨l, t, txt_mono m2 e, h⟩
  | ref i => obtain ⟨a, e, h⟩ := h; exact ⟨a, at_mono m1 e, h⟩
  | opt k => obtain ⟨x, f, e1, e2, h⟩ := h; exact ⟨x, f, at_mono m2 e1, at_mono m2 e2, h⟩
  | _ => exact h
structure Gd where
  prog : Program
  w : World
  nm : Nat → Str
  K : Frag
  B : Heap
  s1 : Shared
  tc : Addr
  tP : Addr
  tpos : Pos
  tq : Str
structure Gd.Ok (g : Gd) : Prop where
  inj : ∀ i j, g.nm i = g.nm j → i = j
  low : ∀ a o, g.K.lookup a = some o → a < g.B.objs.size
  lim : nsIn g.K cStatics "sys.recursionlimit" = some none
  nl : nsOkIn g.K cStatics = true
  sm : sysModules < g.B.objs.size
  last : ∃ a o, g.B.objs.size = a + 1 ∧ g.B.get? a = some o
  ng : nsOkIn g.K mainGlobals = true
  nb : nsOkIn g.K builtinsNs = true
  tl : g.tP < g.B.objs.size
  n0 : g.nm 0 = "append"
  n1 : g.nm 1 = "pop"
  n2 : g.nm 2 = "get"
  n3 : g.nm 3 = "join"
noncomputable abbrev Gd.knd (g : Gd) : KeyKind g.prog g.w Str := strKind g.prog g.w
section
variable (g : Gd)
noncomputable def IR (ρ : List Addr) (σ : List Str) : List (Nat × AV) → List DictEntry → Prop
  | [], [] => True
  | (x, v) :: r, e :: es => (∃ t, e.key = .str (g.nm x) t) ∧ VR ρ σ v e.val ∧ IR ρ σ r es
  | _, _ => False
noncomputable def KR (ρ : List Addr) (σ : List Str) : List (List Nat × AV) → List (Str × Value) → Prop
  | [], [] => True
  | (p, v) :: r, (x, u) :: es => txt σ p = some x.cps.toList ∧ VR ρ σ v u ∧ KR ρ σ r es
  | _, _ => False
noncomputable def cellR (ρ : List Addr) (σ : List Str) : Option AV → Option Value → Prop
  | some v, some u => VR ρ σ v u
  | none, none => True
  | _, _ => False
structure CloF where
  name : Str
  qual : Str
  params : Arguments
  body : List Stmt
  scope : Scope
noncomputable abbrev CloP := List Nat → List S → CloF → Prop
inductive OInst (ρ : List Addr) (C d : Nat) (o : Obj) : Prop where
  | mk (dx : Addr) (sl : Array (Option Value)) (h : ρ[d]? = some dx) (e : o = ⟨.ref C, some dx, .plain, sl⟩)
inductive OIdict (ρ : List Addr) (σ : List Str) (fs : List (Nat × AV)) (o : Obj) : Prop where
  | mk (es : List DictEntry) (n : Nat) (e : o = dictOf es n) (h : IR g ρ σ fs es)
inductive OSeq (c : String) (ρ : List Addr) (σ : List Str) (vs : List AV) (o : Obj) : Prop where
  | mk (xs : Array Value) (n : Nat) (e : o = ⟨.type c, none, .seq xs n, #[]⟩) (h : VRs ρ σ vs xs.toList)
inductive ODict (ρ : List Addr) (σ : List Str) (kv : List (List Nat × AV)) (ep : Nat) (o : Obj) : Prop where
  | mk (es : Array DictEntry) (kvs : List (Str × Value)) (h1 : o.ExactDict) (h2 : o.data = .dict es ep) (h3 : KeysOf g.knd es) (h4 : Pairs g.knd es.toList kvs) (h5 : (kvs.map (·.1)).Nodup) (h6 : KR ρ σ kv kvs)
inductive OPdict (ρ : List Addr) (σ : List Str) (kv : List (List Nat × AV)) (out : List (List Nat)) (o : Obj) : Prop where
  | mk (es : Array DictEntry) (ep : Nat) (f : Str → Option Value) (h1 : o.ExactDict) (h2 : o.data = .dict es ep) (h3 : KeysOf g.knd es) (h4 : ∀ k, findBy g.knd.is es k = f k)
      (h5 : ∀ p ∈ kv, ∃ x u, txt σ p.1 = some x.cps.toList ∧ f x = some u ∧ VR ρ σ p.2 u) (h6 : ∀ p ∈ out, ∃ x : Str, txt σ p = some x.cps.toList ∧ f x = none)
inductive OLset (σ : List Str) (ins outs : List (List Nat)) (o : Obj) : Prop where
  | mk (xs : Array Value) (n : Nat) (e : o = ⟨.type "list", none, .seq xs n, #[]⟩) (h1 : ∀ v ∈ xs.toList, ∃ x t, v = .str x t)
      (h2 : ∀ p ∈ ins, ∃ (x : Str) (t : Tok), txt σ p = some x.cps.toList ∧ Value.str x t ∈ xs.toList) (h3 : ∀ p ∈ outs, ∃ x : Str, txt σ p = some x.cps.toList ∧ ∀ t, Value.str x t ∉ xs.toList)
inductive ONs (ρ : List Addr) (σ : List Str) (fs : List (Nat × AV)) (o : Obj) : Prop where
  | mk (es : Array DictEntry) (ep : Nat) (h1 : o.data = .dict es ep) (h2 : StrKeys es) (h3 : ∀ x v, look fs x = some v → ∃ u, nsFind es (g.nm x) = some u ∧ VR ρ σ v u)
inductive OCell (ρ : List Addr) (σ : List Str) (v : Option AV) (o : Obj) : Prop where
  | mk (u : Option Value) (h1 : o.data = .cell u) (h2 : cellR ρ σ v u)
inductive OClo (clo : CloP) (ρ : List Addr) (ps : List Nat) (b : List S) (cs : List (Nat × Ix)) (j : Nat) (o : Obj) : Prop where
  | mk (c : CloF) (cl : List (Str × Addr)) (d : Option Addr) (sl : Array (Option Value)) (doc : Value) (pm : Value) (ctv : Value) (cd : Addr) (h1 : clo ps b c) (h2 : ρ[j]? = some cd) (h3 : o = ⟨.type "function", d, .func { name := c.name, qualname := c.qual, params := c.params, body := .stmts c.body, scope := c.scope, globals := mainGlobals, closure := cl, defaults := .none, kwdefaults := .none, doc := doc, pyModule := pm, annotations := none, code := .ref cd, closureTuple := ctv, builtins := builtinsNs }, sl⟩) (h4 : ∀ x i, lookI cs x = some i → ∃ a, ρ[i]? = some a ∧ cl.lookup (g.nm x) = some a)
inductive OCode (o : Obj) : Prop where
  | mk (vs : Array Value) (t : Tok) (h1 : o.data = .fields vs) (h2 : vs[1]? = some (.str g.tq t))
inductive OIt (c : String) (ρ : List Addr) (j : Nat) (r : Value) (o : Obj) : Prop where
  | mk (a : Addr) (h : ρ[j]? = some a) (h1 : o.cls = .type c) (h2 : o.data = .fields #[.ref a, r])
inductive OItD (ρ : List Addr) (j k n ep : Nat) (o : Obj) : Prop where
  | mk (a : Addr) (h : ρ[j]? = some a) (h1 : o.cls = .type "dict_keyiterator") (h2 : o.data = .fields #[.ref a, .int k 0, .int n 0, .int ep 0])
inductive OExc (ρ : List Addr) (C : Nat) (d : Option Ix) (o : Obj) : Prop where
  | mk (vs : Array Value) (h1 : o.cls = .ref C) (h2 : o.data = .fields vs) (h3 : vs.size = 6) (h4 : o.slots = #[]) (h5 : match d with
    | some d => ∃ dx, ρ[d / 2]? = some dx ∧ o.dict = some dx
    | none => o.dict = none)
inductive OSrc (ρ : List Addr) (j : Nat) (o : Obj) : Prop where
  | mk (a : Addr) (x : Int) (t : Tok) (y : Int) (u : Tok) (n : Nat) (h : ρ[j]? = some a) (e : o = ⟨.type "list", none, .seq #[.ref a, .int x t, .int y u] n, #[]⟩)
inductive ONums (o : Obj) : Prop where
  | mk (xs : Array Value) (n : Nat) (e : o = ⟨.type "list", none, .seq xs n, #[]⟩) (h1 : ∀ v ∈ xs.toList, ∃ x t, v = .int x t) (h2 : xs.size ≤ 1000)
noncomputable def OR (clo : CloP) (ρ : List Addr) (σ : List Str) : Ob → Obj → Prop
  | .inst C d, o => OInst ρ C d o
  | .idict fs, o => OIdict g ρ σ fs o
  | .list vs, o => OSeq "list" ρ σ vs o
  | .tup vs, o => OSeq "tuple" ρ σ vs o
  | .dict kv ep, o => ODict g ρ σ kv ep o
  | .pdict kv out, o => OPdict g ρ σ kv out o
  | .lset ins outs, o => OLset σ ins outs o
  | .ns fs, o => ONs g ρ σ fs o
  | .cell v, o => OCell ρ σ v o
  | .clo ps b cs j, o => OClo g clo ρ ps b cs j o
  | .code, o => OCode g o
  | .range a b, o => ∃ t u v, o = ⟨.type "range", none, .fields #[.int a t, .int b u, .int 1 v], #[]⟩
  | .itL j k, o => OIt "list_iterator" ρ j (.int k 0) o
  | .itT j k, o => OIt "tuple_iterator" ρ j (.int k 0) o
  | .itR x n, o => o = ⟨.type "range_iterator", none, .fields #[rawInt x, rawInt n, rawInt 1], #[]⟩
  | .itV j k, o => OIt "list_reverseiterator" ρ j (rawInt k) o
  | .itVe, o => ∃ a : Addr, o.cls = .type "list_reverseiterator" ∧ o.data = .fields #[.ref a, rawInt (-1)]
  | .itD j k n ep, o => OItD ρ j k n ep o
  | .exc C d, o => OExc ρ C d o
  | .src j, o => OSrc ρ j o
  | .nums, o => ONums o
end

section
variable {g : Gd} {clo : CloP} {ρ : List Addr} {σ : List Str}
theorem VRs.ind {P : List AV → List Value → Prop} (n : P [] []) (c : ∀ a v r s, VR ρ σ a v → VRs ρ σ r s → P r s → P (a :: r) (v :: s)) : ∀ {as : List AV} {vs : List Value}, VRs ρ σ as vs → P as vs := by
  intro as
  induction as with
  | nil => intro vs h; induction vs with
    | nil => exact n
    | cons _ _ => exact h.elim
  | cons a r ih => intro vs h; induction vs with
    | nil => exact h.elim
    | cons v s => exact c a v r s h.1 h.2 (ih h.2)
theorem IR.ind {P : List (Nat × AV) → List DictEntry → Prop} (n : P [] []) (c : ∀ x v r e es t, e.key = .str (g.nm x) t → VR ρ σ v e.val → IR g ρ σ r es → P r es → P ((x, v) :: r) (e :: es)) : ∀ {fs : List (Nat × AV)} {es : List DictEntry}, IR g ρ σ fs es → P fs es := by
  intro fs
  induction fs with
  | nil => intro es h; induction es with
    | nil => exact n
    | cons _ _ => exact h.elim
  | cons a r ih => intro es h; induction es with
    | nil => exact h.elim
    | cons e es => exact h.1.elim fun t ht => c a.1 a.2 r e es t ht h.2.1 h.2.2 (ih h.2.2)
theorem KR.ind {P : List (List Nat × AV) → List (Str × Value) → Prop} (n : P [] []) (c : ∀ p v r x u es, txt σ p = some x.cps.toList → VR ρ σ v u → KR ρ σ r es → P r es → P ((p, v) :: r) ((x, u) :: es)) : ∀ {fs : List (List Nat × AV)} {es : List (Str × Value)}, KR ρ σ fs es → P fs es := by
  intro fs
  induction fs with
  | nil => intro es h; induction es with
    | nil => exact n
    | cons _ _ => exact h.elim
  | cons a r ih => intro es h; induction es with
    | nil => exact h.elim
    | cons e es => exact c a.1 a.2 r e.1 e.2 es h.1 h.2.1 h.2.2 (ih h.2.2)
theorem IR.nil_inv {es : List DictEntry} (h : IR g ρ σ [] es) : es = [] := by
  induction es with
  | nil => rfl
  | cons _ _ => exact h.elim
theorem VRs.mono {ρ : List Addr} {σ : List Str} (m1 : List Addr) (m2 : List Str) {as : List AV} {vs : List Value} (h : VRs ρ σ as vs) : VRs (ρ ++ m1) (σ ++ m2) as vs :=
  h.ind (P := fun as vs => VRs (ρ ++ m1) (σ ++ m2) as vs) trivial fun _ _ _ _ h1 _ ih => ⟨h1.mono m1 m2, ih⟩
theorem IR.mono (m1 : List Addr) (m2 : List Str) {fs : List (Nat × AV)} {es : List DictEntry} (h : IR g ρ σ fs es) : IR g (ρ ++ m1) (σ ++ m2) fs es :=
  h.ind trivial fun _ _ _ _ _ t a b _ ih => ⟨⟨t, a⟩, b.mono m1 m2, ih⟩
theorem KR.mono (m1 : List Addr) (m2 : List Str) {fs : List (List Nat × AV)} {es : List (Str × Value)} (h : KR ρ σ fs es) : KR (ρ ++ m1) (σ ++ m2) fs es :=
  h.ind trivial fun _ _ _ _ _ _ a b _ ih => ⟨txt_mono m2 a, b.mono m1 m2, ih⟩
theorem OR.mono (m1 : List Addr) (m2 : List Str) {b : Ob} {o : Obj} (h : OR g clo ρ σ b o) : OR g clo (ρ ++ m1) (σ ++ m2) b o := by
  induction b with
  | inst C d => obtain ⟨dx, sl, e, h⟩ := h; exact ⟨dx, sl, at_mono m1 e, h⟩
  | idict fs => obtain ⟨es, n, e, h⟩ := h; exact ⟨es, n, e, h.mono m1 m2⟩
  | list vs => obtain ⟨xs, n, e, h⟩ := h; exact ⟨xs, n, e, h.mono m1 m2⟩
  | tup vs => obtain ⟨xs, n, e, h⟩ := h; exact ⟨xs, n, e, h.mono m1 m2⟩
  | dict kv ep => obtain ⟨es, kvs, a, b, c, d, e, h⟩ := h; exact ⟨es, kvs, a, b, c, d, e, h.mono m1 m2⟩
  | pdict kv out =>
      obtain ⟨es, ep, f, a, b, c, d, e, h⟩ := h
      exact ⟨es, ep, f, a, b, c, d, fun p hp => let ⟨x, u, q, r, v⟩ := e p hp; ⟨x, u, txt_mono m2 q, r, v.mono m1 m2⟩, fun p hp => let ⟨x, q, r⟩ := h p hp; ⟨x, txt_mono m2 q, r⟩⟩
  | lset ins outs =>
    obtain ⟨xs, n, a, b, c, d⟩ := h
    exact ⟨xs, n, a, b, fun p hp => let ⟨x, t, q, r⟩ := c p hp; ⟨x, t, txt_mono m2 q, r⟩, fun p hp => let ⟨x, q, r⟩ := d p hp; ⟨x, txt_mono m2 q, r⟩⟩
  | ns fs => obtain ⟨es, ep, a, b, c⟩ := h; exact ⟨es, ep, a, b, fun x v e => let ⟨u, p, q⟩ := c x v e; ⟨u, p, q.mono m1 m2⟩⟩
  | cell v =>
    obtain ⟨u, a, c⟩ := h
    refine ⟨u, a, ?_⟩
    induction v <;> induction u <;> first | exact c | exact VR.mono m1 m2 c
  | clo ps b cs j => obtain ⟨c, cl, d, sl, doc, pm, ctv, cd, a, a2, b, h⟩ := h; exact ⟨c, cl, d, sl, doc, pm, ctv, cd, a, at_mono m1 a2, b, fun x i e => let ⟨q, r, z⟩ := h x i e; ⟨q, at_mono m1 r, z⟩⟩
  | code => exact h
  | range a b => exact h
  | itL j k => obtain ⟨a, e, h, h2⟩ := h; exact ⟨a, at_mono m1 e, h, h2⟩
  | itT j k => obtain ⟨a, e, h, h2⟩ := h; exact ⟨a, at_mono m1 e, h, h2⟩
  | itR x n => exact h
  | itV j k => obtain ⟨a, e, h, h2⟩ := h; exact ⟨a, at_mono m1 e, h, h2⟩
  | itVe => exact h
  | itD j k n ep => obtain ⟨a, e, h, h2⟩ := h; exact ⟨a, at_mono m1 e, h, h2⟩
  | exc C d =>
    obtain ⟨vs, a, b, c, e, h⟩ := h
    refine ⟨vs, a, b, c, e, ?_⟩
    induction d with
    | none => exact h
    | some d => obtain ⟨dx, p, q⟩ := h; exact ⟨dx, at_mono m1 p, q⟩
  | src j => obtain ⟨a, x, t, y, u, n, e, h⟩ := h; exact ⟨a, x, t, y, u, n, at_mono m1 e, h⟩
  | nums => exact h
end

noncomputable def Live (ρ : List Addr) (st : St) (a : Addr) : Prop := ∃ (i : Nat) (b : Ob), ρ[i]? = some a ∧ st.get i = some b
inductive TbAt (B : Nat) (h : Heap) (Lv : Addr → Prop) (vs : Array Value) : Prop where
  | mk (T : Addr) (oT : Obj) (ts : Array Value) (h1 : vs[1]? = some (.ref T)) (h2 : h.get? T = some oT) (h3 : oT.data = .fields ts) (h4 : 3 < ts.size) (h5 : ¬ Lv T) (h6 : B ≤ T)
inductive TrOk (B : Nat) (h : Heap) (Lv : Addr → Prop) (a : Addr) (d : Option Ix) : Prop where
  | mk (o : Obj) (vs : Array Value) (h1 : h.get? a = some o) (h2 : o.data = .fields vs) (h3 : vs.size = 6) (h4 : vs[2]? = some .none) (h5 : (vs[1]? = some .none ∧ nd d = false) ∨ TbAt B h Lv vs)
noncomputable def TabOk (g : Gd) (ρ : List Addr) (tb : Option Ix) (h : Heap) : Prop := match tb with
  | none => h.get? g.tP = some ⟨.none, none, .fields #[], #[]⟩
  | some j => j = TB0 ∨ ∃ c, ρ[j]? = some c ∧ h.get? g.tP = some ⟨.none, none, .fields #[rawInt g.tpos.line, rawInt g.tpos.col, .ref c], #[]⟩
theorem TabOk.step {g : Gd} {ρ : List Addr} {tb : Option Ix} {h h' : Heap} (x : TabOk g ρ tb h) (m : List Addr) (hk : ∀ o, h.get? g.tP = some o → h'.get? g.tP = some o) : TabOk g (ρ ++ m) tb h' := by
  induction tb with
  | none => exact hk _ x
  | some j => exact x.imp id fun ⟨c, a, b⟩ => ⟨c, at_mono m a, hk _ b⟩
theorem TabOk.step0 {g : Gd} {ρ : List Addr} {tb : Option Ix} {h h' : Heap} (x : TabOk g ρ tb h) (hk : ∀ o, h.get? g.tP = some o → h'.get? g.tP = some o) : TabOk g ρ tb h' := by
  have := x.step [] hk; rwa [List.append_nil] at this
noncomputable def Ob.isNs : Ob → Bool | .ns _ => true | _ => false
inductive ObsOk (g : Gd) (clo : CloP) (ρ : List Addr) (σ : List Str) (i : Nat) (b : Ob) (h : Heap) : Prop where
  | mk (a : Addr) (o : Obj) (h1 : ρ[i]? = some a) (h2 : h.get? a = some o) (h3 : OR g clo ρ σ b o)
inductive FraOk (ρ : List Addr) (gt : Nat → Option Ob) (ro : Nat → Bool) (a : Addr) : Prop where
  | mk (i : Nat) (fs : List (Nat × AV)) (h1 : ρ[i]? = some a) (h2 : gt i = some (.ns fs)) (h3 : ro i = false)
inductive AtOk (g : Gd) (clo : CloP) (ρ : List Addr) (σ : List Str) (b : Ob) (h : Heap) (a : Addr) : Prop where
  | mk (o : Obj) (h1 : h.get? a = some o) (h2 : OR g clo ρ σ b o)
structure Rel (g : Gd) (clo : CloP) (F : List Addr) (ρ : List Addr) (σ : List Str) (st : St) (s : Shared) : Prop where
  len : ρ.length = st.nx
  slen : σ.length = st.sy
  sml : ∀ x ∈ σ, x.cps.size ≤ 100
  obs : ∀ (i : Nat) b, st.get i = some b → ObsOk g clo ρ σ i b s.heap
  inj : ∀ (i j : Nat) (a : Addr) (b b' : Ob), ρ[i]? = some a → ρ[j]? = some a → st.get i = some b → st.get j = some b' → i = j ∨ (st.isRo i = true ∧ st.isRo j = true)
  lt : ∀ (i : Nat) (a : Addr) (b : Ob), ρ[i]? = some a → st.get i = some b → g.B.objs.size ≤ a
  tr : ∀ (i : Nat) C d (a : Addr), st.get i = some (.exc C d) → ρ[i]? = some a → TrOk g.B.objs.size s.heap (Live ρ st) a d
  fra : ∀ a ∈ F, FraOk ρ st.get st.isRo a
  stat : g.K.In s.heap
  old : OldK g.B s.heap
  gens : s.gens = g.s1.gens
  drawn : s.drawn = g.s1.drawn
  os : s.os = g.s1.os
  tab : TabOk g ρ st.tb s.heap
end Mine
end
section
set_option genInjectivity false
set_option genSizeOf false
set_option tactic.hygienic false
open PySem PySem.W PyProof.Rows
namespace Mine
namespace Tr
theorem get_node (v : Option Ob) (l r : Tr) (i : Nat) : (node v l r).get i = if i = 0 then v else if i % 2 = 1 then l.get (i / 2) else r.get (i / 2 - 1) := by
  show (match Nat.beq i 0 with | true => v | false => match Nat.beq (i % 2) 1 with | true => l.get (i / 2) | false => r.get (i / 2 - 1)) = _
  rw [BT.beq_eq, BT.beq_eq]
  by_cases h : i = 0
  · simp [h]
  · by_cases q : i % 2 = 1 <;> simp [h, q]
theorem get_nil (i : Nat) : (nil : Tr).get i = none := rfl
theorem setF_node (f i : Nat) (o : Ob) (v : Option Ob) (l r : Tr) : setF (f + 1) (.node v l r) i o = if i = 0 then .node (some o) l r else if i % 2 = 1 then .node v (setF f l (i / 2) o) r else .node v l (setF f r (i / 2 - 1) o) := by
  show (match Nat.beq i 0 with | true => _ | false => match Nat.beq (i % 2) 1 with | true => _ | false => _) = _
  rw [BT.beq_eq, BT.beq_eq]
  by_cases h : i = 0
  · simp [h]
  · by_cases q : i % 2 = 1 <;> simp [h, q]
theorem half_lt {i f : Nat} (h0 : i ≠ 0) (h : i < f + 1) : i / 2 < f ∧ i / 2 - 1 < f := by
  have a : i / 2 < f := Nat.lt_of_lt_of_le (Nat.div_lt_self (Nat.pos_of_ne_zero h0) (Nat.lt_succ_self 1)) (Nat.le_of_lt_succ h)
  exact ⟨a, Nat.lt_of_le_of_lt (Nat.sub_le _ _) a⟩
theorem half_odd {i j : Nat} (h : i % 2 = 1) (k : j % 2 = 1) (e : j ≠ i) : j / 2 ≠ i / 2 := fun q => e (by
  rw [← Nat.div_add_mod j 2, ← Nat.div_add_mod i 2, h, k, q])
theorem half_pos {i : Nat} (h0 : i ≠ 0) (h : i % 2 ≠ 1) : i / 2 - 1 + 1 = i / 2 :=
  Nat.sub_add_cancel (Nat.pos_of_ne_zero fun q => by
    have := Nat.div_add_mod i 2
    rcases Nat.mod_two_eq_zero_or_one i with z | z
    · rw [q, z] at this; exact h0 this.symm
    · exact h z)
theorem half_even {i j : Nat} (h0 : i ≠ 0) (h : i % 2 ≠ 1) (k0 : j ≠ 0) (k : j % 2 ≠ 1) (e : j ≠ i) : j / 2 - 1 ≠ i / 2 - 1 := fun q => e (by
  have a := half_pos h0 h
  rw [← q, half_pos k0 k] at a
  rw [← Nat.div_add_mod j 2, ← Nat.div_add_mod i 2, (Nat.mod_two_eq_zero_or_one i).resolve_right h, (Nat.mod_two_eq_zero_or_one j).resolve_right k, a])
theorem setF_nil (f i : Nat) (o : Ob) : setF (f + 1) .nil i o = setF (f + 1) (.node none .nil .nil) i o := rfl
theorem get_empty (j : Nat) : (node none nil nil).get j = none := by
  rw [get_node]
  by_cases h : j = 0
  · rw [if_pos h]
  · rw [if_neg h]
    by_cases q : j % 2 = 1
    · rw [if_pos q]; rfl
    · rw [if_neg q]; rfl
theorem get_setF {o : Ob} {f : Nat} : ∀ {t : Tr} {i j : Nat}, i < f → (setF f t i o).get j = if j = i then some o else t.get j := by
  induction f with
  | zero => intro t i j h; exact absurd h (Nat.not_lt_zero _)
  | succ f ih =>
    have key : ∀ {v : Option Ob} {l r : Tr} {i j : Nat}, i < f + 1 → (setF (f + 1) (.node v l r) i o).get j = if j = i then some o else (node v l r).get j := by
      intro v l r i j h
      rw [setF_node, get_node]
      by_cases h0 : i = 0
      · rw [if_pos h0, get_node, h0]
        by_cases hj : j = 0
        · rw [if_pos hj, if_pos hj]
        · rw [if_neg hj, if_neg hj, if_neg hj]
      · rw [if_neg h0]
        have hl := half_lt h0 h
        by_cases h1 : i % 2 = 1
        · rw [if_pos h1, get_node]
          by_cases hj : j = 0
          · rw [if_pos hj, if_pos hj, if_neg (show ¬ j = i from fun q => h0 (q.symm.trans hj))]
          · rw [if_neg hj, if_neg hj]
            by_cases hp : j % 2 = 1
            · rw [if_pos hp, if_pos hp, ih hl.1]
              by_cases e : j = i
              · rw [if_pos e, if_pos (congrArg (· / 2) e)]
              · rw [if_neg e, if_neg (half_odd h1 hp e)]
            · rw [if_neg hp, if_neg hp, if_neg (show ¬ j = i from fun q => hp (by rw [q]; exact h1))]
        · rw [if_neg h1, get_node]
          by_cases hj : j = 0
          · rw [if_pos hj, if_pos hj, if_neg (show ¬ j = i from fun q => h0 (q.symm.trans hj))]
          · rw [if_neg hj, if_neg hj]
            by_cases hp : j % 2 = 1
            · rw [if_pos hp, if_pos hp, if_neg (show ¬ j = i from fun q => h1 (by rw [← q]; exact hp))]
            · rw [if_neg hp, if_neg hp, ih hl.2]
              by_cases e : j = i
              · rw [if_pos e, if_pos (congrArg (· / 2 - 1) e)]
              · rw [if_neg e, if_neg (half_even h0 h1 hj hp e)]
    intro t i j h
    induction t with
    | node v l r => exact key h
    | nil => rw [setF_nil, key h, get_empty]; rfl
theorem get_set (t : Tr) (i : Nat) (o : Ob) (j : Nat) : (t.set i o).get j = if j = i then some o else t.get j := get_setF (Nat.lt_succ_self i)
end Tr
theorem St.get_put (s : St) (i : Ix) (o : Ob) (j : Ix) : (s.put i o).get j = if j = i then some o else s.get j := Tr.get_set ..
theorem St.get_new (s : St) (o : Ob) (j : Ix) : (s.new o).get j = if j = s.nx then some o else s.get j := Tr.get_set ..

namespace Tr
theorem delF_node (f i : Nat) (v : Option Ob) (l r : Tr) : delF (f + 1) (.node v l r) i = if i = 0 then .node none l r else if i % 2 = 1 then .node v (delF f l (i / 2)) r else .node v l (delF f r (i / 2 - 1)) := by
  show (match Nat.beq i 0 with | true => _ | false => match Nat.beq (i % 2) 1 with | true => _ | false => _) = _
  rw [BT.beq_eq, BT.beq_eq]
  by_cases h : i = 0
  · simp [h]
  · by_cases q : i % 2 = 1 <;> simp [h, q]
theorem get_delF {f : Nat} : ∀ {t : Tr} {i j : Nat}, i < f → (delF f t i).get j = if j = i then none else t.get j := by
  induction f with
  | zero => intro t i j h; exact absurd h (Nat.not_lt_zero _)
  | succ f ih =>
    intro t i j h
    induction t with
    | nil =>
      by_cases e : j = i
      · rw [if_pos e]; rfl
      · rw [if_neg e]; rfl
    | node v l r =>
      rw [delF_node, get_node]
      by_cases h0 : i = 0
      · rw [if_pos h0, get_node, h0]
        by_cases hj : j = 0
        · rw [if_pos hj, if_pos hj]
        · rw [if_neg hj, if_neg hj, if_neg hj]
      · rw [if_neg h0]
        have hl := half_lt h0 h
        by_cases h1 : i % 2 = 1
        · rw [if_pos h1, get_node]
          by_cases hj : j = 0
          · rw [if_pos hj, if_pos hj, if_neg (show ¬ j = i from fun q => h0 (q.symm.trans hj))]
          · rw [if_neg hj, if_neg hj]
            by_cases hp : j % 2 = 1
            · rw [if_pos hp, if_pos hp, ih hl.1]
              by_cases e : j = i
              · rw [if_pos e, if_pos (congrArg (· / 2) e)]
              · rw [if_neg e, if_neg (half_odd h1 hp e)]
            · rw [if_neg hp, if_neg hp, if_neg (show ¬ j = i from fun q => hp (by rw [q]; exact h1))]
        · rw [if_neg h1, get_node]
          by_cases hj : j = 0
          · rw [if_pos hj, if_pos hj, if_neg (show ¬ j = i from fun q => h0 (q.symm.trans hj))]
          · rw [if_neg hj, if_neg hj]
            by_cases hp : j % 2 = 1
            · rw [if_pos hp, if_pos hp, if_neg (show ¬ j = i from fun q => h1 (by rw [← q]; exact hp))]
            · rw [if_neg hp, if_neg hp, ih hl.2]
              by_cases e : j = i
              · rw [if_pos e, if_pos (congrArg (· / 2 - 1) e)]
              · rw [if_neg e, if_neg (half_even h0 h1 hj hp e)]
end Tr
theorem St.get_kill (s : St) (i j : Ix) : (s.kill i).get j = if j = i then none else s.get j := Tr.get_delF (Nat.lt_succ_self i)
theorem oldK_ext {B h h' : Heap} {a : Addr} (K : OldK B h) (ha : B.objs.size ≤ a) (hx : Heap.ExtBut a h h') : OldK B h' := by
  have ne : ∀ b o, B.get? b = some o → b ≠ a := fun b o e => Nat.ne_of_lt (Nat.lt_of_lt_of_le (Heap.lt_size e) ha)
  refine ⟨fun b o e => ?_, fun b o e => let ⟨o', ho'⟩ := K.there b o e; ⟨o', hx b o' (ne b o e) ho'⟩⟩
  rcases K.old b o e with x | ⟨t, hc, vs, more, hv, x⟩ | ⟨rfl, hc, ⟨o', es, n, ho', r⟩, z⟩
  · exact .inl (hx b _ (ne b o e) x)
  · exact .inr (.inl ⟨t, hc, vs, more, hv, hx b _ (ne b o e) x⟩)
  · exact .inr (.inr ⟨rfl, hc, ⟨o', es, n, hx _ _ (ne _ o e) ho', r⟩, fun key => by rw [OldK.staticOf_congr ((hx _ _ (ne _ o e) ho').trans ho'.symm) key]; exact z key⟩)

section
variable {g : Gd} {clo : CloP} {F : List Addr} {ρ : List Addr} {σ : List Str} {st : St} {s s' : Shared}
structure Calm (s s' : Shared) : Prop where
  gens : s'.gens = s.gens
  drawn : s'.drawn = s.drawn
  os : s'.os = s.os
theorem Calm.rfl (h : Heap) (t : Nat) : Calm s { s with heap := h, toks := t } := ⟨Eq.refl _, Eq.refl _, Eq.refl _⟩
theorem TrOk.keeps {B : Nat} {h h' : Heap} {Lv : Addr → Prop} {a : Addr} {d : Option Ix} (x : TrOk B h Lv a d) (hk : ∀ b o, h.get? b = some o → h'.get? b = some o) : TrOk B h' Lv a d := by
  obtain ⟨o, vs, h1, h2, h3, h4, h5⟩ := x
  refine ⟨o, vs, hk _ _ h1, h2, h3, h4, h5.imp id ?_⟩
  rintro ⟨T, oT, ts, e1, e2, e3, e4, e5, e6⟩
  exact ⟨T, oT, ts, e1, hk _ _ e2, e3, e4, e5, e6⟩
theorem Rel.keeps (R : Rel g clo F ρ σ st s) (hk : ∀ b o, s.heap.get? b = some o → s'.heap.get? b = some o) (c : Calm s s') : Rel g clo F ρ σ st s' :=
  ⟨R.len, R.slen, R.sml, fun i b e => let ⟨x, o, e1, e2, r⟩ := R.obs i b e; ⟨x, o, e1, hk _ _ e2, r⟩, R.inj, R.lt, fun i C d a e1 e2 => (R.tr i C d a e1 e2).keeps hk, R.fra,
    R.stat.keeps hk, R.old.step_keeps hk, c.gens.trans R.gens, c.drawn.trans R.drawn, c.os.trans R.os, R.tab.step0 fun o e => hk _ _ e⟩
theorem Rel.toks (R : Rel g clo F ρ σ st s) (t : Nat) : Rel g clo F ρ σ st { s with toks := t } := R.keeps (fun _ _ e => e) ⟨rfl, rfl, rfl⟩
theorem getElem?_push_last {α : Type} (l : List α) (a : α) {n : Nat} (h : l.length = n) : (l ++ [a])[n]? = some a := by subst h; simp
theorem getElem?_snoc {α : Type} {l : List α} {a b : α} {i : Nat} (h : (l ++ [a])[i]? = some b) : l[i]? = some b ∨ (i = l.length ∧ b = a) := by
  by_cases q : i < l.length
  · rw [List.getElem?_append_left q] at h; exact .inl h
  · rw [List.getElem?_append_right (Nat.le_of_not_lt q)] at h
    by_cases z : i - l.length = 0
    · rw [z] at h; exact .inr ⟨by omega, (Option.some.inj h).symm⟩
    · have : ([a] : List α)[i - l.length]? = none := by rw [List.getElem?_eq_none_iff]; simp; omega
      rw [this] at h; first | exact no_tt h | exact no_ns h | induction h
theorem Rel.there (R : Rel g clo F ρ σ st s) {i : Nat} {a : Addr} {b : Ob} (hi : ρ[i]? = some a) (hb : st.get i = some b) : ∃ o, s.heap.get? a = some o := by
  obtain ⟨x, o, e1, e2, _⟩ := R.obs i b hb
  rw [hi] at e1; first | exact no_tt e1 | exact no_ns e1 | cases e1
  exact ⟨o, e2⟩
theorem Rel.ltNx (R : Rel g clo F ρ σ st s) {i : Nat} {a : Addr} (hi : ρ[i]? = some a) : i ≠ st.nx := by
  have := (List.getElem?_eq_some_iff.mp hi).1
  rw [R.len] at this
  exact Nat.ne_of_lt this
theorem Rel.new (R : Rel g clo F ρ σ st s) {a : Addr} {b : Ob} {o : Obj} (hn : s.heap.get? a = none) (hB : g.B.objs.size ≤ a) (hk : ∀ b o, s.heap.get? b = some o → s'.heap.get? b = some o)
    (ho : s'.heap.get? a = some o) (hr : OR g clo (ρ ++ [a]) σ b o) (c : Calm s s') (ht : ∀ C d, b = .exc C d → TrOk g.B.objs.size s'.heap (Live (ρ ++ [a]) (st.new b)) a d) : Rel g clo F (ρ ++ [a]) σ (st.new b) s' := by
  have R' := R.keeps hk c
  have σσ : σ ++ [] = σ := List.append_nil σ
  have old : ∀ {i : Nat} {x : Addr} {b' : Ob}, (ρ ++ [a])[i]? = some x → (st.new b).get i = some b' → (ρ[i]? = some x ∧ st.get i = some b') ∨ (i = st.nx ∧ x = a ∧ b' = b) := fun {i x b'} e1 e2 => by
    rw [St.get_new] at e2
    rcases getElem?_snoc e1 with p | ⟨q, h⟩
    · rw [if_neg (R.ltNx p)] at e2; exact .inl ⟨p, e2⟩
    · have q' : i = st.nx := q.trans R.len
      rw [if_pos q'] at e2; exact .inr ⟨q', h, (Option.some.inj e2).symm⟩
  have ne : ∀ {i : Nat} {x : Addr} {b' : Ob}, ρ[i]? = some x → st.get i = some b' → x ≠ a := fun p q z => by
    obtain ⟨o', e⟩ := R.there p q
    rw [z, hn] at e; first | exact no_tt e | exact no_ns e | induction e
  refine ⟨by rw [List.length_append, R.len]; rfl, R.slen, R.sml, fun i b' e => ?_, fun i j x b1 b2 e1 e2 g1 g2 => ?_, fun i x b' e e' => ?_, fun i C d x e1 e2 => ?_, fun x hx => ?_, R'.stat, R'.old, R'.gens, R'.drawn, R'.os, R'.tab.step [a] fun _ e => e⟩
  · rw [St.get_new] at e
    by_cases q : i = st.nx
    · rw [if_pos q] at e; first | exact no_tt e | exact no_ns e | cases e
      exact ⟨a, o, q ▸ getElem?_push_last ρ a R.len, ho, hr⟩
    · rw [if_neg q] at e
      obtain ⟨x, o', e1, e2, r⟩ := R'.obs i b' e
      exact ⟨x, o', at_mono _ e1, e2, σσ ▸ r.mono [a] []⟩
  · rcases old e1 g1 with ⟨p1, q1⟩ | ⟨p1, q1, _⟩ <;> rcases old e2 g2 with ⟨p2, q2⟩ | ⟨p2, q2, _⟩
    · exact R.inj i j x b1 b2 p1 p2 q1 q2
    · exact absurd q2 (ne p1 q1)
    · exact absurd q1 (ne p2 q2)
    · exact .inl (p1.trans p2.symm)
  · rcases old e e' with ⟨p, q⟩ | ⟨_, rfl, _⟩
    · exact R.lt i x b' p q
    · exact hB
  · rcases old e2 e1 with ⟨p, q⟩ | ⟨_, rfl, z⟩
    · obtain ⟨o', vs, h1, h2, h3, h4, h5⟩ := R'.tr i C d x q p
      refine ⟨o', vs, h1, h2, h3, h4, ?_⟩
      obtain ⟨o₀, vs₀, g1, g2, g3, g4, g5⟩ := R.tr i C d x q p
      have := hk _ _ g1; rw [h1] at this; first | exact no_tt this | exact no_ns this | cases this
      rw [h2] at g2; first | exact no_tt g2 | exact no_ns g2 | cases g2
      refine g5.imp id ?_
      rintro ⟨T, oT, ts, t1, t2, t3, t4, t5, t6⟩
      refine ⟨T, oT, ts, t1, hk _ _ t2, t3, t4, fun ⟨j, bj, m1, m2⟩ => ?_, t6⟩
      rcases old m1 m2 with ⟨m1, m2⟩ | ⟨_, m, _⟩
      · exact t5 ⟨j, bj, m1, m2⟩
      · rw [m, hn] at t2; first | exact no_tt t2 | exact no_ns t2 | induction t2
    · exact ht C d z.symm
  · obtain ⟨i, fs, e1, e2, e3⟩ := R.fra x hx
    refine ⟨i, fs, at_mono _ e1, ?_, e3⟩
    rw [St.get_new, if_neg (R.ltNx e1)]
    exact e2
theorem Rel.wr (O : g.Ok) (R : Rel g clo F ρ σ st s) {i : Nat} {a : Addr} {b : Ob} {o : Obj} (hi : ρ[i]? = some a) (hro : st.isRo i = false) (hx : Heap.ExtBut a s.heap s'.heap)
    (ho : s'.heap.get? a = some o) (hr : OR g clo ρ σ b o) {b₀ : Ob} (hb : st.get i = some b₀) (hn : b₀.isNs = true → b.isNs = true) (c : Calm s s') (ht : ∀ C d, b = .exc C d → TrOk g.B.objs.size s'.heap (Live ρ st) a d) : Rel g clo F ρ σ (st.put i b) s' := by
  have hB := R.lt i a b₀ hi hb
  have old : ∀ {j : Nat} {x : Addr} {b' : Ob}, ρ[j]? = some x → (st.put i b).get j = some b' → ∃ b'', st.get j = some b'' := fun {j x b'} _ e => by
    rw [St.get_put] at e
    by_cases q : j = i
    · exact ⟨b₀, q ▸ hb⟩
    · rw [if_neg q] at e; exact ⟨_, e⟩
  have lv : ∀ T, ¬ Live ρ st T → ¬ Live ρ (st.put i b) T := fun T h ⟨j, bj, m1, m2⟩ => let ⟨b'', e⟩ := old m1 m2; h ⟨j, b'', m1, e⟩
  have ne : ∀ {j : Nat} {x : Addr} {b' : Ob}, j ≠ i → ρ[j]? = some x → st.get j = some b' → x ≠ a := fun {j x b'} q e1 e2 z => by
    subst z
    rcases R.inj j i x _ _ e1 hi e2 hb with w | ⟨_, w⟩
    · exact q w
    · rw [hro] at w; first | exact no_tt w | exact no_ns w | induction w
  refine ⟨R.len, R.slen, R.sml, fun j b' e => ?_, fun j k x b1 b2 e1 e2 g1 g2 => ?_, fun j x b' e e' => ?_, fun j C d x e1 e2 => ?_, fun x hx => ?_, fun x o e => ?_, oldK_ext R.old hB hx, c.gens.trans R.gens, c.drawn.trans R.drawn, c.os.trans R.os, R.tab.step0 fun o e => hx _ o (Nat.ne_of_lt (Nat.lt_of_lt_of_le O.tl hB)) e⟩
  · rw [St.get_put] at e
    by_cases q : j = i
    · rw [if_pos q] at e; first | exact no_tt e | exact no_ns e | cases e
      exact ⟨a, o, q ▸ hi, ho, hr⟩
    · rw [if_neg q] at e
      obtain ⟨x, o', e1, e2, r⟩ := R.obs j b' e
      exact ⟨x, o', e1, hx x o' (ne q e1 e) e2, r⟩
  · obtain ⟨b1', h1⟩ := old e1 g1
    obtain ⟨b2', h2⟩ := old e2 g2
    exact R.inj j k x _ _ e1 e2 h1 h2
  · obtain ⟨b'', h1⟩ := old e e'
    exact R.lt j x _ e h1
  · rw [St.get_put] at e1
    by_cases q : j = i
    · rw [if_pos q] at e1
      subst q; rw [hi] at e2; first | exact no_tt e2 | exact no_ns e2 | cases e2
      obtain ⟨o', vs, h1, h2, h3, h4, h5⟩ := ht C d (Option.some.inj e1)
      refine ⟨o', vs, h1, h2, h3, h4, h5.imp id ?_⟩
      rintro ⟨T, oT, ts, t1, t2, t3, t4, t5, t6⟩
      exact ⟨T, oT, ts, t1, t2, t3, t4, lv T t5, t6⟩
    · rw [if_neg q] at e1
      obtain ⟨o', vs, h1, h2, h3, h4, h5⟩ := R.tr j C d x e1 e2
      refine ⟨o', vs, hx _ _ (ne q e2 e1) h1, h2, h3, h4, h5.imp id ?_⟩
      rintro ⟨T, oT, ts, t1, t2, t3, t4, t5, t6⟩
      exact ⟨T, oT, ts, t1, hx _ _ (fun z => t5 ⟨i, b₀, z ▸ hi, hb⟩) t2, t3, t4, lv T t5, t6⟩
  · obtain ⟨j, fs, e1, e2, e3⟩ := R.fra x hx
    by_cases q : j = i
    · subst q
      rw [hb] at e2; first | exact no_tt e2 | exact no_ns e2 | cases e2
      have := hn rfl
      induction b <;> first | exact no_tt this | exact no_ns this | (induction this; done) | exact ⟨j, _, e1, by rw [St.get_put, if_pos rfl], e3⟩
    · exact ⟨j, fs, e1, by rw [St.get_put, if_neg q]; exact e2, e3⟩
  · exact hx x o (Nat.ne_of_lt (Nat.lt_of_lt_of_le (O.low x o e) hB)) (R.stat x o e)
theorem Rel.kill (O : g.Ok) (R : Rel g clo F ρ σ st s) {i : Nat} {a : Addr} (hi : ρ[i]? = some a) (hro : st.isRo i = false) (hx : Heap.ExtBut a s.heap s'.heap) {b₀ : Ob} (hb : st.get i = some b₀) (hn : b₀.isNs = false ∨ a ∉ F) (c : Calm s s') : Rel g clo F ρ σ (st.kill i) s' := by
  have hB := R.lt i a b₀ hi hb
  have old : ∀ {j : Nat} {b' : Ob}, (st.kill i).get j = some b' → j ≠ i ∧ st.get j = some b' := fun {j b'} e => by
    rw [St.get_kill] at e
    by_cases q : j = i
    · rw [if_pos q] at e; first | exact no_tt e | exact no_ns e | induction e
    · rw [if_neg q] at e; exact ⟨q, e⟩
  have ne : ∀ {j : Nat} {x : Addr} {b' : Ob}, j ≠ i → ρ[j]? = some x → st.get j = some b' → x ≠ a := fun {j x b'} q e1 e2 z => by
    subst z
    rcases R.inj j i x _ _ e1 hi e2 hb with w | ⟨_, w⟩
    · exact q w
    · rw [hro] at w; first | exact no_tt w | exact no_ns w | induction w
  refine ⟨R.len, R.slen, R.sml, fun j b' e => ?_, fun j k x b1 b2 e1 e2 g1 g2 => R.inj j k x _ _ e1 e2 (old g1).2 (old g2).2, fun j x b' e e' => R.lt j x _ e (old e').2, fun j C d x e1 e2 => ?_, fun x hx => ?_, fun x o e => ?_, oldK_ext R.old hB hx, c.gens.trans R.gens, c.drawn.trans R.drawn, c.os.trans R.os, R.tab.step0 fun o e => hx _ o (Nat.ne_of_lt (Nat.lt_of_lt_of_le O.tl hB)) e⟩
  · obtain ⟨q, e⟩ := old e
    obtain ⟨x, o', e1, e2, r⟩ := R.obs j b' e
    exact ⟨x, o', e1, hx x o' (ne q e1 e) e2, r⟩
  · obtain ⟨q, e1⟩ := old e1
    obtain ⟨o', vs, h1, h2, h3, h4, h5⟩ := R.tr j C d x e1 e2
    refine ⟨o', vs, hx _ _ (ne q e2 e1) h1, h2, h3, h4, h5.imp id ?_⟩
    rintro ⟨T, oT, ts, t1, t2, t3, t4, t5, t6⟩
    exact ⟨T, oT, ts, t1, hx _ _ (fun z => t5 ⟨i, b₀, z ▸ hi, hb⟩) t2, t3, t4, fun ⟨j, bj, m1, m2⟩ => t5 ⟨j, bj, m1, (old m2).2⟩, t6⟩
  · obtain ⟨j, fs, e1, e2, e3⟩ := R.fra x hx
    refine ⟨j, fs, e1, ?_, e3⟩
    rw [St.get_kill, if_neg]
    · exact e2
    · intro q
      subst q
      rcases hn with hn | hn
      · rw [hb] at e2; cases e2; first | exact no_tt hn | exact no_ns hn | cases hn
      · rw [hi] at e1; cases e1; exact hn hx
  · exact hx x o (Nat.ne_of_lt (Nat.lt_of_lt_of_le (O.low x o e) hB)) (R.stat x o e)
end
end Mine
end
section
set_option genInjectivity false
set_option genSizeOf false
set_option tactic.hygienic false
open PySem PySem.W PyProof.Rows
namespace Mine
structure Ext (ρ : List Addr) (σ : List Str) (st : St) (ρ' : List Addr) (σ' : List Str) (st' : St) : Prop where
  r : ∃ m, ρ' = ρ ++ m
  s : ∃ m, σ' = σ ++ m
  loc : st'.loc = st.loc
  cel : st'.cel = st.cel
  hd : st'.hd = st.hd
  ex : ∀ (i : Nat) C d, st.get i = some (.exc C d) → ∃ d', st'.get i = some (.exc C d') ∧ (nd d = true → nd d' = true)
theorem Ext.refl (ρ : List Addr) (σ : List Str) (st : St) : Ext ρ σ st ρ σ st := ⟨⟨[], by simp⟩, ⟨[], by simp⟩, rfl, rfl, rfl, fun _ _ d e => ⟨d, e, id⟩⟩
theorem Ext.trans {ρ σ st ρ' σ' st' ρ'' σ'' st''} (a : Ext ρ σ st ρ' σ' st') (b : Ext ρ' σ' st' ρ'' σ'' st'') : Ext ρ σ st ρ'' σ'' st'' := by
  obtain ⟨⟨m, rfl⟩, ⟨m', rfl⟩, a1, a2, a3, a4⟩ := a
  obtain ⟨⟨l, rfl⟩, ⟨l', rfl⟩, b1, b2, b3, b4⟩ := b
  exact ⟨⟨m ++ l, by simp⟩, ⟨m' ++ l', by simp⟩, b1.trans a1, b2.trans a2, b3.trans a3, fun i C d e => let ⟨_, e', n'⟩ := a4 i C d e; let ⟨d2, e2, n2⟩ := b4 i C _ e'; ⟨d2, e2, fun q => n2 (n' q)⟩⟩
theorem Ext.vr {ρ σ st ρ' σ' st' a v} (e : Ext ρ σ st ρ' σ' st') (h : VR ρ σ a v) : VR ρ' σ' a v := by
  obtain ⟨⟨m, rfl⟩, ⟨m', rfl⟩, _⟩ := e; exact h.mono m m'
theorem Ext.vrs {ρ σ st ρ' σ' st' a v} (e : Ext ρ σ st ρ' σ' st') (h : VRs ρ σ a v) : VRs ρ' σ' a v := by
  obtain ⟨⟨m, rfl⟩, ⟨m', rfl⟩, _⟩ := e; exact h.mono m m'
theorem Ext.at {ρ σ st ρ' σ' st'} {i : Nat} {a : Addr} (e : Ext ρ σ st ρ' σ' st') (h : ρ[i]? = some a) : ρ'[i]? = some a := by
  obtain ⟨⟨m, rfl⟩, ⟨m', rfl⟩, _⟩ := e; exact at_mono m h
theorem Ext.new {ρ σ st} (b : Ob) (m : List Addr) (hn : st.get st.nx = none) : Ext ρ σ st (ρ ++ m) σ (st.new b) :=
  ⟨⟨m, rfl⟩, ⟨[], by simp⟩, rfl, rfl, rfl, fun i C d e => ⟨d, by rw [St.get_new, if_neg (fun q => by rw [q, hn] at e; cases e)]; exact e, id⟩⟩
theorem Ext.put {ρ σ st} {i : Nat} {b : Ob} (h : ∀ C d, st.get i = some (.exc C d) → ∃ d', b = .exc C d' ∧ (nd d = true → nd d' = true)) : Ext ρ σ st ρ σ (st.put i b) :=
  ⟨⟨[], by simp⟩, ⟨[], by simp⟩, rfl, rfl, rfl, fun j C d e => by
    rw [St.get_put]
    by_cases q : j = i
    · subst q; rw [if_pos rfl]; obtain ⟨d', rfl, n'⟩ := h C d e; exact ⟨d', rfl, n'⟩
    · rw [if_neg q]; exact ⟨d, e, id⟩⟩
noncomputable def Hnd (A : Around) (ρ : List Addr) (st : St) : Prop := A.handled = none ∨ (st.hd = true ∧ ∃ (i : Nat), ∃ C d e, A.handled = some (.ref e) ∧ ρ[i]? = some e ∧ st.get i = some (.exc C d))
theorem Hnd.ext {A : Around} {ρ σ st ρ' σ' st'} (h : Hnd A ρ st) (x : Ext ρ σ st ρ' σ' st') : Hnd A ρ' st' := h.imp id fun ⟨h, i, C, d, e, p, q, r⟩ => ⟨x.hd.trans h, i, C, (x.ex i C d r).choose, e, p, x.at q, (x.ex i C d r).choose_spec.1⟩
theorem Hnd.none {A : Around} {ρ st} (h : Hnd A ρ st) (e : st.hd = false) : A.handled = none := h.elim id fun ⟨q, _⟩ => by rw [e] at q; first | exact no_tt q | exact no_ns q | induction q

structure CxOk (g : Gd) (cx : Cx) : Prop where
  id : ∀ x n, cx.id x = some n → g.nm n = x
  gl : ∀ x v, cx.gl x = some v → ∃ u, (nsIn g.K mainGlobals x = some (some u) ∨ (nsIn g.K mainGlobals x = some none ∧ nsIn g.K builtinsNs x = some (some u))) ∧ VR [] [] v u
structure Amb (g : Gd) (n : Nat) (A : Around) (F : List Addr) (L : Addr) : Prop where
  room : A.depth + 2 * n ≤ 900
  units : A.units + 40 * n ≤ 9000
  fr : ∃ e r, A.frames = some (e :: r) ∧ (e :: r).filterMap (·.frame) = F ∧ (∀ x ∈ e :: r, x.scope.kind ≠ .module ∧ ∃ a, x.frame = some a) ∧ e.frame = some L
structure Here (g : Gd) (n : Nat) (cx : Cx) (A : Around) (F : List Addr) (env : Env) (L : Addr) : Prop extends Amb g n A F L where
  glo : env.globals = mainGlobals
  bui : env.builtins = builtinsNs
  kind : env.scope.kind = .function
  frame : env.frame = some L
  cok : CxOk g cx
  loc : ∀ x, cx.kinds.lookup x = some .local → env.kindOf x = some .local
  cel : ∀ x, cx.kinds.lookup x = some .cell ∨ cx.kinds.lookup x = some .free → env.kindOf x = some .cell ∨ env.kindOf x = some .free
  ce1 : ∀ x, cx.kinds.lookup x = some .cell → env.kindOf x = some .cell
  gim : ∀ x, cx.kinds.lookup x = some .globalImplicit → env.kindOf x = some .globalImplicit
  code : ∀ f p, cx.own = some (f, p) → env.code = .ref g.tc ∧ p = g.tpos ∧ env.qual ++ f = g.tq
structure EnvS (g : Gd) (ρ : List Addr) (st : St) (env : Env) : Prop where
  loc : ρ[st.loc]? = some env.locals
  cel : ∀ x i, lookI st.cel x = some i → ∃ a, ρ[i]? = some a ∧ env.cells.lookup (g.nm x) = some a
theorem EnvS.ext {g : Gd} {env : Env} {ρ σ st ρ' σ' st'} (h : EnvS g ρ st env) (e : Ext ρ σ st ρ' σ' st') : EnvS g ρ' st' env :=
  ⟨by rw [e.loc]; exact e.at h.loc, fun x i q => by rw [e.cel] at q; obtain ⟨a, b, c⟩ := h.cel x i q; exact ⟨a, e.at b, c⟩⟩
section
variable (g : Gd) (clo : CloP) (F : List Addr)
noncomputable def PostV (ρ : List Addr) (σ : List Str) (st : St) (k : AV → St → Bool) (Q : Value → Shared → Prop) : Prop :=
  ∀ ρ' σ' st' s' v u, Ext ρ σ st ρ' σ' st' → Rel g clo F ρ' σ' st' s' → VR ρ' σ' v u → k v st' = true → Q u s'
noncomputable def PostB (ρ : List Addr) (σ : List Str) (st : St) (k : Bool → St → Bool) (Q : Bool → Shared → Prop) : Prop :=
  ∀ ρ' σ' st' s' b, Ext ρ σ st ρ' σ' st' → Rel g clo F ρ' σ' st' s' → k b st' = true → Q b s'
noncomputable def PostX (ρ : List Addr) (σ : List Str) (st : St) (x : Nat → St → Bool) (E : Value → Shared → Prop) : Prop :=
  ∀ ρ' σ' st' s' i a, Ext ρ σ st ρ' σ' st' → Rel g clo F ρ' σ' st' s' → ρ'[i]? = some a → (∃ C d, st'.get i = some (.exc C d)) → x i st' = true → E (.ref a) s'
noncomputable def FlR (ρ : List Addr) (σ : List Str) : Fl → Flow → Prop
  | .next, f => f = .next
  | .cont, f => f = .cont
  | .ret v, f => ∃ u, f = .ret u ∧ VR ρ σ v u
noncomputable def PostF (ρ : List Addr) (σ : List Str) (st : St) (k : Fl → St → Bool) (Q : Flow → Shared → Prop) : Prop :=
  ∀ ρ' σ' st' s' f u, Ext ρ σ st ρ' σ' st' → Rel g clo F ρ' σ' st' s' → FlR ρ' σ' f u → k f st' = true → Q u s'
noncomputable def Post0 (ρ : List Addr) (σ : List Str) (st : St) (k : St → Bool) (Q : Unit → Shared → Prop) : Prop :=
  ∀ ρ' σ' st' s', Ext ρ σ st ρ' σ' st' → Rel g clo F ρ' σ' st' s' → k st' = true → Q () s'
end
section
variable {g : Gd} {clo : CloP} {F : List Addr} {ρ : List Addr} {σ : List Str} {st : St}
theorem PostV.ext {k Q ρ' σ' st'} (h : PostV g clo F ρ σ st k Q) (e : Ext ρ σ st ρ' σ' st') : PostV g clo F ρ' σ' st' k Q := fun _ _ _ _ _ _ e' => h _ _ _ _ _ _ (e.trans e')
theorem PostB.ext {k Q ρ' σ' st'} (h : PostB g clo F ρ σ st k Q) (e : Ext ρ σ st ρ' σ' st') : PostB g clo F ρ' σ' st' k Q := fun _ _ _ _ _ e' => h _ _ _ _ _ (e.trans e')
theorem PostX.ext {k Q ρ' σ' st'} (h : PostX g clo F ρ σ st k Q) (e : Ext ρ σ st ρ' σ' st') : PostX g clo F ρ' σ' st' k Q := fun _ _ _ _ _ _ e' => h _ _ _ _ _ _ (e.trans e')
theorem PostF.ext {k Q ρ' σ' st'} (h : PostF g clo F ρ σ st k Q) (e : Ext ρ σ st ρ' σ' st') : PostF g clo F ρ' σ' st' k Q := fun _ _ _ _ _ _ e' => h _ _ _ _ _ _ (e.trans e')
theorem Post0.ext {k Q ρ' σ' st'} (h : Post0 g clo F ρ σ st k Q) (e : Ext ρ σ st ρ' σ' st') : Post0 g clo F ρ' σ' st' k Q := fun _ _ _ _ e' => h _ _ _ _ (e.trans e')
end
noncomputable def Post2 (g : Gd) (clo : CloP) (F : List Addr) (ρ : List Addr) (σ : List Str) (st : St) (k : List AV → St → Bool) (Q : List Value → Shared → Prop) : Prop :=
  ∀ ρ' σ' st' s' vs us, Ext ρ σ st ρ' σ' st' → Rel g clo F ρ' σ' st' s' → VRs ρ' σ' vs us → k vs st' = true → Q us s'
theorem Post2.ext {g : Gd} {clo : CloP} {F : List Addr} {ρ : List Addr} {σ : List Str} {st : St} {k Q ρ' σ' st'} (h : Post2 g clo F ρ σ st k Q) (e : Ext ρ σ st ρ' σ' st') : Post2 g clo F ρ' σ' st' k Q := fun _ _ _ _ _ _ e' => h _ _ _ _ _ _ (e.trans e')
theorem PostX.no {g : Gd} {clo : CloP} {F : List Addr} {ρ : List Addr} {σ : List Str} {st : St} {E} : PostX g clo F ρ σ st noX E := fun _ _ _ _ _ _ _ _ _ _ h => by cases h
section
variable (g : Gd) (clo : CloP)
noncomputable def SndE (R : Rn) (n : Nat) : Prop := ∀ m cx e A F env L ρ σ st s k x Q E, Here g n cx A F env L → EnvS g ρ st env → Hnd A ρ st → Rel g clo F ρ σ st s →
  R.ev (compE m cx e) st k x = true → PostV g clo F ρ σ st k Q → PostX g clo F ρ σ st x E → wpAny (model g.prog g.w) A (eval e env) Q E s
noncomputable def SndT (R : Rn) (n : Nat) : Prop := ∀ m cx e A F env L ρ σ st s k x Q E, Here g n cx A F env L → EnvS g ρ st env → Hnd A ρ st → Rel g clo F ρ σ st s →
  R.tst (compE m cx e) st k x = true → PostB g clo F ρ σ st k Q → PostX g clo F ρ σ st x E → wpAny (model g.prog g.w) A (isTrue e env (eval e env)) Q E s
noncomputable def SndS (R : Rn) (n : Nat) : Prop := ∀ m cx b A F env L ρ σ st s k x Q E, Here g n cx A F env L → EnvS g ρ st env → Hnd A ρ st → Rel g clo F ρ σ st s →
  R.exs (b.map (compS m cx)) st k x = true → PostF g clo F ρ σ st k Q → PostX g clo F ρ σ st x E → wpAny (model g.prog g.w) A (execs b env) Q E s
noncomputable def SndC (R : Rn) (n : Nat) : Prop := ∀ v args fv vs A F L ρ σ st s k x Q E, Amb g n A F L → Hnd A ρ st →
  Rel g clo F ρ σ st s → VR ρ σ v fv → VRs ρ σ args vs → R.call v args st k x = true → PostV g clo F ρ σ st k Q → PostX g clo F ρ σ st x E →
  wpAny (model g.prog g.w) A (call fv vs) Q E s
end
end Mine
end
section
set_option genInjectivity false
set_option genSizeOf false
set_option tactic.hygienic false
open PySem PySem.W PySem.Calls PyProof.Rows
namespace Mine
set_option tactic.hygienic true in
theorem lowAll_lt : ∀ {p : List Nat}, lowAll p = true → ∀ c ∈ p, c < 1114112
  | [], _, _, h => by cases h
  | a :: r, h, c, hc => by
    unfold lowAll at h
    split at h
    · rename_i q
      rcases List.mem_cons.mp hc with rfl | hc
      · exact Nat.blt_eq.mp q
      · exact lowAll_lt h c hc
    · first | exact no_tt h | exact no_ns h | induction h
theorem txt_low (σ : List Str) : ∀ {p : List Nat}, (∀ c ∈ p, c < 1114112) → txt σ p = some p
  | [], _ => rfl
  | c :: r, h => by
    unfold txt
    rw [txt_low σ fun x hx => h x (List.mem_cons_of_mem _ hx)]
    have : Nat.blt c 1114112 = true := Nat.blt_eq.mpr (h c List.mem_cons_self)
    simp only [this]
theorem strOf_cps (s : Str) : strOf (cps s) = s := by
  induction s; rfl
set_option tactic.hygienic true in
theorem ns_some_of {K : Frag} {h : Heap} {N : Addr} {mg : Str → Option Value} {n : Str} {v : Value} (X : K.In h) (G : h.Ns N mg) (e : nsIn K N n = some (some v)) : mg n = some v := by
  obtain ⟨o, es, ep, ho, hd, _, hf⟩ := G
  unfold nsIn at e
  induction q : K.lookup N with
  | none => rw [q] at e; exact no_ns e
  | some oo =>
    rw [q] at e
    obtain ⟨c, d, dt, sl⟩ := oo
    induction dt <;> first | exact no_ns e | skip
    dsimp only at e
    have := X _ _ q
    rw [ho] at this
    cases this
    cases hd
    split at e
    · rename_i en he
      cases e
      rw [← hf]
      unfold nsFind findBy
      rw [← Array.find?_toList, he]
      rfl
    · split at e <;> cases e
section
variable {g : Gd} {clo : CloP} {F : List Addr} {ρ : List Addr} {σ : List Str} {st : St} {s : Shared} {A : Around} {E : Value → Shared → Prop} {env : Env} {cx : Cx} {L : Addr} {n : Nat}
theorem Rel.at (R : Rel g clo F ρ σ st s) {i : Nat} {a : Addr} {b : Ob} (hb : st.get i = some b) (ha : ρ[i]? = some a) : AtOk g clo ρ σ b s.heap a := by
  obtain ⟨a', o, e, h, r⟩ := R.obs i b hb
  rw [ha] at e; first | exact no_tt e | exact no_ns e | cases e
  exact ⟨o, h, r⟩
theorem VR.nil {v : AV} {u : Value} (h : VR [] [] v u) : VR ρ σ v u := by
  have := h.mono ρ σ
  simpa using this
theorem Gd.Ok.nsG (O : g.Ok) (R : Rel g clo F ρ σ st s) : s.heap.Ns mainGlobals (s.heap.nsMap mainGlobals) := .of_isNs (isNs_of_in R.stat O.ng)
theorem Gd.Ok.nsB (O : g.Ok) (R : Rel g clo F ρ σ st s) : s.heap.Ns builtinsNs (s.heap.nsMap builtinsNs) := .of_isNs (isNs_of_in R.stat O.nb)
theorem snd_glob (O : g.Ok) (R : Rel g clo F ρ σ st s) (H : Here g n cx A F env L) {x : Str} {v : AV} {pos : Pos} {Q : Value → Shared → Prop} (hk : cx.kinds.lookup x = some .globalImplicit) (hv : cx.gl x = some v) (hd : (x == ("__debug__" : Str)) = false)
    (h : ∀ u, VR ρ σ v u → Q u s) : wpAny (model g.prog g.w) A (eval (.Name x pos) env) Q E s := by
  obtain ⟨u, e, r⟩ := H.cok.gl x v hv
  refine Name_function_global H.kind (H.gim x hk) ?_ hd
  have G := O.nsG R
  have B := O.nsB R
  rcases e with e | ⟨e1, e2⟩
  · exact loadGlobal_global (by rw [H.glo]; exact G) (ns_some_of R.stat G e) (h u r.nil)
  · exact loadGlobal_builtin (by rw [H.glo]; exact G) (ns_none_of R.stat G e1) (by rw [H.bui]; exact B) (ns_some_of R.stat B e2) (h u r.nil)
theorem Rel.ns (R : Rel g clo F ρ σ st s) {i : Nat} {a : Addr} {fs : List (Nat × AV)} (hb : st.get i = some (.ns fs)) (ha : ρ[i]? = some a) :
    ∃ m, s.heap.Ns a m ∧ ∀ x v, look fs x = some v → ∃ u, m (g.nm x) = some u ∧ VR ρ σ v u := by
  obtain ⟨o, h, es, ep, hd, hs, hl⟩ := R.at hb ha
  exact ⟨nsFind es, ⟨o, es, ep, h, hd, hs, fun _ => rfl⟩, hl⟩
theorem snd_loc (R : Rel g clo F ρ σ st s) (H : Here g n cx A F env L) (V : EnvS g ρ st env) {x : Str} {i : Nat} {fs : List (Nat × AV)} {v : AV} {Q : Value → Shared → Prop} (hk : cx.kinds.lookup x = some .local) (hi : cx.id x = some i)
    (hf : st.get st.loc = some (.ns fs)) (hl : look fs i = some v)
    (h : ∀ u, VR ρ σ v u → Q u s) : wpAny (model g.prog g.w) A (loadName env x) Q E s := by
  obtain ⟨m, hm, hv⟩ := R.ns hf V.loc
  obtain ⟨u, e, r⟩ := hv _ _ hl
  rw [H.cok.id x i hi] at e
  exact wpAny_loadName_local H.kind (H.loc x hk) hm e (h u r)
theorem Rel.cell (R : Rel g clo F ρ σ st s) {i : Nat} {a : Addr} {v : Option AV} (hb : st.get i = some (.cell v)) (ha : ρ[i]? = some a) : ∃ u, s.heap.IsCell a u ∧ cellR ρ σ v u := by
  obtain ⟨o, h, u, hd, r⟩ := R.at hb ha
  exact ⟨u, ⟨o, h, hd⟩, r⟩
theorem snd_cel (R : Rel g clo F ρ σ st s) (H : Here g n cx A F env L) (V : EnvS g ρ st env) {x : Str} {i : Nat} {c : Ix} {v : AV} {Q : Value → Shared → Prop} (hk : cx.kinds.lookup x = some .cell ∨ cx.kinds.lookup x = some .free) (hi : cx.id x = some i)
    (hc : lookI st.cel i = some c) (hf : st.get c = some (.cell (some v))) (hd : (x == ("__classdict__" : Str)) = false)
    (h : ∀ u, VR ρ σ v u → Q u s) : wpAny (model g.prog g.w) A (loadName env x) Q E s := by
  obtain ⟨a, ha, hl⟩ := V.cel i c hc
  obtain ⟨u, e, r⟩ := R.cell hf ha
  rw [H.cok.id x i hi] at hl
  induction u with
  | none => exact r.elim
  | some u =>
    rcases H.cel x hk with q | q
    · exact wpAny_loadName_cell H.kind q hl e (h u r)
    · exact wpAny_loadName_free H.kind q hl e (h u r) hd
theorem snd_const (R : Rel g clo F ρ σ st s) {c : Const} {v : AV} {kd pos} {Q : Value → Shared → Prop} (hc : constAV c = some v)
    (h : ∀ u t, VR ρ σ v u → Q u { s with toks := t }) : wpAny (model g.prog g.w) A (eval (.Constant c kd pos) env) Q E s := by
  induction c with
  | none => cases hc; exact wpAny_Constant_none (h _ s.toks rfl)
  | bool b => cases hc; exact wpAny_Constant_bool (h _ s.toks rfl)
  | int i => cases hc; exact wpAny_Constant_int (h _ _ ⟨_, rfl⟩)
  | str x =>
    change (match lowAll (cps x) with | true => some (AV.str (cps x)) | false => none) = some v at hc
    split at hc
    · cases hc; exact wpAny_Constant_str (h _ _ ⟨_, _, txt_low σ (lowAll_lt (by assumption)), by rw [strOf_cps]⟩)
    · first | exact no_tt hc | exact no_ns hc | induction hc
  | _ => first | exact no_tt hc | exact no_ns hc | induction hc
end
end Mine
end
section
set_option genInjectivity false
set_option genSizeOf false
set_option tactic.hygienic false
open PySem PySem.W PySem.Calls PyProof.Rows
namespace Mine
section
variable {g : Gd} {clo : CloP} {F : List Addr} {ρ : List Addr} {σ : List Str} {st : St} {s : Shared} {A : Around} {E : Value → Shared → Prop} {env : Env} {cx : Cx} {L : Addr} {n : Nat} {R : Rn} {G : Glob}
theorem starEach_plain {e : Expr} {r : List Expr} (h : plainArgs (e :: r) = true) : starEach (e :: r) env = (false, eval e env) :: starEach r env ∧ plainArgs r = true := by
  cases e <;> first | exact ⟨rfl, h⟩ | exact no_tt h | exact no_ns h | (cases h; done)
theorem snd_evs (S : SndE g clo R n) (m : Nat) (H : Here g n cx A F env L) {pos : Pos} : ∀ (as : List Expr) {ρ : List Addr} {σ : List Str} {st : St} {s : Shared} {k : List AV → St → Bool} {x : KX} {Q : List Value → Shared → Prop}, plainArgs as = true → EnvS g ρ st env → Hnd A ρ st → Rel g clo F ρ σ st s →
    evs R (as.map (compE m cx)) st k x = true → Post2 g clo F ρ σ st k Q → PostX g clo F ρ σ st x E → wpAny (model g.prog g.w) A (spliced (backTo pos (starEach as env))) Q E s := by
  intro as
  induction as with
  | nil =>
    intro ρ σ st s k x Q _ V D Re h P X
    exact spliced_nil (P ρ σ st s [] [] (Ext.refl ..) Re trivial h)
  | cons e r ih =>
    intro ρ σ st s k x Q hp V D Re h P X
    obtain ⟨q, hr⟩ := starEach_plain (env := env) hp
    rw [q]
    refine spliced_cons (S m cx e A F env L ρ σ st s _ x _ E H V D Re h ?_ X)
    intro ρ₁ σ₁ st₁ s₁ v u e₁ R₁ r₁ h₁
    refine ih hr (V.ext e₁) (D.ext e₁) R₁ h₁ ?_ (X.ext e₁)
    intro ρ₂ σ₂ st₂ s₂ vs us e₂ R₂ r₂ h₂
    exact P ρ₂ σ₂ st₂ s₂ (v :: vs) (u :: us) (e₁.trans e₂) R₂ ⟨e₂.vr r₁, r₂⟩ h₂
theorem IR.get (O : g.Ok) {x : Nat} {fs : List (Nat × AV)} {es : List DictEntry} (h : IR g ρ σ fs es) : match look fs x with
    | some v => ∃ u, getL (g.nm x) es = some (some u) ∧ VR ρ σ v u
    | none => getL (g.nm x) es = some none := by
  refine h.ind (P := fun fs es => match look fs x with
    | some v => ∃ u, getL (g.nm x) es = some (some u) ∧ VR ρ σ v u
    | none => getL (g.nm x) es = some none) rfl fun y v r e es t hk hv _ ih => ?_
  unfold look
  by_cases q : y = x
  · subst q
    rw [show Nat.beq y y = true from Nat.beq_refl y]
    refine ⟨e.val, ?_, hv⟩
    unfold getL
    rw [List.find?_cons, hk]
    simp [Value.isStr]
  · rw [show Nat.beq y x = false from Bool.eq_false_iff.mpr fun z => q (Nat.eq_of_beq_eq_true z)]
    have hne : e.key.isStr (g.nm x) = false := by
      rw [hk]
      refine Bool.eq_false_iff.mpr fun z => q (O.inj _ _ ?_)
      simpa [Value.isStr] using z
    have hn : e.refKey = false := by unfold DictEntry.refKey; rw [hk]
    have hg : getL (g.nm x) (e :: es) = getL (g.nm x) es := by
      unfold getL
      rw [List.find?_cons, hne]
      simp [hn]
    dsimp only
    rw [hg]
    exact ih
end
end Mine
end
section
set_option genInjectivity false
set_option genSizeOf false
set_option tactic.hygienic false
open PySem PySem.W PySem.Calls PyProof.Rows
namespace Mine
structure PlOk (g : Gd) (C : Addr) (c : Cl) : Prop where
  ga : findIn g.K (.ref C) "__getattribute__" = some (some (.builtin "object.__getattribute__"))
  gh : findIn g.K (.ref C) "__getattr__" = some none
  hd : hasDictIn g.K C = true
  fl : ∀ n, hasN c.flds n = true → findIn g.K (.ref C) (g.nm n) = some none
  sa : findIn g.K (.ref C) "__setattr__" = some (some (.builtin "object.__setattr__"))
  ov : overOk g.K C = true
  ma : makesIn g.K C = true
  ini : ∀ i, c.init = some i → findIn g.K (.ref C) "__init__" = some (some (.ref i)) ∧ isFn g.K (.ref i) = true
  me : ∀ n f, lookI c.meths n = some f → findIn g.K (.ref C) (g.nm n) = some (some (.ref f)) ∧ isFn g.K (.ref f) = true
theorem VR.handed {ρ σ} {a : AV} {v : Value} (h : VR ρ σ a v) : handedIn v = true := by
  induction a with
  | none => cases h; rfl
  | bool b => cases h; rfl
  | int n => obtain ⟨t, rfl⟩ := h; rfl
  | str p => obtain ⟨l, t, _, rfl⟩ := h; rfl
  | ref i => obtain ⟨a, _, rfl⟩ := h; rfl
  | fn a => cases h; rfl
  | opt k => obtain ⟨x, f, _, _, h⟩ := h; rcases h with ⟨_, _, rfl⟩ | ⟨_, t, rfl⟩ <;> rfl
  | anyi => obtain ⟨n, t, rfl⟩ := h; rfl
  | bi k =>
    change biVal k = some v at h
    unfold biVal at h
    split at h <;> first | exact no_tt h | exact no_ns h | (cases h; done) | (cases h; first | rfl | decide +kernel)
section
variable {g : Gd} {clo : CloP} {F : List Addr} {ρ : List Addr} {σ : List Str} {st : St} {s : Shared} {A : Around} {E : Value → Shared → Prop} {env : Env} {cx : Cx} {L : Addr} {n : Nat} {R : Rn} {G : Glob}
inductive InstOk (g : Gd) (ρ : List Addr) (σ : List Str) (s : Shared) (d : Nat) (C a : Addr) (fs : List (Nat × AV)) : Prop where
  | mk (dx : Addr) (sl : Array (Option Value)) (es : List DictEntry) (m : Nat) (h1 : ρ[d]? = some dx) (h2 : s.heap.get? dx = some (dictOf es m)) (h3 : InstAt s.heap a ⟨.ref C, some dx, .plain, sl⟩ C (some (dictOf es m))) (h4 : IR g ρ σ fs es)
theorem Rel.inst (R : Rel g clo F ρ σ st s) {i d : Nat} {C a : Addr} {fs : List (Nat × AV)} (hi : st.get i = some (.inst C d)) (hd : st.get d = some (.idict fs)) (ha : ρ[i]? = some a) :
    InstOk g ρ σ s d C a fs := by
  obtain ⟨o, ho, dx, sl, hdx, rfl⟩ := R.at hi ha
  obtain ⟨o', ho', es, m, rfl, hr⟩ := R.at hd hdx
  exact ⟨dx, sl, es, m, hdx, ho', ⟨ho, rfl, rfl, ho'⟩, hr⟩
theorem snd_attr_inst (O : g.Ok) {c : Cl} {i d m : Nat} {C a : Addr} (P : PlOk g C c) (Re : Rel g clo F ρ σ st s) {fs : List (Nat × AV)} {v : AV} {ex : Bool} {Q : Value → Shared → Prop} (hi : st.get i = some (.inst C d)) (hd : st.get d = some (.idict fs)) (ha : ρ[i]? = some a)
    (hf : hasN c.flds m = true) (hl : look fs m = some v) (h : ∀ u t, VR ρ σ v u → Q u { s with toks := t }) : wpAny (model g.prog g.w) A (getAttr (.ref a) (g.nm m) ex) Q E s := by
  obtain ⟨dx, sl, es, k, _, _, I, hr⟩ := Re.inst hi hd ha
  have := hr.get O (x := m)
  rw [hl] at this
  obtain ⟨u, e, r⟩ := this
  exact get_value Re.stat I P.ga (findObj_own P.hd (P.fl m hf) rfl (by rw [lookIn_dict]; exact e)) r.handed (h u _ r)
theorem getMethod_meth (O : g.Ok) {c : Cl} {i d m f : Nat} {C a : Addr} (P : PlOk g C c) (Re : Rel g clo F ρ σ st s) {fs : List (Nat × AV)} {pl : Sem Bool} {Q : Value × List Value → Shared → Prop} (hi : st.get i = some (.inst C d)) (hd : st.get d = some (.idict fs)) (ha : ρ[i]? = some a)
    (hf : lookI c.meths m = some f) (hl : look fs m = none) (h : Q (.ref f, [.ref a]) s) : wpAny (model g.prog g.w) A (getMethod (.ref a) (g.nm m) pl) Q E s := by
  obtain ⟨dx, sl, es, k, _, _, I, hr⟩ := Re.inst hi hd ha
  have := hr.get O (x := m)
  rw [hl] at this
  obtain ⟨q1, q2⟩ := P.me m f hf
  exact method_fn Re.stat I P.ga P.gh q1 (beq_iff_eq.mp q2) (by show (lookIn (g.nm m) (dictOf es k)).map _ = _; rw [lookIn_dict, this]; rfl) h
theorem getMethod_fld (O : g.Ok) {c : Cl} {i d m : Nat} {C a : Addr} (P : PlOk g C c) (Re : Rel g clo F ρ σ st s) {fs : List (Nat × AV)} {v : AV} {pl : Sem Bool} {Q : Value × List Value → Shared → Prop} (hi : st.get i = some (.inst C d)) (hd : st.get d = some (.idict fs)) (ha : ρ[i]? = some a)
    (hf : hasN c.flds m = true) (hl : look fs m = some v) (h : ∀ u t, VR ρ σ v u → Q (u, []) { s with toks := t }) : wpAny (model g.prog g.w) A (getMethod (.ref a) (g.nm m) pl) Q E s := by
  obtain ⟨dx, sl, es, k, _, _, I, hr⟩ := Re.inst hi hd ha
  exact method_usual Re.stat I P.ga P.gh (P.fl m hf) rfl (snd_attr_inst O P Re hi hd ha hf hl fun u t r => h u t r)
end
end Mine
end
section
set_option genInjectivity false
set_option genSizeOf false
set_option tactic.hygienic false
open PySem PySem.W PySem.Calls PyProof.Rows Builtin Builtin.ObjectAttr
set_option maxRecDepth 100000
namespace Mine
theorem refuse_exc (self : Value) : refuseLoop self "__setattr__" [.type "Exception", .type "BaseException", .type "object"] = pure () := by kernel_rfl
set_option tactic.hygienic true in
theorem refOk_pass (self : Value) {l : List Value} (h : refOk l = true) : refuseLoop self "__setattr__" l = pure () ∧ l.contains (.type "object") = true := by
  induction l with
  | nil => first | exact no_tt h | exact no_ns h | induction h
  | cons v r ih =>
    induction v
    case ref a =>
      have hr : refOk r = true := h
      have ih := ih hr
      rw [refuseLoop_ref, List.contains_cons, ih.2]
      exact ⟨ih.1, by simp⟩
    case type a =>
      cases r with
      | nil => rw [show a = "object" from beq_iff_eq.mp h]; exact ⟨PySem.F.store_object.passes self, by decide +kernel⟩
      | cons v2 r =>
        cases v2
        case type b =>
          cases r with
          | nil => first | exact no_tt h | exact no_ns h | cases h
          | cons v3 r =>
            cases v3
            case type c =>
              cases r with
              | nil =>
                have h : ((a == "Exception" && b == "BaseException") && c == "object") = true := h
                rw [Bool.and_eq_true, Bool.and_eq_true, beq_iff_eq, beq_iff_eq, beq_iff_eq] at h
                rw [h.1.1, h.1.2, h.2]
                exact ⟨refuse_exc self, by decide +kernel⟩
              | cons _ _ => first | exact no_tt h | exact no_ns h | induction h
            all_goals (first | exact no_tt h | exact no_ns h | induction h)
        all_goals (first | exact no_tt h | exact no_ns h | induction h)
    all_goals (first | exact no_tt h | exact no_ns h | induction h)
theorem putL_len (name : Str) (hsh : Int) (key v : Value) : ∀ es : List DictEntry, (putL name hsh key v es).length ≤ es.length + 1
  | [] => Nat.le_refl _
  | e :: r => by
    unfold putL
    split
    · simp
    · have := putL_len name hsh key v r
      simp only [List.length_cons]; omega
section
variable {prog : Program} {w : World} {A : Around} {s : Shared} {K : Frag} {R : Result → Shared → Prop}
theorem osa_mine {x C : Addr} {ox : Obj} {od : Option Obj} {name : Str} {tk : Tok} {v : Value} (X : K.In s.heap) (I : InstAt s.heap x ox C od) (hp : overOk K C = true) (ht : findIn K (.ref C) name = some none)
    (h : wpAny (model prog w) A.in1 (storeInOwnDict (.ref x) (.ref C) (.str name tk) name v false)
      (fun fin s' => match fin with | .done f => R (.ok f) s' | .again c' => c'.quiet = true ∧ codeAny (model prog w) A c' R s') (fun e s' => R (.error e) s') s) :
    codeAny (model prog w) A (.call (.builtin "object.__setattr__") ⟨[.ref x, .str name tk, v], []⟩) R s := by
  have SF := PySem.F.store_object
  obtain ⟨cd, hc, ho⟩ := any_some hp
  rw [Bool.and_eq_true] at ho
  have ne : cd.mro.isEmpty = false := by cases q : cd.mro with | nil => rw [q] at ho; cases ho.1 | cons _ _ => rfl
  obtain ⟨rp, rc⟩ := refOk_pass (.ref x) ho.1
  have sub : Looks (model prog w) s.heap (isInstance (.ref x) (.type "object")) true := I.type.andThen (looks_mroIn X (by unfold mroIn; rw [hc, Option.bind_some, if_neg (by rw [ne]; decide), rc]))
  refine codeAny_call_builtin SF.slot.plain SF.entry (@check_slot (model prog w) _ _ s "object.__setattr__" "object" "__setattr__" (.ref x) [.str name tk, v] [] _ SF.kind SF.split sub (SF.args (.ref x) (.str name tk) v) ?_)
  have hm : Looks (model prog w) s.heap (mroOf (.ref C)) cd.mro := (looks_clsIn X hc).andThen .now
  rw [osa_eq, refuse_eq]
  refine wpAny_bind (wpAny_bind (I.type.here (wpAny_bind (hm.here ?_))))
  rw [rp]
  refine wpAny_pure (wpAny_bind (I.type.here (wpAny_bind ((looks_findIn X ht).here (wpAny_bind (Looks.here (r := none) .now ?_))))))
  exact h
set_option tactic.hygienic true in
theorem osa_put {x C dx : Addr} {ox : Obj} {es : List DictEntry} {n : Nat} {name : Str} {tk : Tok} {v : Value} (X : K.In s.heap) (I : InstAt s.heap x ox C (some (dictOf es n))) (hd : ox.dict = some dx) (hx : s.heap.get? dx = some (dictOf es n)) (hp : overOk K C = true) (ht : findIn K (.ref C) name = some none)
    (hl : (getL name es).isSome = true) (hz : es.length ≤ 1000)
    (h : R (.ok (.ret .none)) { s with heap := s.heap.update dx (Obj.putName name (PyData.keyHash w.params name) (.str name s.toks) v), toks := s.toks + 1 }) :
    codeAny (model prog w) A (.call (.builtin "object.__setattr__") ⟨[.ref x, .str name tk, v], []⟩) R s := by
  refine osa_mine X I hp ht ?_
  obtain ⟨cd, hc, ho⟩ := any_some hp
  rw [Bool.and_eq_true] at ho
  obtain ⟨hix, hcl, hn, -⟩ := I
  obtain ⟨oc, odi, oda, osl⟩ := ox
  dsimp only at hcl hd
  subst hcl hd
  refine wpAny_bind (wpAny_pure (wpAny_bind (wpAny_bind (wpAny_loadPart hix (wpAny_bind ((looks_clsIn X hc).here ?_))))))
  rw [ho.2]
  refine wpAny_pure (a := some dx) (wpAny_bind (wpAny_pure (wpAny_bind ?_)))
  unfold nsSet
  refine wpAny_bind (wpAny_bind (wpAny_askSetting (wpAny_pure (wpAny_bind (wpAny_mkText (wpAny_bind (wpAny_loadPart hx ?_)))))))
  dsimp only
  have c : (!es.toArray.any (·.key.isStr name) && es.toArray.any (·.refKey)) = false := by
    rw [← Array.any_toList, ← Array.any_toList]
    unfold getL at hl
    split at hl
    · rename_i en he
      rw [List.any_eq_true.mpr ⟨en, List.mem_of_find?_eq_some he, List.find?_some he⟩]; rfl
    · split at hl
      · first | exact no_tt hl | exact no_ns hl | induction hl
      · rename_i z; rw [Bool.not_eq_true] at z; simp only [z, Bool.and_false]
  rw [aRefKeyMayBeTheName_at, c]
  refine wpAny_updatePart hx ?_
  have D' : (s.heap.update dx (Obj.putName name (PyData.keyHash w.params name) (.str name s.toks) v)).get? dx = some (dictOf (putL name (PyData.keyHash w.params name) (.str name s.toks) v es) (putN name es n)) := by
    rw [← putName_dict]
    exact Heap.get?_update_self _ hx (by rw [putName_dict]; rfl)
  have len : (putL name (PyData.keyHash w.params name) (.str name s.toks) v es).length ≤ 1001 := by
    exact Nat.le_trans (putL_len ..) (by omega)
  refine wpAny_bind (wpAny_lookBehind D' (pastItsLine_dict (by rw [List.size_toArray, sizeLine_eq]; omega)) ?_)
  exact wpAny_pure h
end
section
variable {g : Gd} {clo : CloP} {F : List Addr} {ρ : List Addr} {σ : List Str} {st : St} {s : Shared} {A : Around} {E : Value → Shared → Prop} {env : Env} {cx : Cx} {L : Addr} {n : Nat} {R : Rn} {G : Glob}
theorem IR.put (O : g.Ok) {x : Nat} {v : AV} {u : Value} {hsh : Int} {t : Tok} (hv : VR ρ σ v u) {fs : List (Nat × AV)} {es : List DictEntry} (h : IR g ρ σ fs es) : IR g ρ σ (putA fs x v) (putL (g.nm x) hsh (.str (g.nm x) t) u es) := by
  refine h.ind (P := fun fs es => IR g ρ σ (putA fs x v) (putL (g.nm x) hsh (.str (g.nm x) t) u es)) ⟨⟨t, rfl⟩, hv, trivial⟩ fun y w r e es t' hk hw hr ih => ?_
  unfold putA putL
  by_cases q : y = x
  · subst q
    rw [show Nat.beq y y = true from Nat.beq_refl y, hk]
    rw [if_pos (by simp [Value.isStr])]
    exact ⟨⟨t', rfl⟩, hv, hr⟩
  · rw [show Nat.beq y x = false from Bool.eq_false_iff.mpr fun z => q (Nat.eq_of_beq_eq_true z), hk]
    rw [if_neg (by
      intro z
      exact q (O.inj _ _ (by simpa [Value.isStr] using z)))]
    exact ⟨⟨t', hk⟩, hw, ih⟩
theorem IR.len {fs : List (Nat × AV)} {es : List DictEntry} (h : IR g ρ σ fs es) : es.length = fs.length :=
  h.ind (P := fun fs es => es.length = fs.length) rfl fun _ _ _ _ _ _ _ _ _ ih => congrArg Nat.succ ih
theorem snd_set_inst (O : g.Ok) {d m : Nat} {C a : Addr} (ov : overOk g.K C = true) (fl : findIn g.K (.ref C) (g.nm m) = some none) (sa : findIn g.K (.ref C) "__setattr__" = some (some (.builtin "object.__setattr__")))
    (Re : Rel g clo F ρ σ st s) {fs : List (Nat × AV)} {v : AV} {u : Value} {ox : Obj} {dx : Addr} {Q : Unit → Shared → Prop} (hd : st.get d = some (.idict fs)) (hdx : ρ[d]? = some dx)
    (I : ∀ es n, s.heap.get? dx = some (dictOf es n) → InstAt s.heap a ox C (some (dictOf es n))) (hod : ox.dict = some dx)
    (hlen : fs.length ≤ 100) (hro : st.isRo d = false) (hv : VR ρ σ v u)
    (h : ∀ s', Rel g clo F ρ σ (st.put d (.idict (putA fs m v))) s' → Q () s') : wpAny (model g.prog g.w) A (PySem.setAttr (.ref a) (g.nm m) u) Q E s := by
  obtain ⟨o', ho', es, k, rfl, hr⟩ := Re.at hd hdx
  have I := I es k ho'
  have R1 := Re.toks (s.toks + 1)
  refine set_plain Re.stat I sa ?_
  refine osa_put (s := { s with toks := s.toks + 1 }) Re.stat I hod ho' ov fl ?_ (by rw [hr.len]; omega) ?_
  · have := hr.get O (x := m)
    split at this
    · obtain ⟨_, e, _⟩ := this; rw [e]; rfl
    · rw [this]; rfl
  · refine h _ ?_
    have e : (s.heap.update dx (Obj.putName (g.nm m) (PyData.keyHash g.w.params (g.nm m)) (.str (g.nm m) (s.toks + 1)) u)).get? dx = some (dictOf (putL (g.nm m) (PyData.keyHash g.w.params (g.nm m)) (.str (g.nm m) (s.toks + 1)) u es) (putN (g.nm m) es k)) := by
      rw [← putName_dict]
      exact Heap.get?_update_self _ ho' (by rw [putName_dict]; rfl)
    exact Re.wr O hdx hro (Heap.SameBut.update ..).extBut e ⟨_, _, rfl, hr.put O hv⟩ hd (fun q => by first | exact Ob.noConfusion q | cases q) ⟨rfl, rfl, rfl⟩ (fun _ _ q => by first | exact Ob.noConfusion q | cases q)
end
end Mine
end
section
set_option genInjectivity false
set_option genSizeOf false
set_option tactic.hygienic false
open PySem PySem.W PySem.Calls PyProof.Rows PySem.SeqAt
namespace Mine
inductive TxtCons (σ : List Str) (c : Nat) (r l : List Nat) : Prop where
  | mk (h' t : List Nat) (h1 : txt σ r = some t) (h2 : l = h' ++ t) (h3 : c < 1114112 → h' = [c]) (h4 : ∀ r' l', txt σ (c :: r') = some l' → ∃ t', txt σ r' = some t' ∧ l' = h' ++ t')
set_option tactic.hygienic true in
theorem txt_cons {σ : List Str} {c : Nat} {r l : List Nat} (h : txt σ (c :: r) = some l) : TxtCons σ c r l := by
  unfold txt at h
  induction e : txt σ r with
  | none => rw [e] at h; first | exact no_tt h | exact no_ns h | induction h
  | some t =>
    rw [e] at h
    dsimp only at h
    split at h
    · rename_i q
      cases h
      refine ⟨[c], t, e, rfl, fun _ => rfl, fun r' l' h' => ?_⟩
      unfold txt at h'
      induction e' : txt σ r' with
      | none => rw [e'] at h'; first | exact no_tt h' | exact no_ns h' | induction h'
      | some t' => rw [e', q] at h'; cases h'; exact ⟨t', rfl, rfl⟩
    · rename_i q
      split at h
      · rename_i x hx
        cases h
        refine ⟨x.cps.toList, t, e, rfl, fun z => ?_, fun r' l' h' => ?_⟩
        · rw [Nat.blt_eq.mpr z] at q; first | exact no_tt q | exact no_ns q | cases q
        · unfold txt at h'
          induction e' : txt σ r' with
          | none => rw [e'] at h'; first | exact no_tt h' | exact no_ns h' | induction h'
          | some t' => rw [e', q, hx] at h'; cases h'; exact ⟨t', rfl, rfl⟩
      · first | exact no_tt h | exact no_ns h | induction h
set_option tactic.hygienic true in
theorem eqP_ok {σ : List Str} {p : List Nat} : ∀ {q l l' : List Nat} {b : Bool}, eqP p q = some b → txt σ p = some l → txt σ q = some l' → decide (l = l') = b := by
  induction p with
  | nil =>
    intro q l l' b h h1 h2
    cases q with
    | nil => cases h; cases h1; cases h2; rfl
    | cons c r =>
      unfold eqP at h
      split at h
      · rename_i q
        cases h; first | exact no_tt h1 | exact no_ns h1 | cases h1
        obtain ⟨x, t, _, rfl, hx, _⟩ := txt_cons h2
        rw [hx (Nat.blt_eq.mp q)]; simp
      · first | exact no_tt h | exact no_ns h | induction h
  | cons c r ih =>
    intro q l l' b h h1 h2
    cases q with
    | nil =>
      unfold eqP at h
      split at h
      · rename_i q
        cases h; first | exact no_tt h2 | exact no_ns h2 | cases h2
        obtain ⟨x, t, _, rfl, hx, _⟩ := txt_cons h1
        rw [hx (Nat.blt_eq.mp q)]; simp
      · first | exact no_tt h | exact no_ns h | induction h
    | cons d q =>
      unfold eqP at h
      split at h
      · rename_i z
        have z := Nat.eq_of_beq_eq_true z
        subst z
        obtain ⟨x, t, e, rfl, _, hh⟩ := txt_cons h1
        obtain ⟨t', e', rfl⟩ := hh _ _ h2
        have := ih h e e'
        rw [← this]; simp
      · rename_i z
        split at h
        · rename_i y
          cases h
          rw [Bool.and_eq_true] at y
          obtain ⟨x, t, _, rfl, hx, _⟩ := txt_cons h1
          obtain ⟨x', t', _, rfl, hx', _⟩ := txt_cons h2
          rw [hx (Nat.blt_eq.mp y.1), hx' (Nat.blt_eq.mp y.2)]
          simp only [List.cons_append, List.nil_append, List.cons.injEq, decide_eq_false_iff_not]
          rintro ⟨rfl, _⟩
          rw [Nat.beq_refl] at z; first | exact no_tt z | exact no_ns z | cases z
        · first | exact no_tt h | exact no_ns h | induction h
theorem strOf_eq (l l' : List Nat) : (strOf l == strOf l') = decide (l = l') := by
  by_cases h : l = l'
  · subst h; simp
  · rw [decide_eq_false h]
    refine Bool.eq_false_iff.mpr fun z => h ?_
    have z := eq_of_beq z
    unfold strOf at z
    injection z with z
    simpa using congrArg Array.toList z
theorem vEq_at {A : Around} {s : Shared} {u v : Value} (hu : vFlat u) (hv : vFlat v) : EqAt A s u v (vEq u v) ∧ RcAt A s u v (vEq u v) ∧ RcNeAt A s u v (!vEq u v) := by
  induction u <;> first | exact hu.elim | skip
  · induction v <;> first | exact hv.elim | skip
    · exact ⟨EqAt.same _, .none_none, .none_none⟩
    · exact ⟨.none_int _ _, .none_int _ _, .none_int _ _⟩
    · exact ⟨.none_str _ _, .none_str _ _, .none_str _ _⟩
  · induction v <;> first | exact hv.elim | skip
    · exact ⟨.int_none _ _, .int_none _ _, .int_none _ _⟩
    · exact ⟨.int_int _ _ _ _, .int_int _ _ _ _, .int_int _ _ _ _⟩
    · exact ⟨.int_str _ _ _ _, .int_str _ _ _ _, .int_str _ _ _ _⟩
  · induction v <;> first | exact hv.elim | skip
    · exact ⟨.str_none _ _, .str_none _ _, .str_none _ _⟩
    · exact ⟨.str_int _ _ _ _, .str_int _ _ _ _, .str_int _ _ _ _⟩
    · exact ⟨.str_str _ _ _ _, .str_str _ _ _ _, .str_str _ _ _ _⟩
section
variable {ρ : List Addr} {σ : List Str}
theorem VR.flat {a : AV} {u : Value} (h : VR ρ σ a u) (hf : flatV a = true) : vFlat u := by
  induction a <;> first | exact no_tt hf | exact no_ns hf | (induction hf; done) | skip
  · cases h; trivial
  · obtain ⟨t, rfl⟩ := h; trivial
  · obtain ⟨l, t, _, rfl⟩ := h; trivial
  · obtain ⟨x, f, _, _, h⟩ := h; rcases h with ⟨_, _, rfl⟩ | ⟨_, t, rfl⟩ <;> trivial
theorem eqI_ok (a b : Int) : eqI a b = (a == b) := by
  induction a with
  | ofNat a => induction b with
    | ofNat b => show Nat.beq a b = _; rw [BT.beq_eq]; by_cases h : a = b <;> simp [h] <;> omega
    | negSucc b => rfl
  | negSucc a => induction b with
    | ofNat b => rfl
    | negSucc b => show Nat.beq a b = _; rw [BT.beq_eq]; by_cases h : a = b <;> simp [h]
set_option tactic.hygienic true in
theorem eqV_ok {a b : AV} {u v : Value} {r : Bool} (h : eqV a b = some r) (ha : flatV a = true) (hb : flatV b = true) (hu : VR ρ σ a u) (hv : VR ρ σ b v) : vEq u v = r := by
  induction a <;> first | exact no_tt ha | exact no_ns ha | (induction ha; done) | skip
  · induction b <;> first | exact no_tt hb | exact no_ns hb | (induction hb; done) | exact no_tt h | exact no_ns h | (induction h; done) | skip
    · cases h; cases hu; cases hv; rfl
    · cases h; cases hu; obtain ⟨t, rfl⟩ := hv; rfl
    · cases h; cases hu; obtain ⟨l, t, _, rfl⟩ := hv; rfl
  · cases b <;> first | exact no_tt hb | exact no_ns hb | (cases hb; done) | (change none = some r at h; cases h; done) | skip
    · cases h; cases hv; obtain ⟨t, rfl⟩ := hu; rfl
    · obtain ⟨t, rfl⟩ := hu; obtain ⟨t', rfl⟩ := hv
      cases h; exact (eqI_ok ..).symm
  · cases b <;> first | exact no_tt hb | exact no_ns hb | (cases hb; done) | (change none = some r at h; cases h; done) | skip
    · cases h; cases hv; obtain ⟨l, t, _, rfl⟩ := hu; rfl
    · obtain ⟨l, t, e, rfl⟩ := hu; obtain ⟨l', t', e', rfl⟩ := hv
      exact (strOf_eq ..).trans (eqP_ok h e e')
  · induction b <;> first | exact no_tt hb | exact no_ns hb | (induction hb; done) | (change none = some r at h; cases h; done) | skip
    rename_i i j
    change (match Nat.beq i j with | true => some true | false => none) = some r at h
    split at h
    · rename_i q
      cases h
      have q := Nat.eq_of_beq_eq_true q
      subst q
      obtain ⟨x, f, e1, e2, hu⟩ := hu
      obtain ⟨x', f', e1', e2', hv⟩ := hv
      rw [e1] at e1'; rw [e2] at e2'; cases e1'; first | exact no_tt e2' | exact no_ns e2' | cases e2'
      rcases hu with ⟨z, _, rfl⟩ | ⟨z, t, rfl⟩ <;> rcases hv with ⟨z', _, rfl⟩ | ⟨z', t', rfl⟩
      · rfl
      · exact (z' z).elim
      · exact (z z').elim
      · show (x == x) = true; simp
    · first | exact no_tt h | exact no_ns h | induction h
noncomputable def allEq : List Value → List Value → Bool
  | [], [] => true
  | u :: us, v :: vs => vEq u v && allEq us vs
  | _, _ => false
set_option tactic.hygienic true in
theorem eqL_ok {as : List AV} {us : List Value} (h1 : VRs ρ σ as us) : ∀ {bs : List AV} {vs : List Value} {r : Bool}, eqL as bs = some r → flatL as = true → flatL bs = true → VRs ρ σ bs vs → allEq us vs = r := by
  refine h1.ind (P := fun as us => ∀ {bs : List AV} {vs : List Value} {r : Bool}, eqL as bs = some r → flatL as = true → flatL bs = true → VRs ρ σ bs vs → allEq us vs = r) ?_ ?_
  · intro bs vs r h _ _ h2
    induction bs with
    | nil => induction vs with
      | nil => cases h; rfl
      | cons _ _ => exact h2.elim
    | cons _ _ => induction vs with
      | nil => exact h2.elim
      | cons _ _ => cases h; rfl
  · intro a u as us h1 _ ih bs vs r h f1 f2 h2
    induction bs with
    | nil => induction vs with
      | nil => cases h; rfl
      | cons _ _ => exact h2.elim
    | cons b bs => induction vs with
      | nil => exact h2.elim
      | cons v vs =>
        unfold flatL at f1 f2
        split at f1
        · rename_i fa
          split at f2
          · rename_i fb
            unfold eqL at h
            change (vEq u v && allEq us vs) = r
            split at h
            · rename_i e
              rw [eqV_ok e fa fb h1 h2.1, ih h f1 f2 h2.2]; rfl
            · rename_i e
              rw [eqV_ok e fa fb h1 h2.1]
              split at h <;> (cases h; rfl)
            · first | exact no_tt h | exact no_ns h | induction h
          · first | exact no_tt f2 | exact no_ns f2 | induction f2
        · first | exact no_tt f1 | exact no_ns f1 | induction f1
set_option tactic.hygienic true in
theorem VRs.flat {as : List AV} {us : List Value} (h : VRs ρ σ as us) (f : flatL as = true) : ∀ u ∈ us, vFlat u := by
  refine h.ind (P := fun as us => flatL as = true → ∀ u ∈ us, vFlat u) (fun _ _ h => nomatch h) (fun a v as us h1 _ ih f u h => ?_) f
  unfold flatL at f
  split at f
  · rename_i fa
    rcases List.mem_cons.mp h with rfl | h
    · exact h1.flat fa
    · exact ih f u h
  · first | exact no_tt f | exact no_ns f | induction f
theorem VRs.length {as : List AV} {us : List Value} (h : VRs ρ σ as us) : us.length = as.length :=
  h.ind (P := fun as us => us.length = as.length) rfl fun _ _ _ _ _ _ ih => congrArg Nat.succ ih
theorem allEq_len : ∀ {us vs : List Value}, us.length ≠ vs.length → allEq us vs = false
  | [], [], h => (h rfl).elim
  | [], _ :: _, _ => rfl
  | _ :: _, [], _ => rfl
  | u :: us, v :: vs, h => by show (vEq u v && allEq us vs) = false; rw [allEq_len (us := us) (vs := vs) (fun z => h (by simp [z])), Bool.and_false]
noncomputable def eqJ (us vs : List Value) (j : Nat) : Bool := match us[j]?, vs[j]? with | some u, some v => vEq u v | _, _ => false
theorem allEq_range : ∀ {us vs : List Value}, us.length = vs.length → (List.range us.length).all (eqJ us vs) = allEq us vs
  | [], [], _ => rfl
  | u :: us, v :: vs, h => by
    rw [List.length_cons, List.range_succ_eq_map, List.all_cons, List.all_map]
    show _ = (vEq u v && allEq us vs)
    rw [← allEq_range (us := us) (vs := vs) (by simpa using h)]
    rfl
  | [], _ :: _, h => by cases h
  | _ :: _, [], h => by cases h
set_option tactic.hygienic true in
theorem inL_ok {as : List AV} {us : List Value} {x : AV} {v : Value} {r : Bool} (h : inL as x = some r) (f : flatL as = true) (fx : flatV x = true) (hs : VRs ρ σ as us) (hx : VR ρ σ x v) : us.any (fun u => vEq u v) = r := by
  refine hs.ind (P := fun as us => inL as x = some r → flatL as = true → us.any (fun u => vEq u v) = r) (fun h _ => by cases h; rfl) (fun a u as us h1 _ ih h f => ?_) h f
  unfold flatL at f
  split at f
  · rename_i fa
    unfold inL at h
    rw [List.any_cons]
    split at h
    · rename_i e; cases h; rw [eqV_ok e fa fx h1 hx]; rfl
    · rename_i e; rw [eqV_ok e fa fx h1 hx, ih h f]; rfl
    · first | exact no_tt h | exact no_ns h | induction h
  · first | exact no_tt f | exact no_ns f | induction f
end
end Mine
end
section
set_option genInjectivity false
set_option genSizeOf false
set_option tactic.hygienic false
open PySem PySem.W PySem.Calls PyProof.Rows PySem.SeqAt
namespace Mine
section
variable {g : Gd} {clo : CloP} {F : List Addr} {ρ : List Addr} {σ : List Str} {st : St} {s : Shared} {A : Around} {E : Value → Shared → Prop}
theorem VR.isNone {a : AV} {u : Value} (h : VR ρ σ a u) (ho : ∀ k, a ≠ .opt k) : (u == .none) = (match a with | .none => true | _ => false) := by
  induction a with
  | none => cases h; rfl
  | bool b => cases h; rfl
  | int n => obtain ⟨t, rfl⟩ := h; rfl
  | str p => obtain ⟨l, t, _, rfl⟩ := h; rfl
  | ref i => obtain ⟨a, _, rfl⟩ := h; rfl
  | fn a => cases h; rfl
  | bi k =>
    change biVal k = some u at h
    unfold biVal at h
    split at h <;> first | exact no_tt h | exact no_ns h | (cases h; done) | (cases h; rfl)
  | opt k => exact (ho k rfl).elim
  | anyi => obtain ⟨n, t, rfl⟩ := h; rfl
theorem eqV_kind {a b : AV} {r : Bool} (h : eqV a b = some r) : (flatV a = true ∧ flatV b = true) ∨ ∃ x y, a = .bool x ∧ b = .bool y ∧ r = eqB x y := by
  cases a <;> cases b <;> first | exact no_tt h | exact no_ns h | (cases h; done) | exact .inl ⟨rfl, rfl⟩ | (cases h; exact .inr ⟨_, _, rfl, rfl, rfl⟩)
theorem eqB_ok (x y : Bool) : eqB x y = (x == y) := by induction x <;> induction y <;> rfl
inductive ListOk (ρ : List Addr) (σ : List Str) (h : Heap) (a : Addr) (l : List AV) : Prop where
  | mk (xs : Array Value) (h1 : h.IsList a xs) (h2 : VRs ρ σ l xs.toList)
inductive TupOk (ρ : List Addr) (σ : List Str) (h : Heap) (a : Addr) (l : List AV) : Prop where
  | mk (xs : Array Value) (h1 : h.IsTuple a xs) (h2 : VRs ρ σ l xs.toList)
theorem Rel.list (R : Rel g clo F ρ σ st s) {i : Nat} {a : Addr} {l : List AV} (hb : st.get i = some (.list l)) (ha : ρ[i]? = some a) :
    ListOk ρ σ s.heap a l := by
  obtain ⟨o, h, xs, n, rfl, hl⟩ := R.at hb ha
  exact ⟨xs, ⟨_, h, rfl, n, rfl⟩, hl⟩
theorem Rel.tup (R : Rel g clo F ρ σ st s) {i : Nat} {a : Addr} {l : List AV} (hb : st.get i = some (.tup l)) (ha : ρ[i]? = some a) :
    TupOk ρ σ s.heap a l := by
  obtain ⟨o, h, xs, n, rfl, hl⟩ := R.at hb ha
  exact ⟨xs, ⟨_, h, rfl, n, rfl⟩, hl⟩
theorem rc_at {a b : AV} {u v : Value} {r : Bool} (h : eqV a b = some r) (hu : VR ρ σ a u) (hv : VR ρ σ b v) : RcAt A s u v r ∧ RcNeAt A s u v (!r) := by
  rcases eqV_kind h with ⟨f1, f2⟩ | ⟨x, y, rfl, rfl, rfl⟩
  · have := vEq_at (A := A) (s := s) (hu.flat f1) (hv.flat f2)
    rw [eqV_ok h f1 f2 hu hv] at this
    exact this.2
  · cases hu; first | exact no_tt hv | exact no_ns hv | cases hv
    rw [eqB_ok]
    exact ⟨RcAt.bool_bool x y, RcNeAt.bool_bool x y⟩
theorem rc_lists {xs ys : Array Value} {l m : List AV} {x y : Addr} {r : Bool} (hx : s.heap.IsList x xs) (hy : s.heap.IsList y ys) (rx : VRs ρ σ l xs.toList) (ry : VRs ρ σ m ys.toList) (fl : flatL l = true) (fm : flatL m = true) (h : eqL l m = some r) (hu : A.units < cLine) :
    RcAt A s (.ref x) (.ref y) r ∧ RcNeAt A s (.ref x) (.ref y) (!r) := by
  have e := eqL_ok rx h fl fm ry
  by_cases q : xs.size = ys.size
  · have hl : xs.toList.length = ys.toList.length := by simpa using q
    have he : ∀ j (h1 : j < xs.size) (h2 : j < ys.size), EqAt A.in1 s xs[j] ys[j] (eqJ xs.toList ys.toList j) := fun j h1 h2 => by
      have e1 : xs.toList[j]? = some xs[j] := by simp [h1]
      have e2 : ys.toList[j]? = some ys[j] := by simp [h2]
      unfold eqJ
      rw [e1, e2]
      exact (vEq_at (VRs.flat rx fl _ (List.mem_of_getElem? e1)) (VRs.flat ry fm _ (List.mem_of_getElem? e2))).1
    have e' := allEq_range hl
    rw [e] at e'
    have sz : xs.toList.length = xs.size := by simp
    rw [sz] at e'
    constructor
    · intro prog w E Q hq
      exact eq_listAt hx hy q hu he (by rw [e']; exact hq)
    · have := RcNeAt.lists hx hy q hu he
      rw [e'] at this; exact this
  · have : r = false := by
      rw [← e]; exact allEq_len (by simpa using q)
    subst this
    exact ⟨fun prog w E Q hq => eq_list_lengthsAt hx hy (by simpa using q) hu hq, RcNeAt.lists_lengths hx hy (by simpa using q) hu⟩
set_option tactic.hygienic true in
theorem KR.look {kv : List (List Nat × AV)} {kvs : List (Str × Value)} {p l : List Nat} (hk : KR ρ σ kv kvs) : ∀ {r : Option AV}, lookK p kv = some r → txt σ p = some l →
    match r with | some v => ∃ u, valueAt kvs (strOf l) = some u ∧ VR ρ σ v u | none => valueAt kvs (strOf l) = none := by
  refine hk.ind (P := fun kv kvs => ∀ {r : Option AV}, lookK p kv = some r → txt σ p = some l →
    match r with | some v => ∃ u, valueAt kvs (strOf l) = some u ∧ VR ρ σ v u | none => valueAt kvs (strOf l) = none) (fun h _ => by cases h; rfl) (fun q v kv x u kvs h1 h2 h3 ih r h hp => ?_)
  unfold lookK at h
  have key : ∀ b, eqP q p = some b → decide (x = strOf l) = b := fun b e => by
    have := eqP_ok e h1 hp
    rw [← this]
    by_cases z : x.cps.toList = l
    · rw [decide_eq_true z, ← z]
      exact decide_eq_true (strOf_cps x).symm
    · rw [decide_eq_false z]
      exact decide_eq_false fun y => z (by rw [y]; simp [strOf])
  split at h
  · rename_i e
    cases h
    exact ⟨u, by unfold valueAt; rw [List.find?_cons]; simp only [key _ e]; rfl, h2⟩
  · rename_i e
    have ih := ih h hp
    have e2 : valueAt ((x, u) :: kvs) (strOf l) = valueAt kvs (strOf l) := by unfold valueAt; rw [List.find?_cons]; simp only [key _ e]
    rw [e2]; exact ih
  · first | exact no_tt h | exact no_ns h | induction h
set_option tactic.hygienic true in
theorem inS_ok {o : List (List Nat)} {p l : List Nat} (h : inS o p = true) (hp : txt σ p = some l) : ∃ q ∈ o, ∀ m, txt σ q = some m → m = l := by
  induction o with
  | nil => first | exact no_tt h | exact no_ns h | induction h
  | cons k r ih =>
    unfold inS at h
    split at h
    · rename_i e
      refine ⟨k, List.mem_cons_self, fun m hm => ?_⟩
      have := eqP_ok e hm hp
      simpa using this
    · obtain ⟨q, hq, hh⟩ := ih h
      exact ⟨q, List.mem_cons_of_mem _ hq, hh⟩
set_option tactic.hygienic true in
theorem pd_look {out : List (List Nat)} {f : Str → Option Value} (h2 : ∀ p ∈ out, ∃ x : Str, txt σ p = some x.cps.toList ∧ f x = none) :
    ∀ {kv : List (List Nat × AV)} {p l : List Nat} {r : Option AV}, (∀ p ∈ kv, ∃ x u, txt σ p.1 = some x.cps.toList ∧ f x = some u ∧ VR ρ σ p.2 u) → lookP out p kv = some r → txt σ p = some l →
    match r with | some v => ∃ u, f (strOf l) = some u ∧ VR ρ σ v u | none => f (strOf l) = none := by
  intro kv
  induction kv with
  | nil =>
    intro p l r _ h hp
    unfold lookP at h
    split at h
    · rename_i e
      cases h
      obtain ⟨q, hq, hh⟩ := inS_ok e hp
      obtain ⟨x, hx, hf⟩ := h2 q hq
      rw [← hh _ hx]
      have : strOf x.cps.toList = x := strOf_cps x
      rw [this]; exact hf
    · first | exact no_tt h | exact no_ns h | induction h
  | cons qv kv ih =>
    obtain ⟨q, v⟩ := qv
    intro p l r h1 h hp
    unfold lookP at h
    split at h
    · rename_i e
      cases h
      obtain ⟨x, u, hx, hf, hv⟩ := h1 (q, v) List.mem_cons_self
      have := eqP_ok e hx hp
      have : x.cps.toList = l := by simpa using this
      refine ⟨u, ?_, hv⟩
      rw [← this]
      have : strOf x.cps.toList = x := strOf_cps x
      rw [this]; exact hf
    · exact ih (fun p hp => h1 p (List.mem_cons_of_mem _ hp)) h hp
theorem Rel.dict (O : g.Ok) (R : Rel g clo F ρ σ st s) {i : Nat} {a : Addr} {kv : List (List Nat × AV)} {ep : Nat} (hb : st.get i = some (.dict kv ep)) (ha : ρ[i]? = some a) :
    (∃ f, s.heap.MapOf g.knd a f ∧ ∀ {p l r}, lookK p kv = some r → txt σ p = some l → match r with | some v => ∃ u, f (strOf l) = some u ∧ VR ρ σ v u | none => f (strOf l) = none) ∧ (a == sysModules) = false := by
  refine ⟨?_, beq_eq_false_iff_ne.mpr fun e => ?_⟩
  · obtain ⟨o, h, es, kvs, h1, h2, h3, h4, h5, h6⟩ := R.at hb ha
    exact ⟨_, (show s.heap.DictOf g.knd a kvs from ⟨o, es, ep, h, h1, h2, h3, h4, h5⟩).mapOf, fun e hp => h6.look e hp⟩
  · have := R.lt i a _ ha hb
    have := O.sm
    rw [e] at *
    exact absurd this (Nat.not_lt.mpr ‹_›)
theorem Rel.pdict (O : g.Ok) (R : Rel g clo F ρ σ st s) {i : Nat} {a : Addr} {kv : List (List Nat × AV)} {out : List (List Nat)} (hb : st.get i = some (.pdict kv out)) (ha : ρ[i]? = some a) :
    (∃ f, s.heap.MapOf g.knd a f ∧ ∀ {p l r}, lookP out p kv = some r → txt σ p = some l → match r with | some v => ∃ u, f (strOf l) = some u ∧ VR ρ σ v u | none => f (strOf l) = none) ∧ (a == sysModules) = false := by
  refine ⟨?_, beq_eq_false_iff_ne.mpr fun e => ?_⟩
  · obtain ⟨o, h, es, ep, f, h1, h2, h3, h4, h5, h6⟩ := R.at hb ha
    exact ⟨f, ⟨o, es, ep, h, h1, h2, h3, h4⟩, fun e hp => pd_look h6 h5 e hp⟩
  · have := R.lt i a _ ha hb
    have := O.sm
    rw [e] at *
    exact absurd this (Nat.not_lt.mpr ‹_›)
end
end Mine
end
section
set_option genInjectivity false
set_option genSizeOf false
set_option tactic.hygienic false
open PySem PySem.W PySem.Calls PyProof.Rows PySem.SeqAt
namespace Mine
set_option tactic.hygienic true in
theorem txt_len {σ : List Str} (hs : ∀ x ∈ σ, x.cps.size ≤ 100) : ∀ {p l : List Nat}, txt σ p = some l → l.length ≤ 100 * p.length := by
  intro p
  induction p with
  | nil =>
    intro l h
    cases h; exact Nat.le_refl _
  | cons c r ih =>
    intro l h
    unfold txt at h
    induction e : txt σ r with
    | none => rw [e] at h; first | exact no_tt h | exact no_ns h | induction h
    | some t =>
      rw [e] at h
      have ih := ih e
      dsimp only at h
      split at h
      · cases h; simp only [List.length_cons]; omega
      · split at h
        · rename_i x hx
          cases h
          have := hs x (List.mem_of_getElem? hx)
          simp only [List.length_append, List.length_cons, Array.length_toList]; omega
        · first | exact no_tt h | exact no_ns h | induction h
set_option tactic.hygienic true in
theorem txt_append {σ : List Str} : ∀ {p q l m : List Nat}, txt σ p = some l → txt σ q = some m → txt σ (p ++ q) = some (l ++ m) := by
  intro p
  induction p with
  | nil =>
    intro q l m h1 h2
    cases h1; exact h2
  | cons c r ih =>
    intro q l m h1 h2
    obtain ⟨x, t, e, rfl, _, _⟩ := txt_cons h1
    have ih := ih e h2
    rw [List.cons_append]
    unfold txt at h1 ⊢
    rw [e] at h1; rw [ih]
    dsimp only at h1 ⊢
    split at h1
    · have := Option.some.inj h1
      show some (c :: (t ++ m)) = _
      rw [← List.cons_append, this]
    · split at h1
      · rename_i y hy
        have := Option.some.inj h1
        show some (y.cps.toList ++ (t ++ m)) = _
        rw [← List.append_assoc, this]
      · first | exact no_tt h1 | exact no_ns h1 | induction h1
theorem strOf_append (l m : List Nat) : strOf l ++ strOf m = strOf (l ++ m) := by
  show Str.append (strOf l) (strOf m) = _
  unfold strOf Str.append
  simp
theorem strOf_len (l : List Nat) : (strOf l).length = l.length := by
  unfold strOf Str.length; simp
section
variable {g : Gd} {clo : CloP} {F : List Addr} {ρ : List Addr} {σ : List Str} {st : St} {s : Shared} {A : Around} {E : Value → Shared → Prop}
set_option tactic.hygienic true in
theorem snd_eq {a b : AV} {u v : Value} {r : Bool} (Re : Rel g clo F ρ σ st s) (hu : A.units < cLine) (h : eqO a b st = some r) (ha : VR ρ σ a u) (hb : VR ρ σ b v) : RcAt A s u v r ∧ RcNeAt A s u v (!r) := by
  have go : (∀ i j, a = .ref i → b = .ref j → False) → eqO a b st = eqV a b := fun q => by
    induction a <;> first | rfl | skip
    induction b <;> first | rfl | exact (q _ _ rfl rfl).elim
  by_cases q : ∃ i j, a = .ref i ∧ b = .ref j
  · obtain ⟨i, j, rfl, rfl⟩ := q
    replace h : (match st.get i, st.get j with
      | some (.list l), some (.list m) => match flatL l && flatL m with | true => eqL l m | false => none
      | _, _ => none) = some r := h
    induction hi : st.get i with
    | none => rw [hi] at h; exact no_ns h
    | some bi =>
    rw [hi] at h
    induction bi <;> first | exact no_ns h | skip
    induction hj : st.get j with
    | none => rw [hj] at h; exact no_ns h
    | some bj =>
    rw [hj] at h
    induction bj <;> first | exact no_ns h | skip
    dsimp only at h
    split at h
    · rename_i hf
      obtain ⟨x, hx, rfl⟩ := ha
      obtain ⟨y, hy, rfl⟩ := hb
      rw [Bool.and_eq_true] at hf
      obtain ⟨xs, h1, r1⟩ := Re.list hi hx
      obtain ⟨ys, h2, r2⟩ := Re.list hj hy
      exact rc_lists h1 h2 r1 r2 hf.1 hf.2 h hu
    · exact no_ns h
  · rw [go fun i j e1 e2 => q ⟨i, j, e1, e2⟩] at h
    exact rc_at h ha hb
set_option tactic.hygienic true in
theorem snd_in (O : g.Ok) {a b : AV} {u v : Value} {r : Bool} (Re : Rel g clo F ρ σ st s) (h : inO a b st = some r) (ha : VR ρ σ a u) (hb : VR ρ σ b v) {Q : Value → Shared → Prop} :
    ((∀ t, Q (.bool r) { s with toks := t }) → wpAny (model g.prog g.w) A (compareOp .In u v) Q E s) ∧ ((∀ t, Q (.bool (!r)) { s with toks := t }) → wpAny (model g.prog g.w) A (compareOp .NotIn u v) Q E s) := by
  unfold inO at h
  induction a <;> first | exact no_ns h | skip
  · rename_i p
    dsimp only at h
    induction b <;> first | exact no_ns h | skip
    · rename_i j
      dsimp only at h
      obtain ⟨y, hy, rfl⟩ := hb
      obtain ⟨l, t, hp, rfl⟩ := ha
      induction hj : st.get j with
      | none => rw [hj] at h; exact no_ns h
      | some bhj =>
      rw [hj] at h
      induction bhj
      case list as =>
        dsimp only at h
        split at h
        · rename_i hf
          obtain ⟨xs, h1, r1⟩ := Re.list hj hy
          have e := inL_ok h hf rfl r1 ⟨l, t, hp, rfl⟩
          have he : ∀ z, z ∈ xs → EqAt A.in1 s z (.str (strOf l) t) (vEq z (.str (strOf l) t)) := fun z hz => (vEq_at (VRs.flat r1 hf z (by simpa using hz)) (by trivial)).1
          rw [Array.any_toList] at e
          exact ⟨fun P => in_listAt (fun z => vEq z (.str (strOf l) t)) h1 he (by rw [e]; exact P s.toks), fun P => notIn_listAt (fun z => vEq z (.str (strOf l) t)) h1 he (by rw [e]; exact P s.toks)⟩
        · first | exact no_tt h | exact no_ns h | induction h
      case tup as =>
        dsimp only at h
        split at h
        · rename_i hf
          obtain ⟨xs, h1, r1⟩ := Re.tup hj hy
          have e := inL_ok h hf rfl r1 ⟨l, t, hp, rfl⟩
          have he : ∀ z, z ∈ xs → EqAt A.in1 s z (.str (strOf l) t) (vEq z (.str (strOf l) t)) := fun z hz => (vEq_at (VRs.flat r1 hf z (by simpa using hz)) (by trivial)).1
          rw [Array.any_toList] at e
          exact ⟨fun P => in_tupleAt (fun z => vEq z (.str (strOf l) t)) h1 he (by rw [e]; exact P s.toks), fun P => notIn_tupleAt (fun z => vEq z (.str (strOf l) t)) h1 he (by rw [e]; exact P s.toks)⟩
        · first | exact no_tt h | exact no_ns h | induction h
      case dict kv ep =>
        dsimp only at h
        split at h
        · rename_i r' hr
          cases h
          obtain ⟨⟨f, hm, hl⟩, hd⟩ := Re.dict O hj hy
          have := hl hr hp
          have kk : g.knd.is (strOf l) (.str (strOf l) t) = true := strKind_is ..
          have e : (f (strOf l)).isSome = r'.isSome := by
            induction r' with
            | none => rw [this]; rfl
            | some v => obtain ⟨u, e, _⟩ := this; rw [e]; rfl
          exact ⟨fun P => wpAny_in_of kk hd hm (by rw [e]; exact P _), fun P => wpAny_notIn_of kk hd hm (by rw [e]; exact P _)⟩
        · first | exact no_tt h | exact no_ns h | induction h
      case pdict kv o =>
        dsimp only at h
        split at h
        · rename_i r' hr
          cases h
          obtain ⟨⟨f, hm, hl⟩, hd⟩ := Re.pdict O hj hy
          have := hl hr hp
          have kk : g.knd.is (strOf l) (.str (strOf l) t) = true := strKind_is ..
          have e : (f (strOf l)).isSome = r'.isSome := by
            induction r' with
            | none => rw [this]; rfl
            | some v => obtain ⟨u, e, _⟩ := this; rw [e]; rfl
          exact ⟨fun P => wpAny_in_of kk hd hm (by rw [e]; exact P _), fun P => wpAny_notIn_of kk hd hm (by rw [e]; exact P _)⟩
        · first | exact no_tt h | exact no_ns h | induction h
      case lset is os =>
        dsimp only at h
        obtain ⟨o, ho, xs, n, rfl, hstr, h1, h2⟩ := Re.at hj hy
        have hl : s.heap.IsList y xs := ⟨_, ho, rfl, n, rfl⟩
        have he : ∀ z, z ∈ xs → EqAt A.in1 s z (.str (strOf l) t) (vEq z (.str (strOf l) t)) := fun z hz => by
          obtain ⟨x, t', rfl⟩ := hstr z (by simpa using hz)
          exact (vEq_at (by trivial) (by trivial)).1
        have fin : xs.any (fun z => vEq z (.str (strOf l) t)) = r → _ := fun e => (show ((∀ t, Q (.bool r) { s with toks := t }) → wpAny (model g.prog g.w) A (compareOp .In (.str (strOf l) t) (.ref y)) Q E s) ∧ ((∀ t, Q (.bool (!r)) { s with toks := t }) → wpAny (model g.prog g.w) A (compareOp .NotIn (.str (strOf l) t) (.ref y)) Q E s) from
          ⟨fun P => in_listAt (fun z => vEq z (.str (strOf l) t)) hl he (by rw [e]; exact P s.toks), fun P => notIn_listAt (fun z => vEq z (.str (strOf l) t)) hl he (by rw [e]; exact P s.toks)⟩)
        split at h
        · rename_i hi
          cases h
          obtain ⟨q, hq, hh⟩ := inS_ok hi hp
          obtain ⟨x, t', hx, hm⟩ := h1 q hq
          refine fin ?_
          rw [← Array.any_toList, List.any_eq_true]
          refine ⟨_, hm, ?_⟩
          show (x == strOf l) = true
          rw [← hh _ hx]; exact beq_iff_eq.mpr (strOf_cps x).symm
        · split at h
          · rename_i hi
            cases h
            obtain ⟨q, hq, hh⟩ := inS_ok hi hp
            obtain ⟨x, hx, hm⟩ := h2 q hq
            refine fin ?_
            rw [← Array.any_toList, List.any_eq_false]
            intro z hz
            obtain ⟨x', t', rfl⟩ := hstr z hz
            intro e
            have e : (x' == strOf l) = true := e
            have e := eq_of_beq e
            subst e
            have : x = strOf l := by rw [← hh _ hx]; exact (strOf_cps x).symm
            exact hm t' (this ▸ hz)
          · first | exact no_tt h | exact no_ns h | induction h
      all_goals exact no_ns h
theorem isO_ok {a b : AV} {u v : Value} {r : Bool} (h : isO a b = some r) (ha : VR ρ σ a u) (hb : VR ρ σ b v) : v = .none ∧ (u == .none) = r := by
  unfold isO at h
  split at h
  · first | exact no_tt hb | exact no_ns hb | cases hb
    refine ⟨rfl, ?_⟩
    cases a <;> first | exact no_tt h | exact no_ns h | (cases h; done) | (rw [ha.isNone (fun _ e => by cases e)]; cases h; rfl)
  · first | exact no_tt h | exact no_ns h | induction h
theorem snd_cmp (O : g.Ok) {op : CmpOp} {a b : AV} {u v : Value} {r : Bool} {Q : Value → Shared → Prop} (Re : Rel g clo F ρ σ st s) (hu : A.units < cLine) (h : cmpO (cmpN op) a b st = some r) (ha : VR ρ σ a u) (hb : VR ρ σ b v)
    (P : ∀ t, Q (.bool r) { s with toks := t }) : wpAny (model g.prog g.w) A (compareOp op u v) Q E s := by
  induction op with
  | Eq => exact (snd_eq Re hu h ha hb).1 g.prog g.w E Q (P s.toks)
  | NotEq =>
    change notO (eqO a b st) = some r at h
    induction e : eqO a b st with
    | none => rw [e] at h; first | exact no_tt h | exact no_ns h | induction h
    | some r' => rw [e] at h; cases h; exact (snd_eq Re hu e ha hb).2 g.prog g.w E Q (P s.toks)
  | Is =>
    obtain ⟨rfl, e⟩ := isO_ok h ha hb
    exact is_none (by rw [e]; exact P s.toks)
  | IsNot =>
    change notO (isO a b) = some r at h
    induction e : isO a b with
    | none => rw [e] at h; first | exact no_tt h | exact no_ns h | induction h
    | some r' =>
      rw [e] at h; first | exact no_tt h | exact no_ns h | cases h
      obtain ⟨rfl, e⟩ := isO_ok e ha hb
      exact isNot_none (by rw [e]; exact P s.toks)
  | In => exact (snd_in O Re h ha hb).1 P
  | NotIn =>
    change notO (inO a b st) = some r at h
    induction e : inO a b st with
    | none => rw [e] at h; first | exact no_tt h | exact no_ns h | induction h
    | some r' => rw [e] at h; cases h; exact (snd_in O Re e ha hb).2 P
  | Lt =>
    change ltO a b = some r at h
    unfold ltO at h
    split at h
    · cases h; obtain ⟨t, rfl⟩ := ha; obtain ⟨t', rfl⟩ := hb
      exact wpAny_lt_int (P s.toks)
    · first | exact no_tt h | exact no_ns h | induction h
  | Gt =>
    change ltO b a = some r at h
    unfold ltO at h
    split at h
    · cases h; obtain ⟨t, rfl⟩ := ha; obtain ⟨t', rfl⟩ := hb
      exact PySem.P.gt_int (P s.toks)
    · first | exact no_tt h | exact no_ns h | induction h
  | GtE =>
    change geO a b = some r at h
    unfold geO at h
    split at h
    · cases h; obtain ⟨t, rfl⟩ := ha; obtain ⟨t', rfl⟩ := hb
      exact PySem.P.ge_int (P s.toks)
    · first | exact no_tt h | exact no_ns h | induction h
  | LtE => first | exact no_tt h | exact no_ns h | induction h
end
end Mine
end
section
set_option genInjectivity false
set_option genSizeOf false
set_option tactic.hygienic false
open PySem PySem.W PySem.Calls PyProof.Rows PySem.SeqAt
set_option maxRecDepth 100000
namespace Mine
section
variable {g : Gd} {clo : CloP} {F : List Addr} {ρ : List Addr} {σ : List Str} {st : St} {s : Shared} {A : Around} {E : Value → Shared → Prop}
theorem Rel.big (O : g.Ok) (R : Rel g clo F ρ σ st s) : g.B.objs.size ≤ s.heap.objs.size := by
  obtain ⟨a, o, e1, e2⟩ := O.last
  obtain ⟨o', e⟩ := R.old.there a o e2
  have := Heap.lt_size e
  rw [e1]; exact this
theorem Rel.nx (R : Rel g clo F ρ σ st s) : st.get st.nx = none := by
  induction e : st.get st.nx with
  | none => rfl
  | some b =>
    obtain ⟨a, o, h, _⟩ := R.obs _ _ e
    have := (List.getElem?_eq_some_iff.mp h).1
    rw [R.len] at this
    exact absurd this (Nat.lt_irrefl _)
theorem Rel.push (O : g.Ok) (R : Rel g clo F ρ σ st s) {b : Ob} {o : Obj} (hf : o.isFreed = false) (hr : OR g clo (ρ ++ [s.heap.objs.size]) σ b o) (ht : ∀ C d, b ≠ .exc C d) (t : Nat) :
    Rel g clo F (ρ ++ [s.heap.objs.size]) σ (st.new b) { s with heap := s.heap.push o, toks := t } :=
  R.new (Heap.get?_none_of_le (Nat.le_refl _)) (R.big O) (fun _ _ e => Heap.get?_push_of_some _ e) (Heap.get?_push_size _ hf) hr ⟨rfl, rfl, rfl⟩ fun C d e => (ht C d e).elim
theorem Rel.pushO (O : g.Ok) (R : Rel g clo F ρ σ st s) {b : Ob} {o : Obj} (hf : o.isFreed = false) (hr : OR g clo ρ σ b o) (ht : ∀ C d, b ≠ .exc C d) (t : Nat) :
    Rel g clo F (ρ ++ [s.heap.objs.size]) σ (st.new b) { s with heap := s.heap.push o, toks := t } :=
  R.push O hf (by have := hr.mono [s.heap.objs.size] []; rwa [List.append_nil] at this) ht t
theorem Rel.extNew (R : Rel g clo F ρ σ st s) (b : Ob) (a : Addr) : Ext ρ σ st (ρ ++ [a]) σ (st.new b) := Ext.new b [a] R.nx
theorem Rel.refNew (R : Rel g clo F ρ σ st s) (a : Addr) : VR (ρ ++ [a]) σ (.ref st.nx) (.ref a) := ⟨a, getElem?_push_last ρ a R.len, rfl⟩
noncomputable def PostR (g : Gd) (clo : CloP) (F ρ : List Addr) (σ : List Str) (st : St) (r : Rs) (Q : Value → Shared → Prop) : Prop := match r with
  | .v v => ∀ s' u, Rel g clo F ρ σ st s' → VR ρ σ v u → Q u s'
  | .o b => ∀ s' a, Rel g clo F (ρ ++ [a]) σ (st.new b) s' → Q (.ref a) s'
theorem PostV.res {r : Rs} {k : KV} {Q : Value → Shared → Prop} (R : Rel g clo F ρ σ st s) (h : useR (some r) st k = true) (P : PostV g clo F ρ σ st k Q) : PostR g clo F ρ σ st r Q := by
  induction r with
  | v v => exact fun s' u R' hv => P ρ σ st s' v u (Ext.refl ..) R' hv h
  | o b => exact fun s' a R' => P _ _ _ s' _ _ (R.extNew b a) R' (R.refNew a) h
theorem useR_some {r : Option Rs} {k : KV} (h : useR r st k = true) : ∃ x, r = some x ∧ useR (some x) st k = true := by
  induction r with
  | none => first | exact no_tt h | exact no_ns h | induction h
  | some x => exact ⟨x, rfl, h⟩
theorem okL_le {l : List AV} (h : okL l = true) : l.length ≤ 1000 := by
  unfold okL at h; exact Nat.ble_eq.mp h
theorem okP_le {l : List Nat} (h : okP l = true) : l.length ≤ 10000 := by
  unfold okP at h; exact Nat.ble_eq.mp h
theorem VRs.append {l m : List AV} {us vs : List Value} (h : VRs ρ σ l us) (h' : VRs ρ σ m vs) : VRs ρ σ (l ++ m) (us ++ vs) :=
  h.ind (P := fun l us => VRs ρ σ (l ++ m) (us ++ vs)) h' fun _ _ _ _ h1 _ ih => ⟨h1, ih⟩
theorem VRs.rep : ∀ (n : Nat) {l : List AV} {us : List Value}, VRs ρ σ l us → VRs ρ σ (rep n l) (List.replicate n us).flatten
  | 0, _, _, _ => trivial
  | n + 1, l, us, h => by
    rw [List.replicate_succ, List.flatten_cons]
    exact h.append (VRs.rep n h)
theorem rep_len (n : Nat) (l : List AV) : (rep n l).length = n * l.length := by
  induction n with
  | zero => simp [Mine.rep]
  | succ n ih => unfold Mine.rep; rw [List.length_append, ih, Nat.succ_mul, Nat.add_comm]
theorem newL_some {l : List AV} {r : Rs} (h : newL l = some r) : r = .o (.list l) ∧ l.length ≤ 1000 := by
  unfold newL at h
  split at h
  · cases h; exact ⟨rfl, okL_le (by assumption)⟩
  · first | exact no_tt h | exact no_ns h | induction h
theorem OR.list_mk {l : List AV} {xs : List Value} (h : VRs ρ σ l xs) : OR g clo ρ σ (.list l) { cls := .type "list", data := .seq xs.toArray } := ⟨_, _, rfl, h⟩
theorem mul_raw {prog : Program} {w : World} {l : Addr} {items : Array Value} {k : Nat} {x : Int} {u : Tok} {Q : Value → Shared → Prop}
    (hl : s.heap.get? l = some { cls := .type "list", dict := none, data := .seq items k, slots := #[] })
    (hlo : -(2 ^ 63 : Int) ≤ x) (hhi : x < 2 ^ 63) (hsz : items.size * x.toNat ≤ 2 ^ 24)
    (h : Q (.ref s.heap.objs.size) { s with heap := s.heap.push { cls := .type "list", data := .seq (List.foldl (fun x1 x2 => x1 ++ x2) #[] (List.replicate (if items.isEmpty = true then 0 else x.toNat) items)) } }) :
    wpAny (model prog w) A (binaryOp .Mult (.ref l) (.int x u)) Q E s :=
  wpAny_binaryOp_repeat_ref (T := "list") (U := "int") (by decide) ⟨_, hl, rfl⟩ (fun s' => typeIs_int s' x u) noFill_list_mul PySem.F.fills_int_mul PySem.F.slot_int_rmul repeat_list PySem.F.slot_int_index.lookup
    (call_meets PySem.F.slot_int_rmul (typeIs_int s x u) PySem.F.entry_int_rmul (PySem.F.args_int_rmul_2 _ _) (int___rmul___int_list x u l items k)
      ⟨hl, rfl, ⟨_, hl, rfl⟩, call_meets PySem.F.slot_list_mul ⟨_, hl, rfl⟩ PySem.F.entry_list_mul (PySem.F.args_list_mul_2 _ _)
        (AutoListH.list___mul___list_int_3 l items k x u (by simp [Builtin.List.listFitsIndex]; omega) (by omega) (by simp [Builtin.List.listTooLong, sizeLine]; omega))
        ⟨hl, h⟩⟩)
set_option tactic.hygienic true in
theorem snd_bin (O : g.Ok) {op : Operator} {a b : AV} {u v : Value} {r : Rs} {Q : Value → Shared → Prop} (Re : Rel g clo F ρ σ st s) (h : binO (binN op) a b st = some r) (ha : VR ρ σ a u) (hb : VR ρ σ b v)
    (P : PostR g clo F ρ σ st r Q) : wpAny (model g.prog g.w) A (binaryOp op u v) Q E s := by
  induction op <;> first | exact no_tt h | exact no_ns h | (induction h; done) | skip
  · change addO a b st = some r at h
    unfold addO at h
    induction a <;> first | exact no_ns h | skip
    · induction b <;> first | exact no_ns h | skip
      cases h
      obtain ⟨t, rfl⟩ := ha; obtain ⟨t', rfl⟩ := hb
      exact wpAny_add_int (P _ _ (Re.toks _) ⟨_, rfl⟩)
    · rename_i p
      induction b <;> first | exact no_ns h | skip
      rename_i q
      dsimp only at h
      split at h
      · rename_i ok
        cases h
        obtain ⟨l, t, hl, rfl⟩ := ha; obtain ⟨m, t', hm, rfl⟩ := hb
        have e := txt_append hl hm
        have len := txt_len Re.sml e
        have ok := okP_le ok
        refine PyProof.Rows.add_str (fun t' tk => P _ _ (Re.toks _) ⟨l ++ m, t', e, by rw [strOf_append]⟩) ?_
        rw [strOf_len, strOf_len, ← List.length_append, sizeLine_eq]; omega
      · first | exact no_tt h | exact no_ns h | induction h
    · rename_i i
      induction b <;> first | exact no_ns h | skip
      rename_i j
      dsimp only at h
      split at h
      · rename_i l m hi hj
        obtain ⟨rfl, len⟩ := newL_some h
        obtain ⟨x, hx, rfl⟩ := ha
        obtain ⟨y, hy, rfl⟩ := hb
        obtain ⟨ox, h1, xs, n, rfl, r1⟩ := Re.at hi hx
        obtain ⟨oy, h2, ys, m', rfl, r2⟩ := Re.at hj hy
        have l1 := r1.length
        have l2 := r2.length
        rw [List.length_append] at len
        have l1' : xs.size = l.length := by simpa using l1
        have l2' : ys.size = m.length := by simpa using l2
        refine PySem.P.add_list (n := n) (n2 := m') h1 h2 (P _ _ (Re.pushO O rfl ?_ (fun _ _ e => by first | exact Ob.noConfusion e | induction e) s.toks)) ?_
        · exact ⟨xs ++ ys, 0, rfl, by rw [Array.toList_append]; exact r1.append r2⟩
        · rw [l1', l2', sizeLine_eq]; omega
      · first | exact no_tt h | exact no_ns h | induction h
  · change mulO a b st = some r at h
    unfold mulO at h
    split at h
    · rename_i i n
      induction hi : st.get i with
      | none => rw [hi] at h; exact no_ns h
      | some bhi =>
      rw [hi] at h
      induction bhi <;> first | exact no_ns h | skip
      · rename_i l
        dsimp only at h
        split at h
        · rename_i hn
          obtain ⟨rfl, len⟩ := newL_some h
          have hn := Nat.ble_eq.mp hn
          obtain ⟨x, hx, rfl⟩ := ha
          obtain ⟨t, rfl⟩ := hb
          obtain ⟨ox, h1, xs, k, rfl, r1⟩ := Re.at hi hx
          rw [rep_len] at len
          have l1 : xs.size = l.length := by simpa using r1.length
          have hsz : xs.size * (Int.ofNat n).toNat ≤ 2 ^ 24 := by
            rw [l1]; show l.length * n ≤ _; rw [Nat.mul_comm]; omega
          have hhi : (Int.ofNat n) < 2 ^ 63 := by
            have : ((n : Nat) : Int) ≤ 1000 := by exact_mod_cast hn
            show (n : Int) < _; omega
          refine mul_raw h1 (by show -(2 ^ 63 : Int) ≤ (n : Int); omega) hhi hsz ?_
          refine P _ _ (Re.pushO O rfl ?_ (fun _ _ e => by first | exact Ob.noConfusion e | induction e) s.toks)
          have e2 : List.foldl (fun x1 x2 => x1 ++ x2) #[] (List.replicate (if xs.isEmpty = true then 0 else (Int.ofNat n).toNat) xs) = ((List.replicate n xs.toList).flatten).toArray := listMul_foldl_if xs n
          rw [e2]
          exact OR.list_mk (r1.rep n)
        · first | exact no_tt h | exact no_ns h | induction h
    · first | exact no_tt h | exact no_ns h | induction h
theorem snd_neg {a : Int} {u : Value} {Q : Value → Shared → Prop} (Re : Rel g clo F ρ σ st s) (ha : VR ρ σ (.int a) u) (P : ∀ s' u, Rel g clo F ρ σ st s' → VR ρ σ (.int (-a)) u → Q u s') : wpAny (model g.prog g.w) A (unaryOp .USub u) Q E s := by
  obtain ⟨t, rfl⟩ := ha
  exact PySem.P.neg_int (P _ _ (Re.toks _) ⟨_, rfl⟩)
end
end Mine
end
section
set_option genInjectivity false
set_option genSizeOf false
set_option tactic.hygienic false
open PySem PySem.W PySem.Calls PyProof.Rows PySem.SeqAt
set_option maxRecDepth 100000
namespace Mine
section
variable {g : Gd} {clo : CloP} {F : List Addr} {ρ : List Addr} {σ : List Str} {st : St} {s : Shared} {A : Around} {E : Value → Shared → Prop}
theorem VRs.nth {l : List AV} {xs : List Value} {n : Nat} {v : AV} (h : VRs ρ σ l xs) (hn : nth l n = some v) : ∃ u, xs[n]? = some u ∧ VR ρ σ v u := by
  refine h.ind (P := fun l xs => ∀ n, Mine.nth l n = some v → ∃ u, xs[n]? = some u ∧ VR ρ σ v u) (fun _ h => no_ns h) (fun a u r s h1 _ ih n h => ?_) n hn
  cases n with
  | zero => exact ⟨u, rfl, by rw [← Option.some.inj h]; exact h1⟩
  | succ n => exact ih n h
theorem VRs.nthNone {l : List AV} {xs : List Value} {n : Nat} (h : VRs ρ σ l xs) (hn : Mine.nth l n = none) : xs[n]? = none := by
  refine h.ind (P := fun l xs => ∀ n, Mine.nth l n = none → xs[n]? = none) (fun _ _ => rfl) (fun a u r s _ _ ih n h => ?_) n hn
  cases n with
  | zero => exact no_ns h.symm
  | succ n => exact ih n h
theorem VRs.last {l : List AV} {xs : List Value} {v : AV} (h : VRs ρ σ l xs) : lastOf l = some v → ∃ u, xs[xs.length - 1]? = some u ∧ VR ρ σ v u ∧ xs ≠ [] := by
  refine h.ind (P := fun l xs => lastOf l = some v → ∃ u, xs[xs.length - 1]? = some u ∧ VR ρ σ v u ∧ xs ≠ []) (fun h => nomatch h) fun a u as us h1 h2 ih h => ?_
  induction as with
  | nil => induction us with
    | nil => cases h; exact ⟨u, rfl, h1, by simp⟩
    | cons _ _ => exact h2.elim
  | cons b r => induction us with
    | nil => exact h2.elim
    | cons w us =>
      obtain ⟨x, e, hv, _⟩ := ih h
      refine ⟨x, ?_, hv, by simp⟩
      simpa using e
theorem VRs.init {l : List AV} {xs : List Value} (h : VRs ρ σ l xs) : VRs ρ σ (initOf l) xs.dropLast := by
  refine h.ind (P := fun l xs => VRs ρ σ (initOf l) xs.dropLast) trivial fun a u as us h1 h2 ih => ?_
  induction as with
  | nil => induction us with
    | nil => trivial
    | cons _ _ => exact h2.elim
  | cons b r => induction us with
    | nil => exact h2.elim
    | cons w us => exact ⟨h1, ih⟩
theorem VRs.drop (n : Nat) {l : List AV} {xs : List Value} (h : VRs ρ σ l xs) : VRs ρ σ (dropN n l) (xs.drop n) := by
  refine h.ind (P := fun l xs => ∀ n, VRs ρ σ (dropN n l) (xs.drop n)) (fun n => ?_) (fun a u r s h1 h2 ih n => ?_) n
  · cases n <;> trivial
  · cases n with
    | zero => exact ⟨h1, h2⟩
    | succ n => exact ih n
theorem valO_some {o : Option AV} {r : Rs} (h : valO o = some r) : ∃ v, o = some v ∧ r = .v v := by
  induction o with
  | none => first | exact no_tt h | exact no_ns h | induction h
  | some v => cases h; exact ⟨v, rfl, rfl⟩
theorem keyO_some {o : Option (Option AV)} {r : Rs} (h : keyO o = some r) : ∃ v, o = some (some v) ∧ r = .v v := by
  rcases o with _ | _ | v
  · first | exact no_tt h | exact no_ns h | induction h
  · first | exact no_tt h | exact no_ns h | induction h
  · cases h; exact ⟨v, rfl, rfl⟩
theorem sub_tail {value slice : Expr} {o i : Value} {T id : String} {Q : Value → Shared → Prop} (hsl : isSlice slice = false) (hT : s.TypeIs o T) (hl : typeLookup (.type T) "__getitem__" = pure (some (.builtin id)))
    (hg : wpAny (model g.prog g.w) A (getItem o i) Q E s) : wpAny (model g.prog g.w) A (subscriptTail value slice o i) Q E s :=
  tail_any (ops := [o, i]) hT hl hg (by cases slice <;> first | rfl | cases hsl)
theorem getItem_map {a : Addr} {f : Str → Option Value} {l : List Nat} {t : Tok} {v : Value} {Q : Value → Shared → Prop} (hm : s.heap.MapOf g.knd a f) (hv : f (strOf l) = some v) (h : Q v { s with toks := s.toks + 1 }) :
    wpAny (model g.prog g.w) A (getItem (.ref a) (.str (strOf l) t)) Q E s := wpAny_getItem_of (strKind_is ..) hm hv h
set_option tactic.hygienic true in
theorem snd_sub (O : g.Ok) {value slice : Expr} {o i : AV} {u v : Value} {r : Rs} {Q : Value → Shared → Prop} (hsl : isSlice slice = false) (Re : Rel g clo F ρ σ st s) (h : subO o i st = some r) (ho : VR ρ σ o u) (hi : VR ρ σ i v)
    (P : PostR g clo F ρ σ st r Q) : wpAny (model g.prog g.w) A (subscriptTail value slice u v) Q E s := by
  unfold subO at h
  induction o <;> first | exact no_ns h | skip
  · rename_i j
    dsimp only at h
    obtain ⟨a, ha, rfl⟩ := ho
    induction hj : st.get j with
    | none => rw [hj] at h; exact no_ns h
    | some bhj =>
    rw [hj] at h
    induction bhj
    case list l =>
      dsimp only at h
      obtain ⟨xs, hl, r1⟩ := Re.list hj ha
      split at h
      · rename_i n
        split at h
        · rename_i hn
          have hn := Nat.ble_eq.mp hn
          obtain ⟨x, hx, rfl⟩ := valO_some h
          obtain ⟨t, rfl⟩ := hi
          obtain ⟨y, hy, hv⟩ := r1.nth hx
          refine sub_tail hsl hl.typeIs slot_list_getitem.lookup (wpAny_getItem_list hl (by show (0 : Int) ≤ (n : Int); omega) ?_ (x := y) ?_ (P _ _ Re hv))
          · show (n : Int) < _
            have : ((n : Nat) : Int) ≤ 1000 := by exact_mod_cast hn
            omega
          · show xs[n]? = _; simpa using hy
        · first | exact no_tt h | exact no_ns h | induction h
      · obtain ⟨x, hx, rfl⟩ := valO_some h
        obtain ⟨t, rfl⟩ := hi
        obtain ⟨y, hy, hv, hne⟩ := r1.last hx
        have hs : 0 < xs.size := by
          rcases Nat.eq_zero_or_pos xs.size with z | z
          · exact (hne (by simpa using z)).elim
          · exact z
        refine sub_tail hsl hl.typeIs slot_list_getitem.lookup (wpAny_getItem_list_neg hl (by decide) (by show -(xs.size : Int) ≤ -1; omega) (by decide) (x := y) ?_ (P _ _ Re hv))
        have e : ((Int.negSucc 0 : Int) + (xs.size : Int)).toNat = xs.size - 1 := by
          show ((-1 : Int) + (xs.size : Int)).toNat = _
          omega
        rw [e]; simpa using hy
      · first | exact no_tt h | exact no_ns h | induction h
    case tup l =>
      dsimp only at h
      obtain ⟨xs, hl, r1⟩ := Re.tup hj ha
      split at h
      · rename_i n
        split at h
        · rename_i hn
          have hn := Nat.ble_eq.mp hn
          obtain ⟨x, hx, rfl⟩ := valO_some h
          obtain ⟨t, rfl⟩ := hi
          obtain ⟨y, hy, hv⟩ := r1.nth hx
          have hlt : n < xs.size := by
            have := (List.getElem?_eq_some_iff.mp hy).1
            simpa using this
          have hnI : ((n : Nat) : Int) ≤ 1000 := by exact_mod_cast hn
          refine sub_tail hsl hl.typeIs slot_tuple_getitem.lookup (PyProof.Rows.getItem_tuple hl (by show -(2 ^ 63 : Int) ≤ (n : Int); omega) (by show (n : Int) < _; omega) (j := n) ?_ (x := y) (by simpa using hy) (P _ _ Re hv))
          unfold seqIndex?
          have e1 : ¬ (Int.ofNat n < 0) := by show ¬ ((n : Int) < 0); omega
          simp only [e1, if_false]
          have e2 : (0 : Int) ≤ (n : Int) ∧ (n : Int) < (xs.size : Int) := ⟨by omega, by exact_mod_cast hlt⟩
          simp [e2]
        · first | exact no_tt h | exact no_ns h | induction h
      · first | exact no_tt h | exact no_ns h | induction h
    case dict kv ep =>
      dsimp only at h
      induction i <;> first | exact no_ns h | skip
      · rename_i p
        dsimp only at h
        obtain ⟨x, hx, rfl⟩ := keyO_some h
        obtain ⟨l, t, hp, rfl⟩ := hi
        obtain ⟨⟨f, hm, hl⟩, _⟩ := Re.dict O hj ha
        obtain ⟨y, hy, hv⟩ := hl hx hp
        exact sub_tail hsl hm.typeIs slot_dict_getitem.lookup (getItem_map hm hy (P _ _ (Re.toks _) hv))
    case pdict kv ep =>
      dsimp only at h
      induction i <;> first | exact no_ns h | skip
      · rename_i p
        dsimp only at h
        obtain ⟨x, hx, rfl⟩ := keyO_some h
        obtain ⟨l, t, hp, rfl⟩ := hi
        obtain ⟨⟨f, hm, hl⟩, _⟩ := Re.pdict O hj ha
        obtain ⟨y, hy, hv⟩ := hl hx hp
        exact sub_tail hsl hm.typeIs slot_dict_getitem.lookup (getItem_map hm hy (P _ _ (Re.toks _) hv))
    all_goals exact no_ns h
set_option tactic.hygienic true in
theorem snd_from (O : g.Ok) {value lo : Expr} {pos : Pos} {o i : AV} {u v : Value} {r : Rs} {Q : Value → Shared → Prop} {env : Env} (Re : Rel g clo F ρ σ st s) (h : fromO o i st = some r) (ho : VR ρ σ o u) (hi : VR ρ σ i v)
    (P : PostR g clo F ρ σ st r Q) : wpAny (model g.prog g.w) A (newFields "slice" [v, .none, .none]) (fun sl s' => wpAny (model g.prog g.w) A (subscriptTail value (.Slice (some lo) none none pos) u sl) Q E s') E s := by
  unfold fromO at h
  split at h
  · rename_i j n
    obtain ⟨a, ha, rfl⟩ := ho
    obtain ⟨t, rfl⟩ := hi
    induction hj : st.get j with
    | none => rw [hj] at h; exact no_ns h
    | some bhj =>
    rw [hj] at h
    induction bhj <;> first | exact no_ns h | skip
    · rename_i l
      dsimp only at h
      split at h
      · rename_i ok
        cases h
        have ok := okL_le ok
        obtain ⟨xs, hl, r1⟩ := Re.list hj ha
        have len : xs.size = l.length := by simpa using r1.length
        unfold newFields
        refine wpAny_newObj_type ?_ (by size_fits)
        have k : ∀ b o, s.heap.get? b = some o → (s.heap.push { cls := .type "slice", data := .fields ([.int (Int.ofNat n) t, .none, .none] : List Value).toArray }).get? b = some o := fun b o e => Heap.get?_push_of_some _ e
        have R1 := Re.keeps (s' := { s with heap := s.heap.push { cls := .type "slice", data := .fields ([.int (Int.ofNat n) t, .none, .none] : List Value).toArray } }) k ⟨rfl, rfl, rfl⟩
        have hl1 : (s.heap.push { cls := .type "slice", data := .fields ([.int (Int.ofNat n) t, .none, .none] : List Value).toArray }).IsList a xs := let ⟨o, e, r⟩ := hl; ⟨o, k _ _ e, r⟩
        refine tail_any (ops := [.ref s.heap.objs.size, .ref a]) hl1.typeIs slot_list_getitem.lookup (wpAny_getItem_list_slice hl1 (sl := s.heap.objs.size) (vl := .int (Int.ofNat n) t) (vu := .none) (vs := .none) ⟨_, Heap.get?_push_size _ rfl, rfl, rfl⟩ (.int _ _) .none .none (by simp) ?_ (by rw [len, sizeLine_eq]; omega)) rfl
        refine P _ _ (R1.pushO O rfl ?_ (fun _ _ e => by first | exact Ob.noConfusion e | induction e) s.toks)
        have e : slicePick xs (some (Int.ofNat n)) none none = (xs.toList.drop n).toArray := slicePick_from' xs n
        rw [e]
        exact OR.list_mk (r1.drop n)
      · first | exact no_tt h | exact no_ns h | induction h
  · first | exact no_tt h | exact no_ns h | induction h
end
end Mine
end
section
set_option genInjectivity false
set_option genSizeOf false
set_option tactic.hygienic false
open PySem PySem.W PySem.Calls PyProof.Rows PySem.SeqAt
set_option maxRecDepth 100000
namespace Mine
structure IsOk (g : Gd) (C c : Addr) : Prop where
  yes : C = c → isIn g.K (.ref C) c = true
  no : C ≠ c → kin_not g.K C c = true
  pg : plainGet g.K C "__class__" = true
  hd : hasDictIn g.K C = true
  ha : findIn g.K (.ref C) "__class__" = some (some (.builtin "object.__class__"))
  hn : specialIn g.K (.builtin "object.__class__") "__get__" = some (some (.builtin "getset_descriptor.__get__"))
  ht : takesIn g.K (.builtin "object.__class__") = some true
  hm : mroIn g.K C (.type "object") = some true
section
variable {g : Gd} {clo : CloP} {F : List Addr} {ρ : List Addr} {σ : List Str} {st : St} {s : Shared} {A : Around} {E : Value → Shared → Prop}
inductive VOne (ρ : List Addr) (σ : List Str) (a : AV) (vs : List Value) : Prop where
  | mk (v : Value) (e : vs = [v]) (h : VR ρ σ a v)
inductive VTwo (ρ : List Addr) (σ : List Str) (a b : AV) (vs : List Value) : Prop where
  | mk (v w : Value) (e : vs = [v, w]) (h1 : VR ρ σ a v) (h2 : VR ρ σ b w)
theorem VRs.one {a : AV} {vs : List Value} (h : VRs ρ σ [a] vs) : VOne ρ σ a vs := by
  rcases vs with _ | ⟨v, _ | ⟨w, r⟩⟩
  · exact h.elim
  · exact ⟨v, rfl, h.1⟩
  · exact h.2.elim
theorem VRs.two {a b : AV} {vs : List Value} (h : VRs ρ σ [a, b] vs) : VTwo ρ σ a b vs := by
  rcases vs with _ | ⟨v, _ | ⟨w, _ | ⟨x, r⟩⟩⟩
  · exact h.elim
  · exact h.2.elim
  · exact ⟨v, w, rfl, h.1, h.2.1⟩
  · exact h.2.2.elim
set_option tactic.hygienic true in
theorem snd_len {args : List AV} {vs : List Value} {r : Rs} {Q : Value → Shared → Prop} (Re : Rel g clo F ρ σ st s) (h : lenO args st = some r) (ha : VRs ρ σ args vs) (P : PostR g clo F ρ σ st r Q) :
    wpAny (model g.prog g.w) A (call (.builtin "len") vs) Q E s := by
  unfold lenO at h
  rcases args with _ | ⟨a0, t0⟩
  · exact no_ns h
  induction a0 <;> first | exact no_ns h | skip
  rcases t0 with _ | ⟨b0, t0⟩
  rotate_left
  · exact no_ns h
  · rename_i i
    dsimp only at h
    obtain ⟨_, rfl, a, hx, rfl⟩ := ha.one
    induction hi : st.get i with
    | none => rw [hi] at h; exact no_ns h
    | some bhi =>
    rw [hi] at h
    induction bhi <;> first | exact no_ns h | skip
    · rename_i l
      dsimp only at h
      split at h
      · rename_i ok
        cases h
        have ok := okL_le ok
        obtain ⟨xs, hl, r1⟩ := Re.list hi hx
        have len : xs.size = l.length := by simpa using r1.length
        refine Calls.call_len_list hl (by rw [len]; omega) (P _ _ (Re.toks _) ⟨_, by rw [len]⟩)
      · first | exact no_tt h | exact no_ns h | induction h
set_option tactic.hygienic true in
theorem snd_list (O : g.Ok) {args : List AV} {vs : List Value} {r : Rs} {Q : Value → Shared → Prop} (Re : Rel g clo F ρ σ st s) (h : listO args st = some r) (ha : VRs ρ σ args vs) (P : PostR g clo F ρ σ st r Q) :
    wpAny (model g.prog g.w) A (call (.type "list") vs) Q E s := by
  unfold listO at h
  rcases args with _ | ⟨a0, t0⟩
  · exact no_ns h
  induction a0 <;> first | exact no_ns h | skip
  rcases t0 with _ | ⟨b0, t0⟩
  rotate_left
  · exact no_ns h
  · rename_i i
    dsimp only at h
    obtain ⟨_, rfl, a, hx, rfl⟩ := ha.one
    induction hi : st.get i with
    | none => rw [hi] at h; exact no_ns h
    | some bhi =>
    rw [hi] at h
    induction bhi <;> first | exact no_ns h | skip
    · rename_i l
      dsimp only at h
      obtain ⟨rfl, ok⟩ := newL_some h
      obtain ⟨o, ho, xs, n, rfl, r1⟩ := Re.at hi hx
      have len : xs.size = l.length := by simpa using r1.length
      refine call_list_seq a (.inl rfl) ho rfl rfl (fun h' c' hk hD => P _ _ ?_) (by rw [len, sizeLine_eq]; omega)
      have r2 := r1.mono [s.heap.objs.size] []
      rw [List.append_nil] at r2
      exact Re.new (Heap.get?_none_of_le (Nat.le_refl _)) (Re.big O) hk hD ⟨xs, c', rfl, r2⟩ ⟨rfl, rfl, rfl⟩ (fun _ _ e => by first | exact Ob.noConfusion e | induction e)
theorem snd_range (O : g.Ok) {args : List AV} {vs : List Value} {r : Rs} {Q : Value → Shared → Prop} (Re : Rel g clo F ρ σ st s) (h : rangeO args = some r) (ha : VRs ρ σ args vs) (P : PostR g clo F ρ σ st r Q) :
    wpAny (model g.prog g.w) A (call (.type "range") vs) Q E s := by
  unfold rangeO at h
  rcases args with _ | ⟨a0, t0⟩
  · exact no_ns h
  induction a0 <;> first | exact no_ns h | skip
  rcases t0 with _ | ⟨b0, t0⟩
  · cases h
    obtain ⟨_, rfl, t, rfl⟩ := ha.one
    exact call_range_1 (P _ _ (Re.pushO O (b := .range _ _) rfl ⟨_, _, _, rfl⟩ (fun _ _ e => by first | exact Ob.noConfusion e | induction e) _))
  induction b0 <;> first | exact no_ns h | skip
  rcases t0 with _ | ⟨c0, t0⟩
  rotate_left
  · exact no_ns h
  · cases h
    obtain ⟨_, _, rfl, ⟨t, rfl⟩, ⟨t', rfl⟩⟩ := ha.two
    exact call_range_2 (P _ _ (Re.pushO O (b := .range _ _) rfl ⟨_, _, _, rfl⟩ (fun _ _ e => by first | exact Ob.noConfusion e | induction e) _))
set_option tactic.hygienic true in
theorem snd_str {args : List AV} {vs : List Value} {r : Rs} {Q : Value → Shared → Prop} (Re : Rel g clo F ρ σ st s) (h : strO args = some r) (ha : VRs ρ σ args vs) (P : PostR g clo F ρ σ st r Q) :
    wpAny (model g.prog g.w) A (call (.type "str") vs) Q E s := by
  unfold strO at h
  rcases args with _ | ⟨a0, t0⟩
  · exact no_ns h
  induction a0 <;> first | exact no_ns h | skip
  rcases t0 with _ | ⟨b0, t0⟩
  rotate_left
  · exact no_ns h
  · rename_i p
    cases h
    obtain ⟨_, rfl, l, t, hl, rfl⟩ := ha.one
    exact PySem.P.str_of_str (P _ _ Re ⟨l, t, hl, rfl⟩)
set_option tactic.hygienic true in
theorem snd_rev (O : g.Ok) {args : List AV} {vs : List Value} {r : Rs} {Q : Value → Shared → Prop} (Re : Rel g clo F ρ σ st s) (h : revO args st = some r) (ha : VRs ρ σ args vs) (P : PostR g clo F ρ σ st r Q) :
    wpAny (model g.prog g.w) A (call (.type "reversed") vs) Q E s := by
  unfold revO at h
  rcases args with _ | ⟨a0, t0⟩
  · exact no_ns h
  induction a0 <;> first | exact no_ns h | skip
  rcases t0 with _ | ⟨b0, t0⟩
  rotate_left
  · exact no_ns h
  · rename_i i
    dsimp only at h
    obtain ⟨_, rfl, a, hx, rfl⟩ := ha.one
    induction hi : st.get i with
    | none => rw [hi] at h; exact no_ns h
    | some bhi =>
    rw [hi] at h
    induction bhi <;> first | exact no_ns h | skip
    · rename_i l
      dsimp only at h
      obtain ⟨xs, hl, r1⟩ := Re.list hi hx
      have len : xs.size = l.length := by simpa using r1.length
      split at h
      · rename_i m e
        cases h
        refine call_reversed_list hl (P _ _ (Re.pushO O (b := .itV i m) rfl ⟨a, hx, rfl, ?_⟩ (fun _ _ e => by first | exact Ob.noConfusion e | induction e) s.toks))
        have : ((xs.size : Int) - 1) = ((m : Nat) : Int) := by rw [len, e]; omega
        show Data.fields #[.ref a, rawInt ((xs.size : Int) - 1)] = _
        rw [this]
      · rename_i e
        cases h
        refine call_reversed_list hl (P _ _ (Re.pushO O (b := .itVe) rfl ⟨a, rfl, ?_⟩ (fun _ _ e => by first | exact Ob.noConfusion e | induction e) s.toks))
        have : ((xs.size : Int) - 1) = -1 := by rw [len, e]; rfl
        show Data.fields #[.ref a, rawInt ((xs.size : Int) - 1)] = _
        rw [this]
set_option tactic.hygienic true in
theorem snd_isi {args : List AV} {vs : List Value} {r : Rs} {Q : Value → Shared → Prop} (I : ∀ i C d c, args = [.ref i, .fn c] → st.get i = some (.inst C d) → IsOk g C c)
    (Re : Rel g clo F ρ σ st s) (h : isiO args st = some r) (ha : VRs ρ σ args vs) (P : PostR g clo F ρ σ st r Q) :
    wpAny (model g.prog g.w) A (call (.builtin "isinstance") vs) Q E s := by
  unfold isiO at h
  rcases args with _ | ⟨a0, t0⟩
  · exact no_ns h
  induction a0 <;> first | exact no_ns h | skip
  rcases t0 with _ | ⟨b0, t0⟩
  · exact no_ns h
  induction b0 <;> first | exact no_ns h | skip
  rcases t0 with _ | ⟨c0, t0⟩
  rotate_left
  · exact no_ns h
  · rename_i i c
    dsimp only at h
    obtain ⟨_, _, rfl, ⟨a, hx, rfl⟩, hc⟩ := ha.two
    cases hc
    induction hi : st.get i with
    | none => rw [hi] at h; exact no_ns h
    | some bhi =>
    rw [hi] at h
    induction bhi <;> first | exact no_ns h | skip
    · rename_i C d
      dsimp only at h
      induction hfs : st.get d with
      | none => rw [hfs] at h; exact no_ns h
      | some bfs =>
      rw [hfs] at h
      induction bfs <;> first | exact no_ns h | skip
      rename_i fs
      cases h
      have K := I i C d c rfl hi
      obtain ⟨dx, sl, es, k, _, _, In, _⟩ := Re.inst hi hfs hx
      by_cases q : C = c
      · refine isi_call Re.stat (fun M => In.type) (K.yes q) (by intro z; cases z) (P _ _ Re ?_)
        show Value.bool true = .bool (Nat.beq C c)
        rw [q, Nat.beq_refl]
      · refine kin_callC Re.stat In (K.no q) K.pg K.hd K.ha K.hn K.ht K.hm (P _ _ (Re.toks _) ?_)
        show Value.bool false = .bool (Nat.beq C c)
        rw [Bool.eq_false_iff.mpr fun z => q (Nat.eq_of_beq_eq_true z)]
theorem getO_some {o : Option (Option AV)} {r : Rs} (h : getO o = some r) : (∃ v, o = some (some v) ∧ r = .v v) ∨ (o = some none ∧ r = .v .none) := by
  rcases o with _ | _ | v
  · first | exact no_tt h | exact no_ns h | induction h
  · cases h; exact .inr ⟨rfl, rfl⟩
  · cases h; exact .inl ⟨v, rfl, rfl⟩
theorem call_dget {d : Addr} {l : List Nat} {t : Tok} {f : Str → Option Value} {Q : Value → Shared → Prop} (hd : (d == sysModules) = false) (hm : s.heap.MapOf g.knd d f) (h : Q ((f (strOf l)).getD .none) { s with toks := s.toks + 1 }) :
    wpAny (model g.prog g.w) A (call (.builtin "dict.get") [.ref d, .str (strOf l) t]) Q E s :=
  call_meetsIn PySem.F.slot_dict_get hm.typeIs PySem.F.entry_dict_get (PySem.F.args_dict_get_2 _ _) (meets_dict_get g.knd d (strKind_is ..) hd) ⟨f, hm, h⟩
set_option tactic.hygienic true in
theorem snd_dget (O : g.Ok) {args : List AV} {vs : List Value} {r : Rs} {Q : Value → Shared → Prop} (Re : Rel g clo F ρ σ st s) (h : dgetO args st = some r) (ha : VRs ρ σ args vs) (P : PostR g clo F ρ σ st r Q) :
    wpAny (model g.prog g.w) A (call (.builtin "dict.get") vs) Q E s := by
  unfold dgetO at h
  rcases args with _ | ⟨a0, t0⟩
  · exact no_ns h
  induction a0 <;> first | exact no_ns h | skip
  rcases t0 with _ | ⟨b0, t0⟩
  · exact no_ns h
  induction b0 <;> first | exact no_ns h | skip
  rcases t0 with _ | ⟨c0, t0⟩
  rotate_left
  · exact no_ns h
  · rename_i i p
    dsimp only at h
    obtain ⟨_, _, rfl, ⟨a, hx, rfl⟩, ⟨l, t, hl, rfl⟩⟩ := ha.two
    have fin : ∀ f, s.heap.MapOf g.knd a f → (a == sysModules) = false → (∀ {r : Option AV} (_ : (if True then some r else none) = some r), True) → True := fun _ _ _ _ => trivial
    induction hi : st.get i with
    | none => rw [hi] at h; exact no_ns h
    | some bi =>
    rw [hi] at h
    induction bi <;> first | exact no_ns h | skip
    · rename_i kv ep
      dsimp only at h
      obtain ⟨⟨f, hm, hh⟩, hd⟩ := Re.dict O hi hx
      rcases getO_some h with ⟨v, e, rfl⟩ | ⟨e, rfl⟩
      · obtain ⟨u, hu, hv⟩ := hh e hl
        exact call_dget hd hm (by rw [hu]; exact P _ _ (Re.toks _) hv)
      · have := hh e hl
        exact call_dget hd hm (by rw [show f (strOf l) = none from this]; exact P _ _ (Re.toks _) rfl)
    · rename_i kv ep
      dsimp only at h
      obtain ⟨⟨f, hm, hh⟩, hd⟩ := Re.pdict O hi hx
      rcases getO_some h with ⟨v, e, rfl⟩ | ⟨e, rfl⟩
      · obtain ⟨u, hu, hv⟩ := hh e hl
        exact call_dget hd hm (by rw [hu]; exact P _ _ (Re.toks _) hv)
      · have := hh e hl
        exact call_dget hd hm (by rw [show f (strOf l) = none from this]; exact P _ _ (Re.toks _) rfl)
noncomputable def joinL (sep : List Nat) : List (List Nat) → List Nat
  | [] => []
  | [a] => a
  | a :: r => a ++ sep ++ joinL sep r
theorem join_strOf (sep : List Nat) : ∀ ls : List (List Nat), Str.join (strOf sep) (ls.map strOf) = strOf (joinL sep ls)
  | [] => rfl
  | [_] => rfl
  | a :: b :: r => by
    show strOf a ++ strOf sep ++ Str.join (strOf sep) ((b :: r).map strOf) = _
    rw [join_strOf sep (b :: r), strOf_append, strOf_append]; rfl
set_option tactic.hygienic true in
theorem joinC_ok {p sep : List Nat} (hp : txt σ p = some sep) {l : List AV} {xs : List Value} {q : List Nat} (hl : VRs ρ σ l xs) : joinC p l = some q →
    ∃ ls : List (List Nat × Tok), xs = ls.map (fun x => .str (strOf x.1) x.2) ∧ txt σ q = some (joinL sep (ls.map (·.1))) ∧ ls.length = l.length := by
  refine hl.ind (P := fun l xs => ∀ q, joinC p l = some q →
    ∃ ls : List (List Nat × Tok), xs = ls.map (fun x => .str (strOf x.1) x.2) ∧ txt σ q = some (joinL sep (ls.map (·.1))) ∧ ls.length = l.length) (fun q h => by cases h; exact ⟨[], rfl, rfl, rfl⟩) (fun a v as vs hv hr ih q h => ?_) q
  induction as using List.casesOn with
  | nil => induction vs using List.casesOn with
    | cons _ _ => exact hr.elim
    | nil =>
      induction a <;> first | exact no_tt h | exact no_ns h | (induction h; done) | skip
      cases h
      obtain ⟨l, t, hl, rfl⟩ := hv
      exact ⟨[(l, t)], rfl, hl, rfl⟩
  | cons b r => induction vs using List.casesOn with
    | nil => exact hr.elim
    | cons w us =>
      induction a <;> first | exact no_tt h | exact no_ns h | (induction h; done) | skip
      rename_i pa
      change (match joinC p (b :: r) with | some l => some (pa ++ p ++ l) | none => none) = some q at h
      induction e : joinC p (b :: r) with
      | none => rw [e] at h; first | exact no_tt h | exact no_ns h | induction h
      | some q' =>
        rw [e] at h; first | exact no_tt h | exact no_ns h | cases h
        obtain ⟨ls, e1, e2, e3⟩ := ih q' e
        obtain ⟨l, t, hl, rfl⟩ := hv
        refine ⟨(l, t) :: ls, by rw [e1]; rfl, ?_, by simp [e3]⟩
        induction ls with
        | nil => first | exact no_tt e3 | exact no_ns e3 | cases e3
        | cons y ys => exact txt_append (txt_append hl hp) e2
theorem joinL_len (sep : List Nat) : ∀ ls : List (List Nat), (ls.map List.length).sum + ls.length * sep.length ≤ (joinL sep ls).length + sep.length
  | [] => by simp [joinL]
  | [a] => by simp [joinL]
  | a :: b :: r => by
    have ih := joinL_len sep (b :: r)
    show a.length + (List.map List.length (b :: r)).sum + ((b :: r).length + 1) * sep.length ≤ (a ++ sep ++ joinL sep (b :: r)).length + sep.length
    rw [List.length_append, List.length_append, Nat.succ_mul]
    omega
set_option tactic.hygienic true in
theorem snd_join {args : List AV} {vs : List Value} {r : Rs} {Q : Value → Shared → Prop} (Re : Rel g clo F ρ σ st s) (h : sjoinO args st = some r) (ha : VRs ρ σ args vs) (P : PostR g clo F ρ σ st r Q) :
    wpAny (model g.prog g.w) A (call (.builtin "str.join") vs) Q E s := by
  unfold sjoinO at h
  rcases args with _ | ⟨a0, t0⟩
  · exact no_ns h
  induction a0 <;> first | exact no_ns h | skip
  rcases t0 with _ | ⟨b0, t0⟩
  · exact no_ns h
  induction b0 <;> first | exact no_ns h | skip
  rcases t0 with _ | ⟨c0, t0⟩
  rotate_left
  · exact no_ns h
  · rename_i p i
    dsimp only at h
    obtain ⟨_, _, rfl, ⟨sep, t, hs, rfl⟩, ⟨a, hx, rfl⟩⟩ := ha.two
    induction hi : st.get i with
    | none => rw [hi] at h; exact no_ns h
    | some bhi =>
    rw [hi] at h
    induction bhi <;> first | exact no_ns h | skip
    · rename_i l
      dsimp only at h
      obtain ⟨xs, hl, r1⟩ := Re.list hi hx
      unfold joinO at h
      split at h
      · rename_i q hq
        split at h
        · rename_i ok
          cases h
          rw [Bool.and_eq_true] at ok
          obtain ⟨ls, e1, e2, _⟩ := joinC_ok hs r1 hq
          have b1 := txt_len Re.sml hs
          have b2 := txt_len Re.sml e2
          have b3 := okP_le ok.1
          have b4 := okP_le ok.2
          have b5 := joinL_len sep (ls.map (·.1))
          have e1' : xs = (strValues (ls.map fun x => (strOf x.1, x.2))).toArray := by
            rw [← Array.toList_inj]; rw [e1]; simp [strValues]
          have mm : (ls.map fun x => (strOf x.1, x.2)).map (·.1) = (ls.map (·.1)).map strOf := by simp
          refine call_meets PySem.F.slot_str_join (typeIs_str s _ t) PySem.F.entry_str_join (PySem.F.args_str_join_2 _ _) (meets_str_join_list (strOf sep) t a (ls.map fun x => (strOf x.1, x.2)) ?_) ⟨e1' ▸ hl, ?_⟩
          · rw [mm]
            refine (Bool.eq_false_iff.mpr fun z => ?_)
            unfold Builtin.Str.tooLong at z
            rw [PySem.StrLaws.joinTotal, decide_eq_true_eq, sizeLine_eq] at z
            have m2 : ((ls.map (·.1)).map strOf).map (·.length) = (ls.map (·.1)).map List.length := by
              rw [List.map_map]; exact List.map_congr_left fun x _ => strOf_len x
            rw [m2, strOf_len, List.length_map] at z
            omega
          · have fin : ∀ tk s', Rel g clo F ρ σ st s' → Q (.str (Str.join (strOf sep) ((ls.map (·.1)).map strOf)) tk) s' := fun tk s' R' => P s' _ R' ⟨_, tk, e2, by rw [join_strOf]⟩
            have many : (Made.str (Builtin.Str.glued (strOf sep) ((ls.map fun x => (strOf x.1, x.2)).map (·.1)))).post (fun v s' => wants Q E (.ok (.ret v)) s') s := by
              rw [PySem.StrLaws.glued_eq_join, mm]
              refine ⟨?_, fin _ _ (Re.toks _)⟩
              rw [join_strOf, strOf_len, sizeLine_eq]; omega
            rcases ls with _ | ⟨x, _ | ⟨y, ls⟩⟩
            · exact many
            · exact fin x.2 s Re
            · exact many
        · first | exact no_tt h | exact no_ns h | induction h
      · first | exact no_tt h | exact no_ns h | induction h
end
end Mine
end
section
set_option genInjectivity false
set_option genSizeOf false
set_option tactic.hygienic false
open PySem PySem.W PySem.Calls PyProof.Rows PySem.SeqAt
set_option maxRecDepth 100000
namespace Mine
section
variable {g : Gd} {clo : CloP} {F : List Addr} {ρ : List Addr} {σ : List Str} {st : St} {s : Shared} {A : Around} {E : Value → Shared → Prop}
theorem wr_true {i : Ix} {b : Ob} {k : St → Bool} (h : st.wr i b k = true) : st.isRo i = false ∧ k (st.put i b) = true := by
  unfold St.wr at h
  split at h
  · first | exact no_tt h | exact no_ns h | induction h
  · exact ⟨by assumption, h⟩
theorem Ext.put' {i : Ix} {b b₀ : Ob} (hb : st.get i = some b₀) (h : ∀ C d, b₀ ≠ .exc C d) : Ext ρ σ st ρ σ (st.put i b) :=
  Ext.put fun C d e => by rw [hb] at e; exact (h C d (Option.some.inj e)).elim
theorem Rel.same (O : g.Ok) (R : Rel g clo F ρ σ st s) {i : Nat} {a : Addr} {b b₀ : Ob} {o' : Obj} {h' : Heap} (hi : ρ[i]? = some a) (hb : st.get i = some b₀) (hro : st.isRo i = false) (hx : Heap.SameBut a s.heap h') (ho : h'.get? a = some o')
    (hr : OR g clo ρ σ b o') (hn : b₀.isNs = true → b.isNs = true) (he : ∀ C d, b ≠ .exc C d) (t : Nat) : Rel g clo F ρ σ (st.put i b) { s with heap := h', toks := t } :=
  R.wr O hi hro hx.extBut ho hr hb hn ⟨rfl, rfl, rfl⟩ fun C d e => (he C d e).elim
theorem OR.listO {l : List AV} {xs : Array Value} {n : Nat} (h : VRs ρ σ l xs.toList) : OR g clo ρ σ (.list l) ⟨.type "list", none, .seq xs n, #[]⟩ := ⟨xs, n, rfl, h⟩
theorem mapSeq_list (xs : Array Value) (n : Nat) (f : Array Value → Array Value) : ∃ m, Obj.mapSeq f ⟨.type "list", none, .seq xs n, #[]⟩ = ⟨.type "list", none, .seq (f xs) m, #[]⟩ := ⟨_, rfl⟩
set_option tactic.hygienic true in
theorem snd_append (O : g.Ok) {args : List AV} {vs : List Value} {k : KV} {Q : Value → Shared → Prop} (Re : Rel g clo F ρ σ st s) (h : appB args st k = true) (ha : VRs ρ σ args vs) (P : PostV g clo F ρ σ st k Q) :
    wpAny (model g.prog g.w) A (call (.builtin "list.append") vs) Q E s := by
  unfold appB at h
  rcases args with _ | ⟨a0, t0⟩
  · exact no_tt h
  induction a0 <;> first | exact no_tt h | skip
  rename_i i
  rcases t0 with _ | ⟨v, t0⟩
  · exact no_tt h
  rcases t0 with _ | ⟨c0, t0⟩
  rotate_left
  · exact no_tt h
  · dsimp only at h
    obtain ⟨_, u, rfl, ⟨a, hx, rfl⟩, hu⟩ := ha.two
    induction hi : st.get i with
    | none => rw [hi] at h; exact no_tt h
    | some bhi =>
    rw [hi] at h
    induction bhi <;> first | exact no_tt h | skip
    · rename_i l
      dsimp only at h
      split at h
      · rename_i ok
        obtain ⟨hro, hk⟩ := wr_true h
        have ok := okL_le ok
        obtain ⟨o, ho, xs, n, rfl, r1⟩ := Re.at hi hx
        have len : xs.size = l.length := by simpa using r1.length
        refine call_meets PySem.F.slot_list_append ⟨_, ho, rfl⟩ PySem.F.entry_list_append (PySem.F.args_list_append_2 _ _) (PySem.list_append a xs n u (by rw [len, sizeLine_eq]; omega)) ⟨ho, ?_⟩
        obtain ⟨m, em⟩ := mapSeq_list xs n (fun x => x.push u)
        refine P ρ σ (st.put i (.list (l ++ [v]))) _ .none .none (Ext.put' hi (fun _ _ e => by first | exact Ob.noConfusion e | cases e)) (Re.same O hx hi hro (Heap.SameBut.update ..) ((Heap.get?_update_self _ ho (by rw [em]; rfl)).trans (congrArg some em)) (OR.listO ?_) (fun e => by cases e) (fun _ _ e => by first | exact Ob.noConfusion e | cases e) _) rfl hk
        rw [Array.toList_push]; exact r1.append ⟨hu, trivial⟩
      · first | exact no_tt h | exact no_ns h | induction h
set_option tactic.hygienic true in
theorem snd_pop (O : g.Ok) {args : List AV} {vs : List Value} {k : KV} {Q : Value → Shared → Prop} (Re : Rel g clo F ρ σ st s) (h : popB args st k = true) (ha : VRs ρ σ args vs) (P : PostV g clo F ρ σ st k Q) :
    wpAny (model g.prog g.w) A (call (.builtin "list.pop") vs) Q E s := by
  unfold popB at h
  split at h
  · rename_i i
    obtain ⟨_, rfl, a, hx, rfl⟩ := ha.one
    induction hi : st.get i with
    | none => rw [hi] at h; exact no_tt h
    | some bhi =>
    rw [hi] at h
    induction bhi <;> first | exact no_tt h | skip
    · rename_i l
      dsimp only at h
      split at h
      · rename_i v ok hl
        obtain ⟨hro, hk⟩ := wr_true h
        have ok := okL_le ok
        obtain ⟨o, ho, xs, n, rfl, r1⟩ := Re.at hi hx
        have len : xs.size = l.length := by simpa using r1.length
        obtain ⟨y, hy, hv, _⟩ := r1.last hl
        refine call_meets PySem.F.slot_list_pop ⟨_, ho, rfl⟩ PySem.F.entry_list_pop (PySem.F.args_list_pop_1 _) (MeetsSeq.list_pop_last a xs n y (by simpa using hy) (by rw [len, sizeLine_eq]; omega)) ⟨ho, ?_⟩
        obtain ⟨m, em⟩ := mapSeq_list xs n (fun x => x.eraseIdxIfInBounds (xs.size - 1))
        refine P ρ σ (st.put i (.list (initOf l))) _ v y (Ext.put' hi (fun _ _ e => by first | exact Ob.noConfusion e | cases e)) (Re.same O hx hi hro (Heap.SameBut.update ..) ((Heap.get?_update_self _ ho (by rw [em]; rfl)).trans (congrArg some em)) (OR.listO ?_) (fun e => by cases e) (fun _ _ e => by first | exact Ob.noConfusion e | cases e) _) hv hk
        have e : (xs.eraseIdxIfInBounds (xs.size - 1)).toList = xs.toList.dropLast := by
          have e0 : xs.toList.length - 1 = xs.size - 1 := by simp
          unfold Array.eraseIdxIfInBounds
          split
          · rw [Array.toList_eraseIdx, ← e0, List.eraseIdx_length_sub_one]
          · have : xs.size = 0 := by omega
            have : xs.toList = [] := by simpa using this
            rw [this]; rfl
        rw [e]; exact r1.init
      · first | exact no_tt h | exact no_ns h | induction h
  · first | exact no_tt h | exact no_ns h | induction h
theorem look_put : ∀ (fs : List (Nat × AV)) (x : Nat) (v : AV) (y : Nat), look (putA fs x v) y = if x = y then some v else look fs y
  | [], x, v, y => by
    show (match Nat.beq x y with | true => some v | false => none) = _
    rw [BT.beq_eq]; by_cases h : x = y <;> simp [h, look]
  | (z, w) :: r, x, v, y => by
    unfold putA
    by_cases hz : z = x
    · subst hz
      rw [Nat.beq_refl]
      show (match Nat.beq z y with | true => some v | false => look r y) = if z = y then some v else (match Nat.beq z y with | true => some w | false => look r y)
      rw [BT.beq_eq]; by_cases h : z = y <;> simp [h]
    · rw [show Nat.beq z x = false from Bool.eq_false_iff.mpr fun q => hz (Nat.eq_of_beq_eq_true q)]
      show (match Nat.beq z y with | true => some w | false => look (putA r x v) y) = if x = y then some v else (match Nat.beq z y with | true => some w | false => look r y)
      rw [look_put r x v y, BT.beq_eq]
      by_cases h : z = y
      · subst h; simp [Ne.symm hz]
      · simp [h]
theorem OR.ns_put (O : g.Ok) {fs : List (Nat × AV)} {a : Addr} {h h' : Heap} {m : Str → Option Value} {x : Nat} {v : AV} {u : Value} (hm : ∀ x v, look fs x = some v → ∃ u, m (g.nm x) = some u ∧ VR ρ σ v u) (hv : VR ρ σ v u)
    (hn : h'.Ns a (fun y => if y = g.nm x then some u else m y)) : ∃ o, h'.get? a = some o ∧ OR g clo ρ σ (.ns (putA fs x v)) o := by
  obtain ⟨o, es, ep, ho, hd, hs, hl⟩ := hn
  refine ⟨o, ho, es, ep, hd, hs, fun y w e => ?_⟩
  rw [look_put] at e
  rw [hl]
  by_cases q : x = y
  · subst q; rw [if_pos rfl] at e; cases e; exact ⟨u, by simp, hv⟩
  · rw [if_neg q] at e
    obtain ⟨u', e1, e2⟩ := hm y w e
    exact ⟨u', by show (if g.nm y = g.nm x then some u else m (g.nm y)) = _; rw [if_neg (fun z => q (O.inj _ _ z.symm))]; exact e1, e2⟩
set_option tactic.hygienic true in
theorem snd_storeLoc (O : g.Ok) {cx : Cx} {env : Env} {L : Addr} {n : Nat} (H : Here g n cx A F env L) (V : EnvS g ρ st env) {x : Str} {i : Nat} {v : AV} {u : Value} {k : St → Bool} {Q : Unit → Shared → Prop} (Re : Rel g clo F ρ σ st s)
    (hk : cx.kinds.lookup x = some .local) (hi : cx.id x = some i) (h : storeLoc i v st k = true) (hv : VR ρ σ v u) (P : Post0 g clo F ρ σ st k Q) : wpAny (model g.prog g.w) A (storeName env x u) Q E s := by
  unfold storeLoc at h
  induction hf : st.get st.loc with
  | none => rw [hf] at h; exact no_tt h
  | some bhf =>
  rw [hf] at h
  induction bhf <;> first | exact no_tt h | skip
  · rename_i fs
    dsimp only at h
    obtain ⟨hro, hk'⟩ := wr_true h
    obtain ⟨m, hm, hl⟩ := Re.ns hf V.loc
    have e := H.cok.id x i hi
    refine wpAny_storeName_local (H.loc x hk) hm (fun h' hn hs => ?_) (by rw [H.kind]; rfl)
    rw [← e] at hn
    obtain ⟨o, ho, hr⟩ := OR.ns_put (h := s.heap) O hl hv hn
    exact P _ _ _ _ (Ext.put' hf (fun _ _ e => by first | exact Ob.noConfusion e | induction e)) (Re.same O V.loc hf hro hs ho hr (fun _ => rfl) (fun _ _ e => by first | exact Ob.noConfusion e | induction e) _) hk'
set_option tactic.hygienic true in
theorem snd_storeCel (O : g.Ok) {cx : Cx} {env : Env} {L : Addr} {n : Nat} (H : Here g n cx A F env L) (V : EnvS g ρ st env) {x : Str} {i : Nat} {v : AV} {u : Value} {k : St → Bool} {Q : Unit → Shared → Prop} (Re : Rel g clo F ρ σ st s)
    (hk : cx.kinds.lookup x = some .cell) (hi : cx.id x = some i) (h : storeCel i v st k = true) (hv : VR ρ σ v u) (P : Post0 g clo F ρ σ st k Q) : wpAny (model g.prog g.w) A (storeName env x u) Q E s := by
  unfold storeCel at h
  split at h
  · rename_i c hc
    induction hf : st.get c with
    | none => rw [hf] at h; exact no_tt h
    | some bhf =>
    rw [hf] at h
    induction bhf <;> first | exact no_tt h | skip
    · rename_i w
      dsimp only at h
      obtain ⟨hro, hk'⟩ := wr_true h
      obtain ⟨a, ha, hl⟩ := V.cel i c hc
      rw [H.cok.id x i hi] at hl
      obtain ⟨o, ho, u', hd, hr⟩ := Re.at hf ha
      refine wpAny_storeName_cell H.kind (H.ce1 x hk) hl ⟨o, ho, hd⟩ (fun h' hn hs => ?_)
      obtain ⟨o', ho', hd'⟩ := hn
      exact P _ _ _ _ (Ext.put' hf (fun _ _ e => by first | exact Ob.noConfusion e | cases e)) (Re.same O ha hf hro hs ho' (b := .cell (some v)) ⟨some u, hd', hv⟩ (fun e => by cases e) (fun _ _ e => by first | exact Ob.noConfusion e | cases e) _) hk'
  · first | exact no_tt h | exact no_ns h | induction h
end
end Mine
end
section
set_option genInjectivity false
set_option genSizeOf false
set_option tactic.hygienic false
open PySem PySem.W PySem.Calls PyProof.Rows PySem.SeqAt
set_option maxRecDepth 100000
namespace Mine
section
variable {prog : Program} {w : World} {A : Around} {E : Value → Shared → Prop} {s : Shared} {K : Type} [DecidableEq K] {knd : KeyKind prog w K}
theorem dictSet_at {d : Addr} {kvs : List (K × Value)} {k : K} {key v : Value} {ep : Nat} {Q : Unit → Shared → Prop} (hkey : knd.is k key = true) (hm : s.heap.DictAt knd d kvs ep)
    (hQ : ∀ h', h'.DictAt knd d (stored kvs k v) (if kvs.any (fun kv => kv.1 = k) then ep else ep + 1) → Heap.SameBut d s.heap h' → Q () { s with heap := h', toks := s.toks + 1 })
    (hsz : kvs.length ≤ sizeLine) : wpAny (model prog w) A (dictSet d key v) Q E s := by
  obtain ⟨o, es, ho, hc, hd, hk, hp, hn⟩ := hm
  have hes : es.size ≤ sizeLine := by
    have e1 := hp.length; have e2 : es.toList.length = es.size := by simp
    omega
  unfold dictSet
  refine wpAny_holding (wpAny_bind (knd.pyHash hkey ?_))
  unfold dictSetHashed
  refine wpAny_holding (wpAny_bind (wpAny_dictFind_of (s := { s with toks := s.toks + 1 }) hkey ho hd hk ?_))
  have hidx : (es.findIdx? fun e => knd.is k e.key) = kvs.findIdx? fun kv => decide (kv.1 = k) := by
    rw [← hp.findIdx k]; obtain ⟨l⟩ := es; simp
  induction hi : es.findIdx? fun e => knd.is k e.key with
  | some i =>
    have hany := any_of_findIdx_some (hidx ▸ hi)
    refine wpAny_bind (wpAny_rule (wpAny_bind (wpAny_updateDict ho hd (wpAny_point (hQ _ ⟨_, _, Heap.get?_update_self _ ho (Obj.isFreed_of_dict (Obj.data_mapDict hd _)),
      hc.mapDict _, by rw [if_pos hany]; exact Obj.data_mapDict hd _, hk.modify _ _, ?_, ?_⟩ (Heap.SameBut.update ..))))))
    · rw [stored, if_pos hany]
      have hl : (es.toList.findIdx? fun e => knd.is k e.key) = some i := by rw [← hi]; obtain ⟨l⟩ := es; simp
      have := hp.modify hn hl v
      obtain ⟨l⟩ := es
      simpa using this
    · rw [stored, if_pos hany, keys_map_store]; exact hn
  | none =>
    have hnot : k ∉ kvs.map (·.1) := not_mem_of_findIdx_none (hidx ▸ hi)
    have hany : ¬ (kvs.any fun kv => decide (kv.1 = k)) = true := by
      rw [List.any_eq_true]; rintro ⟨kv, hkv, he⟩
      exact hnot (List.mem_map.mpr ⟨kv, hkv, of_decide_eq_true he⟩)
    refine wpAny_bind (wpAny_rule (wpAny_updateDictKeys (hz := hes) ho hd (hQ _ ⟨_, _, Heap.get?_update_self _ ho (Obj.isFreed_of_dict (Obj.data_mapDictKeys hd _)),
      hc.mapDictKeys _, by rw [if_neg hany]; exact Obj.data_mapDictKeys hd _, hk.push hkey _, ?_, ?_⟩ (Heap.SameBut.update ..))))
    · rw [stored, if_neg hany]
      have := hp.append hkey (knd.hash k) v
      obtain ⟨l⟩ := es
      simpa using this
    · rw [stored, if_neg hany, List.map_append, List.nodup_append]
      refine ⟨hn, by simp, ?_⟩
      intro a ha b hb
      simp only [List.map_cons, List.map_nil, List.mem_singleton] at hb
      subst hb
      exact fun e => hnot (e ▸ ha)
theorem setItem_at {d : Addr} {kvs : List (K × Value)} {k : K} {key v : Value} {ep : Nat} {Q : Unit → Shared → Prop} (hkey : knd.is k key = true) (hm : s.heap.DictAt knd d kvs ep)
    (hQ : ∀ h', h'.DictAt knd d (stored kvs k v) (if kvs.any (fun kv => kv.1 = k) then ep else ep + 1) → Heap.SameBut d s.heap h' → Q () { s with heap := h', toks := s.toks + 1 })
    (hsz : kvs.length ≤ sizeLine) : wpAny (model prog w) A (setItem (.ref d) key v) Q E s := by
  have hT : s.TypeIs (.ref d) "dict" := by
    obtain ⟨o, es, ho, hc, _⟩ := hm
    exact ⟨o, ho, hc.1⟩
  unfold setItem
  refine wpAny_holding (wpAny_bind (wpAny_sequenceKey hT (by decide) ?_))
  refine wpAny_bind (wpAny_callSpecial?_slot (name := Str.ofString "__setitem__") hT slot_dict_setitem
    (wpAny_call_entry slot_dict_setitem hT entry_dict_setitem ?_ (args_dict_setitem _ _ _)))
  show wpAny _ _ (Builtin.Dict.notOrdered "__setitem__" ⟨[.ref d, key, v], []⟩ >>= _) _ _ s
  refine wpAny_bind (wpAny_notOrdered_dict hT ?_)
  show wpAny _ _ (dictSet d key v >>= _) _ _ s
  exact wpAny_bind (dictSet_at hkey hm (fun h' hm' hs' => wpAny_pure ⟨.none, rfl, wpAny_pure (hQ h' hm' hs')⟩) hsz)
omit [DecidableEq K] in
theorem setList_at {l : Addr} {items : Array Value} {n : Nat} {k : Int} {t : Tok} {v : Value} {Q : Unit → Shared → Prop} (ho : s.heap.get? l = some ⟨.type "list", none, .seq items n, #[]⟩)
    (h0 : 0 ≤ k) (hfit : k < 2 ^ 63) (hn : k < items.size)
    (hQ : Q () { s with heap := s.heap.update l (Obj.mapSeq (·.setIfInBounds k.toNat v)) }) : wpAny (model prog w) A (setItem (.ref l) (.int k t) v) Q E s := by
  have hl : s.heap.IsList l items := ⟨_, ho, rfl, n, rfl⟩
  unfold setItem
  try with_reducible refine wpAny_holding ?_
  refine wpAny_bind (wpAny_sequenceKey hl.typeIs (by decide) ?_)
  refine wpAny_bind (wpAny_callSpecial?_slot (name := Str.ofString "__setitem__") hl.typeIs slot_list_setitem
    (wpAny_call_entry slot_list_setitem hl.typeIs entry_list_setitem ?_ (args_list_setitem _ _ _)))
  show wpAny _ _ (Builtin.List.listSubscript? (.int k t) >>= _) _ _ s
  refine wpAny_bind (wpAny_listSubscript_int (fitsIndex_of h0 hfit) ?_)
  clear hfit
  obtain ⟨j, rfl⟩ := Int.eq_ofNat_of_zero_le h0
  have hj : j < items.size := by omega
  have hx' : items[j]? = some items[j] := Array.getElem?_eq_getElem hj
  show wpAny _ _ ((seqItemAt l j >>= fun r => pure (r.map (j, ·))) >>= _) _ _ s
  refine wpAny_bind (wpAny_bind (wpAny_seqItemAt ho rfl (wpAny_pure ?_)))
  rw [hx']
  show wpAny _ _ (setSeqItemAt l j v >>= _) _ _ s
  refine wpAny_bind (wpAny_setSeqItemAt ho rfl ?_)
  first
    | exact wpAny_bind (wpAny_pure (wpAny_pure ⟨.none, rfl, wpAny_pure hQ⟩))
    | exact wpAny_pure ⟨.none, rfl, wpAny_pure hQ⟩
end
section
variable {g : Gd} {clo : CloP} {F : List Addr} {ρ : List Addr} {σ : List Str} {st : St} {s : Shared} {A : Around} {E : Value → Shared → Prop}
theorem KR.len {kv : List (List Nat × AV)} {kvs : List (Str × Value)} (h : KR ρ σ kv kvs) : kvs.length = kv.length :=
  h.ind (P := fun kv kvs => kvs.length = kv.length) rfl fun _ _ _ _ _ _ _ _ _ ih => congrArg Nat.succ ih
theorem key_dec {q p l : List Nat} {x : Str} {b : Bool} (h : eqP q p = some b) (h1 : txt σ q = some x.cps.toList) (hp : txt σ p = some l) : decide (x = strOf l) = b := by
  have := eqP_ok h h1 hp
  rw [← this]
  by_cases z : x.cps.toList = l
  · rw [decide_eq_true z, ← z]
    exact decide_eq_true (strOf_cps x).symm
  · rw [decide_eq_false z]
    exact decide_eq_false fun y => z (by rw [y]; simp [strOf])
theorem map_other {kvs : List (Str × Value)} {k : Str} {v : Value} (h : k ∉ kvs.map (·.1)) : kvs.map (fun kv => if kv.1 = k then (kv.1, v) else kv) = kvs := by
  induction kvs with
  | nil => rfl
  | cons a r ih =>
    simp only [List.map_cons, List.mem_cons, not_or] at h
    rw [List.map_cons, ih h.2, if_neg (Ne.symm h.1)]
set_option tactic.hygienic true in
theorem KR.put {p l : List Nat} {v : AV} {u : Value} (hp : txt σ p = some l) (hv : VR ρ σ v u) {kv kv' : List (List Nat × AV)} {kvs : List (Str × Value)} (hk : KR ρ σ kv kvs) (hn : (kvs.map (·.1)).Nodup) (h : putK kv p v = some kv') :
    KR ρ σ kv' (stored kvs (strOf l) u) ∧ (kv'.length = kv.length ↔ kvs.any (fun x => x.1 = strOf l) = true) := by
    refine hk.ind (P := fun kv kvs => ∀ kv', (kvs.map (·.1)).Nodup → putK kv p v = some kv' → KR ρ σ kv' (stored kvs (strOf l) u) ∧ (kv'.length = kv.length ↔ kvs.any (fun x => x.1 = strOf l) = true)) (fun kv' _ h => ?_) (fun q w kv x y kvs h1 h2 h3 ih kv' hn h => ?_) kv' hn h
    · first | exact no_tt h | exact no_ns h | cases h
      refine ⟨?_, by simp⟩
      exact ⟨by rw [hp]; simp [strOf], hv, trivial⟩
    unfold putK at h
    rw [List.map_cons, List.nodup_cons] at hn
    split at h
    · rename_i e
      cases h
      have kx : x = strOf l := by simpa using key_dec e h1 hp
      subst kx
      refine ⟨?_, by simp⟩
      rw [stored, if_pos (by simp), List.map_cons, if_pos rfl, map_other hn.1]
      exact ⟨h1, hv, h3⟩
    · rename_i e
      have kx : x ≠ strOf l := by simpa using key_dec e h1 hp
      split at h
      · rename_i l' hl'
        cases h
        obtain ⟨ih1, ih2⟩ := ih _ hn.2 hl'
        have e1 : ((x, y) :: kvs).any (fun z => z.1 = strOf l) = kvs.any (fun z => z.1 = strOf l) := by simp [kx]
        refine ⟨?_, by rw [e1, ← ih2]; simp⟩
        have e2 : stored ((x, y) :: kvs) (strOf l) u = (x, y) :: stored kvs (strOf l) u := by
          unfold stored
          rw [e1]
          split
          · rw [List.map_cons, if_neg kx]
          · rfl
        rw [e2]; exact ⟨h1, h2, ih1⟩
      · first | exact no_tt h | exact no_ns h | induction h
    · first | exact no_tt h | exact no_ns h | induction h
theorem VRs.set {v : AV} {u : Value} (hv : VR ρ σ v u) {l : List AV} {xs : List Value} (n : Nat) (h : VRs ρ σ l xs) : VRs ρ σ (l.set n v) (xs.set n u) := by
  refine h.ind (P := fun l xs => ∀ n, VRs ρ σ (l.set n v) (xs.set n u)) (fun n => trivial) (fun a w r s h1 h2 ih n => ?_) n
  induction n with
  | zero => exact ⟨hv, h2⟩
  | succ n => exact ⟨h1, ih n⟩
set_option tactic.hygienic true in
theorem snd_setSub (O : g.Ok) {o i v : AV} {uo ui u : Value} {k : St → Bool} {Q : Unit → Shared → Prop} (Re : Rel g clo F ρ σ st s) (h : setSub o i v st k = true) (ho : VR ρ σ o uo) (hi : VR ρ σ i ui) (hv : VR ρ σ v u)
    (P : Post0 g clo F ρ σ st k Q) : wpAny (model g.prog g.w) A (setItem uo ui u) Q E s := by
  unfold setSub at h
  induction o <;> first | exact no_tt h | skip
  · rename_i j
    dsimp only at h
    obtain ⟨a, ha, rfl⟩ := ho
    induction hj : st.get j with
    | none => rw [hj] at h; exact no_tt h
    | some bhj =>
    rw [hj] at h
    induction bhj
    case dict kv ep =>
      dsimp only at h
      induction i <;> first | exact no_tt h | skip
      · rename_i p
        dsimp only at h
        split at h
        · rename_i l' hle hput
          have hle := Nat.ble_eq.mp hle
          obtain ⟨hro, hk⟩ := wr_true h
          obtain ⟨l, t, hp, rfl⟩ := hi
          obtain ⟨o, ho, es, kvs, h1, h2, h3, h4, h5, h6⟩ := Re.at hj ha
          obtain ⟨hr, hlen⟩ := h6.put hp hv h5 hput
          refine setItem_at (knd := g.knd) (ep := ep) (strKind_is ..) ⟨o, es, ho, h1, h2, h3, h4, h5⟩ (fun h' hm hs => ?_) (by rw [h6.len, sizeLine_eq]; omega)
          obtain ⟨o', es', ho', g1, g2, g3, g4, g5⟩ := hm
          have eep : epO l'.length kv.length ep = (if kvs.any (fun x => x.1 = strOf l) then ep else ep + 1) := by
            by_cases q : l'.length = kv.length
            · rw [if_pos (hlen.mp q)]; unfold epO; rw [q, Nat.beq_refl]
            · rw [if_neg (fun z => q (hlen.mpr z))]; unfold epO; rw [show Nat.beq l'.length kv.length = false from Bool.eq_false_iff.mpr fun z => q (Nat.eq_of_beq_eq_true z)]
          exact P _ _ _ _ (Ext.put' hj (fun _ _ e => by first | exact Ob.noConfusion e | cases e)) (Re.same O ha hj hro hs ho' (b := .dict l' _) ⟨es', _, g1, by rw [eep]; exact g2, g3, g4, g5, hr⟩ (fun e => by cases e) (fun _ _ e => by first | exact Ob.noConfusion e | cases e) _) hk
        · first | exact no_tt h | exact no_ns h | induction h
    case list l =>
      dsimp only at h
      split at h
      · rename_i n
        split at h
        · rename_i x hle hn
          have hle := Nat.ble_eq.mp hle
          obtain ⟨hro, hk⟩ := wr_true h
          obtain ⟨t, rfl⟩ := hi
          obtain ⟨o, ho, xs, m, rfl, r1⟩ := Re.at hj ha
          obtain ⟨y, hy, _⟩ := r1.nth hn
          have hlt : n < xs.size := by simpa using (List.getElem?_eq_some_iff.mp hy).1
          obtain ⟨m', em⟩ := mapSeq_list xs m (·.setIfInBounds n u)
          have hI : ((n : Nat) : Int) ≤ 1000 := by exact_mod_cast hle
          refine setList_at (n := m) ho (by show (0 : Int) ≤ (n : Int); omega) (by show (n : Int) < _; omega) (by show (n : Int) < _; exact_mod_cast hlt) ?_
          refine P _ _ _ _ (Ext.put' hj (fun _ _ e => by first | exact Ob.noConfusion e | cases e)) (Re.same O ha hj hro (Heap.SameBut.update ..) ((Heap.get?_update_self _ ho (by rw [em]; rfl)).trans (congrArg some em)) (b := .list (l.set n v)) (OR.listO ?_) (fun e => by cases e) (fun _ _ e => by first | exact Ob.noConfusion e | cases e) _) hk
          rw [Array.toList_setIfInBounds]; exact VRs.set hv n r1
        · first | exact no_tt h | exact no_ns h | induction h
      · first | exact no_tt h | exact no_ns h | induction h
    all_goals exact no_tt h
end
end Mine
end
section
set_option genInjectivity false
set_option genSizeOf false
set_option tactic.hygienic false
open PySem PySem.W PySem.Calls PyProof.Rows PySem.SeqAt
set_option maxRecDepth 100000
namespace Mine
section
variable {g : Gd} {clo : CloP} {F : List Addr} {ρ : List Addr} {σ : List Str} {st : St} {s : Shared} {A : Around} {E : Value → Shared → Prop} {cx : Cx} {env : Env} {L : Addr} {n : Nat}
inductive TgCons (cx : Cx) (e : Expr) (r : List Expr) (t : List Nat) : Prop where
  | mk (x : Str) (p : Pos) (i : Nat) (t' : List Nat) (h1 : e = .Name x p) (h2 : cx.kinds.lookup x = some .local) (h3 : cx.id x = some i) (h4 : tgNames cx r = some t') (h5 : t = i :: t')
set_option tactic.hygienic true in
theorem tgNames_some {e : Expr} {r : List Expr} {t : List Nat} (h : tgNames cx (e :: r) = some t) : TgCons cx e r t := by
  induction e using PySem.Expr.casesOn <;> first | exact no_tt h | exact no_ns h | (induction h; done) | skip
  rename_i x p
  change (match cx.kinds.lookup x == some .local with | true => thenO (cx.id x) fun n => thenO (tgNames cx r) fun l => some (n :: l) | false => none) = some t at h
  cases h1 : cx.kinds.lookup x == some .local with
  | false => rw [h1] at h; exact no_ns h
  | true =>
    rw [h1] at h
    obtain ⟨i, h2, h⟩ := thenO_some h
    obtain ⟨l, h3, h⟩ := thenO_some h
    have h1 := eq_of_beq h1
    cases h
    exact ⟨x, p, i, l, rfl, h1, h2, h3, rfl⟩
theorem tgNames_len : ∀ {es : List Expr} {t : List Nat}, tgNames cx es = some t → t.length = es.length
  | [], t, h => by cases h; rfl
  | e :: r, t, h => by
    obtain ⟨x, p, i, t', rfl, _, _, h3, rfl⟩ := tgNames_some h
    simp [tgNames_len h3]
theorem tgNames_each : ∀ {es : List Expr} {t : List Nat}, tgNames cx es = some t → (assignEach es env).length = es.length ∧ (assignEach es env).findIdx? (·.1) = none
  | [], t, h => by cases h; exact ⟨rfl, rfl⟩
  | e :: r, t, h => by
    obtain ⟨x, p, i, t', rfl, _, _, h3, rfl⟩ := tgNames_some h
    obtain ⟨h1, h2⟩ := tgNames_each h3
    show ((false, assign (.Name x p) env) :: assignEach r env).length = _ ∧ ((false, assign (.Name x p) env) :: assignEach r env).findIdx? (·.1) = none
    refine ⟨by simp [h1], ?_⟩
    rw [List.findIdx?_cons, h2]; rfl
theorem storeAll_len {k : St → Bool} : ∀ {t : List Nat} {l : List AV} {st : St}, storeAll t l st k = true → t.length = l.length
  | [], [], _, _ => rfl
  | [], _ :: _, _, h => by cases h
  | _ :: _, [], _, h => by cases h
  | x :: xs, v :: vs, st, h => by
    change storeLoc x v st (fun s => storeAll xs vs s k) = true at h
    unfold storeLoc at h
    split at h
    · have := storeAll_len (wr_true h).2
      simp [this]
    · first | exact no_tt h | exact no_ns h | induction h
theorem snd_storeAll (O : g.Ok) (H : Here g n cx A F env L) {k : St → Bool} {Q : Unit → Shared → Prop} : ∀ {es : List Expr} {t : List Nat} {vs : List AV} {us : List Value} {ρ : List Addr} {σ : List Str} {st : St} {s : Shared}, tgNames cx es = some t → EnvS g ρ st env → Rel g clo F ρ σ st s →
    storeAll t vs st k = true → VRs ρ σ vs us → Post0 g clo F ρ σ st k Q → wpAny (model g.prog g.w) A (assignInOrder ((assignEach es env).map (·.2)) us) Q E s := by
  intro es
  induction es with
  | nil =>
    intro t vs us ρ σ st s ht V Re h hv P
    cases ht
    induction vs with
    | nil => induction us with
      | nil => exact wpAny_assignInOrder_none (P _ _ _ _ (Ext.refl ..) Re h)
      | cons _ _ => exact hv.elim
    | cons _ _ => exact no_tt h
  | cons e r ih =>
    intro t vs us ρ σ st s ht V Re h hv P
    obtain ⟨x, p, i, t', rfl, h1, h2, h3, rfl⟩ := tgNames_some ht
    induction vs with
    | nil => exact no_tt h
    | cons v vs => induction us with
      | nil => exact hv.elim
      | cons u us =>
        obtain ⟨hv, hr⟩ := hv
        show wpAny _ _ (assignInOrder (assign (.Name x p) env :: (assignEach r env).map (·.2)) (u :: us)) Q E s
        refine wpAny_assignInOrder_more (wpAny_assign_Name (snd_storeLoc O H V Re h1 h2 h hv ?_))
        intro ρ' σ' st' s' e' R' hk
        exact ih h3 (V.ext e') R' hk (e'.vrs hr) (P.ext e')
set_option tactic.hygienic true in
theorem snd_storeTg (O : g.Ok) (H : Here g n cx A F env L) (V : EnvS g ρ st env) (D : Hnd A ρ st) (Re : Rel g clo F ρ σ st s) {tg : Expr} {t : List Nat} {v : AV} {u : Value} {k : St → Bool} {Q : Unit → Shared → Prop} (ht : tgOf cx tg = some t) (h : storeTg t v st k = true) (hv : VR ρ σ v u)
    (P : Post0 g clo F ρ σ st k Q) : wpAny (model g.prog g.w) A (assign tg env u) Q E s := by
  induction tg using PySem.Expr.casesOn
  case Name x p =>
    unfold tgOf at ht
    dsimp only at ht
    cases h1 : cx.kinds.lookup x == some .local with
    | false => rw [h1] at ht; exact no_ns ht
    | true =>
      rw [h1] at ht
      obtain ⟨i, h2, ht⟩ := thenO_some ht
      cases ht
      exact wpAny_assign_Name (snd_storeLoc O H V Re (eq_of_beq h1) h2 h hv P)
  case Tuple es kk p =>
    unfold tgOf at ht
    dsimp only at ht
    split at ht
    · rename_i e1 e2 r
      have hl := tgNames_len ht
      rcases t with _ | ⟨a, _ | ⟨b, t'⟩⟩
      · cases hl
      · cases hl
      · skip
        unfold storeTg at h
        split at h
        · rename_i q; first | exact no_tt q | exact no_ns q | cases q
        · split at h
          · rename_i i hd
            split at h
            · rename_i l hi
              obtain ⟨a, ha, rfl⟩ := hv
              obtain ⟨xs, hx, r1⟩ := Re.tup hi ha
              obtain ⟨e1', e2'⟩ := tgNames_each (env := env) ht
              have hn : (assignEach (e1 :: e2 :: r) env).length = xs.size := by
                rw [e1', ← hl]
                have := r1.length
                rw [storeAll_len h, ← this]; simp
              refine wpAny_assign_Tuple (D.none hd) hx hn e2' fun h' hx' => ?_
              have R' := Re.keeps (s' := { s with heap := h' }) (fun b o e => hx' b o (Nat.ne_of_lt (Heap.lt_size e)) e) ⟨rfl, rfl, rfl⟩
              exact snd_storeAll O H ht V R' h r1 P
            · first | exact no_tt h | exact no_ns h | induction h
          · first | exact no_tt h | exact no_ns h | induction h
    · first | exact no_tt ht | exact no_ns ht | induction ht
  all_goals exact no_ns ht
end
end Mine
end
section
set_option genInjectivity false
set_option genSizeOf false
set_option tactic.hygienic false
open PySem PySem.W PySem.Calls PyProof.Rows PySem.SeqAt
set_option maxRecDepth 100000
namespace Mine
section
variable {prog : Program} {w : World} {A : Around} {E : Value → Shared → Prop} {s : Shared}
theorem entry_unchain : entryFor table "proto.unchain" = some Builtin.«proto.unchain» := entryFor_of_tree (by kernel_rfl)
theorem listEnd_held {it l e : Addr} {i : Nat} {items : Array Value} {Q : Option Value → Shared → Prop} (hh : A.handled = some (.ref e)) (he : ∃ o vs, s.heap.get? e = some o ∧ o.data = .fields vs ∧ vs[2]? = some .none) (hne : it ≠ e)
    (hit : s.heap.IsListIter it l i) (hl : s.heap.IsList l items) (hx : items[i]? = none)
    (hQ : ∀ h', Heap.ExtBut it s.heap h' → Q none { s with heap := h' }) : wpAny (model prog w) A (pyNext (.ref it)) Q E s := by
  obtain ⟨o, ho, hc, hd⟩ := id hit
  obtain ⟨ol, hol, _, nl, hdl⟩ := hl
  obtain ⟨oe, ve, he, hde, h2⟩ := he
  unfold pyNext
  refine wpAny_bind (wpAny_attempt (wpAny_callSpecial?_slot (name := Str.ofString "__next__") hit.typeIs slot_listiter_next
    (wpAny_call_entry slot_listiter_next hit.typeIs entry_listiter_next ?_ (args_listiter_next _))))
  show wpAny _ _ (field (.ref it) 0 >>= _) _ _ s
  refine wpAny_bind (wpAny_field ho hd (x := .ref l) rfl ?_)
  show wpAny _ _ (if (Value.ref l == Value.none) = true then _ else _) _ _ s
  rw [if_neg (show ¬ ((Value.ref l == Value.none) = true) from Bool.false_ne_true)]
  show wpAny _ _ (field (.ref it) 1 >>= _) _ _ s
  refine wpAny_bind (wpAny_field ho hd (x := .int i 0) rfl ?_)
  show wpAny _ _ (seqItems? (.ref l) >>= _) _ _ s
  refine wpAny_bind (wpAny_seqItems hol hdl ?_)
  simp only [Int.toNat_natCast, hx]
  refine wpAny_bind (wpAny_rule (wpAny_bind (wpAny_setField ho hd (by simp) ?_)))
  show wpAny _ _ (newExc (.type "StopIteration") [] >>= _) _ _ _
  refine wpAny_bind ?_
  simp only [newExc, newTuple]
  refine wpAny_bind (wpAny_newObj_type ?_ (by size_fits))
  refine wpAny_bind (m := firstArgMember _ _) (wpAny_of_eq (a := Value.none) (by first | rfl | (simp only [firstArgMember]; rfl)) ?_)
  refine wpAny_newObj_type ?_ (by size_fits)
  have he1 : (s.heap.update it (Obj.mapFields (·.setIfInBounds 0 .none))).get? e = some oe := (Heap.get?_update_other _ _ hne).trans he
  have he2 := Heap.get?_push_of_some { cls := .type "StopIteration", data := .fields (#[.ref (s.heap.update it (Obj.mapFields (·.setIfInBounds 0 .none))).objs.size, .none, .none, .none, .bool false, .none] ++ ownMembersOf (.type "StopIteration") []) } (Heap.get?_push_of_some { cls := .type "tuple", data := .seq ([] : List Value).toArray } he1)
  simp only [raiseNew]
  refine wpAny_bind (wpAny_handled ?_)
  rw [show A.in1.handled = some (.ref e) from hh]
  have hsz : e < (s.heap.update it (Obj.mapFields (·.setIfInBounds 0 .none))).objs.size := Heap.lt_size he1
  have hs2 : ((s.heap.update it (Obj.mapFields (·.setIfInBounds 0 .none))).push { cls := .type "tuple", data := .seq ([] : List Value).toArray }).objs.size = (s.heap.update it (Obj.mapFields (·.setIfInBounds 0 .none))).objs.size + 1 := Heap.size_push ..
  have hne2 : (Value.ref e != Value.ref ((s.heap.update it (Obj.mapFields (·.setIfInBounds 0 .none))).push { cls := .type "tuple", data := .seq ([] : List Value).toArray }).objs.size) = true := by
    rw [bne_iff_ne]; intro z
    injection z with z
    exact Nat.ne_of_lt (Nat.lt_succ_of_lt hsz) (z.trans hs2)
  dsimp only
  rw [if_pos hne2]
  refine wpAny_bind (wpAny_holding (wpAny_runValue (codeAny_builtin entry_unchain ?_)))
  show wpAny _ _ (field (.ref e) 2 >>= _) _ _ _
  refine wpAny_bind (wpAny_field he2 hde h2 ?_)
  show wpAny _ _ (if (Value.none == Value.none) = true then _ else _) _ _ _
  rw [if_pos (show (Value.none == Value.none) = true from rfl)]
  refine wpAny_pure ?_
  have hn := Heap.get?_push_size ((s.heap.update it (Obj.mapFields (·.setIfInBounds 0 .none))).push { cls := .type "tuple", data := .seq ([] : List Value).toArray }) (o := { cls := .type "StopIteration", data := .fields (#[.ref (s.heap.update it (Obj.mapFields (·.setIfInBounds 0 .none))).objs.size, .none, .none, .none, .bool false, .none] ++ ownMembersOf (.type "StopIteration") []) }) rfl
  unfold updateField
  refine wpAny_bind (wpAny_bind (wpAny_load hn ?_))
  dsimp only
  rw [if_pos (by show 2 < 6; decide)]
  refine wpAny_update hn (wpAny_throw ?_)
  have hn' := Heap.get?_update_self (Obj.mapFields (·.setIfInBounds 2 (Value.ref e))) hn (Obj.isFreed_of_fields (Obj.data_mapFields rfl _))
  refine wpAny_bind (wpAny_isInstance (T := "StopIteration") (b := true) ⟨_, hn', Obj.cls_mapFields ..⟩ isSubtype_stop ?_)
  refine wpAny_pure (hQ _ ?_)
  have x1 := ((Heap.SameBut.update (h := s.heap) it (f := Obj.mapFields (·.setIfInBounds 0 .none))).extBut.push { cls := .type "tuple", data := .seq ([] : List Value).toArray }).push { cls := .type "StopIteration", data := .fields (#[.ref (s.heap.update it (Obj.mapFields (·.setIfInBounds 0 .none))).objs.size, .none, .none, .none, .bool false, .none] ++ ownMembersOf (.type "StopIteration") []) }
  intro b o hb ho
  have h3 := x1 b o hb ho
  rw [Heap.get?_update_other _ _ ?_]
  · exact h3
  · intro q
    have hlt := Heap.lt_size ho
    have e1 : (s.heap.update it (Obj.mapFields (·.setIfInBounds 0 .none))).objs.size = s.heap.objs.size := Heap.size_after_update ..
    have e2 : b = s.heap.objs.size + 1 := q.symm.trans (hs2.trans (congrArg (· + 1) e1))
    rw [e2] at hlt
    exact absurd hlt (Nat.not_lt.mpr (Nat.le_succ _))
end
section
variable {g : Gd} {clo : CloP} {F : List Addr} {ρ : List Addr} {σ : List Str} {st : St} {s : Shared} {A : Around} {E : Value → Shared → Prop}
theorem wk_true {i : Ix} {k : St → Bool} (h : st.wk i k = true) : st.isRo i = false ∧ k (st.kill i) = true := by
  unfold St.wk at h
  split at h
  · first | exact no_tt h | exact no_ns h | induction h
  · exact ⟨by assumption, h⟩
theorem Ext.kill {i : Ix} {b₀ : Ob} (hb : st.get i = some b₀) (h : ∀ C d, b₀ ≠ .exc C d) : Ext ρ σ st ρ σ (st.kill i) :=
  ⟨⟨[], by simp⟩, ⟨[], by simp⟩, rfl, rfl, rfl, fun j C d e => ⟨d, by rw [St.get_kill, if_neg]; exact e; rintro rfl; rw [hb] at e; exact h C d (Option.some.inj e), id⟩⟩
theorem small_nat {a b : Int} (h0 : 0 ≤ a) (h1 : a ≤ b) (h2 : b ≤ 1000000) : Builtin.Range.small a b 1 = true := small_one (by omega) (by omega) (by omega) (by omega)
noncomputable def NextPost (g : Gd) (clo : CloP) (F ρ : List Addr) (σ : List Str) (st : St) (k : Option AV → St → Bool) (Q : Option Value → Shared → Prop) : Prop :=
  (∀ st' s' v u, Ext ρ σ st ρ σ st' → Rel g clo F ρ σ st' s' → VR ρ σ v u → k (some v) st' = true → Q (some u) s') ∧
  (∀ st' s', Ext ρ σ st ρ σ st' → Rel g clo F ρ σ st' s' → k none st' = true → Q none s')
theorem KR.nth {kv : List (List Nat × AV)} {kvs : List (Str × Value)} {n : Nat} (h : KR ρ σ kv kvs) : (match Mine.nth (kv.map fun p => AV.str p.1) n with
    | some v => ∃ x y, kvs[n]? = some (x, y) ∧ ∀ t, VR ρ σ v (.str x t)
    | none => kvs[n]? = none) := by
  refine h.ind (P := fun kv kvs => ∀ n, (match Mine.nth (kv.map fun p => AV.str p.1) n with
    | some v => ∃ x y, kvs[n]? = some (x, y) ∧ ∀ t, VR ρ σ v (.str x t)
    | none => kvs[n]? = none)) (fun n => by cases n <;> rfl) (fun p v kv x u kvs h1 _ _ ih n => ?_) n
  cases n with
  | zero => exact ⟨x, u, rfl, fun t => ⟨_, t, h1, by rw [show strOf x.cps.toList = x from strOf_cps x]⟩⟩
  | succ n => exact ih n
set_option tactic.hygienic true in
theorem snd_next (O : g.Ok) (D : Hnd A ρ st) (Re : Rel g clo F ρ σ st s) {i : Nat} {a : Addr} {k : Option AV → St → Bool} {Q : Option Value → Shared → Prop} (hi : ρ[i]? = some a) (h : nextI i st k = true) (P : NextPost g clo F ρ σ st k Q) :
    wpAny (model g.prog g.w) A (pyNext (.ref a)) Q E s := by
  have theEnd : ∀ {b₀ : Ob}, st.get i = some b₀ → (∀ C d, b₀ ≠ .exc C d) → b₀.isNs = false → endI i st k = true → (∀ h', Heap.ExtBut a s.heap h' → Q none { s with heap := h' }) ∧ A.handled = none := fun hb hne hns h => by
    unfold endI at h
    split at h
    · first | exact no_tt h | exact no_ns h | induction h
    · rename_i hd
      obtain ⟨hro, hk⟩ := wk_true h
      exact ⟨fun h' hx => P.2 _ _ (Ext.kill hb hne) (Re.kill O hi hro hx hb (.inl hns) ⟨rfl, rfl, rfl⟩) hk, D.none hd⟩
  have upd : ∀ {b₀ b : Ob} {o' : Obj} {h' : Heap} {v : AV} {u : Value} {t : Nat}, st.get i = some b₀ → (∀ C d, b₀ ≠ .exc C d) → (∀ C d, b ≠ .exc C d) → b₀.isNs = false → st.wr i b (k (some v)) = true → Heap.SameBut a s.heap h' → h'.get? a = some o' → OR g clo ρ σ b o' → VR ρ σ v u → Q (some u) { s with heap := h', toks := t } :=
    fun hb hne hne' hns hw hs ho hr hv => by
      obtain ⟨hro, hk⟩ := wr_true hw
      exact P.1 _ _ _ _ (Ext.put' hb hne) (Re.same O hi hb hro hs ho hr (fun e => by rw [hns] at e; cases e) hne' _) hv hk
  unfold nextI at h
  induction hb : st.get i with
  | none => rw [hb] at h; exact no_tt h
  | some bi =>
  rw [hb] at h
  induction bi
  case itL j n =>
    dsimp only at h
    obtain ⟨o, ho, l, hl, hc, hd⟩ := Re.at hb hi
    have hit : s.heap.IsListIter a l n := ⟨o, ho, hc, hd⟩
    induction hj : st.get j with
    | none => rw [hj] at h; exact no_tt h
    | some bhj =>
    rw [hj] at h
    induction bhj <;> first | exact no_tt h | skip
    · rename_i vs
      dsimp only at h
      obtain ⟨xs, hx, r1⟩ := Re.list hj hl
      split at h
      · rename_i v hv
        obtain ⟨u, hu, hv⟩ := r1.nth hv
        refine wpAny_pyNext_list_item hit hx (by simpa using hu) fun h' hi' hs => ?_
        obtain ⟨o', ho', hc', hd'⟩ := hi'
        exact upd hb (fun _ _ e => by first | exact Ob.noConfusion e | induction e) (fun _ _ e => by first | exact Ob.noConfusion e | induction e) rfl h hs ho' ⟨l, hl, hc', hd'⟩ hv
      · rename_i hv
        have hu := r1.nthNone hv
        obtain ⟨hro, hk⟩ := wk_true h
        have fin : ∀ h', Heap.ExtBut a s.heap h' → Q none { s with heap := h' } := fun h' hx => P.2 _ _ (Ext.kill hb (fun _ _ e => by first | exact Ob.noConfusion e | induction e)) (Re.kill O hi hro hx hb (.inl rfl) ⟨rfl, rfl, rfl⟩) hk
        rcases D with D | ⟨_, i', C, d, e, he1, he2, he3⟩
        · exact wpAny_pyNext_list_end D hit hx (by simpa using hu) fin
        · obtain ⟨oe, ve, g1, g2, _, g4, _⟩ := Re.tr i' C d e he3 he2
          refine listEnd_held he1 ⟨oe, ve, g1, g2, g4⟩ (fun z => ?_) hit hx (by simpa using hu) fin
          subst z
          rcases Re.inj i i' a _ _ hi he2 hb he3 with w | ⟨w, _⟩
          · subst w; rw [hb] at he3; first | exact no_tt he3 | exact no_ns he3 | cases he3
          · rw [hro] at w; first | exact no_tt w | exact no_ns w | induction w
  case itT j n =>
    dsimp only at h
    obtain ⟨o, ho, l, hl, hc, hd⟩ := Re.at hb hi
    have hit : s.heap.IsTupleIter a l n := ⟨o, ho, hc, hd⟩
    induction hj : st.get j with
    | none => rw [hj] at h; exact no_tt h
    | some bhj =>
    rw [hj] at h
    induction bhj <;> first | exact no_tt h | skip
    · rename_i vs
      dsimp only at h
      obtain ⟨xs, hx, r1⟩ := Re.tup hj hl
      split at h
      · rename_i v hv
        obtain ⟨u, hu, hv⟩ := r1.nth hv
        refine wpAny_pyNext_tuple_item hit hx (by simpa using hu) fun h' hi' hs => ?_
        obtain ⟨o', ho', hc', hd'⟩ := hi'
        exact upd hb (fun _ _ e => by first | exact Ob.noConfusion e | induction e) (fun _ _ e => by first | exact Ob.noConfusion e | induction e) rfl h hs ho' ⟨l, hl, hc', hd'⟩ hv
      · rename_i hv
        have hu := r1.nthNone hv
        obtain ⟨fin, hd⟩ := theEnd hb (fun _ _ e => by first | exact Ob.noConfusion e | induction e) rfl h
        exact wpAny_pyNext_tuple_end hd hit hx (by simpa using hu) fin
  case itR x n =>
    dsimp only at h
    obtain ⟨o, ho, rfl⟩ := Re.at hb hi
    split at h
    · rename_i m
      refine wpAny_pyNext_range_item (x := x) (left := ((m + 1 : Nat) : Int)) (step := 1) ho (by omega) fun h' hi' hs => ?_
      have e : (((m + 1 : Nat) : Int) - 1) = ((m : Nat) : Int) := by omega
      rw [e] at hi'
      exact upd (b := .itR (x + 1) m) hb (fun _ _ e => by first | exact Ob.noConfusion e | induction e) (fun _ _ e => by first | exact Ob.noConfusion e | induction e) rfl h hs hi' rfl ⟨_, rfl⟩
    · obtain ⟨fin, hd⟩ := theEnd hb (fun _ _ e => by first | exact Ob.noConfusion e | induction e) rfl h
      exact wpAny_pyNext_range_end hd ho (by decide) fin
  case itV j n =>
    dsimp only at h
    obtain ⟨o, ho, l, hl, hc, hd⟩ := Re.at hb hi
    have hit : s.heap.IsRevIter a l n := ⟨o, ho, hc, hd⟩
    induction hj : st.get j with
    | none => rw [hj] at h; exact no_tt h
    | some bhj =>
    rw [hj] at h
    induction bhj <;> first | exact no_tt h | skip
    · rename_i vs
      dsimp only at h
      obtain ⟨xs, hx, r1⟩ := Re.list hj hl
      split at h
      · rename_i v hv
        obtain ⟨u, hu, hvr⟩ := r1.nth hv
        refine wpAny_pyNext_rev_item hit hx (by simpa using hu) fun h' hi' hs => ?_
        obtain ⟨o', ho', hc', hd'⟩ := hi'
        split at h
        · rename_i m
          exact upd (b := .itV j m) hb (fun _ _ e => by first | exact Ob.noConfusion e | induction e) (fun _ _ e => by first | exact Ob.noConfusion e | induction e) rfl h hs ho' ⟨l, hl, hc', by rw [hd', show (((m + 1 : Nat) : Int) - 1) = ((m : Nat) : Int) by omega]⟩ hvr
        · exact upd (b := .itVe) hb (fun _ _ e => by first | exact Ob.noConfusion e | induction e) (fun _ _ e => by first | exact Ob.noConfusion e | induction e) rfl h hs ho' ⟨l, hc', hd'⟩ hvr
      · first | exact no_tt h | exact no_ns h | induction h
  case itVe =>
    dsimp only at h
    obtain ⟨o, ho, l, hc, hd⟩ := Re.at hb hi
    obtain ⟨fin, hd'⟩ := theEnd hb (fun _ _ e => by first | exact Ob.noConfusion e | induction e) rfl h
    exact wpAny_pyNext_rev_end hd' ⟨o, ho, hc, hd⟩ fin
  case itD j n m ep =>
    dsimp only at h
    obtain ⟨o, ho, l, hl, hc, hd⟩ := Re.at hb hi
    induction hj : st.get j with
    | none => rw [hj] at h; exact no_tt h
    | some bhj =>
    rw [hj] at h
    induction bhj <;> first | exact no_tt h | skip
    · rename_i kv ep'
      dsimp only at h
      split at h
      · rename_i q
        rw [Bool.and_eq_true] at q
        have q1 := Nat.eq_of_beq_eq_true q.1
        have q2 := Nat.eq_of_beq_eq_true q.2
        subst q1 q2
        obtain ⟨od, hod, es, kvs, h1, h2, h3, h4, h5, h6⟩ := Re.at hj hl
        have hm : s.heap.DictAt g.knd l kvs ep := ⟨od, es, hod, h1, h2, h3, h4, h5⟩
        have hit : s.heap.IsKeyIter a l n kvs.length ep := ⟨o, ho, hc, by rw [h6.len]; exact hd⟩
        have hk := h6.nth (n := n)
        split at h
        · rename_i v hv
          rw [hv] at hk
          obtain ⟨x, y, e, hk⟩ := hk
          refine wpAny_pyNext_dict_item hit hm e fun key h' hkey hi' hs => ?_
          obtain ⟨t, rfl⟩ := Value.isStrOf_shape hkey
          obtain ⟨o', ho', hc', hd'⟩ := hi'
          exact upd (b := .itD j (n + 1) kv.length ep) hb (fun _ _ e => by first | exact Ob.noConfusion e | induction e) (fun _ _ e => by first | exact Ob.noConfusion e | induction e) rfl h hs ho' ⟨l, hl, hc', by rw [← h6.len]; exact hd'⟩ (hk t)
        · rename_i hv
          rw [hv] at hk
          obtain ⟨fin, hd'⟩ := theEnd hb (fun _ _ e => by first | exact Ob.noConfusion e | induction e) rfl h
          exact wpAny_pyNext_dict_end hd' hit hm hk fin
      · first | exact no_tt h | exact no_ns h | induction h
  all_goals exact no_tt h
set_option tactic.hygienic true in
theorem snd_iter (O : g.Ok) (Re : Rel g clo F ρ σ st s) {v : AV} {u : Value} {k : Ix → St → Bool} {Q : Value → Shared → Prop} (hv : VR ρ σ v u) (h : iterOf v st k = true)
    (P : ∀ ρ' st' s' i a, Ext ρ σ st ρ' σ st' → Rel g clo F ρ' σ st' s' → ρ'[i]? = some a → k i st' = true → Q (.ref a) s') : wpAny (model g.prog g.w) A (pyIter u) Q E s := by
  unfold iterOf at h
  induction v
  case ref j =>
    dsimp only at h
    obtain ⟨a, ha, rfl⟩ := hv
    have nw : ∀ {b : Ob} {o : Obj} (t : Nat), o.isFreed = false → OR g clo ρ σ b o → (∀ C d, b ≠ .exc C d) → k st.nx (st.new b) = true → Q (.ref s.heap.objs.size) { s with heap := s.heap.push o, toks := t } := fun {b o} t hf hr hne hk =>
      P _ _ _ _ _ (Re.extNew b s.heap.objs.size) (Re.pushO O hf hr hne t) (getElem?_push_last ρ _ Re.len) hk
    induction hj : st.get j with
    | none => rw [hj] at h; exact no_tt h
    | some bj =>
    rw [hj] at h
    induction bj
    case list l =>
      obtain ⟨xs, hx, r1⟩ := Re.list hj ha
      exact wpAny_pyIter_list hx (nw (b := .itL j 0) s.toks rfl ⟨a, ha, rfl, rfl⟩ (fun _ _ e => by first | exact Ob.noConfusion e | induction e) h)
    case tup l =>
      obtain ⟨xs, hx, r1⟩ := Re.tup hj ha
      exact wpAny_pyIter_tuple hx (nw (b := .itT j 0) s.toks rfl ⟨a, ha, rfl, rfl⟩ (fun _ _ e => by first | exact Ob.noConfusion e | induction e) h)
    case range x y =>
      induction x <;> first | exact no_tt h | skip
      induction y <;> first | exact no_tt h | skip
      rename_i x y
      dsimp only at h
      split at h
      · rename_i q
        rw [Bool.and_eq_true] at q
        have q1 := Nat.ble_eq.mp q.1
        have q2 := Nat.ble_eq.mp q.2
        obtain ⟨o, ho, t, t', t'', rfl⟩ := Re.at hj ha
        have hy : ((y : Nat) : Int) ≤ 1000000 := by omega
        have hx : ((x : Nat) : Int) ≤ (y : Int) := by omega
        have hsm : Builtin.Range.small (x : Int) (y : Int) 1 = true := small_nat (Int.natCast_nonneg x) hx hy
        refine wpAny_pyIter_range (a := (x : Int)) (b := (y : Int)) ho hsm (nw (b := .itR (Int.ofNat x) (y - x)) s.toks rfl ?_ (fun _ _ e => by first | exact Ob.noConfusion e | induction e) h)
        show _ = _
        have e : Builtin.Range.rangeSize (x : Int) (y : Int) 1 = ((y - x : Nat) : Int) := by
          rw [rangeSize_one]
          split <;> omega
        rw [e]; rfl
      · first | exact no_tt h | exact no_ns h | induction h
    case itV =>
      obtain ⟨o, ho, l, hl, hc, hd⟩ := Re.at hj ha
      exact wpAny_pyIter_revIter ⟨o, ho, hc, hd⟩ (P _ _ _ _ _ (Ext.refl ..) Re ha h)
    case itVe =>
      obtain ⟨o, ho, l, hc, hd⟩ := Re.at hj ha
      exact wpAny_pyIter_revIter ⟨o, ho, hc, hd⟩ (P _ _ _ _ _ (Ext.refl ..) Re ha h)
    case dict kv ep =>
      obtain ⟨o, ho, es, kvs, h1, h2, h3, h4, h5, h6⟩ := Re.at hj ha
      obtain ⟨_, hd⟩ := Re.dict O hj ha
      exact wpAny_pyIter_dict (knd := g.knd) hd ⟨o, es, ho, h1, h2, h3, h4, h5⟩ (nw (b := .itD j 0 kv.length ep) s.toks rfl ⟨a, ha, rfl, by rw [h6.len]; rfl⟩ (fun _ _ e => by first | exact Ob.noConfusion e | induction e) h)
    all_goals exact no_tt h
  all_goals exact no_tt h
end
end Mine
end
section
set_option genInjectivity false
set_option genSizeOf false
set_option tactic.hygienic false
open PySem PySem.W PySem.Calls PyProof.Rows PySem.SeqAt
set_option maxRecDepth 100000
namespace Mine
theorem Amb.le {g : Gd} {n m : Nat} {A : Around} {F : List Addr} {L : Addr} (h : Amb g n A F L) (q : m ≤ n) : Amb g m A F L := ⟨by have := h.room; omega, by have := h.units; omega, h.fr⟩
theorem Here.le {g : Gd} {n m : Nat} {cx : Cx} {A : Around} {F : List Addr} {env : Env} {L : Addr} (h : Here g n cx A F env L) (q : m ≤ n) : Here g m cx A F env L :=
  { h.toAmb.le q with glo := h.glo, bui := h.bui, kind := h.kind, frame := h.frame, cok := h.cok, loc := h.loc, cel := h.cel, ce1 := h.ce1, gim := h.gim, code := h.code }
theorem Here.units' {g : Gd} {n : Nat} {cx : Cx} {A : Around} {F : List Addr} {env : Env} {L : Addr} (h : Here g n cx A F env L) : A.units < cLine := by
  have := h.units
  show A.units < 9900
  omega
section
variable (g : Gd) (clo : CloP)
noncomputable def SndLp (R : Rn) (n : Nat) : Prop := ∀ m cx tg t body A F env L ρ σ st s k i a R', Here g n cx A F env L → EnvS g ρ st env → Hnd A ρ st → Rel g clo F ρ σ st s → tgOf cx tg = some t → ρ[i]? = some a →
  R.lp i t (body.map (compS m cx)) st k = true → PostF g clo F ρ σ st k (fun f s' => R' (.ok f) s') → codeAny (model g.prog g.w) A (.forLoop tg (.ref a) body [] env) R' s
noncomputable def SndLc (R : Rn) (n : Nat) : Prop := ∀ m cx elt tg t it ifs sc pos A F env L ρ σ st s k i a j b R', Here g n cx A F env L → EnvS g ρ st env → Hnd A ρ st → Rel g clo F ρ σ st s → tgOf cx tg = some t → ρ[i]? = some a → ρ[j]? = some b →
  R.lc i j (compE m cx elt) t (ifs.map (compE m cx)) st k = true → Post0 g clo F ρ σ st k (fun _ s' => R' (.ok .next) s') → codeAny (model g.prog g.w) A (.compLoop (.ListComp elt [⟨tg, it, ifs, 0⟩] sc pos) 0 (.ref a) (.ref b) env) R' s
noncomputable def SndDc (R : Rn) (n : Nat) : Prop := ∀ m cx ke ve tg t it ifs sc pos A F env L ρ σ st s k i a j b R', Here g n cx A F env L → EnvS g ρ st env → Hnd A ρ st → Rel g clo F ρ σ st s → tgOf cx tg = some t → ρ[i]? = some a → ρ[j]? = some b →
  R.dc i j (compE m cx ke) (compE m cx ve) t (ifs.map (compE m cx)) st k = true → Post0 g clo F ρ σ st k (fun _ s' => R' (.ok .next) s') → codeAny (model g.prog g.w) A (.compLoop (.DictComp ke ve [⟨tg, it, ifs, 0⟩] sc pos) 0 (.ref a) (.ref b) env) R' s
structure Snd (R : Rn) (n : Nat) : Prop where
  ev : SndE g clo R n
  tst : SndT g clo R n
  exs : SndS g clo R n
  call : SndC g clo R n
  lp : SndLp g clo R n
  lc : SndLc g clo R n
  dc : SndDc g clo R n
end
section
variable {g : Gd} {clo : CloP} {F : List Addr} {ρ : List Addr} {σ : List Str} {st : St} {s : Shared} {A : Around} {E : Value → Shared → Prop} {cx : Cx} {env : Env} {L : Addr} {n : Nat} {G : Glob}
theorem Hnd.extd {ρ' σ' st'} (D : Hnd A ρ st) (e : Ext ρ σ st ρ' σ' st') : Hnd A ρ' st' := D.ext e
set_option tactic.hygienic true in
theorem snd_own (Re : Rel g clo F ρ σ st s) {tg : Expr} {t : List Nat} {i : Nat} {a : Addr} {v : AV} {u : Value} {k : St → Bool} {Q : Unit → Shared → Prop} (ht : tgOf cx tg = some t) (hi : ρ[i]? = some a) (hk : tgI t i st = true) (hv : VR ρ σ v u) (hst : storeTg t v st k = true) (P : Q () s) :
    wpAny (model g.prog g.w) A (letOwnedTupleGo tg (.ref a) u) Q E s := by
  induction tg using PySem.Expr.casesOn
  case Name y py => exact wpAny_pure P
  case Tuple es x1 pos =>
    unfold tgOf at ht
    dsimp only at ht
    split at ht
    · rename_i e1 e2 r
      have hl := tgNames_len ht
      rcases t with _ | ⟨a1, _ | ⟨b1, t'⟩⟩
      · cases hl
      · cases hl
      · skip
        unfold tgI at hk
        dsimp only at hk
        unfold storeTg at hst
        split at hst
        · rename_i q; first | exact no_tt q | exact no_ns q | cases q
        · split at hst
          · obtain ⟨T, _, rfl⟩ := hv
            induction hb : st.get i with
            | none => rw [hb] at hk; exact no_tt hk
            | some b =>
              rw [hb] at hk
              induction b <;> first | exact no_tt hk | skip
              obtain ⟨o, ho, l, hl, hc, hd⟩ := Re.at hb hi
              exact wpAny_letOwnedTupleGo_listiter ⟨o, ho, hc, hd⟩ P
          · first | exact no_tt hst | exact no_ns hst | induction hst
    · first | exact no_tt ht | exact no_ns ht | induction ht
  all_goals exact no_ns ht
set_option tactic.hygienic true in
theorem snd_lp (O : g.Ok) {N : Nat} (S : ∀ m < N, Snd g clo (run G m) m) : SndLp g clo (run G N) N := by
  intro m cx tg t body A F env L ρ₀ σ₀ st₀ s₀ k i a R' H V D Re ht hi h P
  refine codeAny_forLoop_any (I := fun n s => n ≤ N ∧ ∃ ρ σ st, Ext ρ₀ σ₀ st₀ ρ σ st ∧ Rel g clo F ρ σ st s ∧ (run G n).lp i t (body.map (compS m cx)) st k = true) ?_ N ⟨Nat.le_refl _, ρ₀, σ₀, st₀, Ext.refl .., Re, h⟩
  rintro n s ⟨hn, ρ, σ, st, e, R, h⟩
  induction n with
  | zero => first | exact no_tt h | exact no_ns h | induction h
  | succ n =>
    have Sn := S n hn
    have Hn := H.le (m := n) (by omega)
    change lpS (run G n) i t (body.map (compS m cx)) st k = true at h
    unfold lpS at h
    refine snd_next O (D.ext e) R (e.at hi) h ⟨?_, ?_⟩
    · intro st' s' v u e' R1 hv hk
      have e2 := e.trans e'
      dsimp only at hk
      split at hk
      · first | exact no_tt hk | exact no_ns hk | induction hk
      · rename_i htg
        refine snd_own R1 ht (e.at hi) htg hv hk ?_
        refine snd_storeTg O Hn (V.ext e2) (D.ext e2) R1 ht hk hv ?_
        intro ρ3 σ3 st3 s3 e3 R3 hk3
        have e4 := e2.trans e3
        refine Sn.exs m cx body A F env L _ _ _ _ _ _ _ _ Hn (V.ext e4) (D.ext e4) R3 hk3 ?_ PostX.no
        intro ρ5 σ5 st5 s5 fl f e5 R5 hf hk5
        have e6 := e4.trans e5
        induction fl with
        | next =>
          cases hf
          exact ⟨n, Nat.lt_succ_self n, by omega, ρ5, σ5, st5, e6, R5, hk5⟩
        | cont =>
          cases hf
          exact ⟨n, Nat.lt_succ_self n, by omega, ρ5, σ5, st5, e6, R5, hk5⟩
        | ret w =>
          obtain ⟨u', rfl, hw⟩ := hf
          exact P ρ5 σ5 st5 s5 (.ret w) (.ret u') e6 R5 ⟨u', rfl, hw⟩ hk5
    · intro st' s' e' R1 hk
      exact wpAny_execs_nil (P _ _ _ _ .next .next (e.trans e') R1 rfl hk)
end
end Mine
end
section
set_option genInjectivity false
set_option genSizeOf false
set_option tactic.hygienic false
open PySem PySem.W PySem.Calls PyProof.Rows PySem.SeqAt
set_option maxRecDepth 100000
namespace Mine
section
variable {prog : Program} {w : World} {A : Around} {E : Value → Shared → Prop} {R : Result → Shared → Prop} {s : Shared} {env : Env}
noncomputable abbrev testsOf (ifs : List Expr) (b : Bool) (env : Env) : Sem Bool := forIn ifs b fun c r => if r = true then do let ok ← isTrue c env (eval c env); pure (ForInStep.yield ok) else pure (ForInStep.yield r)
theorem tests_false {Q : Bool → Shared → Prop} (h : Q false s) : ∀ ifs : List Expr, wpAny (model prog w) A (testsOf ifs false env) Q E s
  | [] => wpAny_pure h
  | c :: r => by
    unfold testsOf
    rw [List.forIn_cons]
    exact wpAny_bind (wpAny_pure (tests_false h r))
theorem tests_cons {c : Expr} {r : List Expr} {Q : Bool → Shared → Prop} (h : wpAny (model prog w) A (isTrue c env (eval c env)) (fun b s₁ => if b = true then wpAny (model prog w) A (testsOf r true env) Q E s₁ else Q false s₁) E s) :
    wpAny (model prog w) A (testsOf (c :: r) true env) Q E s := by
  unfold testsOf
  rw [List.forIn_cons]
  refine wpAny_bind (wpAny_bind (wpAny_mono h (fun b s₁ h₁ => wpAny_pure ?_) fun _ _ x => x))
  induction b with
  | true => exact h₁
  | false => exact tests_false h₁ r
theorem compLoop_listAny {elt target iter : Expr} {ifs : List Expr} {scope : Scope} {pos : Pos} {it acc : Value} (I : Nat → Shared → Prop)
    (turn : ∀ n s, I n s → wpAny (model prog w) A (pyNext it) (fun r s₁ => match r with
      | none => R (.ok .next) s₁
      | some v => wpAny (model prog w) A (letOwnedTupleGo target it v) (fun _ s₁' => wpAny (model prog w) A (assign target env v) (fun _ s₂ =>
          wpAny (model prog w) A (testsOf ifs true env) (fun ok s₃ =>
            if ok = true then wpAny (model prog w) A (eval elt env) (fun x s₄ =>
              wpAny (model prog w) A (call (.builtin "list.append") [acc, x]) (fun _ s₅ => ∃ m, m < n ∧ I m s₅) (notedBy (model prog w) A env fun e s' => R (.error e) s') s₄) (notedBy (model prog w) A env fun e s' => R (.error e) s') s₃
            else ∃ m, m < n ∧ I m s₃) (notedBy (model prog w) A env fun e s' => R (.error e) s') s₂) (notedBy (model prog w) A env fun e s' => R (.error e) s') s₁') (notedBy (model prog w) A env fun e s' => R (.error e) s') s₁) (notedBy (model prog w) A env fun e s' => R (.error e) s') s)
    (n : Nat) (h : I n s) : codeAny (model prog w) A (.compLoop (.ListComp elt [⟨target, iter, ifs, 0⟩] scope pos) 0 it acc env) R s := by
  refine codeAny_loop rfl I (fun n s hI => ?_) n h
  show wpAny _ A ((compTurn (.ListComp elt [⟨target, iter, ifs, 0⟩] scope pos) 0 it acc env).onRaise (fun x => do noteFrame x env; theTreesLotGoes x)) _ _ s
  refine wpAny_noted ?_
  rw [compTurn_list]
  refine wpAny_bind (wpAny_standAt (wpAny_bind (wpAny_mono (turn n s hI) (fun r s₁ h₁ => ?_) fun _ _ h' => h')))
  induction r with
  | none => exact wpAny_pure h₁
  | some v =>
    refine wpAny_bind (wpAny_mono h₁ (fun _ s₁' h₁' => ?_) fun _ _ h' => h')
    refine wpAny_bind (wpAny_mono h₁' (fun _ s₂ h₂ => wpAny_bind (wpAny_mono h₂ (fun ok s₃ h₃ => ?_) fun _ _ h' => h')) fun _ _ h' => h')
    induction ok with
    | false => exact wpAny_pure ⟨rfl, h₃⟩
    | true =>
      exact wpAny_bind (wpAny_bind (wpAny_mono h₃ (fun x s₄ h₄ => wpAny_bind (wpAny_mono h₄ (fun _ s₅ h₅ => wpAny_pure (wpAny_pure ⟨rfl, h₅⟩)) fun _ _ h' => h')) fun _ _ h' => h'))
theorem compLoop_dictAny {kx vx target iter : Expr} {ifs : List Expr} {scope : Scope} {pos : Pos} {it : Value} {D : Addr} (I : Nat → Shared → Prop)
    (turn : ∀ n s, I n s → wpAny (model prog w) A (pyNext it) (fun r s₁ => match r with
      | none => R (.ok .next) s₁
      | some v => wpAny (model prog w) A (letOwnedTupleGo target it v) (fun _ s₁' => wpAny (model prog w) A (assign target env v) (fun _ s₂ =>
          wpAny (model prog w) A (testsOf ifs true env) (fun ok s₃ =>
            if ok = true then wpAny (model prog w) A (eval kx env) (fun kv s₄ => wpAny (model prog w) A (eval vx env) (fun vv s₅ =>
              wpAny (model prog w) A (dictSet D kv vv) (fun _ s₆ => ∃ m, m < n ∧ I m s₆) (notedBy (model prog w) A env fun e s' => R (.error e) s') s₅) (notedBy (model prog w) A env fun e s' => R (.error e) s') s₄) (notedBy (model prog w) A env fun e s' => R (.error e) s') s₃
            else ∃ m, m < n ∧ I m s₃) (notedBy (model prog w) A env fun e s' => R (.error e) s') s₂) (notedBy (model prog w) A env fun e s' => R (.error e) s') s₁') (notedBy (model prog w) A env fun e s' => R (.error e) s') s₁) (notedBy (model prog w) A env fun e s' => R (.error e) s') s)
    (n : Nat) (h : I n s) : codeAny (model prog w) A (.compLoop (.DictComp kx vx [⟨target, iter, ifs, 0⟩] scope pos) 0 it (.ref D) env) R s := by
  refine codeAny_loop rfl I (fun n s hI => ?_) n h
  show wpAny _ A ((compTurn (.DictComp kx vx [⟨target, iter, ifs, 0⟩] scope pos) 0 it (.ref D) env).onRaise (fun x => do noteFrame x env; theTreesLotGoes x)) _ _ s
  refine wpAny_noted ?_
  rw [compTurn_dict]
  refine wpAny_bind (wpAny_standAt (wpAny_bind (wpAny_mono (turn n s hI) (fun r s₁ h₁ => ?_) fun _ _ h' => h')))
  induction r with
  | none => exact wpAny_pure h₁
  | some v =>
    refine wpAny_bind (wpAny_mono h₁ (fun _ s₁' h₁' => ?_) fun _ _ h' => h')
    refine wpAny_bind (wpAny_mono h₁' (fun _ s₂ h₂ => wpAny_bind (wpAny_mono h₂ (fun ok s₃ h₃ => ?_) fun _ _ h' => h')) fun _ _ h' => h')
    induction ok with
    | false => exact wpAny_pure ⟨rfl, h₃⟩
    | true =>
      exact wpAny_bind (wpAny_bind (wpAny_mono h₃ (fun kv s₄ h₄ => wpAny_bind (wpAny_holding (wpAny_mono h₄ (fun vv s₅ h₅ => wpAny_bind (wpAny_standAt (wpAny_holding (wpAny_mono h₅ (fun _ s₆ h₆ => wpAny_pure ⟨rfl, h₆⟩) fun _ _ h' => h')))) fun _ _ h' => h'))) fun _ _ h' => h'))
end
section
variable {g : Gd} {clo : CloP} {F : List Addr} {A : Around} {E : Value → Shared → Prop} {cx : Cx} {env : Env} {L : Addr} {n : Nat} {R : Rn} {G : Glob}
theorem snd_ifs (S : Snd g clo R n) (m : Nat) (H : Here g n cx A F env L) : ∀ (ifs : List Expr) {ρ : List Addr} {σ : List Str} {st : St} {s : Shared} {k : Bool → St → Bool} {Q : Bool → Shared → Prop}, EnvS g ρ st env → Hnd A ρ st → Rel g clo F ρ σ st s →
    ifsT R (ifs.map (compE m cx)) st k noX = true → PostB g clo F ρ σ st k Q → wpAny (model g.prog g.w) A (testsOf ifs true env) Q E s
  | [], ρ, σ, st, s, k, Q, _, _, Re, h, P => wpAny_pure (P _ _ _ _ _ (Ext.refl ..) Re h)
  | c :: r, ρ, σ, st, s, k, Q, V, D, Re, h, P => by
    refine tests_cons (S.tst m cx c A F env L _ _ _ _ _ _ _ _ H V D Re h ?_ PostX.no)
    intro ρ' σ' st' s' b e R' hk
    dsimp only at hk
    induction b with
    | true => rw [if_pos rfl]; exact snd_ifs S m H r (V.ext e) (D.ext e) R' hk (P.ext e)
    | false => rw [if_neg (by decide)]; exact P _ _ _ _ _ e R' hk
set_option tactic.hygienic true in
theorem snd_lc (O : g.Ok) {N : Nat} (S : ∀ m < N, Snd g clo (run G m) m) : SndLc g clo (run G N) N := by
  intro m cx elt tg t it ifs sc pos A F env L ρ₀ σ₀ st₀ s₀ k i a j b R' H V D Re ht hi hj h P
  refine compLoop_listAny (I := fun n s => n ≤ N ∧ ∃ ρ σ st, Ext ρ₀ σ₀ st₀ ρ σ st ∧ Rel g clo F ρ σ st s ∧ (run G n).lc i j (compE m cx elt) t (ifs.map (compE m cx)) st k = true) ?_ N ⟨Nat.le_refl _, ρ₀, σ₀, st₀, Ext.refl .., Re, h⟩
  rintro n s ⟨hn, ρ, σ, st, e, R, h⟩
  induction n with
  | zero => first | exact no_tt h | exact no_ns h | induction h
  | succ n =>
    have Sn := S n hn
    have Hn := H.le (m := n) (by omega)
    change lcS (run G n) i j (compE m cx elt) t (ifs.map (compE m cx)) st k = true at h
    unfold lcS at h
    refine snd_next O (D.ext e) R (e.at hi) h ⟨?_, ?_⟩
    · intro st' s' v u e' R1 hv hk
      have e2 := e.trans e'
      dsimp only at hk
      split at hk
      · first | exact no_tt hk | exact no_ns hk | induction hk
      · rename_i htg
        refine snd_own R1 ht (e.at hi) htg hv hk ?_
        refine snd_storeTg O Hn (V.ext e2) (D.ext e2) R1 ht hk hv ?_
        intro ρ3 σ3 st3 s3 e3 R3 hk3
        have e4 := e2.trans e3
        refine snd_ifs Sn m Hn ifs (V.ext e4) (D.ext e4) R3 hk3 ?_
        intro ρ5 σ5 st5 s5 ok e5 R5 hk5
        have e6 := e4.trans e5
        dsimp only at hk5
        induction ok with
        | false =>
          rw [if_neg (by decide)]
          exact ⟨n, Nat.lt_succ_self n, by omega, ρ5, σ5, st5, e6, R5, hk5⟩
        | true =>
          rw [if_pos rfl]
          change emitL (run G n) j (compE m cx elt) st5 _ = true at hk5
          unfold emitL at hk5
          refine Sn.ev m cx elt A F env L _ _ _ _ _ _ _ _ Hn (V.ext e6) (D.ext e6) R5 hk5 ?_ PostX.no
          intro ρ7 σ7 st7 s7 v7 u7 e7 R7 hv7 hk7
          have e8 := e6.trans e7
          dsimp only at hk7
          split at hk7
          · rename_i l hl
            split at hk7
            · rename_i ok
              have hap : appB [.ref j, v7] st7 (fun _ st => (run G n).lc i j (compE m cx elt) t (ifs.map (compE m cx)) st k) = true := by
                unfold appB
                dsimp only
                rw [hl]
                dsimp only
                rw [ok]
                exact hk7
              refine snd_append O R7 hap ⟨⟨b, e8.at hj, rfl⟩, hv7, trivial⟩ ?_
              intro ρ9 σ9 st9 s9 _ _ e9 R9 _ hk9
              exact ⟨n, Nat.lt_succ_self n, by omega, ρ9, σ9, st9, e8.trans e9, R9, hk9⟩
            · first | exact no_tt hk7 | exact no_ns hk7 | induction hk7
          · first | exact no_tt hk7 | exact no_ns hk7 | induction hk7
    · intro st' s' e' R1 hk
      exact P _ _ _ _ (e.trans e') R1 hk
set_option tactic.hygienic true in
theorem snd_dictSet (O : g.Ok) {ρ : List Addr} {σ : List Str} {st : St} {s : Shared} {j : Nat} {b : Addr} {i v : AV} {ui u : Value} {k : St → Bool} {Q : Unit → Shared → Prop} (Re : Rel g clo F ρ σ st s) (hj : ρ[j]? = some b) (h : setSub (.ref j) i v st k = true) (hd : ∃ kv ep, st.get j = some (.dict kv ep)) (hi : VR ρ σ i ui) (hv : VR ρ σ v u)
    (P : Post0 g clo F ρ σ st k Q) : wpAny (model g.prog g.w) A (dictSet b ui u) Q E s := by
  obtain ⟨kv, ep, hjj⟩ := hd
  unfold setSub at h
  dsimp only at h
  rw [hjj] at h
  dsimp only at h
  split at h
  · rename_i p
    split at h
    · rename_i l' hle hput
      have hle := Nat.ble_eq.mp hle
      obtain ⟨hro, hk⟩ := wr_true h
      obtain ⟨l, t, hp, rfl⟩ := hi
      obtain ⟨o, ho, es, kvs, h1, h2, h3, h4, h5, h6⟩ := Re.at hjj hj
      obtain ⟨hr, hlen⟩ := h6.put hp hv h5 hput
      refine dictSet_at (knd := g.knd) (ep := ep) (strKind_is ..) ⟨o, es, ho, h1, h2, h3, h4, h5⟩ (fun h' hm hs => ?_) (by rw [h6.len, sizeLine_eq]; omega)
      obtain ⟨o', es', ho', g1, g2, g3, g4, g5⟩ := hm
      have eep : epO l'.length kv.length ep = (if kvs.any (fun x => x.1 = strOf l) then ep else ep + 1) := by
        by_cases q : l'.length = kv.length
        · rw [if_pos (hlen.mp q)]; unfold epO; rw [q, Nat.beq_refl]
        · rw [if_neg (fun z => q (hlen.mpr z))]; unfold epO; rw [show Nat.beq l'.length kv.length = false from Bool.eq_false_iff.mpr fun z => q (Nat.eq_of_beq_eq_true z)]
      exact P _ _ _ _ (Ext.put' hjj (fun _ _ e => by first | exact Ob.noConfusion e | cases e)) (Re.same O hj hjj hro hs ho' (b := .dict l' _) ⟨es', _, g1, by rw [eep]; exact g2, g3, g4, g5, hr⟩ (fun e => by cases e) (fun _ _ e => by first | exact Ob.noConfusion e | cases e) _) hk
    · first | exact no_tt h | exact no_ns h | induction h
  · first | exact no_tt h | exact no_ns h | induction h
set_option tactic.hygienic true in
theorem snd_dc (O : g.Ok) {N : Nat} (S : ∀ m < N, Snd g clo (run G m) m) : SndDc g clo (run G N) N := by
  intro m cx ke ve tg t it ifs sc pos A F env L ρ₀ σ₀ st₀ s₀ k i a j b R' H V D Re ht hi hj h P
  refine compLoop_dictAny (I := fun n s => n ≤ N ∧ ∃ ρ σ st, Ext ρ₀ σ₀ st₀ ρ σ st ∧ Rel g clo F ρ σ st s ∧ (run G n).dc i j (compE m cx ke) (compE m cx ve) t (ifs.map (compE m cx)) st k = true) ?_ N ⟨Nat.le_refl _, ρ₀, σ₀, st₀, Ext.refl .., Re, h⟩
  rintro n s ⟨hn, ρ, σ, st, e, R, h⟩
  induction n with
  | zero => first | exact no_tt h | exact no_ns h | induction h
  | succ n =>
    have Sn := S n hn
    have Hn := H.le (m := n) (by omega)
    change dcS (run G n) i j (compE m cx ke) (compE m cx ve) t (ifs.map (compE m cx)) st k = true at h
    unfold dcS at h
    refine snd_next O (D.ext e) R (e.at hi) h ⟨?_, ?_⟩
    · intro st' s' v u e' R1 hv hk
      have e2 := e.trans e'
      dsimp only at hk
      split at hk
      · first | exact no_tt hk | exact no_ns hk | induction hk
      · rename_i htg
        refine snd_own R1 ht (e.at hi) htg hv hk ?_
        refine snd_storeTg O Hn (V.ext e2) (D.ext e2) R1 ht hk hv ?_
        intro ρ3 σ3 st3 s3 e3 R3 hk3
        have e4 := e2.trans e3
        refine snd_ifs Sn m Hn ifs (V.ext e4) (D.ext e4) R3 hk3 ?_
        intro ρ5 σ5 st5 s5 ok e5 R5 hk5
        have e6 := e4.trans e5
        dsimp only at hk5
        induction ok with
        | false =>
          rw [if_neg (by decide)]
          exact ⟨n, Nat.lt_succ_self n, by omega, ρ5, σ5, st5, e6, R5, hk5⟩
        | true =>
          rw [if_pos rfl]
          change emitD (run G n) j (compE m cx ke) (compE m cx ve) st5 _ = true at hk5
          unfold emitD at hk5
          refine Sn.ev m cx ke A F env L _ _ _ _ _ _ _ _ Hn (V.ext e6) (D.ext e6) R5 hk5 ?_ PostX.no
          intro ρ7 σ7 st7 s7 v7 u7 e7 R7 hv7 hk7
          have e8 := e6.trans e7
          refine Sn.ev m cx ve A F env L _ _ _ _ _ _ _ _ Hn (V.ext e8) (D.ext e8) R7 hk7 ?_ PostX.no
          intro ρ9 σ9 st9 s9 v9 u9 e9 R9 hv9 hk9
          have e10 := e8.trans e9
          dsimp only at hk9
          split at hk9
          · rename_i kv ep hjj
            refine snd_dictSet O R9 (e10.at hj) hk9 ⟨kv, ep, hjj⟩ (e9.vr hv7) hv9 ?_
            intro ρ11 σ11 st11 s11 e11 R11 hk11
            exact ⟨n, Nat.lt_succ_self n, by omega, ρ11, σ11, st11, e10.trans e11, R11, hk11⟩
          · first | exact no_tt hk9 | exact no_ns hk9 | induction hk9
    · intro st' s' e' R1 hk
      exact P _ _ _ _ (e.trans e') R1 hk
end
end Mine
end
section
set_option genInjectivity false
set_option genSizeOf false
set_option tactic.hygienic false
open PySem PySem.W PySem.Calls PyProof.Rows PySem.SeqAt
set_option maxRecDepth 100000
namespace Mine
structure ExOk (g : Gd) (C : Addr) (c : Cl) : Prop where
  ga : findIn g.K (.ref C) "__getattribute__" = some (some (.builtin "BaseException.__getattribute__"))
  gh : findIn g.K (.ref C) "__getattr__" = some none
  hd : hasDictIn g.K C = true
  fl : ∀ n, hasN c.flds n = true → findIn g.K (.ref C) (g.nm n) = some none
  sa : findIn g.K (.ref C) "__setattr__" = some (some (.builtin "object.__setattr__"))
  ov : overOk g.K C = true
  mb : mroIn g.K C (.type "BaseException") = some true
  tt : typeIn g.K (.ref C) = some (.type "type")
  xt : instIn g.K (.ref C) (.type "tuple") = some false
  xc : (clsIn g.K C).isSome = true
structure GOk (g : Gd) (G : Glob) : Prop where
  pl : ∀ C c, G.cl C = some c → c.exc = false → PlOk g C c
  ex : ∀ C c, G.cl C = some c → c.exc = true → ExOk g C c
  xs : ∀ C c, isExc G C = true → isExc G c = true → mroIn g.K C (.ref c) = some (Nat.beq C c)
  kt : keepIn g.K (.ref G.take) = true
  kf : ∀ a f, a < 100000 → G.fn a = some f → keepIn g.K (.ref a) = true
  kc : ∀ a c, a < 100000 → G.cl a = some c → keepIn g.K (.ref a) = true
  isi : ∀ C c cc cd, G.cl C = some cc → cc.exc = false → G.cl c = some cd → IsOk g C c
inductive FldOk (G : Glob) (x : Bool) (C n : Nat) : Prop where
  | mk (c : Cl) (h1 : G.cl C = some c) (h2 : c.exc = x) (h3 : hasN c.flds n = true)
set_option tactic.hygienic true in
theorem fld_some {G : Glob} {x : Bool} {C n : Nat} (h : G.fld x C n = true) : FldOk G x C n := by
  unfold Glob.fld at h
  split at h
  · rename_i c hc
    split at h
    · rename_i q
      rw [eqB_ok] at q
      exact ⟨c, hc, by simpa using q, h⟩
    · first | exact no_tt h | exact no_ns h | induction h
  · first | exact no_tt h | exact no_ns h | induction h
section
variable {m : Nat} {cx : Cx}
theorem compE_Constant {c kd p} : compE (m + 1) cx (.Constant c kd p) = (match constAV c with | some v => .k v | none => .bad) := rfl
theorem compE_Name {x p} : compE (m + 1) cx (.Name x p) = nameE cx x := rfl
theorem compE_And {vs p} : compE (m + 1) cx (.BoolOp .And vs p) = .bool true (vs.map (compE m cx)) := rfl
theorem compE_Or {vs p} : compE (m + 1) cx (.BoolOp .Or vs p) = .bool false (vs.map (compE m cx)) := rfl
theorem compE_BinOp {a op b p} : compE (m + 1) cx (.BinOp a op b p) = .bin (binN op) (compE m cx a) (compE m cx b) := rfl
theorem compE_Not {a p} : compE (m + 1) cx (.UnaryOp .Not a p) = .notE (compE m cx a) := rfl
theorem compE_USub {a p} : compE (m + 1) cx (.UnaryOp .USub a p) = .neg (compE m cx a) := rfl
theorem compE_List {es p} : compE (m + 1) cx (.List es p) = (match plainArgs es with | true => .list (es.map (compE m cx)) | false => .bad) := rfl
theorem compE_Tuple {es k p} : compE (m + 1) cx (.Tuple es k p) = (match plainArgs es with | true => .tup (es.map (compE m cx)) | false => .bad) := rfl
theorem compE_Compare {a op b p} : compE (m + 1) cx (.Compare a [op] [b] p) = (match behindInMarks op b with | false => .cmp (cmpN op) (compE m cx a) (compE m cx b) | true => .bad) := rfl
theorem compE_Attribute {o a p} : compE (m + 1) cx (.Attribute o a p) = (match cx.id a, notSuper o with | some m', true => .attr (compE m cx o) m' | _, _ => .bad) := rfl
end
set_option tactic.hygienic true in
theorem notSuper_base {o : Expr} {attr : Str} {env : Env} (h : notSuper o = true) (whole : Sem Value) : attributeBase o attr env whole = whole := by
  induction o using PySem.Expr.casesOn
  case Call f as ks p => cases f <;> first | rfl | (cases as <;> first | rfl | (cases ks <;> first | rfl | exact no_tt h))
  all_goals rfl
section
variable {g : Gd} {clo : CloP} {F : List Addr} {ρ : List Addr} {σ : List Str} {st : St} {s : Shared} {A : Around} {E : Value → Shared → Prop} {cx : Cx} {env : Env} {L : Addr} {n : Nat} {R : Rn} {G : Glob}
theorem evs_res (Re : Rel g clo F ρ σ st s) {k : KV} {Q : Value → Shared → Prop} {u : Value} {v : AV} (hv : VR ρ σ v u) (h : k v st = true) (P : PostV g clo F ρ σ st k Q) (t : Nat) : Q u { s with toks := t } :=
  P ρ σ st _ v u (Ext.refl ..) (Re.toks t) hv h
set_option tactic.hygienic true in
theorem snd_name (O : g.Ok) (H : Here g n cx A F env L) (V : EnvS g ρ st env) (Re : Rel g clo F ρ σ st s) {x : Str} {p : Pos} {k : KV} {xx : KX} {Q : Value → Shared → Prop} (h : evE G R (nameE cx x) st k xx = true) (P : PostV g clo F ρ σ st k Q) :
    wpAny (model g.prog g.w) A (eval (.Name x p) env) Q E s := by
  unfold nameE at h
  split at h
  · first | exact no_tt h | exact no_ns h | induction h
  · rename_i hx
    rw [Bool.or_eq_false_iff] at hx
    split at h
    · rename_i hk
      split at h
      · rename_i i hi
        change (match st.get st.loc with | some (.ns fs) => (match look fs i with | some v => k v st | none => false) | _ => false) = true at h
        induction hf : st.get st.loc with
        | none => rw [hf] at h; exact no_tt h
        | some bhf =>
        rw [hf] at h
        induction bhf <;> first | exact no_tt h | skip
        · rename_i fs
          dsimp only at h
          split at h
          · rename_i v hv
            exact wpAny_Name (snd_loc Re H V hk hi hf hv fun u r => P _ _ _ s v u (Ext.refl ..) Re r h) hx.1
          · first | exact no_tt h | exact no_ns h | induction h
      · first | exact no_tt h | exact no_ns h | induction h
    · rename_i hk
      split at h
      · rename_i i hi
        change (match lookI st.cel i with | some c => (match st.get c with | some (.cell (some v)) => k v st | _ => false) | none => false) = true at h
        split at h
        · rename_i c hc
          induction hv : st.get c with
          | none => rw [hv] at h; exact no_tt h
          | some bv =>
          rw [hv] at h
          induction bv <;> first | exact no_tt h | skip
          rename_i ov
          induction ov <;> first | exact no_tt h | skip
          · rename_i v
            dsimp only at h
            exact wpAny_Name (snd_cel Re H V (.inl hk) hi hc hv hx.2 fun u r => P _ _ _ s v u (Ext.refl ..) Re r h) hx.1
        · first | exact no_tt h | exact no_ns h | induction h
      · first | exact no_tt h | exact no_ns h | induction h
    · rename_i hk
      split at h
      · rename_i i hi
        change (match lookI st.cel i with | some c => (match st.get c with | some (.cell (some v)) => k v st | _ => false) | none => false) = true at h
        split at h
        · rename_i c hc
          induction hv : st.get c with
          | none => rw [hv] at h; exact no_tt h
          | some bv =>
          rw [hv] at h
          induction bv <;> first | exact no_tt h | skip
          rename_i ov
          induction ov <;> first | exact no_tt h | skip
          · rename_i v
            dsimp only at h
            exact wpAny_Name (snd_cel Re H V (.inr hk) hi hc hv hx.2 fun u r => P _ _ _ s v u (Ext.refl ..) Re r h) hx.1
        · first | exact no_tt h | exact no_ns h | induction h
      · first | exact no_tt h | exact no_ns h | induction h
    · rename_i hk
      split at h
      · rename_i v hv
        exact snd_glob O Re H hk hv hx.1 fun u r => P _ _ _ s v u (Ext.refl ..) Re r h
      · first | exact no_tt h | exact no_ns h | induction h
    · first | exact no_tt h | exact no_ns h | induction h
set_option tactic.hygienic true in
theorem snd_attr (O : g.Ok) (GO : GOk g G) (Re : Rel g clo F ρ σ st s) {v : AV} {u : Value} {m : Nat} {k : KV} {Q : Value → Shared → Prop} (hv : VR ρ σ v u) (h : evAttr G v m st k = true) (P : PostV g clo F ρ σ st k Q) {ex : Bool}
    (X : ∀ i C d fs w a, v = .ref i → st.get i = some (.exc C (some d)) → G.fld true C m = true → st.get (d / 2) = some (.idict fs) → look fs m = some w → ρ[i]? = some a → (∀ u t, VR ρ σ w u → Q u { s with toks := t }) → wpAny (model g.prog g.w) A (getAttr (.ref a) (g.nm m) ex) Q E s) :
    wpAny (model g.prog g.w) A (getAttr u (g.nm m) ex) Q E s := by
  unfold evAttr at h
  induction v <;> first | exact no_tt h | skip
  · rename_i i
    dsimp only at h
    obtain ⟨a, ha, rfl⟩ := hv
    split at h
    · rename_i w hw
      have fin : ∀ u t, VR ρ σ w u → Q u { s with toks := t } := fun u t r => P _ _ _ _ w u (Ext.refl ..) (Re.toks t) r h
      unfold fieldOf at hw
      induction hi : st.get i with
      | none => rw [hi] at hw; exact no_ns hw
      | some bi =>
      rw [hi] at hw
      induction bi <;> first | exact no_ns hw | skip
      · rename_i C d
        dsimp only at hw
        split at hw
        · rename_i fs hf hd
          obtain ⟨c, hc, hx, hn⟩ := fld_some hf
          exact snd_attr_inst O (GO.pl C c hc hx) Re hi hd ha hn hw fin
        · first | exact no_tt hw | exact no_ns hw | induction hw
      · rename_i C od
        induction od <;> first | exact no_ns hw | skip
        rename_i d
        dsimp only at hw
        split at hw
        · rename_i fs hf hd
          exact X i C d fs w a rfl hi hf hd hw ha fin
        · first | exact no_tt hw | exact no_ns hw | induction hw
    · first | exact no_tt h | exact no_ns h | induction h
end
end Mine
end
section
set_option genInjectivity false
set_option genSizeOf false
set_option tactic.hygienic false
open PySem PySem.W PySem.Calls PyProof.Rows PySem.SeqAt Builtin
set_option maxRecDepth 100000
namespace Mine
theorem slotArgs1 (x n : Value) : slotArgs "__getattribute__" 1 ⟨[x, n], []⟩ = pure (x, [n]) := by kernel_rfl
theorem attrName1 (n : Str) (t : Tok) : ObjectAttr.attrName (.str n t) = pure n := by kernel_rfl
theorem noHook (C : Addr) : (onTheHeap (.ref C) && (Value.builtin "BaseException.__getattribute__" == .builtin "object.__getattribute__")) = false := by kernel_rfl
section
variable {prog : Program} {w : World} {A : Around} {s : Shared} {K : Frag} {E : Value → Shared → Prop}
theorem exc_ga {x C : Addr} {ox : Obj} {od : Option Obj} {name : Str} {tk : Tok} {v : Value} {R : Result → Shared → Prop} (X : K.In s.heap) (I : InstAt s.heap x ox C od)
    (hm : mroIn K C (.type "BaseException") = some true) (hf : findObj K C od name = some (.value v))
    (h : R (.ok (.ret v)) s) : codeAny (model prog w) A (.call (.builtin "BaseException.__getattribute__") ⟨[.ref x, .str name tk], []⟩) R s := by
  have sub : Looks (model prog w) s.heap (isInstance (.ref x) (.type "BaseException")) true := I.type.andThen (looks_mroIn X hm)
  refine codeAny_call_builtin PySem.F.attr_Exception.ga.plain PySem.F.entry_bexc_ga (@check_slot (model prog w) _ _ s "BaseException.__getattribute__" "BaseException" "__getattribute__" (.ref x) [.str name tk] [] _ (by decide +kernel) (by decide +kernel) sub (PySem.F.args_bexc_ga _ _) ?_)
  unfold Builtin.«object.__getattribute__»
  rw [slotArgs1]
  refine wpAny_bind (wpAny_pure ?_)
  dsimp only
  rw [attrName1]
  refine wpAny_bind (wpAny_pure (wpAny_bind (I.type.here (wpAny_bind ((looks_find X I hf).here ?_)))))
  exact wpAny_pure h
theorem get_exc {x C : Addr} {ox : Obj} {od : Option Obj} {name : Str} {v : Value} {expr : Bool} {Q : Value → Shared → Prop} (X : K.In s.heap) (I : InstAt s.heap x ox C od)
    (hga : findIn K (.ref C) "__getattribute__" = some (some (.builtin "BaseException.__getattribute__"))) (hk : findIn K (.ref C) "__getattr__" = some none)
    (hm : mroIn K C (.type "BaseException") = some true) (hf : findObj K C od name = some (.value v)) (hh : handedIn v = true)
    (h : Q v { s with toks := s.toks + 1 }) : wpAny (model prog w) A (getAttr (.ref x) name expr) Q E s := by
  obtain ⟨hh', g, d, t, os⟩ := s
  have L0 := I.type (M := model prog w)
  have L1 := looks_findIn (M := model prog w) X hga
  have L2 := looks_findIn (M := model prog w) X hk
  unfold getAttr getAttrBy
  refine wpAny_bind (wpAny_mkText ?_)
  refine wpAny_holding (wpAny_bind (L0.at (wpAny_bind (L1.at ?_))))
  dsimp only
  rw [noHook, if_neg Bool.false_ne_true]
  unfold getAttrByItsOwn
  have e1 : hookBefore (.ref C) = typeLookup (.ref C) "__getattr__" := rfl
  rw [e1]
  refine wpAny_bind (L2.at (wpAny_bind (wpAny_attempt (wpAny_holding ?_))))
  have e2 : callGetattribute (.ref x) (.str name t) (.builtin "BaseException.__getattribute__") expr = boundAndCalled (.builtin "BaseException.__getattribute__") (.ref x) (.str name t) := by
    unfold callGetattribute
    rw [show (expr && onTheHeap (.builtin "BaseException.__getattribute__")) = false from Bool.and_false expr, if_neg Bool.false_ne_true]
  rw [e2]
  unfold boundAndCalled
  rw [PySem.F.attr_Exception.ga.bind]
  refine wpAny_bind (wpAny_pure (wpAny_call (exc_ga X I hm hf ?_)))
  dsimp only
  rw [handedOut_of hh]
  exact wpAny_pure h
end
end Mine
end
section
set_option genInjectivity false
set_option genSizeOf false
set_option tactic.hygienic false
open PySem PySem.W PySem.Calls PyProof.Rows PySem.SeqAt
set_option maxRecDepth 100000
namespace Mine
theorem wpAny_isTrue_cmp {M : Model} {A : Around} {E : Value → Shared → Prop} {s : Shared} {env : Env} {l r : Expr} {op : CmpOp} {pos : Pos} {whole : Sem Value} {Q : Bool → Shared → Prop} (hm : behindInMarks op r = false)
    (h : wpAny M A (eval (.Compare l [op] [r] pos) env) (fun v s₁ => wpAny M A (truthy v) Q E s₁) E s) : wpAny M A (isTrue (.Compare l [op] [r] pos) env whole) Q E s := fun Γ p hΓ => by
  have h := h Γ p hΓ
  simp only [eval_Compare1, isTrue_Compare1, markedBehindIn_of_false hm, Sem.wp_bind', Sem.wp_holding, Sem.wp_cmd_standAt, Sem.wp_operate] at h ⊢
  refine Sem.wp_mono _ _ _ (fun a p₁ s₁ h₁ => Sem.wp_mono _ _ _ (fun b p₂ s₂ h₂ => Sem.wp_mono _ _ _ (fun c p₃ s₃ h₃ => h₃ Γ p₃ hΓ) (fun _ _ _ x => x) _ _ h₂) (fun _ _ _ x => x) _ _ h₁) (fun _ _ _ x => x) _ _ h
set_option tactic.hygienic true in
theorem wpAny_isTrue_all {M : Model} {A : Around} {E : Value → Shared → Prop} {s : Shared} {env : Env} {e : Expr} {Q : Bool → Shared → Prop}
    (hn : ∀ a p, e ≠ .UnaryOp .Not a p) (hb : ∀ o a p, e ≠ .BoolOp o a p) (hi : ∀ a b c p, e ≠ .IfExp a b c p) (hc : ∀ l ops rs p, e = .Compare l ops rs p → ∃ op r, ops = [op] ∧ rs = [r] ∧ behindInMarks op r = false)
    (h : wpAny M A (eval e env) (fun v s₁ => wpAny M A (truthy v) Q E s₁) E s) : wpAny M A (isTrue e env (eval e env)) Q E s := by
  induction e using PySem.Expr.casesOn
  case UnaryOp op a p => induction op <;> first | exact (hn _ _ rfl).elim | exact wpAny_isTrue_value h
  case BoolOp => exact (hb _ _ _ rfl).elim
  case IfExp => exact (hi _ _ _ _ rfl).elim
  case Compare l ops rs p => obtain ⟨op, r, rfl, rfl, hm⟩ := hc _ _ _ _ rfl; exact wpAny_isTrue_cmp hm h
  all_goals exact wpAny_isTrue_value h
section
variable {g : Gd} {clo : CloP} {F : List Addr} {ρ : List Addr} {σ : List Str} {st : St} {s : Shared} {A : Around} {E : Value → Shared → Prop} {cx : Cx} {env : Env} {L : Addr} {n m : Nat} {R : Rn} {G : Glob} {k : KV} {x : KX} {Q : Value → Shared → Prop}
theorem snd_Bin (O : g.Ok) (S : Snd g clo R n) (H : Here g n cx A F env L) (V : EnvS g ρ st env) (D : Hnd A ρ st) (Re : Rel g clo F ρ σ st s) {op : Operator} {a b : Expr} {p : Pos}
    (h : evE G R (.bin (binN op) (compE m cx a) (compE m cx b)) st k x = true) (P : PostV g clo F ρ σ st k Q) (X : PostX g clo F ρ σ st x E) : wpAny (model g.prog g.w) A (eval (.BinOp a op b p) env) Q E s := by
  change R.ev (compE m cx a) st (fun a s => R.ev (compE m cx b) s (fun b s => evBin (binN op) a b s k) x) x = true at h
  refine wpAny_BinOp (S.ev m cx a A F env L ρ σ st s _ x _ E H V D Re h ?_ X)
  intro ρ₁ σ₁ st₁ s₁ v u e₁ R₁ r₁ h₁
  refine S.ev m cx b A F env L _ _ _ _ _ x _ E H (V.ext e₁) (D.ext e₁) R₁ h₁ ?_ (X.ext e₁)
  intro ρ₂ σ₂ st₂ s₂ v₂ u₂ e₂ R₂ r₂ h₂
  unfold evBin at h₂
  obtain ⟨r, hr, h₂⟩ := useR_some h₂
  exact snd_bin O R₂ hr (e₂.vr r₁) r₂ (PostV.res R₂ h₂ (P.ext (e₁.trans e₂)))
set_option tactic.hygienic true in
theorem snd_Cmp (O : g.Ok) (S : Snd g clo R n) (H : Here g n cx A F env L) (V : EnvS g ρ st env) (D : Hnd A ρ st) (Re : Rel g clo F ρ σ st s) {op : CmpOp} {a b : Expr} {p : Pos} (hm : behindInMarks op b = false)
    (h : evE G R (.cmp (cmpN op) (compE m cx a) (compE m cx b)) st k x = true) (P : PostV g clo F ρ σ st k Q) (X : PostX g clo F ρ σ st x E) : wpAny (model g.prog g.w) A (eval (.Compare a [op] [b] p) env) Q E s := by
  change R.ev (compE m cx a) st (fun a s => R.ev (compE m cx b) s (fun b s => evCmp (cmpN op) a b s k) x) x = true at h
  refine wpAny_Compare1 (S.ev m cx a A F env L ρ σ st s _ x _ E H V D Re h ?_ X) hm
  intro ρ₁ σ₁ st₁ s₁ v u e₁ R₁ r₁ h₁
  refine S.ev m cx b A F env L _ _ _ _ _ x _ E H (V.ext e₁) (D.ext e₁) R₁ h₁ ?_ (X.ext e₁)
  intro ρ₂ σ₂ st₂ s₂ v₂ u₂ e₂ R₂ r₂ h₂
  unfold evCmp at h₂
  dsimp only at h₂
  split at h₂
  · rename_i r hr
    exact snd_cmp O R₂ H.units' hr (e₂.vr r₁) r₂ fun t => P _ _ _ _ (.bool r) (.bool r) (e₁.trans e₂) (R₂.toks t) rfl h₂
  · split at h₂
    · have hq : cmpN op = 0 := by assumption
      have hop : op = .Eq := by cases op <;> first | rfl | cases hq
      subst hop
      split at h₂
      · rename_i q1
        obtain ⟨a, t, rfl⟩ := e₂.vr r₁
        obtain ⟨t', rfl⟩ := r₂
        refine (RcAt.int_int _ _ _ _) g.prog g.w E Q ?_
        have fin : ∀ z : Bool, Q (.bool z) s₂ := fun z => match z with
          | true => P _ _ _ _ (.bool true) _ (e₁.trans e₂) R₂ rfl q1
          | false => P _ _ _ _ (.bool false) _ (e₁.trans e₂) R₂ rfl h₂
        exact fin _
      · cases h₂
    · cases h₂
theorem snd_Neg (S : Snd g clo R n) (H : Here g n cx A F env L) (V : EnvS g ρ st env) (D : Hnd A ρ st) (Re : Rel g clo F ρ σ st s) {a : Expr} {p : Pos}
    (h : evE G R (.neg (compE m cx a)) st k x = true) (P : PostV g clo F ρ σ st k Q) (X : PostX g clo F ρ σ st x E) : wpAny (model g.prog g.w) A (eval (.UnaryOp .USub a p) env) Q E s := by
  change R.ev (compE m cx a) st (fun v s => match v with | .int n => k (.int (-n)) s | _ => false) x = true at h
  refine wpAny_UnaryOp (S.ev m cx a A F env L ρ σ st s _ x _ E H V D Re h ?_ X)
  intro ρ₁ σ₁ st₁ s₁ v u e₁ R₁ r₁ h₁
  dsimp only at h₁
  split at h₁
  · exact snd_neg R₁ r₁ fun s' u' R' hv => P _ _ _ _ _ _ e₁ R' hv h₁
  · cases h₁
set_option tactic.hygienic true in
theorem snd_Not (S : Snd g clo R n) (H : Here g n cx A F env L) (V : EnvS g ρ st env) (D : Hnd A ρ st) (Re : Rel g clo F ρ σ st s) {a : Expr} {p : Pos}
    (h : evE G R (.notE (compE m cx a)) st k x = true) (P : PostV g clo F ρ σ st k Q) (X : PostX g clo F ρ σ st x E) : wpAny (model g.prog g.w) A (eval (.UnaryOp .Not a p) env) Q E s := by
  change R.ev (compE m cx a) st (fun v s => match v with | .bool b => k (.bool (!b)) s | _ => false) x = true at h
  refine wpAny_UnaryOp (S.ev m cx a A F env L ρ σ st s _ x _ E H V D Re h ?_ X)
  intro ρ₁ σ₁ st₁ s₁ v u e₁ R₁ r₁ h₁
  dsimp only at h₁
  split at h₁
  · rename_i b
    cases r₁
    exact not_value (wpAny_truthy_bool (P _ _ _ _ (.bool (!b)) _ e₁ R₁ rfl h₁))
  · cases h₁
set_option tactic.hygienic true in
theorem snd_BoolOp (S : Snd g clo R n) (H : Here g n cx A F env L) (V : EnvS g ρ st env) (D : Hnd A ρ st) (Re : Rel g clo F ρ σ st s) {op : BoolOp} {vs : List Expr} {p : Pos} {i : Bool} (hi : i = (match op with | .And => true | .Or => false))
    (hc : ∀ r, compE (m + 1) cx (.BoolOp op r p) = .bool i (r.map (compE m cx)))
    (h : evE G R (.bool i (vs.map (compE m cx))) st k x = true) (P : PostV g clo F ρ σ st k Q) (X : PostX g clo F ρ σ st x E) : wpAny (model g.prog g.w) A (eval (.BoolOp op vs p) env) Q E s := by
  match vs with
  | [] => first | exact no_tt h | exact no_ns h | induction h
  | [a] =>
    change R.ev (compE m cx a) st k x = true at h
    show wpAny _ A (eval a env) Q E s
    exact S.ev m cx a A F env L ρ σ st s k x _ E H V D Re h P X
  | a :: b :: r =>
    change R.ev (compE m cx a) st (fun v s => match v with
      | .bool b' => match eqB b' i with
        | true => R.ev (.bool i ((b :: r).map (compE m cx))) s k x
        | false => k v s
      | _ => false) x = true at h
    have e : eval (.BoolOp op (a :: b :: r) p) env = (do
        let v ← eval a env
        standAt p
        let t ← holding [v] (truthy v)
        match op, t with
        | .And, false | .Or, true => pure v
        | _, _ => eval (.BoolOp op (b :: r) p) env) := rfl
    rw [e]
    refine wpAny_bind (S.ev m cx a A F env L ρ σ st s _ x _ E H V D Re h ?_ X)
    intro ρ₁ σ₁ st₁ s₁ v u e₁ R₁ r₁ h₁
    dsimp only at h₁
    split at h₁
    · rename_i b'
      cases r₁
      refine wpAny_bind (wpAny_standAt (wpAny_bind (wpAny_holding (wpAny_truthy_bool ?_))))
      split at h₁
      · rename_i q
        rw [eqB_ok] at q
        have q := eq_of_beq q
        subst q
        have go : wpAny (model g.prog g.w) A (eval (.BoolOp op (b :: r) p) env) Q E s₁ := S.ev (m + 1) cx (.BoolOp op (b :: r) p) A F env L _ _ _ _ k x _ E H (V.ext e₁) (D.ext e₁) R₁ (by rw [hc]; exact h₁) (P.ext e₁) (X.ext e₁)
        induction op <;> (subst hi; exact go)
      · rename_i q
        rw [eqB_ok] at q
        have fin := P _ _ _ _ (.bool b') (.bool b') e₁ R₁ rfl h₁
        cases op <;> (subst hi; cases b' <;> first | exact no_tt q | exact no_ns q | (cases q; done) | exact wpAny_pure fin)
    · cases h₁
theorem snd_IfExp (S : Snd g clo R n) (H : Here g n cx A F env L) (V : EnvS g ρ st env) (D : Hnd A ρ st) (Re : Rel g clo F ρ σ st s) {t a b : Expr} {p : Pos}
    (h : evE G R (.ite (compE m cx t) (compE m cx a) (compE m cx b)) st k x = true) (P : PostV g clo F ρ σ st k Q) (X : PostX g clo F ρ σ st x E) : wpAny (model g.prog g.w) A (eval (.IfExp t a b p) env) Q E s := by
  change R.tst (compE m cx t) st (fun t s => match t with | true => R.ev (compE m cx a) s k x | false => R.ev (compE m cx b) s k x) x = true at h
  refine wpAny_IfExp (S.tst m cx t A F env L ρ σ st s _ x _ E H V D Re h ?_ X)
  intro ρ₁ σ₁ st₁ s₁ v e₁ R₁ h₁
  induction v with
  | true => exact S.ev m cx a A F env L _ _ _ _ k x _ E H (V.ext e₁) (D.ext e₁) R₁ h₁ (P.ext e₁) (X.ext e₁)
  | false => exact S.ev m cx b A F env L _ _ _ _ k x _ E H (V.ext e₁) (D.ext e₁) R₁ h₁ (P.ext e₁) (X.ext e₁)
set_option tactic.hygienic true in
theorem snd_List (O : g.Ok) (S : Snd g clo R n) (H : Here g n cx A F env L) (V : EnvS g ρ st env) (D : Hnd A ρ st) (Re : Rel g clo F ρ σ st s) {es : List Expr} {p : Pos} (hp : plainArgs es = true)
    (h : evE G R (.list (es.map (compE m cx))) st k x = true) (P : PostV g clo F ρ σ st k Q) (X : PostX g clo F ρ σ st x E) : wpAny (model g.prog g.w) A (eval (.List es p) env) Q E s := by
  change evs R (es.map (compE m cx)) st (fun vs s => match okL vs with | true => k (.ref s.nx) (s.new (.list vs)) | false => false) x = true at h
  refine wpAny_List (snd_evs S.ev m H es hp V D Re h ?_ X)
  intro ρ₁ σ₁ st₁ s₁ vs us e₁ R₁ r₁ h₁
  dsimp only at h₁
  split at h₁
  · rename_i ok
    have ok := okL_le ok
    refine ⟨by rw [VRs.length r₁, sizeLine_eq]; omega, ?_⟩
    exact P _ _ _ _ _ _ (e₁.trans (R₁.extNew _ _)) (R₁.pushO O rfl (OR.list_mk r₁) (fun _ _ e => by first | exact Ob.noConfusion e | induction e) s₁.toks) (R₁.refNew _) h₁
  · cases h₁
set_option tactic.hygienic true in
theorem snd_Tuple (O : g.Ok) (S : Snd g clo R n) (H : Here g n cx A F env L) (V : EnvS g ρ st env) (D : Hnd A ρ st) (Re : Rel g clo F ρ σ st s) {es : List Expr} {kk : Nat} {p : Pos} (hp : plainArgs es = true)
    (h : evE G R (.tup (es.map (compE m cx))) st k x = true) (P : PostV g clo F ρ σ st k Q) (X : PostX g clo F ρ σ st x E) : wpAny (model g.prog g.w) A (eval (.Tuple es kk p) env) Q E s := by
  change evs R (es.map (compE m cx)) st (fun vs s => match okL vs with | true => k (.ref s.nx) (s.new (.tup vs)) | false => false) x = true at h
  refine wpAny_Tuple (snd_evs S.ev m H es hp V D Re h ?_ X)
  intro ρ₁ σ₁ st₁ s₁ vs us e₁ R₁ r₁ h₁
  dsimp only at h₁
  split at h₁
  · rename_i ok
    have ok := okL_le ok
    refine ⟨by rw [VRs.length r₁, sizeLine_eq]; omega, ?_⟩
    exact P _ _ _ _ _ _ (e₁.trans (R₁.extNew _ _)) (R₁.pushO O rfl (b := .tup vs) ⟨us.toArray, _, rfl, r₁⟩ (fun _ _ e => by first | exact Ob.noConfusion e | induction e) s₁.toks) (R₁.refNew _) h₁
  · cases h₁
end
end Mine
end
section
set_option genInjectivity false
set_option genSizeOf false
set_option tactic.hygienic false
open PySem PySem.W PySem.Calls PyProof.Rows PySem.SeqAt
set_option maxRecDepth 100000
namespace Mine
section
variable {g : Gd} {clo : CloP} {F : List Addr} {ρ : List Addr} {σ : List Str} {st : St} {s : Shared} {A : Around} {E : Value → Shared → Prop} {cx : Cx} {env : Env} {L : Addr} {n m : Nat} {R : Rn} {G : Glob} {k : KV} {x : KX} {Q : Value → Shared → Prop}
inductive ExcD (g : Gd) (ρ : List Addr) (σ : List Str) (s : Shared) (d : Nat) (C a : Addr) (fs : List (Nat × AV)) : Prop where
  | mk (ox : Obj) (dx : Addr) (es : List DictEntry) (m : Nat) (h1 : ρ[d / 2]? = some dx) (h2 : ox.dict = some dx) (h3 : s.heap.get? dx = some (dictOf es m)) (h4 : InstAt s.heap a ox C (some (dictOf es m))) (h5 : IR g ρ σ fs es)
theorem Rel.exc (Re : Rel g clo F ρ σ st s) {i d : Nat} {C a : Addr} {fs : List (Nat × AV)} (hi : st.get i = some (.exc C (some d))) (hd : st.get (d / 2) = some (.idict fs)) (ha : ρ[i]? = some a) :
    ExcD g ρ σ s d C a fs := by
  obtain ⟨o, ho, vs, h1, h2, h3, h4, dx, h5, h6⟩ := Re.at hi ha
  obtain ⟨o', ho', es, k, rfl, hr⟩ := Re.at hd h5
  refine ⟨o, dx, es, k, h5, h6, ho', ⟨ho, h1, ?_, ?_⟩, hr⟩
  · unfold notCls; rw [h2]
  · rw [h6]; exact ho'
theorem snd_attrAll (O : g.Ok) (GO : GOk g G) (Re : Rel g clo F ρ σ st s) {v : AV} {u : Value} {m : Nat} (hv : VR ρ σ v u) (h : evAttr G v m st k = true) (P : PostV g clo F ρ σ st k Q) {ex : Bool} :
    wpAny (model g.prog g.w) A (getAttr u (g.nm m) ex) Q E s := by
  refine snd_attr O GO Re hv h P ?_
  rintro i C d fs w a rfl hi hf hd hw ha fin
  obtain ⟨c, hc, hx, hn⟩ := fld_some hf
  have X := GO.ex C c hc hx
  obtain ⟨ox, dx, es, kk, _, _, _, I, hr⟩ := Re.exc hi hd ha
  have := hr.get O (x := m)
  rw [hw] at this
  obtain ⟨u, e, r⟩ := this
  exact get_exc Re.stat I X.ga X.gh X.mb (findObj_own X.hd (X.fl m hn) rfl (by rw [lookIn_dict]; exact e)) r.handed (fin u _ r)
theorem snd_Attribute (O : g.Ok) (GO : GOk g G) (S : Snd g clo R n) (H : Here g n cx A F env L) (V : EnvS g ρ st env) (D : Hnd A ρ st) (Re : Rel g clo F ρ σ st s) {o : Expr} {a : Str} {p : Pos} {i : Nat} (hi : cx.id a = some i) (hs : notSuper o = true)
    (h : evE G R (.attr (compE m cx o) i) st k x = true) (P : PostV g clo F ρ σ st k Q) (X : PostX g clo F ρ σ st x E) : wpAny (model g.prog g.w) A (eval (.Attribute o a p) env) Q E s := by
  change R.ev (compE m cx o) st (fun v s => evAttr G v i s k) x = true at h
  refine Attribute_any_ (S.ev m cx o A F env L ρ σ st s _ x _ E H V D Re h ?_ X) ?_
  · intro ρ₁ σ₁ st₁ s₁ v u e₁ R₁ r₁ h₁
    rw [← H.cok.id a i hi]
    exact snd_attrAll O GO R₁ r₁ h₁ (P.ext e₁)
  · rw [arm_eval_Attribute, notSuper_base hs]
theorem snd_Subscript (O : g.Ok) (S : Snd g clo R n) (H : Here g n cx A F env L) (V : EnvS g ρ st env) (D : Hnd A ρ st) (Re : Rel g clo F ρ σ st s) {o i : Expr} {p : Pos} (hsl : isSlice i = false)
    (h : evE G R (.sub (compE m cx o) (compE m cx i)) st k x = true) (P : PostV g clo F ρ σ st k Q) (X : PostX g clo F ρ σ st x E) : wpAny (model g.prog g.w) A (eval (.Subscript o i p) env) Q E s := by
  change R.ev (compE m cx o) st (fun o s => R.ev (compE m cx i) s (fun i s => getSub o i s k) x) x = true at h
  refine Subscript_ (S.ev m cx o A F env L ρ σ st s _ x _ E H V D Re h ?_ X)
  intro ρ₁ σ₁ st₁ s₁ v u e₁ R₁ r₁ h₁
  refine S.ev m cx i A F env L _ _ _ _ _ x _ E H (V.ext e₁) (D.ext e₁) R₁ h₁ ?_ (X.ext e₁)
  intro ρ₂ σ₂ st₂ s₂ v₂ u₂ e₂ R₂ r₂ h₂
  unfold getSub at h₂
  obtain ⟨r, hr, h₂⟩ := useR_some h₂
  exact snd_sub O hsl R₂ hr (e₂.vr r₁) r₂ (PostV.res R₂ h₂ (P.ext (e₁.trans e₂)))
theorem snd_From (O : g.Ok) (S : Snd g clo R n) (H : Here g n cx A F env L) (V : EnvS g ρ st env) (D : Hnd A ρ st) (Re : Rel g clo F ρ σ st s) {o lo : Expr} {p p' : Pos}
    (h : evE G R (.from_ (compE m cx o) (compE m cx lo)) st k x = true) (P : PostV g clo F ρ σ st k Q) (X : PostX g clo F ρ σ st x E) : wpAny (model g.prog g.w) A (eval (.Subscript o (.Slice (some lo) none none p') p) env) Q E s := by
  change R.ev (compE m cx o) st (fun o s => R.ev (compE m cx lo) s (fun lo s => useR (fromO o lo s) s k) x) x = true at h
  refine Subscript_ (S.ev m cx o A F env L ρ σ st s _ x _ E H V D Re h ?_ X)
  intro ρ₁ σ₁ st₁ s₁ v u e₁ R₁ r₁ h₁
  rw [arm_eval_Slice]
  refine wpAny_bind (S.ev m cx lo A F env L _ _ _ _ _ x _ E H (V.ext e₁) (D.ext e₁) R₁ h₁ ?_ (X.ext e₁))
  intro ρ₂ σ₂ st₂ s₂ v₂ u₂ e₂ R₂ r₂ h₂
  obtain ⟨r, hr, h₂⟩ := useR_some h₂
  have e : valueOrNone (evalOpt (none : Option Expr) env) = pure .none := rfl
  rw [e]
  refine wpAny_bind (wpAny_holding (wpAny_pure ?_))
  refine wpAny_bind (wpAny_holding (wpAny_pure ?_))
  exact snd_from (env := env) O R₂ hr (e₂.vr r₁) r₂ (PostV.res R₂ h₂ (P.ext (e₁.trans e₂)))
theorem snd_Dict0 (O : g.Ok) (Re : Rel g clo F ρ σ st s) {p : Pos} (h : k (.ref st.nx) (st.new (.dict [] 0)) = true) (P : PostV g clo F ρ σ st k Q) : wpAny (model g.prog g.w) A (eval (.Dict [] [] p) env) Q E s := by
  refine wpAny_Dict_empty (P _ _ _ _ _ _ (Re.extNew _ _) (Re.pushO O rfl (b := .dict [] 0) ⟨#[], [], ⟨rfl, rfl, rfl⟩, rfl, ?_, ?_, by simp, trivial⟩ (fun _ _ e => by first | exact Ob.noConfusion e | induction e) s.toks) (Re.refNew _) h)
  · intro e he; simp at he
  · exact .nil
end
end Mine
end
section
set_option genInjectivity false
set_option genSizeOf false
set_option tactic.hygienic false
open PySem PySem.W PySem.Calls PyProof.Rows PySem.SeqAt
set_option maxRecDepth 100000
namespace Mine
section
variable {g : Gd} {clo : CloP} {F : List Addr} {ρ : List Addr} {σ : List Str} {st : St} {s s' : Shared} {A : Around} {E : Value → Shared → Prop}
theorem Rel.into (R : Rel g clo F ρ σ st s) (l : Ix) (c : List (Nat × Ix)) (h : Bool) : Rel g clo F ρ σ ⟨st.hp, st.nx, st.sy, st.lo, st.hi, l, c, h, st.tb⟩ s :=
  ⟨R.len, R.slen, R.sml, R.obs, R.inj, R.lt, R.tr, R.fra, R.stat, R.old, R.gens, R.drawn, R.os, R.tab⟩
theorem Rel.add (R : Rel g clo F ρ σ st s) {a : Addr} {b : Ob} {o : Obj} (hnl : ¬ Live ρ st a) (hB : g.B.objs.size ≤ a) (ho : s.heap.get? a = some o) (hnf : ∀ vs, o.data ≠ .fields vs)
    (hr : OR g clo (ρ ++ [a]) σ b o) (hne : ∀ C d, b ≠ .exc C d) : Rel g clo F (ρ ++ [a]) σ (st.new b) s := by
  have σσ : σ ++ [] = σ := List.append_nil σ
  have old : ∀ {i : Nat} {x : Addr} {b' : Ob}, (ρ ++ [a])[i]? = some x → (st.new b).get i = some b' → (ρ[i]? = some x ∧ st.get i = some b') ∨ (i = st.nx ∧ x = a ∧ b' = b) := fun {i x b'} e1 e2 => by
    rw [St.get_new] at e2
    rcases getElem?_snoc e1 with p | ⟨q, h⟩
    · rw [if_neg (R.ltNx p)] at e2; exact .inl ⟨p, e2⟩
    · have q' : i = st.nx := q.trans R.len
      rw [if_pos q'] at e2; exact .inr ⟨q', h, (Option.some.inj e2).symm⟩
  have ne : ∀ {i : Nat} {x : Addr} {b' : Ob}, ρ[i]? = some x → st.get i = some b' → x ≠ a := fun {i x b'} p q z => hnl ⟨i, b', z ▸ p, q⟩
  refine ⟨by rw [List.length_append, R.len]; rfl, R.slen, R.sml, fun i b' e => ?_, fun i j x b1 b2 e1 e2 g1 g2 => ?_, fun i x b' e e' => ?_, fun i C d x e1 e2 => ?_, fun x hx => ?_, R.stat, R.old, R.gens, R.drawn, R.os, R.tab.step [a] fun _ e => e⟩
  · rw [St.get_new] at e
    by_cases q : i = st.nx
    · rw [if_pos q] at e; first | exact no_tt e | exact no_ns e | cases e
      exact ⟨a, o, q ▸ getElem?_push_last ρ a R.len, ho, hr⟩
    · rw [if_neg q] at e
      obtain ⟨x, o', e1, e2, r⟩ := R.obs i b' e
      exact ⟨x, o', at_mono _ e1, e2, σσ ▸ r.mono [a] []⟩
  · rcases old e1 g1 with ⟨p1, q1⟩ | ⟨p1, q1, _⟩ <;> rcases old e2 g2 with ⟨p2, q2⟩ | ⟨p2, q2, _⟩
    · exact R.inj i j x b1 b2 p1 p2 q1 q2
    · exact absurd q2 (ne p1 q1)
    · exact absurd q1 (ne p2 q2)
    · exact .inl (p1.trans p2.symm)
  · rcases old e e' with ⟨p, q⟩ | ⟨_, rfl, _⟩
    · exact R.lt i x b' p q
    · exact hB
  · rcases old e2 e1 with ⟨p, q⟩ | ⟨_, rfl, z⟩
    · obtain ⟨o', vs, h1, h2, h3, h4, h5⟩ := R.tr i C d x q p
      refine ⟨o', vs, h1, h2, h3, h4, h5.imp id ?_⟩
      rintro ⟨T, oT, ts, t1, t2, t3, t4, t5, t6⟩
      refine ⟨T, oT, ts, t1, t2, t3, t4, fun ⟨j, bj, m1, m2⟩ => ?_, t6⟩
      rcases old m1 m2 with ⟨m1, m2⟩ | ⟨_, m, _⟩
      · exact t5 ⟨j, bj, m1, m2⟩
      · rw [m, ho] at t2; cases t2; exact hnf _ t3
    · exact (hne C d z.symm).elim
  · obtain ⟨i, fs, e1, e2, e3⟩ := R.fra x hx
    refine ⟨i, fs, at_mono _ e1, ?_, e3⟩
    rw [St.get_new, if_neg (R.ltNx e1)]
    exact e2
theorem Rel.side (O : g.Ok) (R : Rel g clo F ρ σ st s) {a : Addr} (hnl : ¬ Live ρ st a) (hB : g.B.objs.size ≤ a) (hnf : ∀ o, s.heap.get? a = some o → ∀ vs, o.data ≠ .fields vs) (hx : Heap.ExtBut a s.heap s'.heap) (c : Calm s s') : Rel g clo F ρ σ st s' := by
  have ne : ∀ {i : Nat} {x : Addr} {b' : Ob}, ρ[i]? = some x → st.get i = some b' → x ≠ a := fun {i x b'} p q z => hnl ⟨i, b', z ▸ p, q⟩
  refine ⟨R.len, R.slen, R.sml, fun i b' e => ?_, R.inj, R.lt, fun i C d x e1 e2 => ?_, R.fra, fun x o e => ?_, oldK_ext R.old hB hx, c.gens.trans R.gens, c.drawn.trans R.drawn, c.os.trans R.os, R.tab.step0 fun o e => hx _ o (Nat.ne_of_lt (Nat.lt_of_lt_of_le O.tl hB)) e⟩
  · obtain ⟨x, o', e1, e2, r⟩ := R.obs i b' e
    exact ⟨x, o', e1, hx x o' (ne e1 e) e2, r⟩
  · obtain ⟨o', vs, h1, h2, h3, h4, h5⟩ := R.tr i C d x e1 e2
    refine ⟨o', vs, hx _ _ (ne e2 e1) h1, h2, h3, h4, h5.imp id ?_⟩
    rintro ⟨T, oT, ts, t1, t2, t3, t4, t5, t6⟩
    refine ⟨T, oT, ts, t1, hx _ _ (fun z => ?_) t2, t3, t4, t5, t6⟩
    subst z
    exact hnf _ t2 _ t3
  · exact hx x o (Nat.ne_of_lt (Nat.lt_of_lt_of_le (O.low x o e) hB)) (R.stat x o e)
theorem Rel.fresh (R : Rel g clo F ρ σ st s) {a : Addr} (h : s.heap.get? a = none) : ¬ Live ρ st a := fun ⟨i, b, e1, e2⟩ => by
  obtain ⟨o, e⟩ := R.there e1 e2
  rw [h] at e; first | exact no_tt e | exact no_ns e | induction e
theorem Rel.notLiveKill (R : Rel g clo F ρ σ st s) {i : Nat} {a : Addr} {b : Ob} (hi : ρ[i]? = some a) (hb : st.get i = some b) (hro : st.isRo i = false) : ¬ Live ρ (st.kill i) a := fun ⟨j, b', e1, e2⟩ => by
  rw [St.get_kill] at e2
  by_cases q : j = i
  · rw [if_pos q] at e2; first | exact no_tt e2 | exact no_ns e2 | induction e2
  · rw [if_neg q] at e2
    rcases R.inj j i a _ _ e1 hi e2 hb with w | ⟨_, w⟩
    · exact q w
    · rw [hro] at w; first | exact no_tt w | exact no_ns w | induction w
theorem extBut_refl (a : Addr) (h : Heap) : Heap.ExtBut a h h := fun _ _ _ e => e
set_option tactic.hygienic true in
theorem wkNs_true {i : Ix} {k : St → Bool} (h : st.wkNs i k = true) : ∃ fs, st.get i = some (.ns fs) ∧ st.isRo i = false ∧ k (st.kill i) = true := by
  unfold St.wkNs at h
  induction e : st.get i with
  | none => rw [e] at h; exact no_tt h
  | some be =>
  rw [e] at h
  induction be <;> first | exact no_tt h | skip
  · rename_i fs
    dsimp only at h
    obtain ⟨a, b⟩ := wk_true h
    exact ⟨fs, rfl, a, b⟩
end
section
variable {g : Gd} {cx : Cx} {env : Env}
set_option tactic.hygienic true in
theorem keepC_ok {cel : List (Nat × Ix)} : ∀ {fr : List Nat} {l : List (Nat × Ix)}, keepC cel fr = some l → (∀ y i, lookI l y = some i → y ∈ fr ∧ lookI cel y = some i) ∧ ∀ y ∈ fr, ∃ i, lookI cel y = some i ∧ lookI l y = some i := by
  intro fr
  induction fr with
  | nil =>
    intro l h
    cases h; exact ⟨fun y i e => (nomatch e), fun y h => (nomatch h)⟩
  | cons x r ih =>
    intro l h
    unfold keepC at h
    split at h
    · rename_i i l' h1 h2
      cases h
      obtain ⟨a, b⟩ := ih h2
      refine ⟨fun y j e => ?_, fun y hy => ?_⟩
      · unfold lookI at e
        split at e
        · rename_i q
          cases e
          have q := Nat.eq_of_beq_eq_true q
          subst q
          exact ⟨List.mem_cons_self, h1⟩
        · obtain ⟨c, d⟩ := a y j e
          exact ⟨List.mem_cons_of_mem _ c, d⟩
      · by_cases q : x = y
        · subst q
          exact ⟨i, h1, by unfold lookI; rw [Nat.beq_refl]⟩
        · rcases List.mem_cons.mp hy with rfl | hy
          · exact (q rfl).elim
          · obtain ⟨j, e1, e2⟩ := b y hy
            refine ⟨j, e1, ?_⟩
            unfold lookI
            rw [show Nat.beq x y = false from Bool.eq_false_iff.mpr fun z => q (Nat.eq_of_beq_eq_true z)]
            exact e2
    · first | exact no_tt h | exact no_ns h | induction h
set_option tactic.hygienic true in
theorem freesOf_ok : ∀ {names : List (Str × NameKind)} {fr : List Nat}, freesOf cx names = some fr → (∀ x, (x, NameKind.free) ∈ names → ∃ n, cx.id x = some n ∧ n ∈ fr) ∧ ∀ n ∈ fr, ∃ x, (x, NameKind.free) ∈ names ∧ cx.id x = some n := by
  intro names
  induction names with
  | nil =>
    intro fr h
    cases h; exact ⟨fun x hx => (nomatch hx), fun n hn => (nomatch hn)⟩
  | cons hd r ih =>
    intro fr h
    obtain ⟨y, k⟩ := hd
    by_cases hk : k = .free
    · subst hk
      change (match cx.id y, freesOf cx r with | some n, some l => some (n :: l) | _, _ => none) = some fr at h
      split at h
      · rename_i n l h1 h2
        cases h
        obtain ⟨a, b⟩ := ih h2
        refine ⟨fun x hx => ?_, fun m hm => ?_⟩
        · rcases List.mem_cons.mp hx with q | hx
          · cases q; exact ⟨n, h1, List.mem_cons_self⟩
          · obtain ⟨m, e1, e2⟩ := a x hx; exact ⟨m, e1, List.mem_cons_of_mem _ e2⟩
        · rcases List.mem_cons.mp hm with rfl | hm
          · exact ⟨y, List.mem_cons_self, h1⟩
          · obtain ⟨x, e1, e2⟩ := b m hm; exact ⟨x, List.mem_cons_of_mem _ e1, e2⟩
      · first | exact no_tt h | exact no_ns h | induction h
    · have h' : freesOf cx r = some fr := by
        induction k <;> first | exact (hk rfl).elim | exact h
      obtain ⟨a, b⟩ := ih h'
      refine ⟨fun x hx => ?_, fun m hm => let ⟨x, e1, e2⟩ := b m hm; ⟨x, List.mem_cons_of_mem _ e1, e2⟩⟩
      rcases List.mem_cons.mp hx with q | hx
      · cases q; exact (hk rfl).elim
      · exact a x hx
set_option tactic.hygienic true in
theorem closure_go : ∀ (names : List (Str × NameKind)) (acc : List (Str × Addr)), (∀ x, (x, NameKind.free) ∈ names → ∃ a, env.cells.lookup x = some a) → (∀ x a, acc.lookup x = some a → env.cells.lookup x = some a) →
    ∃ cl, (forIn names acc fun (p : Str × NameKind) cs => (if (p.2 == NameKind.free) = true then do let c ← cellOf env p.1; pure (ForInStep.yield ((p.1, c) :: cs)) else pure (ForInStep.yield cs) : Sem (ForInStep (List (Str × Addr))))) = pure cl ∧
      (∀ x a, cl.lookup x = some a → env.cells.lookup x = some a) ∧ (∀ x, ((x, NameKind.free) ∈ names ∨ (acc.lookup x).isSome = true) → (cl.lookup x).isSome = true) := by
  intro names
  induction names with
  | nil => intro acc _ hacc; exact ⟨acc, by rw [List.forIn_nil], hacc, fun x h => h.elim (fun h => (nomatch h)) id⟩
  | cons yk r ih =>
    obtain ⟨y, k⟩ := yk
    intro acc hx hacc
    rw [List.forIn_cons]
    by_cases hk : k = .free
    · subst hk
      obtain ⟨a, ha⟩ := hx y List.mem_cons_self
      have e : cellOf env y = pure a := by unfold cellOf; rw [ha]
      simp only [beq_self_eq_true, if_true, e, pure_bind]
      obtain ⟨cl, h1, h2, h3⟩ := ih ((y, a) :: acc) (fun x h => hx x (List.mem_cons_of_mem _ h)) (fun x b hb => by
        rw [List.lookup_cons] at hb
        split at hb
        · rename_i q; cases hb; rw [eq_of_beq q]; exact ha
        · exact hacc x b hb)
      refine ⟨cl, h1, h2, fun x h => h3 x ?_⟩
      rw [List.lookup_cons]
      rcases h with h | h
      · rcases List.mem_cons.mp h with q | h
        · cases q; right; simp
        · exact .inl h
      · right; split
        · rfl
        · exact h
    · have e : (k == NameKind.free) = false := by induction k <;> first | exact (hk rfl).elim | rfl
      simp only [e, Bool.false_eq_true, if_false, pure_bind]
      obtain ⟨cl, h1, h2, h3⟩ := ih acc (fun x h => hx x (List.mem_cons_of_mem _ h)) hacc
      refine ⟨cl, h1, h2, fun x h => h3 x ?_⟩
      rcases h with h | h
      · rcases List.mem_cons.mp h with q | h
        · cases q; exact (hk rfl).elim
        · exact .inl h
      · exact .inr h
theorem closure_ok {sc : Scope} (hx : ∀ x, (x, NameKind.free) ∈ sc.names → ∃ a, env.cells.lookup x = some a) :
    ∃ cl, closureFor sc env = pure cl ∧ (∀ x, (x, NameKind.free) ∈ sc.names → ∃ a, cl.lookup x = some a ∧ env.cells.lookup x = some a) := by
  obtain ⟨cl, h1, h2, h3⟩ := closure_go sc.names [] hx (fun x a h => by cases h)
  refine ⟨cl, ?_, fun x h => ?_⟩
  · unfold closureFor
    show (forIn sc.names [] _ >>= fun r => pure r) = _
    rw [bind_pure]
    exact h1
  · obtain ⟨a, ha⟩ := Option.isSome_iff_exists.mp (h3 x (.inl h))
    exact ⟨a, ha, h2 x a ha⟩
theorem closure_at {ρ : List Addr} {st : St} {sc : Scope} (cok : CxOk g cx) (V : EnvS g ρ st env) {fr : List Nat} {cl : List (Nat × Ix)} (hf : freesOf cx sc.names = some fr) (hk : keepC st.cel fr = some cl) :
    ∃ ml, closureFor sc env = pure ml ∧ ∀ y i, lookI cl y = some i → ∃ a, ρ[i]? = some a ∧ ml.lookup (g.nm y) = some a := by
  obtain ⟨f1, f2⟩ := freesOf_ok hf
  obtain ⟨k1, k2⟩ := keepC_ok hk
  obtain ⟨ml, h1, h2⟩ := closure_ok (env := env) (sc := sc) fun x hx => by
    obtain ⟨n, e1, e2⟩ := f1 x hx
    obtain ⟨i, e3, _⟩ := k2 n e2
    obtain ⟨a, _, e4⟩ := V.cel n i e3
    rw [cok.id x n e1] at e4
    exact ⟨a, e4⟩
  refine ⟨ml, h1, fun y i e => ?_⟩
  obtain ⟨e1, e2⟩ := k1 y i e
  obtain ⟨x, e3, e4⟩ := f2 y e1
  obtain ⟨a, e5, e6⟩ := V.cel y i e2
  obtain ⟨b, e7, e8⟩ := h2 x e3
  rw [cok.id x y e4] at e6 ⊢
  rw [e8] at e6; first | exact no_tt e6 | exact no_ns e6 | cases e6
  exact ⟨_, e5, e7⟩
end
end Mine
end
section
set_option genInjectivity false
set_option genSizeOf false
set_option tactic.hygienic false
open PySem PySem.W PySem.Calls PyProof.Rows PySem.SeqAt
set_option maxRecDepth 100000
namespace Mine
theorem lookup_relabel {env : Env} : ∀ {names : List (Str × NameKind)} {x : Str},
    (names.map fun (n, k) => if (k == NameKind.free && env.scope.kind == .function && env.kindOf n == some .cell) then (n, NameKind.cell) else (n, k)).lookup x =
      (names.lookup x).map fun k => if (k == NameKind.free && env.scope.kind == .function && env.kindOf x == some .cell) then NameKind.cell else k := by
  intro names
  induction names with
  | nil =>
    intro _
    rfl
  | cons hd r ih =>
    intro x
    obtain ⟨n, k⟩ := hd
    have ih := @ih x
    rw [List.map_cons]
    dsimp only
    by_cases hx : (x == n) = true
    · have hx' := eq_of_beq hx
      subst hx'
      by_cases q : (k == NameKind.free && env.scope.kind == .function && env.kindOf x == some .cell) = true
      · rw [if_pos q]; simp only [List.lookup_cons, beq_self_eq_true, Option.map_some]; rw [if_pos q]
      · rw [if_neg q]; simp only [List.lookup_cons, beq_self_eq_true, Option.map_some]; rw [if_neg q]
    · have hx' : (x == n) = false := by simpa using hx
      by_cases q : (k == NameKind.free && env.scope.kind == .function && env.kindOf n == some .cell) = true
      · rw [if_pos q]; simp only [List.lookup_cons, hx']; exact ih
      · rw [if_neg q]; simp only [List.lookup_cons, hx']; exact ih
theorem scOk_at {sc : Scope} (h : scOk sc = true) : sc.kind = .function ∧ (∀ x ∈ sc.names, x.2 ≠ .cell) ∧ ∀ x ∈ sc.names, sc.names.lookup x.1 = some x.2 := by
  unfold scOk at h
  rw [Bool.and_eq_true] at h
  refine ⟨by simpa using h.1, fun x hx => ?_, fun x hx => ?_⟩
  · have := List.all_eq_true.mp h.2 x hx
    rw [Bool.and_eq_true] at this
    simpa using this.1
  · have := List.all_eq_true.mp h.2 x hx
    rw [Bool.and_eq_true] at this
    simpa using this.2
set_option tactic.hygienic true in
theorem mem_of_lookup' {x : Str} {k : NameKind} : ∀ {l : List (Str × NameKind)}, l.lookup x = some k → (x, k) ∈ l
  | [], h => by cases h
  | (y, j) :: r, h => by
    rw [List.lookup_cons] at h
    split at h
    · rename_i q; cases h; rw [eq_of_beq q]; exact List.mem_cons_self
    · exact List.mem_cons_of_mem _ (mem_of_lookup' h)
noncomputable abbrev Cx.sub (cx : Cx) (sc : Scope) : Cx := ⟨sc.names, cx.gl, cx.id, none⟩
section
variable {g : Gd} {clo : CloP} {F : List Addr} {ρ : List Addr} {σ : List Str} {st : St} {s : Shared} {A : Around} {E : Value → Shared → Prop} {cx : Cx} {env : Env} {L : Addr} {n m : Nat} {R : Rn} {G : Glob} {k : KV} {x : KX} {Q : Value → Shared → Prop}
theorem Here.sub (H : Here g n cx A F env L) {sc : Scope} (hsc : scOk sc = true) (ml : List (Str × Addr)) (C : Addr) : Here g n (cx.sub sc) A F (compEnvC sc ml C env) L := by
  obtain ⟨h1, h2, h3⟩ := scOk_at hsc
  have lk : ∀ y, (compEnvC sc ml C env).kindOf y = (sc.names.lookup y).map fun k => if (k == NameKind.free && env.scope.kind == .function && env.kindOf y == some .cell) then NameKind.cell else k := fun y => lookup_relabel
  refine { H.toAmb with glo := H.glo, bui := H.bui, kind := h1, frame := H.frame, cok := ⟨H.cok.id, H.cok.gl⟩, loc := fun y hy => ?_, cel := fun y hy => ?_, ce1 := fun y hy => ?_, gim := fun y hy => ?_, code := fun f p e => by cases e }
  · rw [lk, show sc.names.lookup y = some .local from hy]; rfl
  · rw [lk]
    rcases hy with hy | hy
    · rw [show sc.names.lookup y = some .cell from hy]; exact .inl rfl
    · rw [show sc.names.lookup y = some .free from hy]
      simp only [Option.map_some]
      split
      · exact .inl rfl
      · exact .inr rfl
  · exact (h2 _ (mem_of_lookup' hy) rfl).elim
  · rw [lk, show sc.names.lookup y = some .globalImplicit from hy]; rfl
set_option tactic.hygienic true in
theorem iter_again (Re : Rel g clo F ρ σ st s) {i : Nat} {a : Addr} {kk : Option AV → St → Bool} (hi : ρ[i]? = some a) (h : nextI i st kk = true) (hQ : Q (.ref a) s) : wpAny (model g.prog g.w) A (pyIter (.ref a)) Q E s := by
  unfold nextI at h
  induction hb : st.get i with
  | none => rw [hb] at h; exact no_tt h
  | some bi =>
  rw [hb] at h
  induction bi
  case itL j n =>
    obtain ⟨o, ho, l, hl, hc, hd⟩ := Re.at hb hi
    exact wpAny_pyIter_listiter ⟨o, ho, hc, hd⟩ hQ
  case itT j n =>
    obtain ⟨o, ho, l, hl, hc, hd⟩ := Re.at hb hi
    exact wpAny_pyIter_tupleiter ⟨o, ho, hc, hd⟩ hQ
  case itR y n =>
    obtain ⟨o, ho, rfl⟩ := Re.at hb hi
    exact wpAny_pyIter_rangeiter ho hQ
  case itV j n =>
    obtain ⟨o, ho, l, hl, hc, hd⟩ := Re.at hb hi
    exact wpAny_pyIter_revIter ⟨o, ho, hc, hd⟩ hQ
  case itVe =>
    obtain ⟨o, ho, l, hc, hd⟩ := Re.at hb hi
    exact wpAny_pyIter_revIter ⟨o, ho, hc, hd⟩ hQ
  case itD j n m ep =>
    obtain ⟨o, ho, l, hl, hc, hd⟩ := Re.at hb hi
    exact wpAny_pyIter_keyiter ⟨o, ho, hc, hd⟩ hQ
  all_goals exact no_tt h
theorem notSet_folded {it : Expr} (h : notSet it = true) (v : Value) : foldedSetIterable it env v = pure v := by
  cases it <;> first | rfl | cases h
theorem Rel.scope (O : g.Ok) (Re : Rel g clo F ρ σ st s) {h' : Heap} {t : Nat} {o₀ : Obj} (hn : h'.Ns s.heap.objs.size (fun x => ([] : List (Str × Value)).reverse.lookup x)) (hs : Heap.SameBut s.heap.objs.size (s.heap.push o₀) h') :
    Rel g clo F (ρ ++ [s.heap.objs.size]) σ (st.new (.ns [])) { s with heap := h', toks := t } := by
  obtain ⟨o, es, ep, ho, hd, hk, _⟩ := hn
  refine Re.new (Heap.get?_none_of_le (Nat.le_refl _)) (Re.big O) (fun b o e => hs.extBut b o (Nat.ne_of_lt (Heap.lt_size e)) (Heap.get?_push_of_some _ e)) ho ⟨es, ep, hd, hk, fun y v e => by cases e⟩ ⟨rfl, rfl, rfl⟩ (fun _ _ e => by first | exact Ob.noConfusion e | induction e using List.casesOn)
theorem Ext.back {ρ' σ' st' ρ'' σ'' st''} {l : Ix} {c : List (Nat × Ix)} (e0 : Ext ρ σ st ρ' σ' st') (e : Ext ρ' σ' (st'.into l c) ρ'' σ'' st'') : Ext ρ σ st ρ'' σ'' (st''.back st) := by
  obtain ⟨⟨m1, rfl⟩, ⟨m2, rfl⟩, _, _, _, x0⟩ := e0
  obtain ⟨⟨m3, rfl⟩, ⟨m4, rfl⟩, _, _, _, x1⟩ := e
  exact ⟨⟨m1 ++ m3, by simp⟩, ⟨m2 ++ m4, by simp⟩, rfl, rfl, rfl, fun i C d q => let ⟨d', q', n'⟩ := x0 i C d q; let ⟨d2, q2, n2⟩ := x1 i C d' q'; ⟨d2, q2, fun z => n2 (n' z)⟩⟩
theorem Rel.notF (Re : Rel g clo F ρ σ st s) {C : Addr} (h : s.heap.get? C = none) : C ∉ F := fun q => by
  obtain ⟨i, fs, e1, e2, _⟩ := Re.fra C q
  obtain ⟨o, e⟩ := Re.there e1 e2
  rw [h] at e; first | exact no_tt e | exact no_ns e | induction e
theorem scope_end (O : g.Ok) {ρ₂ : List Addr} {σ₂ : List Str} {st₂ st' : St} {ρ₄ ρ₅ : List Addr} {σ₄ σ₅ : List Str} {st₅ : St} {s₅ : Shared} {l i : Ix} {c : List (Nat × Ix)} {C : Addr} {kk : St → Bool} (e0 : Ext ρ₂ σ₂ st₂ ρ₄ σ₄ st') (hi : ρ₄[i]? = some C) (hF : C ∉ F)
    (e : Ext ρ₄ σ₄ (st'.into l c) ρ₅ σ₅ st₅) (R₅ : Rel g clo F ρ₅ σ₅ st₅ s₅) (h : st₅.wkNs i (fun s4 => kk (s4.back st₂)) = true) :
    ∃ st₆, Ext ρ₂ σ₂ st₂ ρ₅ σ₅ st₆ ∧ Rel g clo F ρ₅ σ₅ st₆ s₅ ∧ kk st₆ = true ∧ ¬ Live ρ₅ st₆ C ∧ g.B.objs.size ≤ C ∧ ∃ m, s₅.heap.Ns C m := by
  obtain ⟨fs, hf, hro, hk⟩ := wkNs_true h
  have hC := e.at hi
  have R₆ := (R₅.kill (s' := s₅) O hC hro (extBut_refl _ _) hf (.inr hF) ⟨rfl, rfl, rfl⟩).into st₂.loc st₂.cel st₂.hd
  obtain ⟨mm, hm, _⟩ := R₅.ns hf hC
  exact ⟨(st₅.kill i).back st₂, Ext.back e0 (e.trans (Ext.kill hf (fun _ _ q => by first | exact Ob.noConfusion q | induction q))), R₆, hk, R₅.notLiveKill hC hf hro, R₅.lt i C _ hC hf, mm, hm⟩
theorem comp_list (O : g.Ok) {N : Nat} (hR : R = run G N) (S : Snd g clo R n) (H : Here g n cx A F env L) (V : EnvS g ρ st env) (D : Hnd A ρ st) (Re : Rel g clo F ρ σ st s) {elt tg it : Expr} {ifs : List Expr} {sc : Scope} {pos : Pos} {t fr : List Nat}
    (ht : tgOf (cx.sub sc) tg = some t) (hfr : freesOf cx sc.names = some fr) (hsc : scOk sc = true) {cl : List (Nat × Ix)} (hcl : keepC st.cel fr = some cl) {ml : List (Str × Addr)} (hml : ∀ y i, lookI cl y = some i → ∃ a, ρ[i]? = some a ∧ ml.lookup (g.nm y) = some a)
    (h : R.ev (compE m cx it) st (fun v s => iterOf v s fun i s => R.lc i s.nx (compE m (cx.sub sc) elt) t (ifs.map (compE m (cx.sub sc))) (((s.new (.list [])).new (.ns [])).into (s.nx + 1) cl) fun s3 => s3.wkNs (s.nx + 1) fun s4 => k (.ref s.nx) (s4.back s)) x = true)
    {RR : Value → Addr → Result → Shared → Prop}
    (P : ∀ ρ' σ' st' s' i acc C, Ext ρ σ st ρ' σ' st' → Rel g clo F ρ' σ' st' s' → VR ρ' σ' (.ref i) acc → k (.ref i) st' = true → ¬ Live ρ' st' C → g.B.objs.size ≤ C → (∃ m, s'.heap.Ns C m) → RR acc C (.ok .next) s')
    (X : PostX g clo F ρ σ st x E) :
    wpAny (model g.prog g.w) A (eval it env) (fun v s₁ => wpAny (model g.prog g.w) A (pyIter v) (fun iv s₂ => wpAny (model g.prog g.w) A (newList []) (fun acc s₃ =>
      wpAny (model g.prog g.w) A (newFunctionEnv sc env.globals ml [] env.qual none .none (some env)) (fun cenv s₄ =>
        codeAny (model g.prog g.w) A (.compStart (.ListComp elt [⟨tg, it, ifs, 0⟩] sc pos) 0 iv acc { cenv with scope := relabel sc env }) (RR acc cenv.locals) s₄) E s₃) E s₂) E s₁) E s := by
  obtain ⟨k1, k2, k3⟩ := scOk_at hsc
  refine S.ev m cx it A F env L _ _ _ _ _ _ _ _ H V D Re h ?_ X
  intro ρ₁ σ₁ st₁ s₁ v u e₁ R₁ r₁ h₁
  refine snd_iter O R₁ r₁ h₁ ?_
  intro ρ₂ st₂ s₂ i a e₂ R₂ hi h₂
  have e12 := e₁.trans e₂
  have Rl := R₂.pushO O (b := .list []) (o := { cls := .type "list", data := .seq ([] : List Value).toArray }) rfl (OR.list_mk trivial) (fun _ _ e => by first | exact Ob.noConfusion e | induction e) s₂.toks
  refine wpAny_newObj_type ?_ (by size_fits)
  refine wpAny_newFunctionEnv k2 (by intro y hy; cases hy) (fun h' hn hs => ?_) k1
  have R4 := (Rl.scope O (t := s₂.toks + 0) hn hs).into (st₂.nx + 1) cl st₂.hd
  have e0 : Ext ρ₂ σ₁ st₂ _ σ₁ ((st₂.new (.list [])).new (.ns [])) := (R₂.extNew (.list []) _).trans (Rl.extNew (.ns []) (s₂.heap.push { cls := .type "list", data := .seq ([] : List Value).toArray }).objs.size)
  have hC := getElem?_push_last (ρ₂ ++ [s₂.heap.objs.size]) (s₂.heap.push { cls := .type "list", data := .seq ([] : List Value).toArray }).objs.size (n := st₂.nx + 1) Rl.len
  have hnF := Rl.notF (Heap.get?_none_of_le (Nat.le_refl _))
  have hj := at_mono [(s₂.heap.push { cls := .type "list", data := .seq ([] : List Value).toArray }).objs.size] (getElem?_push_last ρ₂ s₂.heap.objs.size R₂.len)
  have V4 : EnvS g _ (((st₂.new (.list [])).new (.ns [])).into (st₂.nx + 1) cl) (compEnvC sc ml (s₂.heap.push { cls := .type "list", data := .seq ([] : List Value).toArray }).objs.size env) :=
    ⟨hC, fun y i e => let ⟨a, q1, q2⟩ := hml y i e; ⟨a, (e12.trans e0).at q1, q2⟩⟩
  have D3 := D.ext (e12.trans e0)
  have D4 : Hnd A _ (((st₂.new (.list [])).new (.ns [])).into (st₂.nx + 1) cl) := D3
  have lcT := S.lc m (cx.sub sc) elt tg t it ifs sc pos A F (compEnvC sc ml (s₂.heap.push { cls := .type "list", data := .seq ([] : List Value).toArray }).objs.size env) L _ _ _ _ _ i a st₂.nx s₂.heap.objs.size
    (RR (.ref s₂.heap.objs.size) (s₂.heap.push { cls := .type "list", data := .seq ([] : List Value).toArray }).objs.size) (H.sub hsc ml _) V4 D4 R4 ht (e0.at hi) hj h₂ ?_
  · refine codeAny_compStart_list lcT ?_
    subst hR
    induction N with
    | zero => cases h₂
    | succ N =>
      change lcS (run G N) _ _ _ _ _ _ _ = true at h₂
      unfold lcS at h₂
      exact iter_again R4 (e0.at hi) h₂ lcT
  · intro ρ₅ σ₅ st₅ s₅ e₅ R₅ hk₅
    obtain ⟨st₆, e₆, R₆, hk₆, nl, hB, hm⟩ := scope_end (kk := fun s4 => k (.ref st₂.nx) s4) O e0 hC hnF e₅ R₅ hk₅
    exact P _ _ _ _ st₂.nx _ _ (e12.trans e₆) R₆ ⟨_, e₅.at hj, rfl⟩ hk₆ nl hB hm
theorem comp_dict (O : g.Ok) {N : Nat} (hR : R = run G N) (S : Snd g clo R n) (H : Here g n cx A F env L) (V : EnvS g ρ st env) (D : Hnd A ρ st) (Re : Rel g clo F ρ σ st s) {ke ve tg it : Expr} {ifs : List Expr} {sc : Scope} {pos : Pos} {t fr : List Nat}
    (ht : tgOf (cx.sub sc) tg = some t) (hfr : freesOf cx sc.names = some fr) (hsc : scOk sc = true) {cl : List (Nat × Ix)} (hcl : keepC st.cel fr = some cl) {ml : List (Str × Addr)} (hml : ∀ y i, lookI cl y = some i → ∃ a, ρ[i]? = some a ∧ ml.lookup (g.nm y) = some a)
    (h : R.ev (compE m cx it) st (fun v s => iterOf v s fun i s => R.dc i s.nx (compE m (cx.sub sc) ke) (compE m (cx.sub sc) ve) t (ifs.map (compE m (cx.sub sc))) (((s.new (.dict [] 0)).new (.ns [])).into (s.nx + 1) cl) fun s3 => s3.wkNs (s.nx + 1) fun s4 => k (.ref s.nx) (s4.back s)) x = true)
    {RR : Value → Addr → Result → Shared → Prop}
    (P : ∀ ρ' σ' st' s' i acc C, Ext ρ σ st ρ' σ' st' → Rel g clo F ρ' σ' st' s' → VR ρ' σ' (.ref i) acc → k (.ref i) st' = true → ¬ Live ρ' st' C → g.B.objs.size ≤ C → (∃ m, s'.heap.Ns C m) → RR acc C (.ok .next) s')
    (X : PostX g clo F ρ σ st x E) :
    wpAny (model g.prog g.w) A (eval it env) (fun v s₁ => wpAny (model g.prog g.w) A (pyIter v) (fun iv s₂ => wpAny (model g.prog g.w) A newDict (fun acc s₃ =>
      wpAny (model g.prog g.w) A (newFunctionEnv sc env.globals ml [] env.qual none .none (some env)) (fun cenv s₄ =>
        codeAny (model g.prog g.w) A (.compStart (.DictComp ke ve [⟨tg, it, ifs, 0⟩] sc pos) 0 iv acc { cenv with scope := relabel sc env }) (RR acc cenv.locals) s₄) E s₃) E s₂) E s₁) E s := by
  obtain ⟨k1, k2, k3⟩ := scOk_at hsc
  refine S.ev m cx it A F env L _ _ _ _ _ _ _ _ H V D Re h ?_ X
  intro ρ₁ σ₁ st₁ s₁ v u e₁ R₁ r₁ h₁
  refine snd_iter O R₁ r₁ h₁ ?_
  intro ρ₂ st₂ s₂ i a e₂ R₂ hi h₂
  have e12 := e₁.trans e₂
  have Rl := R₂.pushO O (b := .dict [] 0) (o := { cls := .type "dict", data := .dict #[] }) rfl ⟨#[], [], ⟨rfl, rfl, rfl⟩, rfl, (fun e he => by simp at he), .nil, by simp, trivial⟩ (fun _ _ e => by first | exact Ob.noConfusion e | induction e) s₂.toks
  show wpAny _ _ newDict _ _ _
  simp only [newDict, newObj]
  refine wpAny_bind (wpAny_alloc (wpAny_pure ?_))
  refine wpAny_newFunctionEnv k2 (by intro y hy; cases hy) (fun h' hn hs => ?_) k1
  have R4 := (Rl.scope O (t := s₂.toks + 0) hn hs).into (st₂.nx + 1) cl st₂.hd
  have e0 : Ext ρ₂ σ₁ st₂ _ σ₁ ((st₂.new (.dict [] 0)).new (.ns [])) := (R₂.extNew (.dict [] 0) _).trans (Rl.extNew (.ns []) (s₂.heap.push { cls := .type "dict", data := .dict #[] }).objs.size)
  have hC := getElem?_push_last (ρ₂ ++ [s₂.heap.objs.size]) (s₂.heap.push { cls := .type "dict", data := .dict #[] }).objs.size (n := st₂.nx + 1) Rl.len
  have hnF := Rl.notF (Heap.get?_none_of_le (Nat.le_refl _))
  have hj := at_mono [(s₂.heap.push { cls := .type "dict", data := .dict #[] }).objs.size] (getElem?_push_last ρ₂ s₂.heap.objs.size R₂.len)
  have V4 : EnvS g _ (((st₂.new (.dict [] 0)).new (.ns [])).into (st₂.nx + 1) cl) (compEnvC sc ml (s₂.heap.push { cls := .type "dict", data := .dict #[] }).objs.size env) :=
    ⟨hC, fun y i e => let ⟨a, q1, q2⟩ := hml y i e; ⟨a, (e12.trans e0).at q1, q2⟩⟩
  have D3 := D.ext (e12.trans e0)
  have D4 : Hnd A _ (((st₂.new (.dict [] 0)).new (.ns [])).into (st₂.nx + 1) cl) := D3
  have lcT := S.dc m (cx.sub sc) ke ve tg t it ifs sc pos A F (compEnvC sc ml (s₂.heap.push { cls := .type "dict", data := .dict #[] }).objs.size env) L _ _ _ _ _ i a st₂.nx s₂.heap.objs.size
    (RR (.ref s₂.heap.objs.size) (s₂.heap.push { cls := .type "dict", data := .dict #[] }).objs.size) (H.sub hsc ml _) V4 D4 R4 ht (e0.at hi) hj h₂ ?_
  · refine codeAny_compStart_dict lcT ?_
    subst hR
    induction N with
    | zero => cases h₂
    | succ N =>
      change dcS (run G N) _ _ _ _ _ _ _ _ = true at h₂
      unfold dcS at h₂
      exact iter_again R4 (e0.at hi) h₂ lcT
  · intro ρ₅ σ₅ st₅ s₅ e₅ R₅ hk₅
    obtain ⟨st₆, e₆, R₆, hk₆, nl, hB, hm⟩ := scope_end (kk := fun s4 => k (.ref st₂.nx) s4) O e0 hC hnF e₅ R₅ hk₅
    exact P _ _ _ _ st₂.nx _ _ (e12.trans e₆) R₆ ⟨_, e₅.at hj, rfl⟩ hk₆ nl hB hm
end
end Mine
end
section
set_option genInjectivity false
set_option genSizeOf false
set_option tactic.hygienic false
open PySem PySem.W PySem.Calls PyProof.Rows PySem.SeqAt
set_option maxRecDepth 100000
namespace Mine
section
variable {g : Gd} {clo : CloP} {F : List Addr} {ρ : List Addr} {σ : List Str} {st : St} {s : Shared} {A : Around} {E : Value → Shared → Prop} {cx : Cx} {env : Env} {L : Addr} {n m : Nat} {R : Rn} {G : Glob} {k : KV} {x : KX} {Q : Value → Shared → Prop}
theorem ns_notFields {h : Heap} {C : Addr} {m : Str → Option Value} (hm : h.Ns C m) : ∀ o, h.get? C = some o → ∀ vs, o.data ≠ .fields vs := fun o ho vs e => by
  obtain ⟨o', es, ep, h1, h2, _⟩ := hm
  rw [h1] at ho; cases ho; rw [h2] at e; first | exact no_tt e | exact no_ns e | cases e
theorem comp_over (O : g.Ok) {C : Addr} (R₆ : Rel g clo F ρ σ st s) (nl : ¬ Live ρ st C) (hB : g.B.objs.size ≤ C) (hm : ∃ m, s.heap.Ns C m) {h' : Heap} (hs : Heap.SameBut C s.heap h') : Rel g clo F ρ σ st { s with heap := h' } :=
  R₆.side O nl hB (ns_notFields hm.choose_spec) hs.extBut ⟨rfl, rfl, rfl⟩
set_option tactic.hygienic true in
theorem snd_ListComp (O : g.Ok) {N : Nat} (hR : R = run G N) (S : Snd g clo R n) (H : Here g n cx A F env L) (V : EnvS g ρ st env) (D : Hnd A ρ st) (Re : Rel g clo F ρ σ st s) {elt tg it : Expr} {ifs : List Expr} {sc : Scope} {pos : Pos} {t fr : List Nat}
    (ht : tgOf (cx.sub sc) tg = some t) (hfr : freesOf cx sc.names = some fr) (hset : notSet it = true) (hsc : scOk sc = true)
    (h : evE G R (.lcomp (compE m (cx.sub sc) elt) t (compE m cx it) (ifs.map (compE m (cx.sub sc))) fr) st k x = true) (P : PostV g clo F ρ σ st k Q) (X : PostX g clo F ρ σ st x E) :
    wpAny (model g.prog g.w) A (eval (.ListComp elt [⟨tg, it, ifs, 0⟩] sc pos) env) Q E s := by
  rw [eval_ListComp]
  change (match keepC st.cel fr with | some cl => _ | none => false) = true at h
  split at h
  · rename_i cl hcl
    obtain ⟨ml, hml, hml2⟩ := closure_at (sc := sc) H.cok V hfr hcl
    obtain ⟨k1, k2, k3⟩ := scOk_at hsc
    refine wpAny_comprehension_free (g := ⟨tg, it, ifs, 0⟩) (use := none) rfl (notSet_folded hset) hml k1 (fun y hy e => by rw [k3 y hy, e]) ?_
    refine comp_list O hR S H V D Re ht hfr hsc hcl hml2 h (RR := compPost (model g.prog g.w) A E none Q) ?_ X
    intro ρ' σ' st' s' i acc C e R₆ hv hk nl hB hm
    obtain ⟨mm, hm'⟩ := hm
    exact ⟨mm, hm', fun h' hs => P _ _ _ _ _ _ e (comp_over O R₆ nl hB ⟨mm, hm'⟩ hs) hv hk⟩
  · first | exact no_tt h | exact no_ns h | induction h
set_option tactic.hygienic true in
theorem snd_DictComp (O : g.Ok) {N : Nat} (hR : R = run G N) (S : Snd g clo R n) (H : Here g n cx A F env L) (V : EnvS g ρ st env) (D : Hnd A ρ st) (Re : Rel g clo F ρ σ st s) {ke ve tg it : Expr} {ifs : List Expr} {sc : Scope} {pos : Pos} {t fr : List Nat}
    (ht : tgOf (cx.sub sc) tg = some t) (hfr : freesOf cx sc.names = some fr) (hset : notSet it = true) (hsc : scOk sc = true)
    (h : evE G R (.dcomp (compE m (cx.sub sc) ke) (compE m (cx.sub sc) ve) t (compE m cx it) (ifs.map (compE m (cx.sub sc))) fr) st k x = true) (P : PostV g clo F ρ σ st k Q) (X : PostX g clo F ρ σ st x E) :
    wpAny (model g.prog g.w) A (eval (.DictComp ke ve [⟨tg, it, ifs, 0⟩] sc pos) env) Q E s := by
  show wpAny _ A (comprehension (.DictComp ke ve [⟨tg, it, ifs, 0⟩] sc pos) sc env (firstIterPos [⟨tg, it, ifs, 0⟩] pos) newDict (firstAsync [⟨tg, it, ifs, 0⟩]) (firstIter [⟨tg, it, ifs, 0⟩] env)) Q E s
  change (match keepC st.cel fr with | some cl => _ | none => false) = true at h
  split at h
  · rename_i cl hcl
    obtain ⟨ml, hml, hml2⟩ := closure_at (sc := sc) H.cok V hfr hcl
    obtain ⟨k1, k2, k3⟩ := scOk_at hsc
    refine wpAny_comprehension_free (g := ⟨tg, it, ifs, 0⟩) (use := none) rfl (notSet_folded hset) hml k1 (fun y hy e => by rw [k3 y hy, e]) ?_
    refine comp_dict O hR S H V D Re ht hfr hsc hcl hml2 h (RR := compPost (model g.prog g.w) A E none Q) ?_ X
    intro ρ' σ' st' s' i acc C e R₆ hv hk nl hB hm
    obtain ⟨mm, hm'⟩ := hm
    exact ⟨mm, hm', fun h' hs => P _ _ _ _ _ _ e (comp_over O R₆ nl hB ⟨mm, hm'⟩ hs) hv hk⟩
  · first | exact no_tt h | exact no_ns h | induction h
set_option tactic.hygienic true in
theorem snd_storeLocS (O : g.Ok) (H : Here g n cx A F env L) (V : EnvS g ρ st env) {y : Str} {i : Nat} {v : AV} {u : Value} {k : St → Bool} {Q : Unit → Shared → Prop} (Re : Rel g clo F ρ σ st s)
    (hk : cx.kinds.lookup y = some .local) (hi : cx.id y = some i) (h : storeLoc i v st k = true) (hv : VR ρ σ v u)
    (P : ∀ st' s', Live ρ st env.locals → Heap.SameBut env.locals s.heap s'.heap → (∀ a, Live ρ st' a → Live ρ st a) → Ext ρ σ st ρ σ st' → Rel g clo F ρ σ st' s' → k st' = true → Q () s') : wpAny (model g.prog g.w) A (storeName env y u) Q E s := by
  unfold storeLoc at h
  split at h
  · rename_i fs hf
    obtain ⟨hro, hk'⟩ := wr_true h
    obtain ⟨m, hm, hl⟩ := Re.ns hf V.loc
    have e := H.cok.id y i hi
    refine wpAny_storeName_local (H.loc y hk) hm (fun h' hn hs => ?_) (by rw [H.kind]; rfl)
    rw [← e] at hn
    obtain ⟨o, ho, hr⟩ := OR.ns_put (h := s.heap) O hl hv hn
    refine P _ _ ⟨st.loc, _, V.loc, hf⟩ hs (fun a ⟨j, b, e1, e2⟩ => ?_) (Ext.put' hf (fun _ _ e => by first | exact Ob.noConfusion e | induction e)) (Re.same O V.loc hf hro hs ho hr (fun _ => rfl) (fun _ _ e => by first | exact Ob.noConfusion e | induction e) _) hk'
    rw [St.get_put] at e2
    by_cases q : j = st.loc
    · subst q; exact ⟨st.loc, _, e1, hf⟩
    · rw [if_neg q] at e2; exact ⟨j, b, e1, e2⟩
  · first | exact no_tt h | exact no_ns h | induction h
theorem comp_use (O : g.Ok) (H : Here g n cx A F env L) {y : Str} {py : Pos} {i : Nat} {kk : St → Bool} {Q₀ : Unit → Shared → Prop} {acc : Value} {v : AV} {C : Addr} (V : EnvS g ρ st env) (R₆ : Rel g clo F ρ σ st s) (hv : VR ρ σ v acc)
    (hy : cx.kinds.lookup y = some .local) (hi : cx.id y = some i) (h : storeLoc i v st kk = true) (nl : ¬ Live ρ st C) (hB : g.B.objs.size ≤ C) (hm : ∃ m, s.heap.Ns C m) (P : Post0 g clo F ρ σ st kk Q₀) :
    wpAny (model g.prog g.w) A (assign (.Name y py) env acc) (fun _ s'' => ∃ m, s''.heap.Ns C m ∧ ∀ h', Heap.SameBut C s''.heap h' → Q₀ () { s'' with heap := h' }) E s := by
  refine wpAny_assign_Name (snd_storeLocS O H V R₆ hy hi h hv ?_)
  intro st' s' lv hs nl2 e R₇ hk
  obtain ⟨m, hm⟩ := hm
  have hne : env.locals ≠ C := fun q => nl (q ▸ lv)
  have hm' : s'.heap.Ns C m := hm.sameBut hs (Ne.symm hne)
  exact ⟨m, hm', fun h' hs' => P _ _ _ _ e (comp_over O R₇ (fun q => nl (nl2 _ q)) hB ⟨m, hm'⟩ hs') hk⟩
end
end Mine
end
section
set_option genInjectivity false
set_option genSizeOf false
set_option tactic.hygienic false
open PySem PySem.W PySem.Calls PyProof.Rows PySem.SeqAt
set_option maxRecDepth 100000
namespace Mine
section
variable {g : Gd} {clo : CloP} {F : List Addr} {ρ : List Addr} {σ : List Str} {st : St} {s : Shared} {A : Around} {E : Value → Shared → Prop} {cx : Cx} {env : Env} {L : Addr} {n m : Nat} {R : Rn} {G : Glob} {k : KV} {x : KX} {Q : Value → Shared → Prop}
set_option tactic.hygienic true in
theorem snd_Dict1 (O : g.Ok) (S : Snd g clo R n) (H : Here g n cx A F env L) (V : EnvS g ρ st env) (D : Hnd A ρ st) (Re : Rel g clo F ρ σ st s) {a b : Expr} {p : Pos}
    (h : evE G R (.dict [compE m cx a] [compE m cx b]) st k x = true) (P : PostV g clo F ρ σ st k Q) (X : PostX g clo F ρ σ st x E) : wpAny (model g.prog g.w) A (eval (.Dict [some a] [b] p) env) Q E s := by
  change R.ev (compE m cx a) (st.new (.dict [] 0)) (fun a s2 => R.ev (compE m cx b) s2 (fun b s3 => match s3.get st.nx with
      | some (.dict _ _) => setSub (.ref st.nx) a b s3 fun s4 => k (.ref st.nx) s4
      | _ => false) x) x = true at h
  rw [arm_eval_Dict]
  have e0 : (evalEachOpt [some a] env).zip ((evalEach [b] env).map fun v => do let x ← v; standAt p; pure x) = [(eval a env, do let x ← eval b env; standAt p; pure x)].map fun p => (some p.1, p.2) := rfl
  rw [e0, dictDisplay_pairs _ (by simp) (by simp)]
  refine wpAny_bind (wpAny_standAt (wpAny_bind ?_))
  unfold subDict
  refine wpAny_bind (wpAny_alloc (wpAny_bind (wpAny_holding ?_)))
  rw [if_pos (by simp)]
  have R0 := Re.pushO O (b := .dict [] 0) (o := { cls := .type "dict", data := .dict #[] }) rfl ⟨#[], [], ⟨rfl, rfl, rfl⟩, rfl, (fun e he => by simp at he), .nil, by simp, trivial⟩ (fun _ _ e => by first | exact Ob.noConfusion e | induction e) s.toks
  have e1 := Re.extNew (.dict [] 0) s.heap.objs.size
  have hj := getElem?_push_last ρ s.heap.objs.size Re.len
  refine wpAny_bind (evalPairs_cons ?_)
  refine S.ev m cx a A F env L _ _ _ _ _ x _ E H (V.ext e1) (D.ext e1) R0 h ?_ (X.ext e1)
  intro ρ₁ σ₁ st₁ s₁ v u e₁ R₁ r₁ h₁
  have e2 := e1.trans e₁
  refine wpAny_bind (S.ev m cx b A F env L _ _ _ _ _ x _ E H (V.ext e2) (D.ext e2) R₁ h₁ ?_ (X.ext e2))
  intro ρ₂ σ₂ st₂ s₂ v₂ u₂ e₂ R₂ r₂ h₂
  refine wpAny_bind (wpAny_standAt (wpAny_pure (evalPairs_nil ?_)))
  dsimp only at h₂
  split at h₂
  · rename_i kv ep hb
    refine wpAny_holding ?_
    rw [List.forIn_cons]
    refine wpAny_bind (wpAny_bind (wpAny_bind ?_))
    refine snd_dictSet O R₂ ((e₁.trans e₂).at hj) h₂ ⟨kv, ep, hb⟩ (e₂.vr r₁) r₂ ?_
    intro ρ₃ σ₃ st₃ s₃ e₃ R₃ h₃
    refine wpAny_pure ?_
    dsimp only
    rw [List.forIn_nil]
    exact wpAny_pure (wpAny_pure (wpAny_pure (wpAny_pure (P _ _ _ _ (.ref st.nx) _ (e2.trans (e₂.trans e₃)) R₃ ⟨_, ((e₁.trans e₂).trans e₃).at hj, rfl⟩ h₃))))
  · cases h₂
theorem txt_sym {σ : List Str} {j : Nat} {y : Str} (h : σ[j]? = some y) : txt σ [1114112 + j] = some y.cps.toList := by
  have e : txt σ [1114112 + j] = (match Nat.blt (1114112 + j) 1114112 with | true => some [1114112 + j] | false => match σ[1114112 + j - 1114112]? with | some s => some (s.cps.toList ++ []) | none => none) := rfl
  rw [e]
  have b : Nat.blt (1114112 + j) 1114112 = false := Bool.eq_false_iff.mpr fun z => by have := Nat.blt_eq.mp z; omega
  rw [b, Nat.add_sub_cancel_left, h]; simp
set_option tactic.hygienic true in
theorem snd_nas (H : Here g n cx A F env L) (V : EnvS g ρ st env) (Re : Rel g clo F ρ σ st s) {y : Str} {i : Nat} {p1 p2 p3 p4 p5 p6 : Pos} {k1 k2} (hy : cx.kinds.lookup y = some .local) (hi : cx.id y = some i) (hd : (y == ("__debug__" : Str)) = false)
    (h : evE G R (.nas i) st k x = true) (P : PostV g clo F ρ σ st k Q) : wpAny (model g.prog g.w) A (eval (.IfExp (.Compare (.Name y p1) [.Is] [.Constant .none k1 p2] p3) (.Constant (.str "NA") k2 p4) (.Name y p5) p6) env) Q E s := by
  change (match st.get st.loc with
    | some (.ns fs) => match look fs i with
      | some (.opt j) => k (.str [1114112 + j]) st
      | some (.str p) => k (.str p) st
      | some .none => k (.str [78, 65]) st
      | _ => false
    | _ => false) = true at h
  induction hf : st.get st.loc with
  | none => rw [hf] at h; exact no_tt h
  | some bhf =>
  rw [hf] at h
  induction bhf <;> first | exact no_tt h | skip
  · rename_i fs
    dsimp only at h
    have nav : ∀ t, VR ρ σ (.str [78, 65]) (.str ("NA" : Str) t) := fun t => ⟨[78, 65], t, rfl, rfl⟩
    have go : ∀ v, look fs i = some v → (∀ u, VR ρ σ v u → (u = .none → ∀ t, Q (.str ("NA" : Str) t) { s with toks := t + 1 }) ∧ (u ≠ .none → ∀ u', VR ρ σ v u' → Q u' s)) →
        wpAny (model g.prog g.w) A (eval (.IfExp (.Compare (.Name y p1) [.Is] [.Constant .none k1 p2] p3) (.Constant (.str "NA") k2 p4) (.Name y p5) p6) env) Q E s := fun v hv hq => by
      refine wpAny_IfExp (wpAny_isTrue_cmp rfl (wpAny_Compare1 (wpAny_Name (snd_loc Re H V hy hi hf hv fun u hu => wpAny_Constant_none (is_none (wpAny_truthy_bool ?_))) hd) rfl))
      by_cases q : u = .none
      · rw [show (u == Value.none) = true from by rw [q]; rfl, if_pos rfl]
        exact wpAny_Constant_str ((hq u hu).1 q s.toks)
      · have q' : (u == Value.none) = false := beq_eq_false_iff_ne.mpr q
        rw [q', if_neg (by decide)]
        exact wpAny_Name (snd_loc Re H V hy hi hf hv fun u' hu' => (hq u hu).2 q u' hu') hd
    split at h
    · rename_i j hv
      refine go _ hv fun u hu => ⟨fun q t => ?_, fun q u' hu' => ?_⟩
      · obtain ⟨z, f, e1, e2, hu⟩ := hu
        rcases hu with ⟨_, e3, _⟩ | ⟨_, t', e4⟩
        · subst e3
          exact P _ _ _ _ (.str [1114112 + j]) _ (Ext.refl ..) (Re.toks _) ⟨_, t, txt_sym e1, rfl⟩ h
        · rw [e4] at q; first | exact no_tt q | exact no_ns q | cases q
      · obtain ⟨z, f, e1, e2, hu⟩ := hu
        obtain ⟨z', f', e1', e2', hu'⟩ := hu'
        rw [e1] at e1'; rw [e2] at e2'; cases e1'; first | exact no_tt e2' | exact no_ns e2' | cases e2'
        rcases hu with ⟨_, _, e4⟩ | ⟨e0, t', e4⟩
        · exact (q e4).elim
        · rcases hu' with ⟨e0', _, _⟩ | ⟨_, t'', rfl⟩
          · exact (e0 e0').elim
          · exact P _ _ _ _ (.str [1114112 + j]) _ (Ext.refl ..) Re ⟨_, t'', txt_sym e1, by rw [show strOf z.cps.toList = z from strOf_cps z]⟩ h
    · rename_i p hv
      refine go _ hv fun u hu => ⟨fun q t => ?_, fun q u' hu' => P _ _ _ _ _ _ (Ext.refl ..) Re hu' h⟩
      obtain ⟨l, t', _, e⟩ := hu
      rw [q] at e; first | exact no_tt e | exact no_ns e | cases e
    · rename_i hv
      refine go _ hv fun u hu => ⟨fun q t => P _ _ _ _ _ _ (Ext.refl ..) (Re.toks _) (nav t) h, fun q u' hu' => (q hu).elim⟩
    · first | exact no_tt h | exact no_ns h | induction h
theorem Rel.sym2 (Re : Rel g clo F ρ σ st s) {y f : Str} (h1 : y.cps.size ≤ 100) (h2 : f.cps.size ≤ 100) : Rel g clo F ρ (σ ++ [y, f]) st.sym.sym s := by
  have e0 : ρ ++ [] = ρ := List.append_nil ρ
  refine ⟨Re.len, by rw [List.length_append, Re.slen]; rfl, fun z hz => ?_, fun i b e => ?_, Re.inj, Re.lt, Re.tr, Re.fra, Re.stat, Re.old, Re.gens, Re.drawn, Re.os, Re.tab⟩
  · rcases List.mem_append.mp hz with hz | hz
    · exact Re.sml z hz
    · simp only [List.mem_cons, List.not_mem_nil, or_false] at hz
      rcases hz with rfl | rfl <;> assumption
  · obtain ⟨a, o, q1, q2, q3⟩ := Re.obs i b e
    have := q3.mono [] [y, f]
    rw [e0] at this
    exact ⟨a, o, q1, q2, this⟩
theorem Ext.sym2 {y f : Str} : Ext ρ σ st ρ (σ ++ [y, f]) st.sym.sym := ⟨⟨[], by simp⟩, ⟨[y, f], rfl⟩, rfl, rfl, rfl, fun _ _ d e => ⟨d, e, id⟩⟩
noncomputable def TakeOk (g : Gd) (clo : CloP) (G : Glob) : Prop := ∀ (A : Around) (F : List Addr) (L : Addr) (n : Nat) (ρ : List Addr) (σ : List Str) (st : St) (s : Shared) (i j : Nat) (a : Addr) (N : Nat) (t : Tok) (Q : Value → Shared → Prop) (E : Value → Shared → Prop),
  Amb g n A F L → Hnd A ρ st → Rel g clo F ρ σ st s → ρ[i]? = some a → st.get i = some (.src j) → st.get j = some .nums → st.isRo i = false → st.isRo j = false → N ≤ 1000 →
  (∀ s' m t', m < N + 1 → Rel g clo F ρ σ st s' → Q (.int (m : Nat) t') s') → wpAny (model g.prog g.w) A (call (.ref G.take) [.ref a, .int ((N + 1 : Nat) : Int) t]) Q E s
set_option tactic.hygienic true in
theorem lowP_txt {σ : List Str} {p : List Nat} (h : lowP p = true) : txt σ p = some p := by
  refine txt_low σ ?_
  induction p with
  | nil => intro c hc; first | exact no_tt hc | exact no_ns hc | cases hc
  | cons a r ih =>
    unfold lowP at h
    split at h
    · rename_i q
      intro c hc
      rcases List.mem_cons.mp hc with rfl | hc
      · exact Nat.blt_eq.mp q
      · exact ih h c hc
    · first | exact no_tt h | exact no_ns h | induction h
end
end Mine
end
section
set_option genInjectivity false
set_option genSizeOf false
set_option tactic.hygienic false
open PySem PySem.W PySem.Calls PyProof.Rows PySem.SeqAt
set_option maxRecDepth 100000
namespace Mine
section
variable {g : Gd} {clo : CloP} {F : List Addr} {ρ : List Addr} {σ : List Str} {st : St} {s : Shared} {A : Around} {E : Value → Shared → Prop} {cx : Cx} {env : Env} {L : Addr} {n m : Nat} {R : Rn} {G : Glob} {k : KV} {x : KX} {Q : Value → Shared → Prop}
set_option tactic.hygienic true in
theorem constsOf_ok {es : List Expr} : ∀ {vs : List AV}, constsOf es = some vs → plainArgs es = true ∧ ∀ {ρ : List Addr} {σ : List Str} {st : St} {s : Shared} {pos : Pos} {Q : List Value → Shared → Prop}, Rel g clo F ρ σ st s →
      (∀ t us, VRs ρ σ vs us → Q us { s with toks := t }) → wpAny (model g.prog g.w) A (spliced (backTo pos (starEach es env))) Q E s := by
  induction es with
  | nil =>
    intro vs h
    cases h
    exact ⟨rfl, fun {ρ σ st s pos Q} Re P => spliced_nil (P s.toks [] trivial)⟩
  | cons e r ih =>
    intro vs h
    induction e using PySem.Expr.casesOn
    case Constant c k p =>
      change (match constAV c, constsOf r with | some a, some l => some (a :: l) | _, _ => none) = some vs at h
      split at h
      · rename_i a l h1 h2
        cases h
        obtain ⟨i1, i2⟩ := ih h2
        refine ⟨i1, fun {ρ σ st s pos Q} Re P => ?_⟩
        show wpAny _ _ (spliced ((false, eval (.Constant c k p) env) :: backTo pos (starEach r env))) Q E s
        refine spliced_cons (snd_const Re h1 fun u t hu => ?_)
        exact i2 (s := { s with toks := t }) (Re.toks t) fun t' us hus => P t' (u :: us) ⟨hu, hus⟩
      · exact no_ns h
    all_goals exact no_ns h
noncomputable def KeepsIt (M : Model) (f : Value) (h : Heap) : Prop := ∃ k, (k = Keeper.frame ∨ k = Keeper.machine ∨ k = Keeper.boundFrame) ∧ Looks M h (keeperOf f) k
theorem backTo_plain {pos : Pos} : ∀ {es : List Expr}, plainArgs es = true → (backTo pos (starEach es env)).any (·.1) = false
  | [], _ => rfl
  | e :: r, h => by
    obtain ⟨q, hr⟩ := starEach_plain (env := env) h
    rw [q]
    show (false || (backTo pos (starEach r env)).any (·.1)) = false
    rw [backTo_plain hr]; rfl
theorem callWith_list {f : Value} {first : List Value} {pos : Pos} {es : List Expr} (hp : plainArgs es = true)
    (h : wpAny (model g.prog g.w) A (spliced (backTo pos (starEach es env))) (fun vs s₁ => KeepsIt (model g.prog g.w) f s₁.heap ∧ wpAny (model g.prog g.w) A (call f (first ++ vs)) Q E s₁) E s) :
    wpAny (model g.prog g.w) A (callWith pos f first (backTo pos (starEach es env)) []) Q E s := by
  refine callWith_of (P := KeepsIt (model g.prog g.w) f) (by rw [backTo_plain hp]; rfl) (fun h k => k) ?_
  match es, hp with
  | [], _ =>
    unfold evalArgs
    show wpAny (model g.prog g.w) A (spliced [] >>= _) _ E s
    refine wpAny_bind (wpAny_mono (show wpAny (model g.prog g.w) A (spliced []) _ E s from h) (fun vs s' h' => ?_) fun _ _ x => x)
    refine wpAny_bind (wpAny_pure (wpAny_holding ?_))
    exact wpAny_bind (wpAny_pure (wpAny_bind (wpAny_pure (wpAny_pure h'))))
  | e :: r, hp =>
    obtain ⟨q, hr⟩ := starEach_plain (env := env) hp
    rw [q] at h ⊢
    exact evalArgs_plain h
end
end Mine
end
section
set_option genInjectivity false
set_option genSizeOf false
set_option tactic.hygienic false
open PySem PySem.W PySem.Calls PyProof.Rows PySem.SeqAt
set_option maxRecDepth 100000
namespace Mine
theorem eval_Call_plain {f : Expr} {as : List Expr} {p : Pos} {env : Env} (hf : ∀ o a q, f ≠ .Attribute o a q) : eval (.Call f as [] p) env = (do callWith p (← eval f env) [] (backTo p (starEach as env)) []) := by
  induction f using PySem.Expr.casesOn <;> first | rfl | exact (hf _ _ _ rfl).elim
section
variable {g : Gd} {clo : CloP} {F : List Addr} {ρ : List Addr} {σ : List Str} {st : St} {s : Shared} {A : Around} {E : Value → Shared → Prop} {cx : Cx} {env : Env} {L : Addr} {n m : Nat} {R : Rn} {G : Glob} {k : KV} {x : KX} {Q : Value → Shared → Prop}
set_option tactic.hygienic true in
theorem nameE_k {y : Str} {v : AV} (h : nameE cx y = .k v) : cx.kinds.lookup y = some .globalImplicit ∧ cx.gl y = some v ∧ (y == ("__debug__" : Str)) = false := by
  unfold nameE at h
  split at h
  · first | exact no_tt h | exact no_ns h | cases h
  · rename_i hx
    rw [Bool.or_eq_false_iff] at hx
    split at h
    · split at h <;> cases h
    · split at h <;> cases h
    · split at h <;> cases h
    · rename_i hk
      split at h
      · rename_i v' hv; cases h; exact ⟨hk, hv, hx.1⟩
      · first | exact no_tt h | exact no_ns h | cases h
    · first | exact no_tt h | exact no_ns h | cases h
theorem keep_bi {M : Model} {h : Heap} {b : Nat} {u : Value} (hb : biVal b = some u) : KeepsIt M u h := by
  unfold biVal at hb
  split at hb <;> first | exact no_tt hb | exact no_ns hb | (cases hb; done) | (cases hb; exact ⟨.machine, .inr (.inl rfl), Looks.of_pure rfl⟩)
set_option tactic.hygienic true in
theorem keeps_ok (GO : GOk g G) (Re : Rel g clo F ρ σ st s) {N : Nat} (hR : R = run G N) {v : AV} {u : Value} {args : List AV} (hv : VR ρ σ v u) (h : R.call v args st k x = true) : KeepsIt (model g.prog g.w) u s.heap := by
  subst hR
  cases N with
  | zero => first | exact no_tt h | exact no_ns h | induction h using PySem.Stmt.casesOn
  | succ N =>
    change callF G (run G N) v args st k x = true at h
    unfold callF at h
    induction v
    case fn a =>
      cases hv
      dsimp only at h
      split at h
      · first | exact no_tt h | exact no_ns h | induction h using PySem.Stmt.casesOn
      · rename_i h1 h2
        exact keeps_K (by rw [Nat.eq_of_beq_eq_true h2]; exact GO.kt) _ Re.stat
      · rename_i h1 h2
        have h1 := Nat.blt_eq.mp h1
        split at h
        · rename_i f hf
          exact keeps_K (GO.kf a f h1 hf) _ Re.stat
        · split at h
          · rename_i c hc
            exact keeps_K (GO.kc a c h1 hc) _ Re.stat
          · first | exact no_tt h | exact no_ns h | induction h
    case ref i =>
      obtain ⟨a, ha, rfl⟩ := hv
      dsimp only at h
      induction hi : st.get i with
      | none => rw [hi] at h; exact no_tt h
      | some bi =>
        rw [hi] at h
        induction bi <;> first | exact no_tt h | skip
        obtain ⟨o, ho, c, cl, d, sl, doc, pm, ctv, cd, h1, h2, rfl, h3⟩ := Re.at hi ha
        exact ⟨.frame, .inl rfl, (Looks.ld (part := none) ho).andThen .now⟩
    case bi => exact keep_bi hv
    all_goals exact no_tt h
theorem snd_CallE (GO : GOk g G) {N : Nat} (hR : R = run G N) (S : Snd g clo R n) (H : Here g n cx A F env L) (V : EnvS g ρ st env) (D : Hnd A ρ st) (Re : Rel g clo F ρ σ st s) {f : Expr} {as : List Expr} {p : Pos} (hf : ∀ o a q, f ≠ .Attribute o a q) (hp : plainArgs as = true)
    (h : evE G R (.call (compE m cx f) (as.map (compE m cx))) st k x = true) (P : PostV g clo F ρ σ st k Q) (X : PostX g clo F ρ σ st x E) : wpAny (model g.prog g.w) A (eval (.Call f as [] p) env) Q E s := by
  change R.ev (compE m cx f) st (fun v s => evs R (as.map (compE m cx)) s (fun vs s => R.call v vs s k x) x) x = true at h
  rw [eval_Call_plain hf]
  refine wpAny_bind (S.ev m cx f A F env L ρ σ st s _ x _ E H V D Re h ?_ X)
  intro ρ₁ σ₁ st₁ s₁ v u e₁ R₁ r₁ h₁
  refine callWith_list hp (snd_evs S.ev m H as hp (V.ext e₁) (D.ext e₁) R₁ h₁ ?_ (X.ext e₁))
  intro ρ₂ σ₂ st₂ s₂ vs us e₂ R₂ r₂ h₂
  exact ⟨keeps_ok GO R₂ hR (e₂.vr r₁) h₂, S.call v vs u ([] ++ us) A F L _ _ _ _ _ _ _ _ H.toAmb (D.ext (e₁.trans e₂)) R₂ (e₂.vr r₁) r₂ h₂ (P.ext (e₁.trans e₂)) (X.ext (e₁.trans e₂))⟩
inductive MenuX (o1 o2 : Option Ob) (b : Bool) (F : List Nat → List Nat → List Nat → Bool) : Prop where
  | mk (a b' c : List Nat) (h1 : o1 = some .nums) (h2 : o2 = some (.list [.str a, .str b', .str c, .none])) (h3 : b = false) (h : F a b' c = true)
set_option tactic.hygienic true in
theorem menu_inv {o1 o2 : Option Ob} {b : Bool} {F : List Nat → List Nat → List Nat → Bool} (h : (match o1, o2, b with
    | some .nums, some (.list [.str a, .str b, .str c, .none]), false => F a b c
    | _, _, _ => false) = true) : MenuX o1 o2 b F := by
  induction o1 with
  | none => exact no_tt h
  | some b1 =>
    induction b1 <;> first | exact no_tt h | skip
    induction o2 with
    | none => exact no_tt h
    | some b2 =>
      induction b2 <;> first | exact no_tt h | skip
      rename_i l
      rcases l with _ | ⟨x, r⟩
      · exact no_tt h
      induction x <;> first | exact no_tt h | skip
      rcases r with _ | ⟨x, r⟩
      · exact no_tt h
      induction x <;> first | exact no_tt h | skip
      rcases r with _ | ⟨x, r⟩
      · exact no_tt h
      induction x <;> first | exact no_tt h | skip
      rcases r with _ | ⟨x, r⟩
      · exact no_tt h
      induction x <;> first | exact no_tt h | skip
      rcases r with _ | ⟨_, _⟩
      · induction b with
        | true => exact no_tt h
        | false => exact ⟨_, _, _, rfl, rfl, rfl, h⟩
      · exact no_tt h
theorem four {m : Nat} (h : m < 3 + 1) : m = 0 ∨ m = 1 ∨ m = 2 ∨ m = 3 := by
  rcases m with _ | _ | _ | _ | m
  · exact .inl rfl
  · exact .inr (.inl rfl)
  · exact .inr (.inr (.inl rfl))
  · exact .inr (.inr (.inr rfl))
  · exact absurd h (Nat.not_lt.mpr (Nat.le_add_left 4 m))
set_option tactic.hygienic true in
theorem snd_menu (O : g.Ok) (GO : GOk g G) (T : TakeOk g clo G) (S : Snd g clo R n) (H : Here g n cx A F env L) (V : EnvS g ρ st env) (D : Hnd A ρ st) (Re : Rel g clo F ρ σ st s) {es : List Expr} {vs : List AV} {f : Str} {a : Nat} {src : Expr} {mm : Int} {k1} {p1 p2 p3 p4 p5 : Pos}
    (hvs : constsOf es = some vs) (hf : nameE cx f = .k (.fn a)) (hpl : plainArgs [src] = true)
    (h : evE G R (.menu vs a (compE m cx src) mm.toNat) st k x = true) (P : PostV g clo F ρ σ st k Q) (X : PostX g clo F ρ σ st x E) :
    wpAny (model g.prog g.w) A (eval (.Subscript (.List es p1) (.Call (.Name f p2) [src, .Constant (.int mm) k1 p3] [] p4) p5) env) Q E s := by
  change (match Nat.beq a G.take && okL vs, mm.toNat with | true, 4 => R.ev (compE m cx src) (st.new (.list vs)) _ x | _, _ => false) = true at h
  split at h
  · rename_i q1 q2
    rw [Bool.and_eq_true] at q1
    have qa := Nat.eq_of_beq_eq_true q1.1
    subst qa
    have hmm : mm = ((3 + 1 : Nat) : Int) := by omega
    subst hmm
    obtain ⟨c1, c2⟩ := constsOf_ok (g := g) (clo := clo) (F := F) (A := A) (E := E) (env := env) hvs
    refine Subscript_ (wpAny_List (c2 Re fun t us hus => ⟨?_, ?_⟩))
    · rw [VRs.length hus, sizeLine_eq]; have := okL_le q1.2; omega
    · have R0 := (Re.toks t).pushO O rfl (OR.list_mk hus) (fun _ _ e => by first | exact Ob.noConfusion e | induction e) t
      have e0 := Re.extNew (.list vs) s.heap.objs.size
      have hl := getElem?_push_last ρ s.heap.objs.size Re.len
      rw [eval_Call_plain (fun _ _ _ e => by cases e)]
      obtain ⟨n1, n2, n3⟩ := nameE_k hf
      refine wpAny_bind (snd_glob O R0 H n1 n2 n3 fun u hu => ?_)
      cases hu
      have hpl2 : plainArgs [src, .Constant (.int ((3 + 1 : Nat) : Int)) k1 p3] = true := by
        cases src <;> first | rfl | cases hpl
      refine callWith_list hpl2 ?_
      obtain ⟨w1, w2⟩ := starEach_plain (env := env) hpl2
      rw [w1]
      refine spliced_cons (S.ev m cx src A F env L _ _ _ _ _ x _ E H (V.ext e0) (D.ext e0) R0 h ?_ (X.ext e0))
      intro ρ₁ σ₁ st₁ s₁ v u e₁ R₁ r₁ h₁
      show wpAny _ _ (spliced ((false, eval (.Constant (.int ((3 + 1 : Nat) : Int)) k1 p3) env) :: [])) _ _ _
      refine spliced_cons (wpAny_Constant_int (spliced_nil ?_))
      refine ⟨keeps_K GO.kt _ R₁.stat, ?_⟩
      dsimp only at h₁
      split at h₁
      · rename_i i
        obtain ⟨sa, hsa, rfl⟩ := r₁
        split at h₁
        · rename_i j hi
          obtain ⟨a, b, c, hj, hn, hro, h₁⟩ := menu_inv h₁
          rw [Bool.or_eq_false_iff] at hro
          split at h₁
          · rename_i ck
            simp only [Bool.and_eq_true] at ck
            obtain ⟨⟨⟨⟨⟨l1, l2⟩, l3⟩, w1⟩, w2⟩, w3⟩ := ck
            have l1 := Nat.ble_eq.mp l1
            have l2 := Nat.ble_eq.mp l2
            have l3 := Nat.ble_eq.mp l3
            refine T A F L n ρ₁ σ₁ st₁ _ i j sa 3 s₁.toks _ E H.toAmb (D.ext (e0.trans e₁)) (R₁.toks _) hsa hi hj hro.1 hro.2 (by omega) ?_
            intro s' m' t' hm' R₂
            have lref : VR ρ₁ σ₁ (.ref st.nx) (.ref s.heap.objs.size) := ⟨_, e₁.at hl, rfl⟩
            have iref : VR ρ₁ σ₁ (.int (Int.ofNat m')) (.int (m' : Int) t') := ⟨t', rfl⟩
            have ee := e0.trans e₁
            have fin : ∀ p : List Nat, p.length ≤ 50 → lowP p = true → ∀ s'' u, Rel g clo F ρ₁ σ₁ st₁ s'' → VR ρ₁ σ₁ (.str p) u → Q u s'' := fun p hl hp s'' u R' hu => by
              obtain ⟨l, tt, e, rfl⟩ := hu
              rw [lowP_txt hp] at e; first | exact no_tt e | exact no_ns e | cases e
              have sz : (strOf p).cps.size ≤ 100 := by show p.toArray.size ≤ 100; rw [List.size_toArray]; omega
              refine P _ _ _ _ (.opt st₁.sy) _ (ee.trans (Ext.sym2 (y := strOf p) (f := strOf [1]))) (R'.sym2 sz (by show (1 : Nat) ≤ 100; omega)) ⟨strOf p, strOf [1], ?_, ?_, .inr ⟨by show (1 : Nat) ≠ 0; omega, tt, rfl⟩⟩ h₁
              · rw [← R'.slen]; simp
              · rw [← R'.slen]; simp
            have mle : Nat.ble m' 1000 = true := Nat.ble_eq.mpr (by omega)
            have su : ∀ r, subO (.ref st.nx) (.int (Int.ofNat m')) st₁ = some r → (PostR g clo F ρ₁ σ₁ st₁ r Q) → wpAny (model g.prog g.w) A (subscriptTail (.List es p1) (.Call (.Name f p2) [src, .Constant (.int ((3 + 1 : Nat) : Int)) k1 p3] [] p4) (.ref s.heap.objs.size) (.int (m' : Int) t')) Q E s' :=
              fun r hr PP => snd_sub O rfl R₂ hr lref iref PP
            have sub0 : ∀ i, m' = i → subO (.ref st.nx) (.int (Int.ofNat m')) st₁ = valO (nth [.str a, .str b, .str c, .none] i) := fun i e => by
              subst e; unfold subO; dsimp only; rw [hn]; dsimp only; rw [mle]
            have cases4 : m' = 0 ∨ m' = 1 ∨ m' = 2 ∨ m' = 3 := by first | exact four hm' | exact four (Nat.lt_of_le_of_lt hm' (by decide)) | omega
            rcases cases4 with e | e | e | e
            · exact su _ (sub0 _ e) (fin a l1 w1)
            · exact su _ (sub0 _ e) (fin b l2 w2)
            · exact su _ (sub0 _ e) (fin c l3 w3)
            · refine su _ (sub0 _ e) ?_
              intro s'' u R' hu
              cases hu
              refine P _ _ _ _ (.opt st₁.sy) _ (ee.trans (Ext.sym2 (y := strOf [78, 65]) (f := strOf []))) (R'.sym2 (by show (2 : Nat) ≤ 100; omega) (by show (0 : Nat) ≤ 100; omega)) ⟨strOf [78, 65], strOf [], ?_, ?_, .inl ⟨rfl, rfl, rfl⟩⟩ h₁
              · rw [← R'.slen]; simp
              · rw [← R'.slen]; simp
          · exact no_tt h₁
        · exact no_tt h₁
      · exact no_tt h₁
  · first | exact no_tt h | exact no_ns h | induction h
end
end Mine
end
section
set_option genInjectivity false
set_option genSizeOf false
set_option tactic.hygienic false
open PySem PySem.W PySem.Calls PyProof.Rows PySem.SeqAt
set_option maxRecDepth 100000
namespace Mine
section
variable {g : Gd} {clo : CloP} {F : List Addr} {ρ : List Addr} {σ : List Str} {st : St} {s : Shared} {A : Around} {E : Value → Shared → Prop} {cx : Cx} {env : Env} {L : Addr} {n m : Nat} {R : Rn} {G : Glob} {k : KV} {x : KX} {Q : Value → Shared → Prop}
set_option tactic.hygienic true in
theorem snd_getMethod (O : g.Ok) (GO : GOk g G) (Re : Rel g clo F ρ σ st s) {v f : AV} {first : List AV} {u : Value} {i : Nat} {pl : Sem Bool} {Q : Value × List Value → Shared → Prop} (hv : VR ρ σ v u) (h : methO G v i st = some (f, first))
    (P : ∀ f' us t, VR ρ σ f f' → VRs ρ σ first us → Q (f', us) { s with toks := t }) : wpAny (model g.prog g.w) A (getMethod u (g.nm i) pl) Q E s := by
  unfold methO at h
  split at h
  · rename_i j
    have hv0 := hv
    obtain ⟨a, ha, rfl⟩ := hv
    induction hj : st.get j with
    | none => rw [hj] at h; exact no_ns h
    | some bhj =>
    rw [hj] at h
    induction bhj
    case inst C d =>
      dsimp only at h
      induction hd : st.get d with
      | none => rw [hd] at h; exact no_ns h
      | some bhd =>
      rw [hd] at h
      induction bhd <;> first | exact no_ns h | skip
      · rename_i fs
        dsimp only at h
        split at h
        · rename_i w hw
          split at h
          · rename_i hf
            cases h
            obtain ⟨c, hc, hx, hn⟩ := fld_some hf
            exact getMethod_fld O (GO.pl C c hc hx) Re hj hd ha hn hw fun u' t hu => P u' [] t hu trivial
          · first | exact no_tt h | exact no_ns h | induction h
        · rename_i hw
          split at h
          · rename_i c hc
            split at h
            · rename_i q fI hx hl
              cases h
              exact getMethod_meth O (GO.pl C c hc hx) Re hj hd ha hl hw (P _ _ s.toks rfl ⟨hv0, trivial⟩)
            · first | exact no_tt h | exact no_ns h | induction h
          · first | exact no_tt h | exact no_ns h | induction h
    case list l =>
      dsimp only at h
      obtain ⟨o, ho, xs, nn, rfl, r1⟩ := Re.at hj ha
      split at h
      · first | exact no_tt h | exact no_ns h | cases h
        rw [O.n0]
        exact getMethod_builtin ⟨_, ho, rfl⟩ PySem.F.plainAttrs_list PySem.F.slot_list_append PySem.F.type_list_append (fun b e => by cases e; exact ⟨_, ho, rfl⟩) (P _ _ s.toks rfl ⟨hv0, trivial⟩)
      · first | exact no_tt h | exact no_ns h | cases h
        rw [O.n1]
        exact getMethod_builtin ⟨_, ho, rfl⟩ PySem.F.plainAttrs_list PySem.F.slot_list_pop PySem.F.type_list_pop (fun b e => by cases e; exact ⟨_, ho, rfl⟩) (P _ _ s.toks rfl ⟨hv0, trivial⟩)
      · first | exact no_tt h | exact no_ns h | induction h
    case dict kv ep =>
      dsimp only at h
      obtain ⟨o, ho, es, kvs, hx, hd, _⟩ := Re.at hj ha
      split at h
      · first | exact no_tt h | exact no_ns h | cases h
        rw [O.n2]
        exact getMethod_builtin ⟨_, ho, hx.1⟩ PySem.F.plainAttrs_dict PySem.F.slot_dict_get PySem.F.type_dict_get (fun b e => by cases e; exact ⟨_, ho, hx.2.1⟩) (P _ _ s.toks rfl ⟨hv0, trivial⟩)
      · first | exact no_tt h | exact no_ns h | induction h
    case pdict kv out =>
      dsimp only at h
      obtain ⟨o, ho, es, ep, ff, hx, hd, _⟩ := Re.at hj ha
      split at h
      · first | exact no_tt h | exact no_ns h | cases h
        rw [O.n2]
        exact getMethod_builtin ⟨_, ho, hx.1⟩ PySem.F.plainAttrs_dict PySem.F.slot_dict_get PySem.F.type_dict_get (fun b e => by cases e; exact ⟨_, ho, hx.2.1⟩) (P _ _ s.toks rfl ⟨hv0, trivial⟩)
      · first | exact no_tt h | exact no_ns h | induction h
    all_goals exact no_ns h
  · have hv0 := hv
    obtain ⟨l, t, _, rfl⟩ := hv
    split at h
    · first | exact no_tt h | exact no_ns h | cases h
      rw [O.n3]
      exact getMethod_builtin (typeIs_str _ _ _) PySem.F.plainAttrs_str PySem.F.slot_str_join PySem.F.type_str_join (fun b e => by cases e) (P _ _ s.toks rfl ⟨hv0, trivial⟩)
    · first | exact no_tt h | exact no_ns h | induction h
  · first | exact no_tt h | exact no_ns h | induction h
set_option tactic.hygienic true in
theorem snd_MCall (O : g.Ok) (GO : GOk g G) {N : Nat} (hR : R = run G N) (S : Snd g clo R n) (H : Here g n cx A F env L) (V : EnvS g ρ st env) (D : Hnd A ρ st) (Re : Rel g clo F ρ σ st s) {o : Expr} {a : Str} {as : List Expr} {ap p : Pos} {i : Nat}
    (hi : cx.id a = some i) (hs : notSuper o = true) (hp : plainArgs as = true) (hl : as.length ≤ 25) (hline : (ap.endLine == p.line) = true)
    (h : evE G R (.mcall (compE m cx o) i (as.map (compE m cx))) st k x = true) (P : PostV g clo F ρ σ st k Q) (X : PostX g clo F ρ σ st x E) : wpAny (model g.prog g.w) A (eval (.Call (.Attribute o a ap) as [] p) env) Q E s := by
  change R.ev (compE m cx o) st (fun v s => match methO G v i s with
      | some (f, first) => evs R (as.map (compE m cx)) s (fun vs s => R.call f (first ++ vs) s k x) x
      | none => false) x = true at h
  rw [arm_eval_Call, notSuper_base hs]
  refine wpAny_bind (S.ev m cx o A F env L ρ σ st s _ x _ E H V D Re h ?_ X)
  intro ρ₁ σ₁ st₁ s₁ v u e₁ R₁ r₁ h₁
  refine wpAny_bind (wpAny_standAt ?_)
  dsimp only at h₁
  split at h₁
  · rename_i f first hm
    unfold methodCall
    have hform : methodCallForm (as.length + ([] : List Keyword).length) (backTo p (starEach as env)) (backToKw p (keywordEach [] env)) = true := by
      have b := backTo_plain (env := env) (pos := p) hp
      have b' : (backTo p (starEach as env)).all (fun x => !x.1) = true := by
        rw [List.all_eq_true]; intro y hy
        rw [List.any_eq_false] at b
        have := b y hy
        simpa using this
      unfold methodCallForm
      rw [b']
      show (true && true && decide (as.length + 0 + 0 < 30)) = true
      simp; omega
    rw [hform]
    refine wpAny_bind (wpAny_holding ?_)
    show wpAny _ A (getMethod u a _) _ E s₁
    rw [← H.cok.id a i hi]
    refine snd_getMethod O GO R₁ r₁ hm fun f' us t hf hus => ?_
    have e3 : ∀ env' : Env, methodCallPos true o env' ap p = pure p := fun env' => by
      unfold methodCallPos; rw [hline]; rfl
    dsimp only
    rw [e3]
    refine wpAny_bind (wpAny_pure ?_)
    refine callWith_list hp (snd_evs S.ev m H as hp (V.ext e₁) (D.ext e₁) (R₁.toks t) h₁ ?_ (X.ext e₁))
    intro ρ₂ σ₂ st₂ s₂ vs us2 e₂ R₂ r₂ h₂
    exact ⟨keeps_ok GO R₂ hR (e₂.vr hf) h₂, S.call f (first ++ vs) f' (us ++ us2) A F L _ _ _ _ _ _ _ _ H.toAmb (D.ext (e₁.trans e₂)) R₂ (e₂.vr hf) ((e₂.vrs hus).append r₂) h₂ (P.ext (e₁.trans e₂)) (X.ext (e₁.trans e₂))⟩
  · cases h₁
end
end Mine
end
section
set_option genInjectivity false
set_option genSizeOf false
set_option tactic.hygienic false
open PySem PySem.W PySem.Calls PyProof.Rows PySem.SeqAt
set_option maxRecDepth 100000
namespace Mine
section
variable {g : Gd} {clo : CloP} {G : Glob}
theorem isName_some {e : Expr} {x : Str} (h : isName e = some x) : ∃ p, e = .Name x p := by
  induction e using PySem.Expr.casesOn <;> first | exact no_ns h | exact ⟨_, by rw [Option.some.inj h]⟩
theorem listOf_some {e : Expr} {x : List Expr} (h : listOf e = some x) : ∃ p, e = .List x p := by
  induction e using PySem.Expr.casesOn <;> first | exact no_ns h | exact ⟨_, by rw [Option.some.inj h]⟩
set_option tactic.hygienic true in
theorem isStrC_some {e : Expr} {x : Str} (h : isStrC e = some x) : ∃ k p, e = .Constant (.str x) k p := by
  induction e using PySem.Expr.casesOn <;> first | exact no_ns h | skip
  rename_i c _ _
  induction c <;> first | exact no_ns h | exact ⟨_, _, by rw [Option.some.inj h]⟩
set_option tactic.hygienic true in
theorem isIntC_some {e : Expr} {x : Int} (h : isIntC e = some x) : ∃ k p, e = .Constant (.int x) k p := by
  induction e using PySem.Expr.casesOn <;> first | exact no_ns h | skip
  rename_i c _ _
  induction c <;> first | exact no_ns h | exact ⟨_, _, by rw [Option.some.inj h]⟩
set_option tactic.hygienic true in
theorem isNoneC_true {e : Expr} (h : isNoneC e = true) : ∃ k p, e = .Constant .none k p := by
  induction e using PySem.Expr.casesOn <;> first | exact no_tt h | skip
  rename_i c _ _
  induction c <;> first | exact no_tt h | exact ⟨_, _, rfl⟩
theorem isIs_true {l : List CmpOp} (h : isIs l = true) : l = [.Is] := by
  induction l with
  | nil => exact no_tt h
  | cons c r => induction r with
    | nil => induction c <;> first | exact no_tt h | rfl
    | cons _ _ => induction c <;> exact no_tt h
theorem oneE_some {l : List Expr} {r : Expr} (h : oneE l = some r) : l = [r] := by
  induction l with
  | nil => exact no_ns h
  | cons c q => induction q with
    | nil => rw [Option.some.inj h]
    | cons _ _ => exact no_ns h
theorem twoE_some {l : List Expr} {r : Expr × Expr} (h : twoE l = some r) : l = [r.1, r.2] := by
  induction l with
  | nil => exact no_ns h
  | cons c q => induction q with
    | nil => exact no_ns h
    | cons d q => induction q with
      | nil => rw [← Option.some.inj h]
      | cons _ _ => exact no_ns h
set_option tactic.hygienic true in
theorem callOf_some {e : Expr} {x : Expr × List Expr} (h : callOf e = some x) : ∃ p, e = .Call x.1 x.2 [] p := by
  induction e using PySem.Expr.casesOn <;> first | exact no_ns h | skip
  rename_i g as ks p
  induction ks with
  | nil => exact ⟨p, by rw [← Option.some.inj h]⟩
  | cons _ _ => exact no_ns h
set_option tactic.hygienic true in
theorem fromP_some {e x : Expr} (h : fromP e = some x) : ∃ p, e = .Slice (some x) none none p := by
  induction e using PySem.Expr.casesOn <;> first | exact no_ns h | skip
  rename_i a b c p
  induction a with
  | none => exact no_ns h
  | some lo => induction b with
    | some _ => exact no_ns h
    | none => induction c with
      | some _ => exact no_ns h
      | none => exact ⟨p, by rw [Option.some.inj h]⟩
inductive NasP (t a b : Expr) (s z y : Str) : Prop where
  | mk (p1 : Pos) (k : Nat) (p2 p3 : Pos) (k' : Nat) (p4 p5 : Pos) (h1 : t = .Compare (.Name y p1) [.Is] [.Constant .none k p2] p3) (h2 : a = .Constant (.str s) k' p4) (h3 : b = .Name z p5)
set_option tactic.hygienic true in
theorem nasP_some {t a b : Expr} {y s z : Str} (h : nasP t a b = some (y, s, z)) : NasP t a b s z y := by
  induction t using PySem.Expr.casesOn <;> first | exact no_ns h | skip
  rename_i l ops rs p3
  have h : (match isIs ops with
    | true => thenO (isName l) fun y => thenO (oneE rs) fun r => thenO (isStrC a) fun s => thenO (isName b) fun z => match isNoneC r with | true => some (y, s, z) | false => none
    | false => none) = some (y, s, z) := h
  induction h2 : isIs ops with
  | false => rw [h2] at h; exact no_ns h
  | true =>
    rw [h2] at h
    obtain ⟨y', h1, h⟩ := thenO_some h
    obtain ⟨r, h3, h⟩ := thenO_some h
    obtain ⟨s', h4, h⟩ := thenO_some h
    obtain ⟨z', h5, h⟩ := thenO_some h
    induction h6 : isNoneC r with
    | false => rw [h6] at h; exact no_ns h
    | true =>
      rw [h6] at h
      cases h
      obtain ⟨p1, rfl⟩ := isName_some h1
      obtain ⟨k', p4, rfl⟩ := isStrC_some h4
      obtain ⟨p5, rfl⟩ := isName_some h5
      obtain ⟨k, p2, rfl⟩ := isNoneC_true h6
      rw [isIs_true h2, oneE_some h3]
      exact ⟨_, _, _, _, _, _, _, rfl, rfl, rfl⟩
theorem attrOf_none {g : Expr} (h : attrOf g = none) (o : Expr) (m : Str) (p : Pos) (e : g = .Attribute o m p) : False := by
  rw [e] at h; exact no_ns h.symm
theorem attrOf_some {g : Expr} {r : Expr × Str × Pos} (h : attrOf g = some r) : g = .Attribute r.1 r.2.1 r.2.2 := by
  induction g using PySem.Expr.casesOn <;> first | exact no_ns h | rw [← Option.some.inj h]
theorem isZ_true {i : Int} (h : isZ i = true) : i = 0 := by
  induction i with
  | ofNat n => rw [Nat.eq_of_beq_eq_true (show Nat.beq n 0 = true from h)]; rfl
  | negSucc n => exact no_tt h
theorem oneK_some {l : List (Option Expr)} {k : Expr} (h : oneK l = some k) : l = [some k] := by
  induction l with
  | nil => exact no_ns h
  | cons c q => induction c with
    | none => exact no_ns h
    | some c => induction q with
      | nil => rw [Option.some.inj (show some c = some k from h)]
      | cons _ _ => exact no_ns h
theorem oneOp_some {l : List CmpOp} {k : CmpOp} (h : oneOp l = some k) : l = [k] := by
  induction l with
  | nil => exact no_ns h
  | cons c q => induction q with
    | nil => rw [Option.some.inj (show some c = some k from h)]
    | cons _ _ => exact no_ns h
set_option tactic.hygienic true in
theorem fnOf_some {e : Mine.E} {a : Nat} (h : fnOf e = some a) : e = .k (.fn a) := by
  induction e using Mine.E.casesOn <;> first | exact no_ns h | skip
  rename_i c
  induction c <;> first | exact no_ns h | rw [Option.some.inj h]
inductive MenuP (o i : Expr) (es : List Expr) (g : Str) (src : Expr) (m : Int) : Prop where
  | mk (p1 p2 : Pos) (k : Nat) (p3 p4 : Pos) (h1 : o = .List es p1) (h2 : i = .Call (.Name g p2) [src, .Constant (.int m) k p3] [] p4)
theorem oneC_some {l : List Comprehension} {c : Comprehension} (h : oneC l = some c) : l = [c] := by
  rcases l with _ | ⟨d, _ | ⟨e, r⟩⟩
  · exact no_ns h
  · rw [Option.some.inj (show some d = some c from h)]
  · exact no_ns h
set_option tactic.hygienic true in
theorem menuP_some {o i : Expr} {es : List Expr} {g : Str} {src : Expr} {m : Int} (h : menuP o i = some (es, g, src, m)) : MenuP o i es g src m := by
  unfold menuP at h
  split at h
  · rename_i es' g' as h1 h2
    split at h
    · rename_i x src' c h3 h4
      split at h
      · rename_i m' h5
        cases h
        obtain ⟨p1, rfl⟩ := listOf_some h1
        obtain ⟨p4, rfl⟩ := callOf_some h2
        obtain ⟨p2, e3⟩ := isName_some h3
        have e4 := twoE_some h4
        obtain ⟨k, p3, e5⟩ := isIntC_some h5
        dsimp only at e3 e4
        subst e3 e4 e5
        exact ⟨_, _, _, _, _, rfl, rfl⟩
      · exact no_ns h
    · exact no_ns h
  · exact no_ns h
set_option tactic.hygienic true in
theorem snd_evN (O : g.Ok) (GO : GOk g G) (T : TakeOk g clo G) {N : Nat} (hS : ∀ m < N, Snd g clo (run G m) m) : SndE g clo (run G N) N := by
  intro m cx e A F env L ρ σ st s k x Q E H V D Re h P X
  cases N with
  | zero => first | exact no_tt h | exact no_ns h | induction h using PySem.Expr.casesOn
  | succ N =>
  have S := hS N (Nat.lt_succ_self N)
  have H := H.le (m := N) (Nat.le_succ N)
  change evE G (run G N) (compE m cx e) st k x = true at h
  cases m with
  | zero => first | exact no_tt h | exact no_ns h | induction h using PySem.Expr.casesOn
  | succ m =>
  induction e using PySem.Expr.casesOn
  case Constant c kk p =>
    change evE G (run G N) (match constAV c with | some v => .k v | none => .bad) st k x = true at h
    split at h
    · rename_i v hv
      exact snd_const Re hv fun u t hu => P _ _ _ _ v u (Ext.refl ..) (Re.toks t) hu h
    · first | exact no_tt h | exact no_ns h | induction h
  case Name y p => exact snd_name O H V Re h P
  case BoolOp op vs p =>
    cases op with
    | And => exact snd_BoolOp S H V D Re (i := true) rfl (fun r => rfl) h P X
    | Or => exact snd_BoolOp S H V D Re (i := false) rfl (fun r => rfl) h P X
  case BinOp a op b p => exact snd_Bin O S H V D Re h P X
  case UnaryOp op a p =>
    cases op
    case Not => exact snd_Not S H V D Re h P X
    case USub => exact snd_Neg S H V D Re h P X
    all_goals (first | exact no_tt h | exact no_ns h | induction h)
  case IfExp t a b p =>
    change evE G (run G N) (compIf (compE m cx) cx t a b) st k x = true at h
    unfold compIf at h
    split at h
    · rename_i hp
      split at h
      · rename_i q1 q3
        obtain ⟨_, _, _, _, _, _, _, rfl, rfl, rfl⟩ := nasP_some hp
        rw [Bool.and_eq_true, Bool.and_eq_true, Bool.and_eq_true] at q1
        have e1 := eq_of_beq q1.1.1.1
        have e2 := eq_of_beq q1.1.1.2
        subst e1 e2
        exact snd_nas H V Re (eq_of_beq q1.2) q3 (by simpa using q1.1.2) h P
      · first | exact no_tt h | exact no_ns h | induction h
    · exact snd_IfExp S H V D Re h P X
  case Dict ks vs p =>
    change evE G (run G N) (compD (compE m cx) ks vs) st k x = true at h
    unfold compD at h
    split at h
    · rename_i q
      rw [Bool.and_eq_true, List.isEmpty_iff, List.isEmpty_iff] at q
      rw [q.1, q.2]
      exact snd_Dict0 O Re h P
    · split at h
      · rename_i h1 h2
        rw [oneK_some h1, oneE_some h2]
        exact snd_Dict1 O S H V D Re h P X
      · exact no_tt h
  case List es p =>
    change evE G (run G N) (match plainArgs es with | true => .list (es.map (compE m cx)) | false => .bad) st k x = true at h
    split at h
    · exact snd_List O S H V D Re (by assumption) h P X
    · first | exact no_tt h | exact no_ns h | induction h
  case Tuple es kk p =>
    change evE G (run G N) (match plainArgs es with | true => .tup (es.map (compE m cx)) | false => .bad) st k x = true at h
    split at h
    · exact snd_Tuple O S H V D Re (by assumption) h P X
    · first | exact no_tt h | exact no_ns h | induction h
  case Compare a ops rs p =>
    change evE G (run G N) (compCmp (compE m cx) a ops rs) st k x = true at h
    unfold compCmp at h
    split at h
    · rename_i h1 h2
      rw [oneOp_some h1, oneE_some h2]
      split at h
      · exact snd_Cmp O S H V D Re (by assumption) h P X
      · first | exact no_tt h | exact no_ns h | induction h
    · first | exact no_tt h | exact no_ns h | induction h
  case Call f as ks p =>
    change evE G (run G N) (compCall (compE m cx) cx f as ks p) st k x = true at h
    unfold compCall at h
    split at h
    · split at h
      · rename_i hat
        rw [attrOf_some hat]
        split at h
        · rename_i mm q1 q2
          simp only [Bool.and_eq_true] at q2
          exact snd_MCall O GO rfl S H V D Re q1 q2.1.1.1 q2.1.1.2 (Nat.ble_eq.mp q2.1.2) q2.2 h P X
        · first | exact no_tt h | exact no_ns h | induction h
      · rename_i hna
        split at h
        · exact snd_CallE GO rfl S H V D Re (fun o a q e => attrOf_none hna o a q e) (by assumption) h P X
        · first | exact no_tt h | exact no_ns h | induction h
    · first | exact no_tt h | exact no_ns h | induction h
  case Attribute o mm p =>
    change evE G (run G N) (match cx.id mm, notSuper o with | some m', true => .attr (compE m cx o) m' | _, _ => .bad) st k x = true at h
    split at h
    · exact snd_Attribute O GO S H V D Re (by assumption) (by assumption) h P X
    · first | exact no_tt h | exact no_ns h | induction h
  case Subscript o i p =>
    change evE G (run G N) (compSub (compE m cx) cx o i) st k x = true at h
    unfold compSub at h
    split at h
    · rename_i hp
      obtain ⟨_, _, _, _, _, rfl, rfl⟩ := menuP_some hp
      split at h
      · split at h
        · rename_i hc hf _ _
          exact snd_menu O GO T S H V D Re hc (fnOf_some hf) (by assumption) h P X
        · first | exact no_tt h | exact no_ns h | induction h
      · first | exact no_tt h | exact no_ns h | induction h
    · split at h
      · rename_i hf
        obtain ⟨_, rfl⟩ := fromP_some hf
        exact snd_From O S H V D Re h P X
      · split at h
        · exact snd_Subscript O S H V D Re (by assumption) h P X
        · first | exact no_tt h | exact no_ns h | induction h
  case ListComp elt gs sc p =>
    change evE G (run G N) (compLC (compE m) cx elt gs sc) st k x = true at h
    unfold compLC at h
    split at h
    · rename_i c hgs
      obtain ⟨tg, it, ifs, az⟩ := c
      obtain rfl := oneC_some hgs
      dsimp only at h
      split at h
      · rename_i t fr h1 h2 h3
        rw [Bool.and_eq_true, Bool.and_eq_true] at h3
        rw [isZ_true h3.2]
        exact snd_ListComp O rfl S H V D Re h1 h2 h3.1.1 h3.1.2 h P X
      · first | exact no_tt h | exact no_ns h | induction h
    · first | exact no_tt h | exact no_ns h | induction h
  case DictComp ke ve gs sc p =>
    change evE G (run G N) (compDC (compE m) cx ke ve gs sc) st k x = true at h
    unfold compDC at h
    split at h
    · rename_i c hgs
      obtain ⟨tg, it, ifs, az⟩ := c
      obtain rfl := oneC_some hgs
      dsimp only at h
      split at h
      · rename_i t fr h1 h2 h3
        rw [Bool.and_eq_true, Bool.and_eq_true] at h3
        rw [isZ_true h3.2]
        exact snd_DictComp O rfl S H V D Re h1 h2 h3.1.1 h3.1.2 h P X
      · first | exact no_tt h | exact no_ns h | induction h
    · first | exact no_tt h | exact no_ns h | induction h
  all_goals (first | exact no_tt h | exact no_ns h | induction h)
end
end Mine
end
section
set_option genInjectivity false
set_option genSizeOf false
set_option tactic.hygienic false
open PySem PySem.W PySem.Calls PyProof.Rows PySem.SeqAt
set_option maxRecDepth 100000
namespace Mine
section
variable {g : Gd} {clo : CloP} {G : Glob}
variable {F : List Addr} {ρ : List Addr} {σ : List Str} {st : St} {s : Shared} {A : Around} {E : Value → Shared → Prop} {cx : Cx} {env : Env} {L : Addr} {n m : Nat} {R : Rn} {kb : Bool → St → Bool} {x : KX} {Q : Bool → Shared → Prop}
noncomputable def kBool (k : Bool → St → Bool) : KV := fun v s => match v with | .bool b => k b s | _ => false
theorem tst_ev (S : Snd g clo R n) (H : Here g n cx A F env L) (V : EnvS g ρ st env) (D : Hnd A ρ st) (Re : Rel g clo F ρ σ st s) {e : Expr}
    (hn : ∀ a p, e ≠ .UnaryOp .Not a p) (hb : ∀ o a p, e ≠ .BoolOp o a p) (hi : ∀ a b c p, e ≠ .IfExp a b c p) (hc : ∀ l ops rs p, e = .Compare l ops rs p → ∃ op r, ops = [op] ∧ rs = [r] ∧ behindInMarks op r = false)
    (h : R.ev (compE m cx e) st (kBool kb) x = true) (P : PostB g clo F ρ σ st kb Q) (X : PostX g clo F ρ σ st x E) : wpAny (model g.prog g.w) A (isTrue e env (eval e env)) Q E s := by
  refine wpAny_isTrue_all hn hb hi hc (S.ev m cx e A F env L _ _ _ _ _ x _ E H V D Re h ?_ X)
  intro ρ' σ' st' s' v u e' R' hv hk
  unfold kBool at hk
  split at hk
  · cases hv; exact wpAny_truthy_bool (P _ _ _ _ _ e' R' hk)
  · first | exact no_tt hk | exact no_ns hk | induction hk
set_option tactic.hygienic true in
theorem tst_bool (S : Snd g clo R n) (H : Here g n cx A F env L) (V : EnvS g ρ st env) (D : Hnd A ρ st) (Re : Rel g clo F ρ σ st s) {op : BoolOp} {vs : List Expr} {p : Pos} {i : Bool} (hi : i = (match op with | .And => true | .Or => false))
    (hc : ∀ r, compE (m + 1) cx (.BoolOp op r p) = .bool i (r.map (compE m cx)))
    (h : tstE R (.bool i (vs.map (compE m cx))) st kb x = true) (P : PostB g clo F ρ σ st kb Q) (X : PostX g clo F ρ σ st x E) : wpAny (model g.prog g.w) A (isTrue (.BoolOp op vs p) env (eval (.BoolOp op vs p) env)) Q E s := by
  match vs with
  | [] =>
    refine wpAny_isTrue_BoolOp ?_
    change kb i st = true at h
    have fin := P _ _ _ _ _ (Ext.refl ..) Re h
    induction op <;> (subst hi; exact wpAny_pure fin)
  | a :: r =>
    change R.tst (compE m cx a) st (fun b s => match eqB b i with
      | true => R.tst (.bool i (r.map (compE m cx))) s kb x
      | false => kb b s) x = true at h
    refine wpAny_isTrue_BoolOp ?_
    rw [arm_allTrue_cons]
    refine wpAny_bind (S.tst m cx a A F env L _ _ _ _ _ x _ E H V D Re h ?_ X)
    intro ρ₁ σ₁ st₁ s₁ b e₁ R₁ h₁
    dsimp only at h₁
    split at h₁
    · rename_i q
      rw [eqB_ok] at q
      have q := eq_of_beq q
      subst q
      have go : wpAny (model g.prog g.w) A (allTrue op r env) Q E s₁ := S.tst (m + 1) cx (.BoolOp op r p) A F env L _ _ _ _ kb x _ E H (V.ext e₁) (D.ext e₁) R₁ (by rw [hc]; exact h₁) (P.ext e₁) (X.ext e₁)
      induction op <;> (subst hi; exact go)
    · rename_i q
      rw [eqB_ok] at q
      have fin := P _ _ _ _ _ e₁ R₁ h₁
      cases op <;> (subst hi; cases b <;> first | exact no_tt q | exact no_ns q | (cases q; done) | exact wpAny_pure fin)
theorem tst_ite (S : Snd g clo R n) (H : Here g n cx A F env L) (V : EnvS g ρ st env) (D : Hnd A ρ st) (Re : Rel g clo F ρ σ st s) {t a b : Expr} {p : Pos}
    (h : tstE R (.ite (compE m cx t) (compE m cx a) (compE m cx b)) st kb x = true) (P : PostB g clo F ρ σ st kb Q) (X : PostX g clo F ρ σ st x E) : wpAny (model g.prog g.w) A (isTrue (.IfExp t a b p) env (eval (.IfExp t a b p) env)) Q E s := by
  change R.tst (compE m cx t) st (fun t s => match t with | true => R.tst (compE m cx a) s kb x | false => R.tst (compE m cx b) s kb x) x = true at h
  rw [arm_isTrue_IfExp]
  refine wpAny_bind (S.tst m cx t A F env L ρ σ st s _ x _ E H V D Re h ?_ X)
  intro ρ₁ σ₁ st₁ s₁ v e₁ R₁ h₁
  induction v with
  | true => exact S.tst m cx a A F env L _ _ _ _ kb x _ E H (V.ext e₁) (D.ext e₁) R₁ h₁ (P.ext e₁) (X.ext e₁)
  | false => exact S.tst m cx b A F env L _ _ _ _ kb x _ E H (V.ext e₁) (D.ext e₁) R₁ h₁ (P.ext e₁) (X.ext e₁)
set_option tactic.hygienic true in
theorem nas_no {N i : Nat} (h : (run G N).ev (.nas i) st (kBool kb) x = true) : False := by
  induction N with
  | zero => first | exact no_tt h | exact no_ns h | induction h
  | succ N =>
    change (match st.get st.loc with
    | some (.ns fs) => match look fs i with
      | some (.opt j) => kBool kb (.str [1114112 + j]) st
      | some (.str p) => kBool kb (.str p) st
      | some .none => kBool kb (.str [78, 65]) st
      | _ => false
    | _ => false) = true at h
    induction hf : st.get st.loc with
    | none => rw [hf] at h; exact no_tt h
    | some bf =>
      rw [hf] at h
      induction bf <;> first | exact no_tt h | skip
      dsimp only at h
      rename_i fs
      induction hv : look fs i with
      | none => rw [hv] at h; exact no_tt h
      | some v =>
        rw [hv] at h
        induction v <;> exact no_tt h
theorem bad_no {N : Nat} {k : KV} (h : (run G N).ev .bad st k x = true) : False := by cases N <;> cases h
noncomputable def isT : Mine.E → Bool
  | .notE _ => true
  | .bool _ _ => true
  | .ite _ _ _ => true
  | _ => false
theorem tstE_ev {c : Mine.E} (h : isT c = false) : tstE R c st kb x = R.ev c st (kBool kb) x := by
  induction c using Mine.E.casesOn <;> first | rfl | exact (Bool.false_ne_true h.symm).elim
theorem nameE_isT {y : Str} : isT (nameE cx y) = false := by
  unfold nameE
  induction y == "__debug__" || y == "__classdict__" with
  | true => rfl
  | false =>
    induction cx.kinds.lookup y with
    | none => rfl
    | some k =>
      induction k <;> first | rfl | (dsimp only; induction cx.id y <;> rfl) | (dsimp only; induction cx.gl y <;> rfl)
theorem compIf_isT {f : Expr → Mine.E} {t a b : Expr} : compIf f cx t a b = .ite (f t) (f a) (f b) ∨ (∃ i, compIf f cx t a b = .nas i) ∨ compIf f cx t a b = .bad := by
  unfold compIf
  split
  · split
    · exact .inr (.inl ⟨_, rfl⟩)
    · exact .inr (.inr rfl)
  · exact .inl rfl
set_option tactic.hygienic true in
theorem compE_isT {e : Expr} (h1 : ∀ a p, e ≠ .UnaryOp .Not a p) (h2 : ∀ o a p, e ≠ .BoolOp o a p) (h3 : ∀ a b c p, e ≠ .IfExp a b c p) : isT (compE m cx e) = false := by
  cases m with
  | zero => rfl
  | succ m =>
  induction e using PySem.Expr.casesOn
  case Constant c kk p =>
    change isT (match constAV c with | some v => .k v | none => .bad) = false
    induction constAV c <;> rfl
  case Name y p => exact nameE_isT
  case BoolOp op vs p => exact (h2 _ _ _ rfl).elim
  case UnaryOp op a p =>
    cases op
    case Not => exact (h1 _ _ rfl).elim
    all_goals rfl
  case IfExp t a b p => exact (h3 _ _ _ _ rfl).elim
  case Dict ks vs p =>
    change isT (compD (compE m cx) ks vs) = false
    unfold compD
    induction ks.isEmpty && vs.isEmpty
    · induction oneK ks
      · rfl
      · induction oneE vs <;> rfl
    · rfl
  case List es p =>
    change isT (match plainArgs es with | true => .list (es.map (compE m cx)) | false => .bad) = false
    induction plainArgs es <;> rfl
  case Tuple es kk p =>
    change isT (match plainArgs es with | true => .tup (es.map (compE m cx)) | false => .bad) = false
    induction plainArgs es <;> rfl
  case Compare a ops rs p =>
    change isT (compCmp (compE m cx) a ops rs) = false
    unfold compCmp
    induction oneOp ops with
    | none => rfl
    | some op => induction oneE rs with
      | none => rfl
      | some b =>
        dsimp only
        induction behindInMarks op b <;> rfl
  case Call f as ks p =>
    change isT (compCall (compE m cx) cx f as ks p) = false
    unfold compCall
    induction ks with
    | cons _ _ => rfl
    | nil =>
      dsimp only
      induction attrOf f with
      | none => dsimp only; induction plainArgs as <;> rfl
      | some q =>
        obtain ⟨o, mm, ap⟩ := q
        dsimp only
        induction cx.id mm with
        | none => rfl
        | some i => induction notSuper o && plainArgs as && Nat.ble as.length 25 && (ap.endLine == p.line) <;> rfl
  case Attribute o mm p =>
    change isT (match cx.id mm, notSuper o with | some m', true => .attr (compE m cx o) m' | _, _ => .bad) = false
    induction cx.id mm with
    | none => rfl
    | some i => induction notSuper o <;> rfl
  case Subscript o i p =>
    change isT (compSub (compE m cx) cx o i) = false
    unfold compSub
    induction menuP o i with
    | some q =>
      obtain ⟨es, g, src, mm⟩ := q
      dsimp only
      induction constsOf es with
      | none => rfl
      | some vs => induction fnOf (nameE cx g) with
        | none => rfl
        | some a => dsimp only; induction plainArgs [src] <;> rfl
    | none =>
      dsimp only
      induction fromP i with
      | some lo => rfl
      | none => dsimp only; induction isSlice i <;> rfl
  case ListComp elt gs sc p =>
    change isT (compLC (compE m) cx elt gs sc) = false
    unfold compLC
    cases oneC gs with
    | none => rfl
    | some c =>
      dsimp only
      cases tgOf ⟨sc.names, cx.gl, cx.id, none⟩ c.target with
      | none => rfl
      | some t => cases freesOf cx sc.names with
        | none => rfl
        | some fr => cases notSet c.iter && scOk sc && isZ c.is_async <;> rfl
  case DictComp ke ve gs sc p =>
    change isT (compDC (compE m) cx ke ve gs sc) = false
    unfold compDC
    cases oneC gs with
    | none => rfl
    | some c =>
      dsimp only
      cases tgOf ⟨sc.names, cx.gl, cx.id, none⟩ c.target with
      | none => rfl
      | some t => cases freesOf cx sc.names with
        | none => rfl
        | some fr => cases notSet c.iter && scOk sc && isZ c.is_async <;> rfl
  all_goals rfl
set_option tactic.hygienic true in
theorem compE_Compare1 {l : Expr} {ops : List CmpOp} {rs : List Expr} {p : Pos} {k : KV} {N : Nat} (h : (run G N).ev (compE m cx (.Compare l ops rs p)) st k x = true) : ∃ op r, ops = [op] ∧ rs = [r] ∧ behindInMarks op r = false := by
  induction m with
  | zero => exact (bad_no h).elim
  | succ m =>
  change (run G N).ev (compCmp (compE m cx) l ops rs) st k x = true at h
  unfold compCmp at h
  split at h
  · rename_i h1 h2
    split at h
    · exact ⟨_, _, oneOp_some h1, oneE_some h2, by assumption⟩
    · exact (bad_no h).elim
  · exact (bad_no h).elim
set_option tactic.hygienic true in
theorem snd_tstN {N : Nat} (hS : ∀ m < N, Snd g clo (run G m) m) : SndT g clo (run G N) N := by
  intro m cx e A F env L ρ σ st s kb x Q E H V D Re h P X
  cases N with
  | zero => first | exact no_tt h | exact no_ns h | induction h using PySem.Expr.casesOn
  | succ N =>
  have S := hS N (Nat.lt_succ_self N)
  have H := H.le (m := N) (Nat.le_succ N)
  change tstE (run G N) (compE m cx e) st kb x = true at h
  cases m with
  | zero => exact (bad_no h).elim
  | succ m =>
  have go : (run G N).ev (compE (m + 1) cx e) st (kBool kb) x = true → (∀ a p, e ≠ .UnaryOp .Not a p) → (∀ o a p, e ≠ .BoolOp o a p) → (∀ a b c p, e ≠ .IfExp a b c p) → (∀ l ops rs p, e = .Compare l ops rs p → ∃ op r, ops = [op] ∧ rs = [r] ∧ behindInMarks op r = false) →
      wpAny (model g.prog g.w) A (isTrue e env (eval e env)) Q E s := fun h h1 h2 h3 h4 => tst_ev S H V D Re h1 h2 h3 h4 h P X
  have ev : (∀ a p, e ≠ .UnaryOp .Not a p) → (∀ o a p, e ≠ .BoolOp o a p) → (∀ a b c p, e ≠ .IfExp a b c p) → wpAny (model g.prog g.w) A (isTrue e env (eval e env)) Q E s := fun h1 h2 h3 => by
    rw [tstE_ev (compE_isT h1 h2 h3)] at h
    exact go h h1 h2 h3 fun l ops rs p q => by subst q; exact compE_Compare1 h
  induction e using PySem.Expr.casesOn
  case BoolOp op vs p => cases op <;> exact tst_bool S H V D Re rfl (fun r => rfl) h P X
  case UnaryOp op a p =>
    cases op
    case Not =>
      change (run G N).tst (compE m cx a) st (fun b s => kb (!b) s) x = true at h
      exact wpAny_isTrue_Not (S.tst m cx a A F env L _ _ _ _ _ x _ E H V D Re h (fun ρ' σ' st' s' b e' R' hk => P _ _ _ _ _ e' R' hk) X)
    all_goals exact ev (fun _ _ q => by first | exact Ob.noConfusion q | cases q) (fun _ _ _ q => by cases q) (fun _ _ _ _ q => by cases q)
  case IfExp t a b p =>
    rcases compIf_isT (f := compE m cx) (cx := cx) (t := t) (a := a) (b := b) with hh | ⟨i, hh⟩ | hh
    · change tstE (run G N) (compIf (compE m cx) cx t a b) st kb x = true at h
      rw [hh] at h; exact tst_ite S H V D Re h P X
    · change tstE (run G N) (compIf (compE m cx) cx t a b) st kb x = true at h
      rw [hh] at h; exact (nas_no h).elim
    · change tstE (run G N) (compIf (compE m cx) cx t a b) st kb x = true at h
      rw [hh] at h; exact (bad_no h).elim
  all_goals exact ev (fun _ _ q => by first | exact Ob.noConfusion q | cases q) (fun _ _ _ q => by cases q) (fun _ _ _ _ q => by cases q)
end
end Mine
end
section
set_option genInjectivity false
set_option genSizeOf false
set_option tactic.hygienic false
open PySem PySem.W PySem.Calls PyProof.Rows PySem.SeqAt
set_option maxRecDepth 100000
namespace Mine
theorem oldK_low {B h h' : Heap} (K : OldK B h) (hx : ∀ b o, b < B.objs.size → h.get? b = some o → h'.get? b = some o) : OldK B h' := by
  have lt : ∀ b o, B.get? b = some o → b < B.objs.size := fun b o e => Heap.lt_size e
  refine ⟨fun b o e => ?_, fun b o e => let ⟨o', ho'⟩ := K.there b o e; ⟨o', hx b o' (lt b o e) ho'⟩⟩
  rcases K.old b o e with x | ⟨t, hc, vs, more, hv, x⟩ | ⟨rfl, hc, ⟨o', es, n, ho', r⟩, z⟩
  · exact .inl (hx b _ (lt b o e) x)
  · exact .inr (.inl ⟨t, hc, vs, more, hv, hx b _ (lt b o e) x⟩)
  · exact .inr (.inr ⟨rfl, hc, ⟨o', es, n, hx _ _ (lt _ o e) ho', r⟩, fun key => by rw [OldK.staticOf_congr ((hx _ _ (lt _ o e) ho').trans ho'.symm) key]; exact z key⟩)
theorem frameOf_at {M : Model} {A : Around} {E : Value → Shared → Prop} {s : Shared} {base : Heap} {env e : Env} {outer : List Env} {L : Addr} {Q : Value → Shared → Prop} (hfr : A.frames = some (e :: outer)) (hl : s.heap.FunFrames base (e :: outer))
    (he : e.frame = some L) (hf : env.frame = some L) (h : ∀ h', Heap.SlotsOnly ((e :: outer).filterMap (·.frame)) s.heap h' → Q (.ref L) { s with heap := h' }) : wpAny M A (PySem.frameOf env) Q E s := by
  unfold PySem.frameOf
  refine wpAny_bind (wpAny_frameEnvs hfr ?_)
  have hdw : ((e :: outer).dropWhile fun x => x.frame != env.frame) = e :: outer := by simp [List.dropWhile, he, hf]
  rw [hdw]
  unfold frameObject
  refine wpAny_bind (wpAny_bind (wpAny_readyFrames_fun hl fun h₁ hs₁ => wpAny_pure ?_))
  rw [he]
  exact wpAny_pure (h h₁ hs₁)
section
variable {g : Gd} {clo : CloP} {F : List Addr} {ρ : List Addr} {σ : List Str} {st : St} {s s' : Shared} {A : Around} {E : Value → Shared → Prop} {cx : Cx} {env : Env} {L : Addr} {n : Nat}
theorem Rel.onF (R : Rel g clo F ρ σ st s) {i : Nat} {a : Addr} {b : Ob} (hi : ρ[i]? = some a) (hb : st.get i = some b) (ha : a ∈ F) : ∃ fs, b = .ns fs := by
  obtain ⟨j, fs, e1, e2, e3⟩ := R.fra a ha
  rcases R.inj j i a _ _ e1 hi e2 hb with w | ⟨w, _⟩
  · subst w; rw [hb] at e2; cases e2; exact ⟨fs, rfl⟩
  · rw [e3] at w; first | exact no_tt w | exact no_ns w | induction w
theorem Rel.geF (R : Rel g clo F ρ σ st s) {a : Addr} (ha : a ∈ F) : g.B.objs.size ≤ a := let ⟨i, _, e1, e2, _⟩ := R.fra a ha; R.lt i a _ e1 e2
theorem Rel.slots (O : g.Ok) (R : Rel g clo F ρ σ st s) {h' : Heap} (hs : Heap.SlotsOnly F s.heap h') : Rel g clo F ρ σ st { s with heap := h' } := by
  have keep : ∀ {b o}, b ∉ F → s.heap.get? b = some o → h'.get? b = some o := fun hb e => (hs.2.1 _ hb).trans e
  refine ⟨R.len, R.slen, R.sml, fun i b e => ?_, R.inj, R.lt, fun i C d x e1 e2 => ?_, R.fra, fun x o e => ?_, oldK_low R.old fun b o hb e => keep (fun q => Nat.not_le.mpr hb (R.geF q)) e, R.gens, R.drawn, R.os, R.tab.step0 fun o e => keep (fun q => Nat.not_le.mpr O.tl (R.geF q)) e⟩
  · obtain ⟨a, o, q1, q2, q3⟩ := R.obs i b e
    by_cases ha : a ∈ F
    · obtain ⟨fs, rfl⟩ := R.onF q1 e ha
      obtain ⟨sl, h⟩ := hs.2.2 a o q2
      obtain ⟨es, ep, z1, z2, z3⟩ := q3
      exact ⟨a, _, q1, h, ⟨es, ep, z1, z2, z3⟩⟩
    · exact ⟨a, o, q1, keep ha q2, q3⟩
  · obtain ⟨o', vs, h1, h2, h3, h4, h5⟩ := R.tr i C d x e1 e2
    refine ⟨o', vs, keep (fun q => by obtain ⟨fs, q⟩ := R.onF e2 e1 q; cases q) h1, h2, h3, h4, h5.imp id ?_⟩
    rintro ⟨T, oT, ts, t1, t2, t3, t4, t5, t6⟩
    refine ⟨T, oT, ts, t1, keep (fun q => t5 ?_) t2, t3, t4, t5, t6⟩
    obtain ⟨j, fs, e1, e2, _⟩ := R.fra T q
    exact ⟨j, _, e1, e2⟩
  · exact keep (fun q => Nat.not_le.mpr (O.low x o e) (R.geF q)) (R.stat x o e)
theorem Rel.tb (O : g.Ok) (R : Rel g clo F ρ σ st s) {T : Addr} {oT : Obj} {ts : Array Value} (hnl : ¬ Live ρ st T) (hB : g.B.objs.size ≤ T) (hT : s'.heap.get? T = some oT) (hd : oT.data = .fields ts) (h3 : 3 < ts.size) (hx : Heap.ExtBut T s.heap s'.heap) (c : Calm s s') : Rel g clo F ρ σ st s' := by
  have ne : ∀ {i : Nat} {x : Addr} {b' : Ob}, ρ[i]? = some x → st.get i = some b' → x ≠ T := fun {i x b'} p q z => hnl ⟨i, b', z ▸ p, q⟩
  refine ⟨R.len, R.slen, R.sml, fun i b' e => ?_, R.inj, R.lt, fun i C d x e1 e2 => ?_, R.fra, fun x o e => ?_, oldK_ext R.old hB hx, c.gens.trans R.gens, c.drawn.trans R.drawn, c.os.trans R.os, R.tab.step0 fun o e => hx _ o (Nat.ne_of_lt (Nat.lt_of_lt_of_le O.tl hB)) e⟩
  · obtain ⟨x, o', e1, e2, r⟩ := R.obs i b' e
    exact ⟨x, o', e1, hx x o' (ne e1 e) e2, r⟩
  · obtain ⟨o', vs, h1, h2, h3', h4, h5⟩ := R.tr i C d x e1 e2
    refine ⟨o', vs, hx _ _ (ne e2 e1) h1, h2, h3', h4, h5.imp id ?_⟩
    rintro ⟨T', oT', ts', t1, t2, t3, t4, t5, t6⟩
    by_cases q : T' = T
    · subst q; exact ⟨T', oT, ts, t1, hT, hd, h3, t5, t6⟩
    · exact ⟨T', oT', ts', t1, hx _ _ q t2, t3, t4, t5, t6⟩
  · exact hx x o (Nat.ne_of_lt (Nat.lt_of_lt_of_le (O.low x o e) hB)) (R.stat x o e)
theorem Rel.funFrames (R : Rel g clo F ρ σ st s) (H : Amb g n A F L) : ∃ e r, A.frames = some (e :: r) ∧ e.frame = some L ∧ (e :: r).filterMap (·.frame) = F ∧ s.heap.FunFrames g.B (e :: r) := by
  obtain ⟨e, r, h1, h2, h3, h4⟩ := H.fr
  refine ⟨e, r, h1, h4, h2, ?_⟩
  have all : ∀ l : List Env, (∀ x ∈ l, x.scope.kind ≠ .module ∧ ∃ a, x.frame = some a) → (∀ a ∈ l.filterMap (·.frame), a ∈ F) → s.heap.FunFrames g.B l := by
    intro l
    induction l with
    | nil => intro _ _; trivial
    | cons x r ih =>
      intro p q
      obtain ⟨k, a, ha⟩ := p x List.mem_cons_self
      have hm : a ∈ F := q a (by rw [List.filterMap_cons, ha]; exact List.mem_cons_self)
      obtain ⟨i, fs, e1, e2, _⟩ := R.fra a hm
      obtain ⟨o, ho, es, ep, hd, _⟩ := R.at e2 e1
      refine ⟨k, ⟨a, o, ha, Heap.get?_none_of_le (R.geF hm), ho, fun vs z => by rw [hd] at z; cases z⟩, ih (fun y hy => p y (List.mem_cons_of_mem _ hy)) fun y hy => q y ?_⟩
      rw [List.filterMap_cons, ha]; exact List.mem_cons_of_mem _ hy
  exact all _ h3 fun a ha => by rw [← h2]; exact ha
inductive AtFl (h : Heap) (a : Addr) (fl : Value) : Prop where
  | mk (o : Obj) (vs : Array Value) (T : Addr) (oT : Obj) (ts : Array Value) (h1 : h.get? a = some o) (h2 : o.data = .fields vs) (h3 : vs[1]? = some (.ref T)) (h4 : h.get? T = some oT) (h5 : oT.data = .fields ts) (h6 : ts[3]? = some fl)
theorem half (d : Nat) : (2 * (d / 2) + 1) / 2 = d / 2 := by omega
theorem nd_odd (d : Nat) : nd (some (2 * (d / 2) + 1)) = true := by
  show Nat.beq ((2 * (d / 2) + 1) % 2) 1 = true
  rw [BT.beq_eq]; simp
theorem mapFields_slots {o : Obj} {vs : Array Value} (h : o.data = .fields vs) (f : Array Value → Array Value) : (Obj.mapFields f o).slots = o.slots := by
  obtain ⟨c, d, dt, sl⟩ := o; dsimp only at h; subst h; rfl
theorem mapFields_dict {o : Obj} {vs : Array Value} (h : o.data = .fields vs) (f : Array Value → Array Value) : (Obj.mapFields f o).dict = o.dict := by
  obtain ⟨c, d, dt, sl⟩ := o; dsimp only at h; subst h; rfl
theorem snd_entry (O : g.Ok) (H : Amb g n A F L) (hf : env.frame = some L) (Re : Rel g clo F ρ σ st s) {i : Nat} {C d : Nat} {a : Addr} {head : Value} {hadNext : Bool} {Q : Unit → Shared → Prop} (ha : ρ[i]? = some a) (hi : st.get i = some (.exc C (some d))) (hro : st.isRo i = false)
    (h : ∀ h', Rel g clo F ρ σ (st.put i (.exc C (some (2 * (d / 2) + 1)))) { s with heap := h' } → AtFl h' a (rawInt L) → Q () { s with heap := h' }) :
    wpAny (model g.prog g.w) A (do let f ← PySem.frameOf env; let pl ← entryPlaceOf L hadNext; let b ← EntryCells.newEntry head f .none (rawInt L) .none pl; setField (.ref a) 1 b) Q E s := by
  obtain ⟨e, r, h1, h2, h3, h4⟩ := Re.funFrames H
  refine wpAny_bind (frameOf_at h1 h4 h2 hf fun h₁ hs₁ => ?_)
  rw [h3] at hs₁
  have R1 := Re.slots O hs₁
  refine wpAny_bind (wpAny_entryPlaceOf fun pl hpl => ?_)
  unfold EntryCells.newEntry newFields
  refine wpAny_bind (wpAny_newObj_type ?_ (hpl.sizeOk5 _ _ _ _ _))
  generalize htb : ({ cls := .type "traceback", dict := none, data := .fields ([head, .ref L, .none, rawInt L, .none] ++ (if pl.isEmpty then List.replicate 6 Value.none else pl)).toArray } : Obj) = tb
  have tbd : tb.data = .fields ([head, .ref L, .none, rawInt L, .none] ++ (if pl.isEmpty then List.replicate 6 Value.none else pl)).toArray := by rw [← htb]
  have tbf : tb.isFreed = false := by rw [← htb]; rfl
  have R2 := R1.keeps (s' := { s with heap := h₁.push tb }) (fun b o e => Heap.get?_push_of_some _ e) ⟨rfl, rfl, rfl⟩
  obtain ⟨o, vs, t1, t2, t3, t4, t5⟩ := R2.tr i C _ a hi ha
  have hT : (h₁.push tb).get? h₁.objs.size = some tb := Heap.get?_push_size h₁ tbf
  have hTa : h₁.objs.size ≠ a := fun q => by
    obtain ⟨o', e'⟩ := R1.there ha hi
    have := Heap.lt_size e'
    rw [← q] at this; exact Nat.lt_irrefl _ this
  have hnl : ¬ Live ρ st h₁.objs.size := R1.fresh (Heap.get?_none_of_le (Nat.le_refl _))
  refine wpAny_setField t1 t2 (by rw [t3]; decide) (h _ ?_ ?_)
  · obtain ⟨o2, e2, vs2, q1, q2, q3, q4, dx, q5, q6⟩ := R2.at hi ha
    rw [t1] at e2; first | exact no_tt e2 | exact no_ns e2 | cases e2
    rw [t2] at q2; first | exact no_tt q2 | exact no_ns q2 | cases q2
    have hd3 := Obj.data_mapFields t2 (·.setIfInBounds 1 (Value.ref h₁.objs.size))
    have ho := Heap.get?_update_self (Obj.mapFields (·.setIfInBounds 1 (Value.ref h₁.objs.size))) t1 (Obj.isFreed_of_fields hd3)
    refine R2.wr (s' := { s with heap := (h₁.push tb).update a (Obj.mapFields (·.setIfInBounds 1 (Value.ref h₁.objs.size))) }) O ha hro (Heap.SameBut.update ..).extBut ho ?_ hi (fun q => by first | exact Ob.noConfusion q | cases q) ⟨rfl, rfl, rfl⟩ ?_
    · refine ⟨_, (Obj.cls_mapFields _ _).trans q1, hd3, by rw [Array.size_setIfInBounds]; exact q3, (mapFields_slots t2 _).trans q4, dx, by rw [half]; exact q5, (mapFields_dict t2 _).trans q6⟩
    · intro C' d' q
      cases q
      refine ⟨_, _, ho, hd3, by rw [Array.size_setIfInBounds]; exact t3, by rw [Array.getElem?_setIfInBounds_ne (by decide)]; exact t4, .inr ⟨h₁.objs.size, tb, _, ?_, ?_, tbd, ?_, hnl, R1.big O⟩⟩
      · simp [t3]
      · exact (Heap.get?_update_other _ _ (Ne.symm hTa)).trans hT
      · simp only [List.size_toArray, List.length_append, List.length_cons, List.length_nil] <;> omega
  · have hd3 := Obj.data_mapFields t2 (·.setIfInBounds 1 (Value.ref h₁.objs.size))
    have ho := Heap.get?_update_self (Obj.mapFields (·.setIfInBounds 1 (Value.ref h₁.objs.size))) t1 (Obj.isFreed_of_fields hd3)
    refine ⟨_, _, h₁.objs.size, tb, _, ho, hd3, by simp [t3], (Heap.get?_update_other _ _ (Ne.symm hTa)).trans hT, tbd, ?_⟩
    first | (simp; done) | (rcases hpl with rfl | ⟨_, _, _, _, _, _, _, rfl⟩ <;> simp)
theorem snd_note (O : g.Ok) (H : Amb g n A F L) (hf : env.frame = some L) (Re : Rel g clo F ρ σ st s) {i : Nat} {C d : Nat} {a : Addr} {Q : Unit → Shared → Prop} (ha : ρ[i]? = some a) (hi : st.get i = some (.exc C (some d))) (hro : st.isRo i = false)
    (h : ∀ h', Rel g clo F ρ σ (st.put i (.exc C (some (2 * (d / 2) + 1)))) { s with heap := h' } → AtFl h' a (rawInt L) → Q () { s with heap := h' }) :
    wpAny (model g.prog g.w) A (noteFrame (.ref a) env) Q E s := by
  obtain ⟨o, vs, t1, t2, t3, t4, t5⟩ := Re.tr i C _ a hi ha
  unfold noteFrame
  simp only [hf]
  rcases t5 with ⟨t5, _⟩ | ⟨T, oT, ts, e1, e2, e3, e4, e5, e6⟩
  · refine wpAny_bind (wpAny_field t1 t2 t5 ?_)
    rw [if_neg (by decide)]
    exact snd_entry O H hf Re ha hi hro h
  · refine wpAny_bind (wpAny_field t1 t2 e1 ?_)
    rw [if_pos (show (Value.ref T != Value.none) = true from by simp)]
    have e7 : ts[3]? = some ts[3] := Array.getElem?_eq_getElem e4
    refine wpAny_bind (wpAny_field e2 e3 e7 ?_)
    by_cases q : (ts[3] == rawInt L) = true
    · rw [if_pos q]
      refine wpAny_pure (h s.heap ?_ ⟨o, vs, T, oT, ts, t1, t2, e1, e2, e3, by rw [e7, eq_of_beq q]⟩)
      obtain ⟨o2, r2, vs2, q1, q2, q3, q4, dx, q5, q6⟩ := Re.at hi ha
      rw [t1] at r2; first | exact no_tt r2 | exact no_ns r2 | cases r2
      rw [t2] at q2; first | exact no_tt q2 | exact no_ns q2 | cases q2
      exact Re.wr (s' := s) O ha hro (extBut_refl _ _) t1 ⟨vs, q1, t2, t3, q4, dx, by rw [half]; exact q5, q6⟩ hi (fun q => by first | exact Ob.noConfusion q | cases q) ⟨rfl, rfl, rfl⟩ fun C' d' z => by
        cases z; exact ⟨o, vs, t1, t2, t3, t4, .inr ⟨T, oT, ts, e1, e2, e3, e4, e5, e6⟩⟩
    · rw [if_neg q]
      have hTa : T ≠ a := fun z => e5 ⟨i, _, z ▸ ha, hi⟩
      have hd3 := Obj.data_mapFields e3 (·.setIfInBounds 3 Value.none)
      have ho := Heap.get?_update_self (Obj.mapFields (·.setIfInBounds 3 Value.none)) e2 (Obj.isFreed_of_fields hd3)
      have R1 := Re.tb (s' := { s with heap := s.heap.update T (Obj.mapFields (·.setIfInBounds 3 Value.none)) }) O e5 e6 ho hd3 (by rw [Array.size_setIfInBounds]; exact e4) (Heap.SameBut.update ..).extBut ⟨rfl, rfl, rfl⟩
      refine wpAny_bind (wpAny_setField e2 e3 e4 ?_)
      exact snd_entry O H hf R1 ha hi hro h
theorem snd_setFlight (O : g.Ok) (Re : Rel g clo F ρ σ st s) {i : Nat} {C : Nat} {d : Option Ix} {a : Addr} {fr : Option Addr} {Q : Unit → Shared → Prop} (ha : ρ[i]? = some a) (hi : st.get i = some (.exc C d))
    (h : ∀ h', Rel g clo F ρ σ st { s with heap := h' } → (nd d = true → AtFl h' a (fr.elim .none fun f => rawInt f)) → Q () { s with heap := h' }) : wpAny (model g.prog g.w) A (setFlight (.ref a) fr) Q E s := by
  obtain ⟨o, vs, t1, t2, t3, t4, t5⟩ := Re.tr i C _ a hi ha
  unfold setFlight
  rcases t5 with ⟨t5, t6⟩ | ⟨T, oT, ts, e1, e2, e3, e4, e5, e6⟩
  · refine wpAny_bind (wpAny_field t1 t2 t5 ?_)
    rw [if_neg (by decide)]
    exact wpAny_pure (h s.heap Re fun q => by rw [t6] at q; cases q)
  · refine wpAny_bind (wpAny_field t1 t2 e1 ?_)
    rw [if_pos (show (Value.ref T != Value.none) = true from by simp)]
    have hTa : T ≠ a := fun z => e5 ⟨i, _, z ▸ ha, hi⟩
    have hd3 := Obj.data_mapFields e3 (·.setIfInBounds 3 (fr.elim .none fun f => rawInt f))
    have ho := Heap.get?_update_self (Obj.mapFields (·.setIfInBounds 3 (fr.elim .none fun f => rawInt f))) e2 (Obj.isFreed_of_fields hd3)
    have R1 := Re.tb (s' := { s with heap := s.heap.update T (Obj.mapFields (·.setIfInBounds 3 (fr.elim .none fun f => rawInt f))) }) O e5 e6 ho hd3 (by rw [Array.size_setIfInBounds]; exact e4) (Heap.SameBut.update ..).extBut ⟨rfl, rfl, rfl⟩
    exact wpAny_setField e2 e3 e4 (h _ R1 fun _ => ⟨o, vs, T, _, _, (Heap.get?_update_other _ _ hTa).trans t1, t2, e1, ho, hd3, by simp [e4]⟩)
end
end Mine
end
section
set_option genInjectivity false
set_option genSizeOf false
set_option tactic.hygienic false
open PySem PySem.W PySem.Calls PyProof.Rows PySem.SeqAt
set_option maxRecDepth 100000
namespace Mine
set_option tactic.hygienic true in
theorem isExc_some {G : Glob} {C : Nat} (h : isExc G C = true) : ∃ c, G.cl C = some c ∧ c.exc = true := by
  unfold isExc at h
  split at h
  · rename_i c hc; exact ⟨c, hc, h⟩
  · first | exact no_tt h | exact no_ns h | induction h
section
variable {g : Gd} {clo : CloP} {F : List Addr} {ρ : List Addr} {σ : List Str} {st : St} {s s' : Shared} {A : Around} {E : Value → Shared → Prop} {cx : Cx} {env : Env} {L : Addr} {n : Nat} {G : Glob}
theorem Rel.excAt (Re : Rel g clo F ρ σ st s) {i : Nat} {C : Nat} {d : Option Ix} {a : Addr} (ha : ρ[i]? = some a) (hi : st.get i = some (.exc C d)) : ∃ o vs, s.heap.get? a = some o ∧ o.cls = .ref C ∧ o.data = .fields vs := by
  obtain ⟨o, ho, vs, h1, h2, _⟩ := Re.at hi ha
  exact ⟨o, vs, ho, h1, h2⟩
theorem excType (Re : Rel g clo F ρ σ st s) {M : Model} {i : Nat} {C : Nat} {d : Option Ix} {a : Addr} (ha : ρ[i]? = some a) (hi : st.get i = some (.exc C d)) : Looks M s.heap (typeOf (.ref a)) (.ref C) := by
  obtain ⟨o, vs, h1, h2, h3⟩ := Re.excAt ha hi
  rw [← h2]
  exact (Looks.ld h1).andThen .now
theorem excNoType (Re : Rel g clo F ρ σ st s) {M : Model} {i : Nat} {C : Nat} {d : Option Ix} {a : Addr} (ha : ρ[i]? = some a) (hi : st.get i = some (.exc C d)) : Looks M s.heap (isType (.ref a)) false := by
  obtain ⟨o, vs, h1, h2, h3⟩ := Re.excAt ha hi
  refine (Looks.ld h1).andThen ?_
  rw [h3]
  exact .now
theorem snd_raiseStmt (O : g.Ok) (GO : GOk g G) (hh : A.handled = none) (Re : Rel g clo F ρ σ st s) {i : Nat} {C : Nat} {d : Option Ix} {a : Addr} (ha : ρ[i]? = some a) (hi : st.get i = some (.exc C d)) (hc : isExc G C = true) {Q : Flow → Shared → Prop}
    (h : ∀ s', Rel g clo F ρ σ st s' → E (.ref a) s') {pos : Pos} :
    wpAny (model g.prog g.w) A (do
      let e ← holding (Option.toList (none : Option Value)) (excFromValue (.ref a) "exceptions must derive from BaseException")
      let e ← if ← isType (.ref a) then holding [e] (raisedFor (.ref a) e) else raisedInstance e
      setFlight e none
      raiseNew e) Q E s := by
  obtain ⟨c, hc1, hc2⟩ := isExc_some hc
  have X := GO.ex C c hc1 hc2
  have nt := excNoType Re (M := model g.prog g.w) ha hi
  have ty := excType Re (M := model g.prog g.w) ha hi
  have ins : Looks (model g.prog g.w) s.heap (isInstance (.ref a) (.type "BaseException")) true := ty.andThen (looks_mroIn Re.stat X.mb)
  refine wpAny_bind (wpAny_holding ?_)
  unfold excFromValue isExcClass
  refine wpAny_bind (wpAny_bind (nt.here (wpAny_pure ?_)))
  simp only [Bool.false_eq_true, if_false]
  refine wpAny_bind (ins.here ?_)
  simp only [if_true]
  refine wpAny_pure ?_
  refine wpAny_bind (nt.here ?_)
  simp only [Bool.false_eq_true, if_false]
  unfold raisedInstance
  refine wpAny_bind (wpAny_bind (ty.here (wpAny_bind ((looks_typeIn Re.stat X.tt).here ?_))))
  rw [if_pos (by simp)]
  refine wpAny_pure ?_
  refine wpAny_bind (snd_setFlight O Re ha hi fun h' R' _ => ?_)
  exact wpAny_raiseNew_none hh (h _ R')
set_option tactic.hygienic true in
theorem snd_Raise (O : g.Ok) (GO : GOk g G) {R : Rn} {m : Nat} {k : Fl → St → Bool} {x : KX} {Q : Flow → Shared → Prop} (S : Snd g clo R n) (H : Here g n cx A F env L) (V : EnvS g ρ st env) (D : Hnd A ρ st) (Re : Rel g clo F ρ σ st s) {e : Expr} {p : Pos}
    (h : exS G R (.raise (compE m cx e)) st k x = true) (X : PostX g clo F ρ σ st x E) : wpAny (model g.prog g.w) A (exec (.Raise (some e) none p) env) Q E s := by
  change R.ev (compE m cx e) st (fun v s => match s.hd, v with
      | false, .ref i => match s.get i with
        | some (.exc C _) => match isExc G C with | true => x i s | false => false
        | _ => false
      | _, _ => false) x = true at h
  rw [arm_exec_Raise]
  refine wpAny_bind (wpAny_standAt ?_)
  show wpAny _ A (raiseStmt env (some (do let v ← eval e env; standAt p; pure v)) none) Q E s
  unfold raiseStmt
  refine wpAny_bind (wpAny_bind (S.ev m cx e A F env L _ _ _ _ _ x _ E H V D Re h ?_ X))
  intro ρ₁ σ₁ st₁ s₁ v u e₁ R₁ r₁ h₁
  refine wpAny_bind (wpAny_standAt (wpAny_pure ?_))
  dsimp only at h₁
  split at h₁
  · rename_i i hhd
    obtain ⟨a, ha, rfl⟩ := r₁
    induction hi : st₁.get i with
    | none => rw [hi] at h₁; exact no_tt h₁
    | some bhi =>
    rw [hi] at h₁
    induction bhi <;> first | exact no_tt h₁ | skip
    · rename_i C d
      dsimp only at h₁
      split at h₁
      · rename_i hc
        refine wpAny_bind (wpAny_pure ?_)
        exact snd_raiseStmt O GO ((D.ext e₁).none hhd) R₁ ha hi hc (fun s' R' => X _ _ _ _ _ _ e₁ R' ha ⟨C, d, hi⟩ h₁) (pos := p)
      · cases h₁
  · cases h₁
end
end Mine
end
section
set_option genInjectivity false
set_option genSizeOf false
set_option tactic.hygienic false
open PySem PySem.W PySem.Calls PyProof.Rows Builtin Builtin.ObjectAttr
set_option maxRecDepth 100000
namespace Mine
section
variable {prog : Program} {w : World} {A : Around} {s : Shared} {K : Frag} {R : Result → Shared → Prop}
theorem osa_make {x C : Addr} {ox : Obj} {vs : Array Value} {name : Str} {tk : Tok} {v : Value} (X : K.In s.heap) (I : InstAt s.heap x ox C none) (hod : ox.dict = none) (hdat : ox.data = .fields vs) (hp : overOk K C = true) (ht : findIn K (.ref C) name = some none)
    (h : R (.ok (.ret .none)) { s with heap := ((s.heap.push { cls := .type "dict", data := .dict #[] }).update x fun o => { o with dict := some s.heap.objs.size }).update s.heap.objs.size (Obj.putName name (PyData.keyHash w.params name) (.str name s.toks) v), toks := s.toks + 1 }) :
    codeAny (model prog w) A (.call (.builtin "object.__setattr__") ⟨[.ref x, .str name tk, v], []⟩) R s := by
  refine osa_mine X I hp ht ?_
  obtain ⟨cd, hc, ho⟩ := any_some hp
  rw [Bool.and_eq_true] at ho
  obtain ⟨hix, hcl, hn, -⟩ := I
  obtain ⟨oc, odi, oda, osl⟩ := ox
  dsimp only at hcl hod hdat
  subst hcl hod hdat
  have hxs : x < s.heap.objs.size := Heap.lt_size hix
  have hix1 := Heap.get?_push_of_some { cls := .type "dict", data := .dict #[] } hix
  have hd2 : ((s.heap.push { cls := .type "dict", data := .dict #[] }).update x fun o => { o with dict := some s.heap.objs.size }).get? s.heap.objs.size = some (dictOf [] 0) :=
    (Heap.get?_update_other _ _ (Nat.ne_of_lt hxs)).trans (Heap.get?_push_size s.heap rfl)
  refine wpAny_bind (wpAny_pure (wpAny_bind (wpAny_bind (wpAny_loadPart hix (wpAny_bind ((looks_clsIn X hc).here ?_))))))
  rw [ho.2]
  refine wpAny_bind (wpAny_alloc (wpAny_bind (wpAny_update hix1 ?_)))
  refine wpAny_pure (wpAny_bind (wpAny_pure (wpAny_bind ?_)))
  unfold nsSet
  refine wpAny_bind (wpAny_bind (wpAny_askSetting (wpAny_pure (wpAny_bind (wpAny_mkText (wpAny_bind (wpAny_loadPart hd2 ?_)))))))
  dsimp only
  have c : (!([] : List DictEntry).toArray.any (·.key.isStr name) && ([] : List DictEntry).toArray.any (·.refKey)) = false := by simp
  rw [aRefKeyMayBeTheName_at, c]
  refine wpAny_updatePart hd2 ?_
  have D' : (((s.heap.push { cls := .type "dict", data := .dict #[] }).update x fun o => { o with dict := some s.heap.objs.size }).update s.heap.objs.size (Obj.putName name (PyData.keyHash w.params name) (.str name s.toks) v)).get? s.heap.objs.size = some (dictOf (putL name (PyData.keyHash w.params name) (.str name s.toks) v []) (putN name [] 0)) := by
    rw [← putName_dict]
    exact Heap.get?_update_self _ hd2 (by rw [putName_dict]; rfl)
  refine wpAny_bind (wpAny_lookBehind D' (pastItsLine_dict (by rw [List.size_toArray, sizeLine_eq]; have := putL_len name (PyData.keyHash w.params name) (.str name s.toks) v []; simp at this; omega)) ?_)
  exact wpAny_pure h
end
section
variable {g : Gd} {clo : CloP} {F : List Addr} {ρ : List Addr} {σ : List Str} {st : St} {s : Shared} {A : Around} {E : Value → Shared → Prop} {cx : Cx} {env : Env} {L : Addr} {n m : Nat} {G : Glob}
theorem updDict_get {h : Heap} {a d : Addr} {o : Obj} (ho : h.get? a = some o) : (h.update a fun o => { o with dict := some d }).get? a = some { o with dict := some d } := by
  refine Heap.get?_update_self _ ho ?_
  have hx := (Heap.get?_some_iff.mp ho).2
  obtain ⟨c, dd, dt, s0⟩ := o
  induction dt <;> first | rfl | (simp [Obj.isFreed] at hx)
set_option tactic.hygienic true in
theorem snd_setAttr (O : g.Ok) (GO : GOk g G) (Re : Rel g clo F ρ σ st s) {v w : AV} {u uw : Value} {k : St → Bool} {Q : Unit → Shared → Prop} (hv : VR ρ σ v u) (hw : VR ρ σ w uw) (h : Mine.setAttr G v m w st k = true)
    (P : Post0 g clo F ρ σ st k Q) : wpAny (model g.prog g.w) A (PySem.setAttr u (g.nm m) uw) Q E s := by
  unfold Mine.setAttr at h
  cases v <;> first | exact no_tt h | skip
  · rename_i i
    dsimp only at h
    obtain ⟨a, ha, rfl⟩ := hv
    induction hi : st.get i with
    | none => rw [hi] at h; exact no_tt h
    | some bi =>
    rw [hi] at h
    induction bi <;> first | exact no_tt h | skip
    · rename_i C d
      dsimp only at h
      split at h
      · rename_i fs hf hd
        split at h
        · rename_i hle
          obtain ⟨c, hc, hx, hn⟩ := fld_some hf
          have PO := GO.pl C c hc hx
          obtain ⟨hro, hk⟩ := wr_true h
          obtain ⟨dx, sl, es, kk, h1, h2, I, _⟩ := Re.inst hi hd ha
          exact snd_set_inst O PO.ov (PO.fl m hn) PO.sa Re hd h1 (fun es' n' he => by rw [h2] at he; have := Option.some.inj he; rw [← this]; exact I) rfl (Nat.ble_eq.mp hle) hro hw fun s' R' => P _ _ _ _ (Ext.put' hd (fun _ _ e => by first | exact Ob.noConfusion e | induction e)) R' hk
        · first | exact no_tt h | exact no_ns h | induction h
      · first | exact no_tt h | exact no_ns h | induction h
    · rename_i C od
      cases od with
      | some d =>
      dsimp only at h
      split at h
      · rename_i fs hf hd
        split at h
        · rename_i hle
          obtain ⟨c, hc, hx, hn⟩ := fld_some hf
          have PO := GO.ex C c hc hx
          obtain ⟨hro, hk⟩ := wr_true h
          obtain ⟨ox, dx, es, kk, h1, h2, h3, I, _⟩ := Re.exc hi hd ha
          exact snd_set_inst O PO.ov (PO.fl m hn) PO.sa Re hd h1 (fun es' n' he => by rw [h3] at he; have := Option.some.inj he; rw [← this]; exact I) h2 (Nat.ble_eq.mp hle) hro hw fun s' R' => P _ _ _ _ (Ext.put' hd (fun _ _ e => by first | exact Ob.noConfusion e | induction e)) R' hk
        · first | exact no_tt h | exact no_ns h | induction h
      · first | exact no_tt h | exact no_ns h | induction h
      | none =>
      dsimp only at h
      split at h
      · rename_i hf
        obtain ⟨c, hc, hx, hn⟩ := fld_some hf
        have PO := GO.ex C c hc hx
        obtain ⟨hro, h⟩ := wr_true h
        obtain ⟨hro2, hk⟩ := wr_true h
        obtain ⟨o, ho, vs, h1, h2, h3, h4, h5⟩ := Re.at hi ha
        have h5 : o.dict = none := h5
        have R0 := Re.toks (s.toks + 1)
        refine set_plain Re.stat (ox := o) (od := none) ⟨ho, h1, by unfold notCls; rw [h2], by rw [h5]; trivial⟩ PO.sa ?_
        refine osa_make (s := { s with toks := s.toks + 1 }) Re.stat ⟨ho, h1, by unfold notCls; rw [h2], by rw [h5]; trivial⟩ h5 h2 PO.ov (PO.fl m hn) ?_
        have R1 := R0.pushO O (b := .idict []) (o := { cls := .type "dict", data := .dict #[] }) rfl ⟨[], 0, rfl, trivial⟩ (fun _ _ e => by first | exact Ob.noConfusion e | induction e) (s.toks + 1)
        have e1 := R0.extNew (.idict []) s.heap.objs.size
        have hj := getElem?_push_last ρ s.heap.objs.size R0.len
        have hi1 : (st.new (.idict [])).get i = some (.exc C none) := by rw [St.get_new, if_neg (Re.ltNx ha)]; exact hi
        have ha1 := at_mono [s.heap.objs.size] ha
        obtain ⟨o1, vs1, t1, t2, t3, t4, t5⟩ := R1.tr i C none _ hi1 ha1
        obtain ⟨o2, ho2, w1, w2, w3, w4, w5, w6⟩ := R1.at hi1 ha1
        rw [t1] at ho2; first | exact no_tt ho2 | exact no_ns ho2 | cases ho2
        rw [t2] at w3; first | exact no_tt w3 | exact no_ns w3 | cases w3
        have hu := updDict_get (d := s.heap.objs.size) t1
        have R2 := R1.wr (s' := { s with heap := (s.heap.push { cls := .type "dict", data := .dict #[] }).update a fun o => { o with dict := some s.heap.objs.size }, toks := s.toks + 1 }) O ha1 hro (Heap.SameBut.update ..).extBut hu
          (b := .exc C (some (2 * st.nx))) ⟨vs1, w2, t2, w4, w5, s.heap.objs.size, by rw [Nat.mul_div_cancel_left _ (by decide)]; exact hj, rfl⟩ hi1 (fun q => by first | exact Ob.noConfusion q | cases q) ⟨rfl, rfl, rfl⟩ (fun C' d' q => by
            cases q
            refine ⟨_, vs1, hu, t2, t3, t4, ?_⟩
            rcases t5 with ⟨t5, _⟩ | ⟨T, oT, ts, z1, z2, z3, z4, z5, z6⟩
            · refine .inl ⟨t5, ?_⟩
              show Nat.beq (2 * st.nx % 2) 1 = false
              rw [BT.beq_eq]; simp
            · exact .inr ⟨T, oT, ts, z1, (Heap.get?_update_other _ _ (show a ≠ T from fun q => z5 ⟨i, _, by rw [← q]; exact ha1, hi1⟩)).trans z2, z3, z4, z5, z6⟩)
        have hi2 : ((st.new (.idict [])).put i (.exc C (some (2 * st.nx)))).get st.nx = some (.idict []) := by
          rw [St.get_put, if_neg (Ne.symm (Re.ltNx ha)), St.get_new, if_pos rfl]
        obtain ⟨o3, ho3, es3, n3, rfl, hr3⟩ := R2.at hi2 hj
        have hes : es3 = [] := IR.nil_inv hr3
        subst hes
        have hp : (((s.heap.push { cls := .type "dict", data := .dict #[] }).update a fun o => { o with dict := some s.heap.objs.size }).update s.heap.objs.size (Obj.putName (g.nm m) (PyData.keyHash g.w.params (g.nm m)) (.str (g.nm m) (s.toks + 1)) uw)).get? s.heap.objs.size =
            some (dictOf (putL (g.nm m) (PyData.keyHash g.w.params (g.nm m)) (.str (g.nm m) (s.toks + 1)) uw []) (putN (g.nm m) [] n3)) := by
          rw [← putName_dict]
          exact Heap.get?_update_self _ ho3 (by rw [putName_dict]; rfl)
        have hw2 := e1.vr hw
        have R3 := R2.wr (s' := { s with heap := ((s.heap.push { cls := .type "dict", data := .dict #[] }).update a fun o => { o with dict := some s.heap.objs.size }).update s.heap.objs.size (Obj.putName (g.nm m) (PyData.keyHash g.w.params (g.nm m)) (.str (g.nm m) (s.toks + 1)) uw), toks := s.toks + 1 + 1 }) O hj hro2
          (Heap.SameBut.update ..).extBut hp (b := .idict (putA [] m w)) ⟨_, _, rfl, IR.put O hw2 (fs := []) (es := []) trivial⟩ hi2 (fun q => by first | exact Ob.noConfusion q | cases q) ⟨rfl, rfl, rfl⟩ (fun _ _ q => by first | exact Ob.noConfusion q | cases q)
        refine P _ _ _ _ (e1.trans ((Ext.put fun C' d' e => ?_).trans (Ext.put' hi2 (fun _ _ e => by first | exact Ob.noConfusion e | induction e)))) R3 hk
        rw [hi1] at e; first | exact no_tt e | exact no_ns e | cases e
        exact ⟨_, rfl, fun q => by cases q⟩
      · first | exact no_tt h | exact no_ns h | induction h
end
end Mine
end
section
set_option genInjectivity false
set_option genSizeOf false
set_option tactic.hygienic false
open PySem PySem.W PySem.Calls PyProof.Rows PySem.SeqAt
set_option maxRecDepth 100000
namespace Mine
theorem swaps_plain {e : Expr} (h : plainVal e = true) (t : Option Expr) (l : Nat) (env : Env) : swapsWith e t l env = pure false := by
  cases e <;> first | rfl | cases h
theorem swaps_not {e t : Expr} (h : ∀ y p, t ≠ .Name y p) (l : Nat) (env : Env) : swapsWith e (some t) l env = pure false := by
  induction e using PySem.Expr.casesOn <;> first | rfl | (induction t using PySem.Expr.casesOn <;> first | exact (h _ _ rfl).elim | rfl)
theorem swaps_some (e t : Expr) (l : Nat) (env : Env) : ∃ b, swapsWith e (some t) l env = pure b := by
  induction e using PySem.Expr.casesOn <;> first | exact ⟨false, rfl⟩ | skip
  all_goals (induction t using PySem.Expr.casesOn <;> first | exact ⟨false, rfl⟩ | exact ⟨_, rfl⟩)
theorem swapped_none {t e : Expr} (h : (notTup t || notTup e) = true) (env : Env) : swappedStores [t] e env = pure none := by
  induction t using PySem.Expr.casesOn <;> first | rfl | (induction e using PySem.Expr.casesOn <;> first | rfl | exact no_tt h | exact no_ns h | (cases h; done) | skip)
theorem interactive_no {env : Env} (h : env.scope.kind = .function) : interactive env = false := by
  unfold interactive; rw [h]; rfl
section
variable {g : Gd} {clo : CloP} {F : List Addr} {ρ : List Addr} {σ : List Str} {st : St} {s : Shared} {A : Around} {E : Value → Shared → Prop} {cx : Cx} {env : Env} {L : Addr} {n m : Nat} {R : Rn} {G : Glob} {k : Fl → St → Bool} {x : KX} {Q : Flow → Shared → Prop}
set_option tactic.hygienic true in
theorem snd_asg (O : g.Ok) (GO : GOk g G) (S : Snd g clo R n) (H : Here g n cx A F env L) (V : EnvS g ρ st env) (D : Hnd A ρ st) (Re : Rel g clo F ρ σ st s) {t : Expr} {tg : Tg} {v : AV} {u : Value} {k : St → Bool} {Q : Unit → Shared → Prop} (ht : compTg m cx t = some tg) (hv : VR ρ σ v u)
    (h : asg G R tg v st k x = true) (P : Post0 g clo F ρ σ st k Q) (X : PostX g clo F ρ σ st x E) : wpAny (model g.prog g.w) A (assign t env u) Q E s := by
  induction t using PySem.Expr.casesOn
  case Name y p =>
    unfold compTg at ht
    dsimp only at ht
    cases hk : cx.kinds.lookup y == some .local with
    | true =>
      rw [hk] at ht
      obtain ⟨i, hi, ht⟩ := thenO_some ht
      cases ht
      exact wpAny_assign_Name (snd_storeLoc O H V Re (eq_of_beq hk) hi h hv P)
    | false =>
      rw [hk] at ht
      dsimp only at ht
      cases hc : cx.kinds.lookup y == some .cell with
      | false => rw [hc] at ht; exact no_ns ht
      | true =>
        rw [hc] at ht
        obtain ⟨i, hi, ht⟩ := thenO_some ht
        cases ht
        exact wpAny_assign_Name (snd_storeCel O H V Re (eq_of_beq hc) hi h hv P)
  case Tuple es kk p =>
    obtain ⟨xs, hx, rfl⟩ := Option.map_eq_some_iff.mp (show (tgOf cx (.Tuple es kk p)).map Tg.tup = some tg from ht)
    exact snd_storeTg O H V D Re hx h hv P
  case Attribute o a p =>
    unfold compTg at ht
    dsimp only at ht
    split at ht
    · rename_i i hi
      cases ht
      change R.ev (compE m cx o) st (fun o s => Mine.setAttr G o i v s k) x = true at h
      rw [arm_assign_Attribute]
      refine wpAny_bind (wpAny_holding (S.ev m cx o A F env L _ _ _ _ _ x _ E H V D Re h ?_ X))
      intro ρ₁ σ₁ st₁ s₁ w uw e₁ R₁ r₁ h₁
      refine wpAny_bind (wpAny_standAt (wpAny_bind (wpAny_holding ?_)))
      rw [← H.cok.id a i hi]
      refine snd_setAttr O GO R₁ r₁ (e₁.vr hv) h₁ ?_
      intro ρ₂ σ₂ st₂ s₂ e₂ R₂ h₂
      exact wpAny_release (P _ _ _ _ (e₁.trans e₂) R₂ h₂)
    · first | exact no_tt ht | exact no_ns ht | induction ht
  case Subscript o i p =>
    unfold compTg at ht
    dsimp only at ht
    split at ht
    · rename_i hsl
      cases ht
      change R.ev (compE m cx o) st (fun o s => R.ev (compE m cx i) s (fun i s => setSub o i v s k) x) x = true at h
      rw [arm_assign_Subscript]
      refine wpAny_bind (wpAny_holding (S.ev m cx o A F env L _ _ _ _ _ x _ E H V D Re h ?_ X))
      intro ρ₁ σ₁ st₁ s₁ w uw e₁ R₁ r₁ h₁
      refine wpAny_bind (wpAny_holding (S.ev m cx i A F env L _ _ _ _ _ x _ E H (V.ext e₁) (D.ext e₁) R₁ h₁ ?_ (X.ext e₁)))
      intro ρ₂ σ₂ st₂ s₂ w2 u2 e₂ R₂ r₂ h₂
      refine wpAny_bind (wpAny_standAt (wpAny_bind (wpAny_holding ?_)))
      refine snd_setSub O R₂ h₂ (e₂.vr r₁) r₂ ((e₁.trans e₂).vr hv) ?_
      intro ρ₃ σ₃ st₃ s₃ e₃ R₃ h₃
      exact wpAny_release (P _ _ _ _ ((e₁.trans e₂).trans e₃) R₃ h₃)
    · exact no_ns ht
  all_goals exact no_ns ht
set_option tactic.hygienic true in
theorem snd_AssignPlain (O : g.Ok) (GO : GOk g G) (S : Snd g clo R n) (H : Here g n cx A F env L) (V : EnvS g ρ st env) (D : Hnd A ρ st) (Re : Rel g clo F ρ σ st s) {t e : Expr} {tg : Tg} {p : Pos} (ht : compTg m cx t = some tg) (hn : (notTup t || notTup e) = true)
    (hs : swapsWith e (some t) p.line env = pure false)
    (h : exS G R (.asg tg (compE m cx e)) st k x = true) (P : PostF g clo F ρ σ st k Q) (X : PostX g clo F ρ σ st x E) : wpAny (model g.prog g.w) A (exec (.Assign [t] e p) env) Q E s := by
  change R.ev (compE m cx e) st (fun v s => asg G R tg v s (fun s => k .next s) x) x = true at h
  rw [arm_exec_Assign]
  refine wpAny_bind (wpAny_standAt ?_)
  show wpAny _ A (swapsWith e (some t) p.line env >>= _) Q E s
  rw [hs, swapped_none hn]
  refine wpAny_bind (wpAny_pure ?_)
  rw [if_neg (by decide)]
  refine wpAny_bind (S.ev m cx e A F env L _ _ _ _ _ x _ E H V D Re h ?_ X)
  intro ρ₁ σ₁ st₁ s₁ v u e₁ R₁ r₁ h₁
  refine wpAny_bind (wpAny_pure ?_)
  have e0 : (assignEach [t] env).map (·.2) = [assign t env] := by
    cases t <;> first | rfl | (exfalso; cases m <;> cases ht)
  rw [e0]
  show wpAny _ A (assign t env u >>= fun _ => pure .next) Q E s₁
  refine wpAny_bind (snd_asg O GO S H (V.ext e₁) (D.ext e₁) R₁ ht r₁ h₁ ?_ (X.ext e₁))
  intro ρ₂ σ₂ st₂ s₂ e₂ R₂ h₂
  exact wpAny_pure (P _ _ _ _ .next .next (e₁.trans e₂) R₂ rfl h₂)
set_option tactic.hygienic true in
theorem snd_Aug (O : g.Ok) (GO : GOk g G) (S : Snd g clo R n) (H : Here g n cx A F env L) (V : EnvS g ρ st env) (D : Hnd A ρ st) (Re : Rel g clo F ρ σ st s) {o e : Expr} {a : Str} {i : Nat} {p1 p2 : Pos} (hi : cx.id a = some i)
    (h : exS G R (.aug (compE m cx o) i (compE m cx e)) st k x = true) (P : PostF g clo F ρ σ st k Q) (X : PostX g clo F ρ σ st x E) : wpAny (model g.prog g.w) A (exec (.AugAssign (.Attribute o a p1) .Add e p2) env) Q E s := by
  change R.ev (compE m cx o) st (fun o s => evAttr G o i s fun old s => R.ev (compE m cx e) s (fun v s => incr old v s fun w s => Mine.setAttr G o i w s fun s => k .next s) x) x = true at h
  refine wpAny_AugAssign_AttributeAny (S.ev m cx o A F env L _ _ _ _ _ x _ E H V D Re h ?_ X)
  intro ρ₁ σ₁ st₁ s₁ v u e₁ R₁ r₁ h₁
  rw [← H.cok.id a i hi]
  refine snd_attrAll O GO R₁ r₁ h₁ ?_
  intro ρ₂ σ₂ st₂ s₂ old uo e₂ R₂ r₂ h₂
  have e12 := e₁.trans e₂
  refine S.ev m cx e A F env L _ _ _ _ _ x _ E H (V.ext e12) (D.ext e12) R₂ h₂ ?_ (X.ext e12)
  intro ρ₃ σ₃ st₃ s₃ w uw e₃ R₃ r₃ h₃
  have r₂' := e₃.vr r₂
  unfold incr at h₃
  dsimp only at h₃
  split at h₃
  · rename_i a b
    obtain ⟨t, rfl⟩ := r₂'
    obtain ⟨t', rfl⟩ := r₃
    refine PySem.P.iadd_int ?_
    refine snd_setAttr O GO (R₃.toks _) ((e₂.trans e₃).vr r₁) (w := .int (a + b)) ⟨_, rfl⟩ h₃ ?_
    intro ρ₄ σ₄ st₄ s₄ e₄ R₄ h₄
    exact P _ _ _ _ .next .next ((e12.trans e₃).trans e₄) R₄ rfl h₄
  · cases h₃
set_option tactic.hygienic true in
theorem snd_AugN (O : g.Ok) (S : Snd g clo R n) (H : Here g n cx A F env L) (V : EnvS g ρ st env) (D : Hnd A ρ st) (Re : Rel g clo F ρ σ st s) {N : Nat} (hR : R = run G N) {e : Expr} {y : Str} {i : Nat} {p1 p2 : Pos} (hy : cx.kinds.lookup y = some .local) (hi : nameE cx y = .loc i)
    (h : exS G R (.augn i (compE m cx e)) st k x = true) (P : PostF g clo F ρ σ st k Q) (X : PostX g clo F ρ σ st x E) : wpAny (model g.prog g.w) A (exec (.AugAssign (.Name y p1) .Add e p2) env) Q E s := by
  have hid : cx.id y = some i := by
    unfold nameE at hi
    split at hi
    · first | exact no_tt hi | exact no_ns hi | cases hi
    · rw [hy] at hi
      dsimp only at hi
      split at hi
      · rename_i j hj; cases hi; exact hj
      · first | exact no_tt hi | exact no_ns hi | cases hi
  change R.ev (.loc i) st (fun old s => R.ev (compE m cx e) s (fun v s => incr old v s fun w s => storeLoc i w s fun s => k .next s) x) x = true at h
  subst hR
  induction N with
  | zero => first | exact no_tt h | exact no_ns h | induction h
  | succ N =>
  change (match st.get st.loc with
    | some (.ns fs) => match look fs i with | some v => (fun old s => (run G (N + 1)).ev (compE m cx e) s (fun v s => incr old v s fun w s => storeLoc i w s fun s => k .next s) x) v st | none => false
    | _ => false) = true at h
  induction hf : st.get st.loc with
  | none => rw [hf] at h; exact no_tt h
  | some bf =>
  rw [hf] at h
  induction bf <;> first | exact no_tt h | skip
  · rename_i fs
    dsimp only at h
    split at h
    · rename_i v hv
      refine wpAny_AugAssign_Name (snd_loc Re H V hy hid hf hv fun u hu => ?_)
      refine S.ev m cx e A F env L _ _ _ _ _ x _ E H V D Re h ?_ X
      intro ρ₃ σ₃ st₃ s₃ w uw e₃ R₃ r₃ h₃
      have hu' := e₃.vr hu
      unfold incr at h₃
      dsimp only at h₃
      split at h₃
      · rename_i a b
        obtain ⟨t, rfl⟩ := hu'
        obtain ⟨t', rfl⟩ := r₃
        refine PySem.P.iadd_int ?_
        refine snd_storeLoc O H (V.ext e₃) (R₃.toks _) hy hid h₃ (v := .int (a + b)) ⟨_, rfl⟩ ?_
        intro ρ₄ σ₄ st₄ s₄ e₄ R₄ h₄
        exact P _ _ _ _ .next .next (e₃.trans e₄) R₄ rfl h₄
      · cases h₃
    · first | exact no_tt h | exact no_ns h | induction h
set_option tactic.hygienic true in
theorem snd_ExprS (S : Snd g clo R n) (H : Here g n cx A F env L) (V : EnvS g ρ st env) (D : Hnd A ρ st) (Re : Rel g clo F ρ σ st s) {e : Expr} {p : Pos} (hp : plainVal e = true)
    (h : exS G R (.expr (compE m cx e)) st k x = true) (P : PostF g clo F ρ σ st k Q) (X : PostX g clo F ρ σ st x E) : wpAny (model g.prog g.w) A (exec (.Expr e p) env) Q E s := by
  change R.ev (compE m cx e) st (fun _ s => k .next s) x = true at h
  refine wpAny_Expr_any (S.ev m cx e A F env L _ _ _ _ _ x _ E H V D Re h ?_ X) (interactive_no H.kind) (swaps_plain hp ..)
  intro ρ₁ σ₁ st₁ s₁ v u e₁ R₁ r₁ h₁
  exact P _ _ _ _ .next .next e₁ R₁ rfl h₁
theorem snd_RetS (S : Snd g clo R n) (H : Here g n cx A F env L) (V : EnvS g ρ st env) (D : Hnd A ρ st) (Re : Rel g clo F ρ σ st s) {e : Expr} {p : Pos}
    (h : exS G R (.ret (compE m cx e)) st k x = true) (P : PostF g clo F ρ σ st k Q) (X : PostX g clo F ρ σ st x E) : wpAny (model g.prog g.w) A (exec (.Return (some e) p) env) Q E s := by
  change R.ev (compE m cx e) st (fun v s => k (.ret v) s) x = true at h
  refine wpAny_Return_some (S.ev m cx e A F env L _ _ _ _ _ x _ E H V D Re h ?_ X)
  intro ρ₁ σ₁ st₁ s₁ v u e₁ R₁ r₁ h₁
  exact P _ _ _ _ (.ret v) (.ret u) e₁ R₁ ⟨u, rfl, r₁⟩ h₁
theorem snd_IfS (S : Snd g clo R n) (H : Here g n cx A F env L) (V : EnvS g ρ st env) (D : Hnd A ρ st) (Re : Rel g clo F ρ σ st s) {mb : Nat} {t : Expr} {a b : List Stmt} {p : Pos}
    (h : exS G R (.iff (compE m cx t) (a.map (compS mb cx)) (b.map (compS mb cx))) st k x = true) (P : PostF g clo F ρ σ st k Q) (X : PostX g clo F ρ σ st x E) : wpAny (model g.prog g.w) A (exec (.If t a b p) env) Q E s := by
  change R.tst (compE m cx t) st (fun t s => match t with | true => R.exs (a.map (compS mb cx)) s k x | false => R.exs (b.map (compS mb cx)) s k x) x = true at h
  refine wpAny_If (S.tst m cx t A F env L _ _ _ _ _ x _ E H V D Re h ?_ X)
  intro ρ₁ σ₁ st₁ s₁ v e₁ R₁ h₁
  induction v with
  | true => exact S.exs mb cx a A F env L _ _ _ _ k x _ E H (V.ext e₁) (D.ext e₁) R₁ h₁ (P.ext e₁) (X.ext e₁)
  | false => exact S.exs mb cx b A F env L _ _ _ _ k x _ E H (V.ext e₁) (D.ext e₁) R₁ h₁ (P.ext e₁) (X.ext e₁)
theorem snd_ForS (O : g.Ok) (S : Snd g clo R n) (H : Here g n cx A F env L) (V : EnvS g ρ st env) (D : Hnd A ρ st) (Re : Rel g clo F ρ σ st s) {mb : Nat} {tg it : Expr} {t : List Nat} {b : List Stmt} {p : Pos} (ht : tgOf cx tg = some t) (hset : notSet it = true)
    (h : exS G R (.for t (compE m cx it) (b.map (compS mb cx))) st k x = true) (P : PostF g clo F ρ σ st k Q) (X : PostX g clo F ρ σ st x E) : wpAny (model g.prog g.w) A (exec (.For tg it b [] p) env) Q E s := by
  change R.ev (compE m cx it) st (fun v s => iterOf v s fun i s => R.lp i t (b.map (compS mb cx)) s k) x = true at h
  refine wpAny_For (S.ev m cx it A F env L _ _ _ _ _ x _ E H V D Re h ?_ X) (notSet_folded hset)
  intro ρ₁ σ₁ st₁ s₁ v u e₁ R₁ r₁ h₁
  refine snd_iter O R₁ r₁ h₁ ?_
  intro ρ₂ st₂ s₂ i a e₂ R₂ hi h₂
  have e12 := e₁.trans e₂
  exact S.lp mb cx tg t b A F env L _ _ _ _ k i a _ H (V.ext e12) (D.ext e12) R₂ ht hi h₂ (P.ext e12)
end
end Mine
end
section
set_option genInjectivity false
set_option genSizeOf false
set_option tactic.hygienic false
open PySem PySem.W PySem.Calls PyProof.Rows PySem.SeqAt
set_option maxRecDepth 100000
namespace Mine
section
variable {g : Gd} {clo : CloP} {F : List Addr} {ρ : List Addr} {σ : List Str} {st : St} {s : Shared} {A : Around} {E : Value → Shared → Prop} {cx : Cx} {env : Env} {L : Addr} {n m : Nat} {R : Rn} {G : Glob} {k : Fl → St → Bool} {x : KX} {Q : Flow → Shared → Prop}
set_option tactic.hygienic true in
theorem snd_lcompUse (O : g.Ok) {N : Nat} (hR : R = run G N) (S : Snd g clo R n) (H : Here g n cx A F env L) (V : EnvS g ρ st env) (D : Hnd A ρ st) (Re : Rel g clo F ρ σ st s) {elt tg it : Expr} {ifs : List Expr} {sc : Scope} {pos py : Pos} {t fr : List Nat} {y : Str} {j : Nat} {kk : St → Bool} {Q₀ : Unit → Shared → Prop}
    (ht : tgOf (cx.sub sc) tg = some t) (hfr : freesOf cx sc.names = some fr) (hset : notSet it = true) (hsc : scOk sc = true) (hy : cx.kinds.lookup y = some .local) (hj : cx.id y = some j)
    (h : evE G R (.lcomp (compE m (cx.sub sc) elt) t (compE m cx it) (ifs.map (compE m (cx.sub sc))) fr) st (fun v s => storeLoc j v s kk) x = true) (P : Post0 g clo F ρ σ st kk Q₀) (X : PostX g clo F ρ σ st x E) :
    wpAny (model g.prog g.w) A (evalThenUse (.ListComp elt [⟨tg, it, ifs, 0⟩] sc pos) env (assign (.Name y py) env)) (fun _ s' => Q₀ () s') E s := by
  show wpAny _ A (do let _ ← comprehension (.ListComp elt [⟨tg, it, ifs, 0⟩] sc pos) sc env (firstIterPos [⟨tg, it, ifs, 0⟩] pos) (newList []) (firstAsync [⟨tg, it, ifs, 0⟩]) (firstIter [⟨tg, it, ifs, 0⟩] env) (some (assign (.Name y py) env))) _ E s
  change (match keepC st.cel fr with | some cl => _ | none => false) = true at h
  split at h
  · rename_i cl hcl
    obtain ⟨ml, hml, hml2⟩ := closure_at (sc := sc) H.cok V hfr hcl
    obtain ⟨k1, k2, k3⟩ := scOk_at hsc
    refine wpAny_bind (wpAny_comprehension_free (g := ⟨tg, it, ifs, 0⟩) (use := some (assign (.Name y py) env)) (Q := fun _ s' => wpAny (model g.prog g.w) A (pure PUnit.unit) (fun _ s' => Q₀ () s') E s') rfl (notSet_folded hset) hml k1 (fun y hy e => by rw [k3 y hy, e]) ?_)
    refine comp_list (m := m) (k := fun v s => storeLoc j v s kk) O hR S H V D Re ht hfr hsc hcl hml2 h (RR := compPost (model g.prog g.w) A E (some (assign (.Name y py) env)) (fun _ s' => wpAny (model g.prog g.w) A (pure PUnit.unit) (fun _ s' => Q₀ () s') E s')) ?_ X
    intro ρ' σ' st' s' i acc C e R₆ hv hk nl hB hm
    show wpAny _ A (assign (.Name y py) env acc) _ E s'
    refine wpAny_mono (comp_use O H (V.ext e) R₆ hv hy hj hk nl hB hm (P.ext e)) (fun _ s'' hh => ?_) (fun _ _ z => z)
    obtain ⟨mm, q1, q2⟩ := hh
    exact ⟨mm, q1, fun h' hs => wpAny_pure (q2 h' hs)⟩
  · first | exact no_tt h | exact no_ns h | induction h
set_option tactic.hygienic true in
theorem snd_dcompUse (O : g.Ok) {N : Nat} (hR : R = run G N) (S : Snd g clo R n) (H : Here g n cx A F env L) (V : EnvS g ρ st env) (D : Hnd A ρ st) (Re : Rel g clo F ρ σ st s) {ke ve tg it : Expr} {ifs : List Expr} {sc : Scope} {pos py : Pos} {t fr : List Nat} {y : Str} {j : Nat} {kk : St → Bool} {Q₀ : Unit → Shared → Prop}
    (ht : tgOf (cx.sub sc) tg = some t) (hfr : freesOf cx sc.names = some fr) (hset : notSet it = true) (hsc : scOk sc = true) (hy : cx.kinds.lookup y = some .local) (hj : cx.id y = some j)
    (h : evE G R (.dcomp (compE m (cx.sub sc) ke) (compE m (cx.sub sc) ve) t (compE m cx it) (ifs.map (compE m (cx.sub sc))) fr) st (fun v s => storeLoc j v s kk) x = true) (P : Post0 g clo F ρ σ st kk Q₀) (X : PostX g clo F ρ σ st x E) :
    wpAny (model g.prog g.w) A (evalThenUse (.DictComp ke ve [⟨tg, it, ifs, 0⟩] sc pos) env (assign (.Name y py) env)) (fun _ s' => Q₀ () s') E s := by
  show wpAny _ A (do let _ ← comprehension (.DictComp ke ve [⟨tg, it, ifs, 0⟩] sc pos) sc env (firstIterPos [⟨tg, it, ifs, 0⟩] pos) newDict (firstAsync [⟨tg, it, ifs, 0⟩]) (firstIter [⟨tg, it, ifs, 0⟩] env) (some (assign (.Name y py) env))) _ E s
  change (match keepC st.cel fr with | some cl => _ | none => false) = true at h
  split at h
  · rename_i cl hcl
    obtain ⟨ml, hml, hml2⟩ := closure_at (sc := sc) H.cok V hfr hcl
    obtain ⟨k1, k2, k3⟩ := scOk_at hsc
    refine wpAny_bind (wpAny_comprehension_free (g := ⟨tg, it, ifs, 0⟩) (use := some (assign (.Name y py) env)) (Q := fun _ s' => wpAny (model g.prog g.w) A (pure PUnit.unit) (fun _ s' => Q₀ () s') E s') rfl (notSet_folded hset) hml k1 (fun y hy e => by rw [k3 y hy, e]) ?_)
    refine comp_dict (m := m) (k := fun v s => storeLoc j v s kk) O hR S H V D Re ht hfr hsc hcl hml2 h (RR := compPost (model g.prog g.w) A E (some (assign (.Name y py) env)) (fun _ s' => wpAny (model g.prog g.w) A (pure PUnit.unit) (fun _ s' => Q₀ () s') E s')) ?_ X
    intro ρ' σ' st' s' i acc C e R₆ hv hk nl hB hm
    show wpAny _ A (assign (.Name y py) env acc) _ E s'
    refine wpAny_mono (comp_use O H (V.ext e) R₆ hv hy hj hk nl hB hm (P.ext e)) (fun _ s'' hh => ?_) (fun _ _ z => z)
    obtain ⟨mm, q1, q2⟩ := hh
    exact ⟨mm, q1, fun h' hs => wpAny_pure (q2 h' hs)⟩
  · first | exact no_tt h | exact no_ns h | induction h
set_option tactic.hygienic true in
theorem snd_AssignUse (O : g.Ok) {N : Nat} (hS : ∀ m < N, Snd g clo (run G m) m) (H : Here g N cx A F env L) (V : EnvS g ρ st env) (D : Hnd A ρ st) (Re : Rel g clo F ρ σ st s) {e : Expr} {y : Str} {py p : Pos} {tg : Tg} (ht : compTg m cx (.Name y py) = some tg)
    (hs : swapsWith e (some (.Name y py)) p.line env = pure true)
    (h : exS G (run G N) (.asg tg (compE (m + 1) cx e)) st k x = true) (P : PostF g clo F ρ σ st k Q) (X : PostX g clo F ρ σ st x E) : wpAny (model g.prog g.w) A (exec (.Assign [.Name y py] e p) env) Q E s := by
  have hne : (pure false : Sem Bool) ≠ pure true := fun q => by cases q
  change (run G N).ev (compE (m + 1) cx e) st (fun v s => asg G (run G N) tg v s (fun s => k .next s) x) x = true at h
  cases N with
  | zero => first | exact no_tt h | exact no_ns h | induction h using PySem.Expr.casesOn
  | succ N =>
  have S := hS N (Nat.lt_succ_self N)
  have H := H.le (m := N) (Nat.le_succ N)
  change evE G (run G N) (compE (m + 1) cx e) st (fun v s => asg G (run G (N + 1)) tg v s (fun s => k .next s) x) x = true at h
  rw [exec_Assign_Name_used _ _ _ _ hs]
  refine wpAny_bind (wpAny_standAt (wpAny_bind ?_))
  have hloc : env.kindOf y = some .local := by
    induction e using PySem.Expr.casesOn <;> first | (exact (hne hs).elim) | skip
    all_goals (
      have q : (pure _ : Sem Bool) = pure true := hs
      injection q with q
      simp only [Bool.and_eq_true] at q
      exact eq_of_beq q.1.1.2)
  have hl : cx.kinds.lookup y = some .local ∧ ∃ j, cx.id y = some j ∧ tg = .loc j := by
    unfold compTg at ht
    dsimp only at ht
    cases hk : cx.kinds.lookup y == some .local with
    | true =>
      rw [hk] at ht
      obtain ⟨j, hj, ht⟩ := thenO_some ht
      exact ⟨eq_of_beq hk, j, hj, (Option.some.inj ht).symm⟩
    | false =>
      rw [hk] at ht
      dsimp only at ht
      cases hc : cx.kinds.lookup y == some .cell with
      | false => rw [hc] at ht; exact no_ns ht
      | true => rw [H.ce1 y (eq_of_beq hc)] at hloc; cases hloc
  obtain ⟨hl, j, hj, rfl⟩ := hl
  have P' : Post0 g clo F ρ σ st (fun s => k .next s) (fun _ s' => wpAny (model g.prog g.w) A (pure Flow.next) Q E s') := fun ρ' σ' st' s' e' R' hk => wpAny_pure (P _ _ _ _ .next .next e' R' rfl hk)
  cases hp : plainVal e with
  | true => rw [swaps_plain hp] at hs; exact (hne hs).elim
  | false =>
    induction e using PySem.Expr.casesOn
    case ListComp elt gs sc pp =>
      change evE G (run G N) (compLC (compE m) cx elt gs sc) st _ x = true at h
      unfold compLC at h
      split at h
      · rename_i c hgs
        obtain ⟨tg, it, ifs, az⟩ := c
        obtain rfl := oneC_some hgs
        dsimp only at h
        split at h
        · rename_i t fr h1 h2 h3
          rw [Bool.and_eq_true, Bool.and_eq_true] at h3
          obtain rfl := isZ_true h3.2
          exact snd_lcompUse O rfl S H V D Re h1 h2 h3.1.1 h3.1.2 hl hj h P' X
        · first | exact no_tt h | exact no_ns h | induction h
      · first | exact no_tt h | exact no_ns h | induction h
    case DictComp ke ve gs sc pp =>
      change evE G (run G N) (compDC (compE m) cx ke ve gs sc) st _ x = true at h
      unfold compDC at h
      split at h
      · rename_i c hgs
        obtain ⟨tg, it, ifs, az⟩ := c
        obtain rfl := oneC_some hgs
        dsimp only at h
        split at h
        · rename_i t fr h1 h2 h3
          rw [Bool.and_eq_true, Bool.and_eq_true] at h3
          obtain rfl := isZ_true h3.2
          exact snd_dcompUse O rfl S H V D Re h1 h2 h3.1.1 h3.1.2 hl hj h P' X
        · first | exact no_tt h | exact no_ns h | induction h
      · first | exact no_tt h | exact no_ns h | induction h
    case SetComp => first | exact no_tt h | exact no_ns h | induction h
    all_goals (first | exact no_tt hp | exact no_ns hp | cases hp)
set_option tactic.hygienic true in
theorem snd_WhileS {N : Nat} (hS : ∀ m < N + 1, Snd g clo (run G m) m) (H : Here g N cx A F env L) (V : EnvS g ρ st env) (D : Hnd A ρ st) (Re : Rel g clo F ρ σ st s) {mb : Nat} {c : Expr} {b : List Stmt} {p : Pos}
    (h : exS G (run G N) (.while (compE m cx c) (b.map (compS mb cx))) st k x = true) (P : PostF g clo F ρ σ st k Q) : wpAny (model g.prog g.w) A (exec (.While c b [] p) env) Q E s := by
  refine wpAny_While (codeAny_whileLoop (I := fun n' s' => n' ≤ N ∧ ∃ ρ' σ' st', Ext ρ σ st ρ' σ' st' ∧ Rel g clo F ρ' σ' st' s' ∧ exS G (run G n') (.while (compE m cx c) (b.map (compS mb cx))) st' k x = true) ?_ N ⟨Nat.le_refl _, ρ, σ, st, Ext.refl .., Re, h⟩)
  rintro n' s₁ ⟨hn, ρ₁, σ₁, st₁, e₁, R₁, h₁⟩
  have S := hS n' (Nat.lt_succ_of_le hn)
  have H := H.le hn
  change (run G n').tst (compE m cx c) st₁ (fun t s => match t with
      | true => (run G n').exs (b.map (compS mb cx)) s (fun fl s => match fl with
        | .ret v => k (.ret v) s
        | _ => (run G n').exs [.while (compE m cx c) (b.map (compS mb cx))] s k noX) noX
      | false => k .next s) noX = true at h₁
  refine S.tst m cx c A F env L _ _ _ _ _ noX _ _ H (V.ext e₁) (D.ext e₁) R₁ h₁ ?_ PostX.no
  intro ρ₂ σ₂ st₂ s₂ t e₂ R₂ h₂
  have e12 := e₁.trans e₂
  induction t with
  | false =>
    rw [if_neg (by decide)]
    exact wpAny_execs_nil (P _ _ _ _ .next .next e12 R₂ rfl h₂)
  | true =>
    rw [if_pos rfl]
    refine S.exs mb cx b A F env L _ _ _ _ _ noX _ _ H (V.ext e12) (D.ext e12) R₂ h₂ ?_ PostX.no
    intro ρ₃ σ₃ st₃ s₃ fl f e₃ R₃ hf h₃
    have again : (run G n').exs [.while (compE m cx c) (b.map (compS mb cx))] st₃ k noX = true → ∃ m', m' < n' ∧ m' ≤ N ∧ ∃ ρ' σ' st', Ext ρ σ st ρ' σ' st' ∧ Rel g clo F ρ' σ' st' s₃ ∧ exS G (run G m') (.while (compE m cx c) (b.map (compS mb cx))) st' k x = true := fun h₃ => by
      induction n' with
      | zero => cases h₃
      | succ n' =>
        have e0 : (fun (fl : Fl) (s : St) => match fl with | .next => exsL G (run G n') [] s k noX | fl => k fl s) = k := by
          funext fl s; induction fl <;> rfl
        change exS G (run G n') (.while (compE m cx c) (b.map (compS mb cx))) st₃ (fun (fl : Fl) (s : St) => match fl with | .next => exsL G (run G n') [] s k noX | fl => k fl s) noX = true at h₃
        rw [e0] at h₃
        exact ⟨n', Nat.lt_succ_self _, by omega, _, _, _, e12.trans e₃, R₃, h₃⟩
    induction fl with
    | next => cases hf; exact again h₃
    | cont => cases hf; exact again h₃
    | ret v =>
      obtain ⟨u, rfl, hu⟩ := hf
      exact P _ _ _ _ (.ret v) _ (e12.trans e₃) R₃ ⟨u, rfl, hu⟩ h₃
end
end Mine
end
section
set_option genInjectivity false
set_option genSizeOf false
set_option tactic.hygienic false
open PySem PySem.W PySem.Calls PyProof.Rows PySem.SeqAt
set_option maxRecDepth 100000
namespace Mine
section
variable {g : Gd} {clo : CloP} {F : List Addr} {ρ : List Addr} {σ : List Str} {st : St} {s : Shared} {A : Around} {E : Value → Shared → Prop} {cx : Cx} {env : Env} {L : Addr} {n m : Nat} {R : Rn} {G : Glob} {k : Fl → St → Bool} {x : KX} {Q : Flow → Shared → Prop}
theorem Amb.mark {v : Option Value} (h : Amb g n A F L) : Amb g n (A.mark v) F L := ⟨h.room, h.units, h.fr⟩
theorem Here.mark {v : Option Value} (h : Here g n cx A F env L) : Here g n cx (A.mark v) F env L :=
  { h.toAmb.mark with glo := h.glo, bui := h.bui, kind := h.kind, frame := h.frame, cok := h.cok, loc := h.loc, cel := h.cel, ce1 := h.ce1, gim := h.gim, code := h.code }
theorem Ext.unhold {ρ' σ' st'} (e : Ext ρ σ st.hold ρ' σ' st') : Ext ρ σ st ρ' σ' ⟨st'.hp, st'.nx, st'.sy, st'.lo, st'.hi, st'.loc, st'.cel, st.hd, st'.tb⟩ := ⟨e.r, e.s, e.loc, e.cel, rfl, e.ex⟩
theorem EnvS.hold (V : EnvS g ρ st env) : EnvS g ρ st.hold env := ⟨V.loc, V.cel⟩
theorem Rel.hold (R : Rel g clo F ρ σ st s) : Rel g clo F ρ σ st.hold s := R.into st.loc st.cel true
set_option tactic.hygienic true in
theorem noteE_true {i : Ix} {kk : St → Bool} (h : noteE i st kk = true) : ∃ C d, st.get i = some (.exc C (some d)) ∧ st.isRo i = false ∧ kk (st.put i (.exc C (some (2 * (d / 2) + 1)))) = true := by
  unfold noteE at h
  induction hi : st.get i with
  | none => rw [hi] at h; exact no_tt h
  | some bi =>
    rw [hi] at h
    induction bi <;> first | exact no_tt h | skip
    rename_i C od
    induction od <;> first | exact no_tt h | skip
    rename_i d
    obtain ⟨a, b⟩ := wr_true h
    exact ⟨C, d, rfl, a, b⟩
theorem Ext.note {i C d : Nat} (hi : st.get i = some (.exc C (some d))) : Ext ρ σ st ρ σ (st.put i (.exc C (some (2 * (d / 2) + 1)))) :=
  Ext.put fun C' d' e => by rw [hi] at e; cases e; exact ⟨_, rfl, fun _ => nd_odd d⟩
theorem look_del : ∀ (fs : List (Nat × AV)) (x y : Nat), look (delA fs x) y = if x = y then none else look fs y
  | [], x, y => by show none = _; split <;> rfl
  | (z, w) :: r, x, y => by
    unfold delA
    by_cases hz : z = x
    · subst hz
      rw [Nat.beq_refl]
      dsimp only
      rw [look_del r z y]
      by_cases h : z = y
      · simp [h]
      · rw [if_neg h, if_neg h]
        show _ = (match Nat.beq z y with | true => some w | false => look r y)
        rw [show Nat.beq z y = false from Bool.eq_false_iff.mpr fun q => h (Nat.eq_of_beq_eq_true q)]
    · rw [show Nat.beq z x = false from Bool.eq_false_iff.mpr fun q => hz (Nat.eq_of_beq_eq_true q)]
      show (match Nat.beq z y with | true => some w | false => look (delA r x) y) = if x = y then none else (match Nat.beq z y with | true => some w | false => look r y)
      rw [look_del r x y, BT.beq_eq]
      by_cases h : z = y
      · subst h; simp [Ne.symm hz]
      · simp [h]
set_option tactic.hygienic true in
theorem snd_delLoc (O : g.Ok) (H : Here g n cx A F env L) (V : EnvS g ρ st env) {y : Str} {i : Nat} {pos : Pos} {kk : St → Bool} {Q : Unit → Shared → Prop} (Re : Rel g clo F ρ σ st s) (hk : cx.kinds.lookup y = some .local) (hi : cx.id y = some i)
    (h : delLoc i st kk = true) (P : Post0 g clo F ρ σ st kk Q) : wpAny (model g.prog g.w) A (do bindName env y .none; unbindBehindTheSuite env y pos) Q E s := by
  unfold delLoc at h
  induction hf : st.get st.loc with
  | none => rw [hf] at h; exact no_tt h
  | some bhf =>
  rw [hf] at h
  induction bhf <;> first | exact no_tt h | skip
  · rename_i fs
    dsimp only at h
    obtain ⟨hro, hk'⟩ := wr_true h
    obtain ⟨m, hm, hl⟩ := Re.ns hf V.loc
    have e := H.cok.id y i hi
    refine wpAny_nameGoes_keeps (H.loc y hk) hm (by rw [H.kind]; rfl) fun h' v hn hs => ?_
    obtain ⟨o, es, ep, ho, hd, hks, hl'⟩ := hn
    refine P _ _ _ _ (Ext.put' hf (fun _ _ e => by first | exact Ob.noConfusion e | induction e)) (Re.same O V.loc hf hro hs ho (b := .ns (delA fs i)) ⟨es, ep, hd, hks, fun z w hz => ?_⟩ (fun _ => rfl) (fun _ _ e => by first | exact Ob.noConfusion e | induction e) _) hk'
    rw [look_del] at hz
    by_cases q : i = z
    · rw [if_pos q] at hz; first | exact no_tt hz | exact no_ns hz | induction hz
    · rw [if_neg q] at hz
      obtain ⟨u, e1, e2⟩ := hl z w hz
      refine ⟨u, ?_, e2⟩
      rw [hl']
      show (if g.nm z = y then v else m (g.nm z)) = some u
      rw [if_neg]
      · exact e1
      · rw [← e]; exact fun z' => q (O.inj _ _ z').symm
theorem snd_passOn (O : g.Ok) (Re : Rel g clo F ρ σ st s) {α : Type} {Q : α → Shared → Prop} {what : String} {i C : Nat} {d : Option Ix} {a : Addr} (ha : ρ[i]? = some a) (hi : st.get i = some (.exc C d)) (hnd : nd d = true)
    (h : ∀ s', Rel g clo F ρ σ st s' → E (.ref a) s') : wpAny (model g.prog g.w) A (PySem.passOn what (.ref a) env : Sem α) Q E s := by
  obtain ⟨o, vs, t1, t2, t3, t4, t5⟩ := Re.tr i C _ a hi ha
  unfold PySem.passOn
  rcases t5 with ⟨_, t6⟩ | ⟨T, oT, ts, e1, e2, e3, e4, e5, e6⟩
  · rw [hnd] at t6; first | exact no_tt t6 | exact no_ns t6 | cases t6
  · refine wpAny_bind (wpAny_field t1 t2 e1 ?_)
    rw [if_neg (show ¬ ((Value.ref T == Value.none) = true) from by simp)]
    exact wpAny_bind (snd_setFlight O Re ha hi fun h' R' _ => wpAny_throw (h _ R'))
theorem looks_isExc {K : Frag} {M : Model} {h : Heap} (X : K.In h) {c : Addr} (hc : (clsIn K c).isSome = true) (hm : mroIn K c (.type "BaseException") = some true) : Looks M h (isExcClass (.ref c)) true := by
  obtain ⟨cd, hcd⟩ := Option.isSome_iff_exists.mp hc
  have lt : Looks M h (isType (.ref c)) true := by
    unfold clsIn at hcd
    induction q : K.lookup c with
    | none => rw [q] at hcd; exact no_ns hcd
    | some oo =>
      rw [q] at hcd
      obtain ⟨c1, c2, dt, c4⟩ := oo
      induction dt <;> first | exact no_ns hcd | exact (Looks.ld (X _ _ q)).andThen .now
  unfold isExcClass
  refine lt.andThen ?_
  rw [if_pos rfl]
  exact looks_mroIn X hm
theorem snd_excMatches (GO : GOk g G) (Re : Rel g clo F ρ σ st s) {i C : Nat} {d : Option Ix} {a c : Addr} {Q : Bool → Shared → Prop} (ha : ρ[i]? = some a) (hi : st.get i = some (.exc C d)) (h1 : isExc G C = true) (h2 : isExc G c = true) (h : Q (Nat.beq C c) s) :
    wpAny (model g.prog g.w) A (excMatches (.ref a) (.ref c)) Q E s := by
  obtain ⟨cc, hc1, hc2⟩ := isExc_some h2
  have X := GO.ex c cc hc1 hc2
  have l1 := looks_instIn (M := model g.prog g.w) Re.stat X.xt
  have l2 := looks_isExc (M := model g.prog g.w) Re.stat X.xc X.mb
  have l3 := excType Re (M := model g.prog g.w) ha hi
  have l4 := looks_mroIn (M := model g.prog g.w) Re.stat (GO.xs C c h1 h2)
  unfold excMatches
  refine wpAny_bind (l1.here ?_)
  rw [if_neg (by decide)]
  refine wpAny_bind (wpAny_pure ?_)
  simp only [List.forIn_cons, List.forIn_nil]
  refine wpAny_bind (wpAny_bind (wpAny_bind (l2.here ?_)))
  rw [if_neg (by decide)]
  refine wpAny_pure (wpAny_pure (wpAny_bind (l3.here (wpAny_bind (wpAny_bind (wpAny_bind (l4.here ?_)))))))
  induction hb : Nat.beq C c with
  | true =>
    rw [hb] at h
    rw [if_pos rfl]
    exact wpAny_pure (wpAny_pure (wpAny_pure h))
  | false =>
    rw [hb] at h
    rw [if_neg (by decide)]
    exact wpAny_pure (wpAny_pure (wpAny_pure h))
inductive HsCons (cx : Cx) (f : Stmt → S) (h₀ : ExceptHandler) (r : List ExceptHandler) (l : List (Nat × Option Nat × List S)) : Prop where
  | mk (c : Str) (pc : Pos) (y : Str) (b0 : Stmt) (b : List Stmt) (pos : Pos) (a j : Nat) (l' : List (Nat × Option Nat × List S)) (h1 : h₀ = .ExceptHandler (some (.Name c pc)) (some y) (b0 :: b) pos) (h2 : nameE cx c = .k (.fn a)) (h3 : cx.kinds.lookup y = some .local) (h4 : cx.id y = some j) (h5 : compHs f cx r = some l') (h6 : l = (a, some j, (b0 :: b).map f) :: l')
set_option tactic.hygienic true in
theorem compHs_cons {f : Stmt → S} {h₀ : ExceptHandler} {r : List ExceptHandler} {l : List (Nat × Option Nat × List S)} (h : compHs f cx (h₀ :: r) = some l) : HsCons cx f h₀ r l := by
  obtain ⟨ty, nm, b, pos⟩ := h₀
  induction ty with
  | none => exact no_ns h
  | some ty =>
    induction ty using PySem.Expr.casesOn <;> first | exact no_ns h | skip
    rename_i c pc
    induction nm with
    | none => exact no_ns h
    | some y =>
      induction b with
      | nil => exact no_ns h
      | cons b0 b =>
        have h : (match nameE cx c, cx.kinds.lookup y, cx.id y, compHs f cx r with
          | .k (.fn a), some .local, some m, some l => some ((a, some m, (b0 :: b).map f) :: l)
          | _, _, _, _ => none) = some l := h
        cases e1 : nameE cx c <;> rw [e1] at h <;> first | exact no_ns h | skip
        rename_i v
        induction v <;> first | exact no_ns h | skip
        rename_i a
        induction e2 : cx.kinds.lookup y with
        | none => rw [e2] at h; exact no_ns h
        | some kd =>
          rw [e2] at h
          induction kd <;> first | exact no_ns h | skip
          induction e3 : cx.id y with
          | none => rw [e3] at h; exact no_ns h
          | some j =>
            induction e4 : compHs f cx r with
            | none => rw [e3, e4] at h; exact no_ns h
            | some l' =>
              rw [e3, e4] at h
              exact ⟨c, pc, y, b0, b, pos, a, j, l', rfl, by first | rfl | exact e1, by first | rfl | exact e2, by first | rfl | exact e3, by first | rfl | exact e4, (Option.some.inj h).symm⟩
noncomputable def HandleX (g : Gd) (clo : CloP) (F : List Addr) (ρ : List Addr) (σ : List Str) (st : St) (i : Nat) (a : Addr) (x : KX) (E : Value → Shared → Prop) : Prop := ∀ s', Rel g clo F ρ σ st s' → x i st = true → E (.ref a) s'
theorem snd_handleBy (O : g.Ok) (GO : GOk g G) (S : Snd g clo R n) (H : Here g n cx A F env L) (V : EnvS g ρ st env) {mb : Nat} {i C : Nat} {d : Option Ix} {a : Addr} (ha : ρ[i]? = some a) (hi : st.get i = some (.exc C d)) (hnd : nd d = true) (hC : isExc G C = true) :
    ∀ {hs : List ExceptHandler} {l : List (Nat × Option Nat × List Mine.S)} {s : Shared}, compHs (compS mb cx) cx hs = some l → Rel g clo F ρ σ st s → handle G R st.hd i C l st k x = true → PostF g clo F ρ σ st k Q → HandleX g clo F ρ σ st i a x E →
      wpAny (model g.prog g.w) A (handleBy (.ref a) env hs) Q E s := by
  intro hs
  induction hs with
  | nil =>
    intro l s hl Re h P X
    cases hl
    unfold handleBy
    exact snd_passOn O Re ha hi hnd fun s' R' => X s' R' h
  | cons h₀ r ih =>
    intro l s hl Re h P X
    obtain ⟨c, pc, y, b0, b, pos, ca, j, l', rfl, e1, e2, e3, e4, rfl⟩ := compHs_cons hl
    induction hc : isExc G ca with
    | false => unfold handle at h; rw [hc] at h; exact no_tt h
    | true =>
      replace h : (match isExc G ca with
        | false => false
        | true => match Nat.beq C ca with
          | true => storeLoc j (.ref i) st.hold (fun s => R.exs ((b0 :: b).map (compS mb cx)) s (fun fl s => delLoc j s fun s => k fl ⟨s.hp, s.nx, s.sy, s.lo, s.hi, s.loc, s.cel, st.hd, s.tb⟩) noX)
          | false => handle G R st.hd i C l' st k x) = true := h
      rw [hc] at h
      dsimp only at h
      obtain ⟨n1, n2, n3⟩ := nameE_k e1
      refine wpAny_handleBy_cons (codeAny_handlers_test ?_) (by intro q; cases q)
      refine snd_glob O Re H.mark n1 n2 n3 fun u hu => ?_
      cases hu
      refine snd_excMatches GO Re ha hi hC hc ?_
      induction hb : Nat.beq C ca with
      | false =>
        rw [hb] at h
        exact ih e4 Re h P X
      | true =>
        rw [hb] at h
        dsimp only at h
        rw [if_pos rfl]
        refine codeAny_handlers_suite_as ?_
        refine snd_setFlight O Re ha hi fun h' R' _ => ?_
        refine snd_storeLoc O H.mark V.hold R'.hold e2 e3 h ⟨a, ha, rfl⟩ ?_
        intro ρ₁ σ₁ st₁ s₁ x₁ R₁ h₁
        have D₁ : Hnd (A.mark (some (.ref a))) ρ₁ st₁ := .inr ⟨x₁.hd, i, C, _, a, rfl, x₁.at ha, (x₁.ex i C d hi).choose_spec.1⟩
        refine S.exs mb cx (b0 :: b) (A.mark (some (.ref a))) F env L _ _ _ _ _ noX _ _ H.mark (V.hold.ext x₁) D₁ R₁ h₁ ?_ PostX.no
        intro ρ₂ σ₂ st₂ s₂ fl f x₂ R₂ hf h₂
        have x12 := x₁.trans x₂
        refine snd_delLoc O H (V.hold.ext x12) R₂ e2 e3 h₂ ?_
        intro ρ₃ σ₃ st₃ s₃ x₃ R₃ h₃
        have x13 := x12.trans x₃
        have hf' : FlR ρ₃ σ₃ fl f := by
          induction fl with
          | next => exact hf
          | cont => exact hf
          | ret v => obtain ⟨u, q1, q2⟩ := hf; exact ⟨u, q1, x₃.vr q2⟩
        exact P _ _ _ _ fl f x13.unhold (R₃.into st₃.loc st₃.cel st.hd) hf' h₃
theorem snd_finN (S : Snd g clo R n) (H : Here g n cx A F env L) (V : EnvS g ρ st env) (D : Hnd A ρ st) (Re : Rel g clo F ρ σ st s) {mb : Nat} {f0 : Stmt} {fs : List Stmt} {fl : Fl} {f : Flow} {E' : Value → Shared → Prop} (hf : FlR ρ σ fl f)
    (h : finN R ((f0 :: fs).map (compS mb cx)) k fl st = true) (P : PostF g clo F ρ σ st k Q) :
    wpAny (model g.prog g.w) A (execs (f0 :: fs) env) (fun g s' => match g with | .next => Q f s' | g => Q g s') E' s := by
  change R.exs ((f0 :: fs).map (compS mb cx)) st (fun f s => match f with | .next => k fl s | _ => false) noX = true at h
  refine S.exs mb cx (f0 :: fs) A F env L _ _ _ _ _ noX _ _ H V D Re h ?_ PostX.no
  intro ρ₁ σ₁ st₁ s₁ fl1 f1 x₁ R₁ hf1 h₁
  induction fl1 with
  | next =>
    cases hf1
    have hf' : FlR ρ₁ σ₁ fl f := by
      induction fl with
      | next => exact hf
      | cont => exact hf
      | ret v => obtain ⟨u, q1, q2⟩ := hf; exact ⟨u, q1, x₁.vr q2⟩
    exact P _ _ _ _ fl f x₁ R₁ hf' h₁
  | cont => cases h₁
  | ret v => cases h₁
theorem snd_finX (O : g.Ok) (S : Snd g clo R n) (H : Here g n cx A F env L) (V : EnvS g ρ st env) (Re : Rel g clo F ρ σ st s) {mb : Nat} {f0 : Stmt} {fs : List Stmt} {i : Nat} {a : Addr} (ha : ρ[i]? = some a)
    (h : finX R ((f0 :: fs).map (compS mb cx)) x i st = true) (X : PostX g clo F ρ σ st x E) : FinallyRaised g.prog g.w A E env (f0 :: fs) Q (.ref a) s := by
  change noteE i st (fun s => R.exs ((f0 :: fs).map (compS mb cx)) s.hold (fun f s3 => match f with | .next => x i ⟨s3.hp, s3.nx, s3.sy, s3.lo, s3.hi, s3.loc, s3.cel, s.hd, s3.tb⟩ | _ => false) noX) = true at h
  obtain ⟨C, d, hi, hro, h⟩ := noteE_true h
  refine ⟨(by intro q; cases q), ?_⟩
  refine snd_note O H.toAmb H.frame Re ha hi hro fun h' R' _ => ?_
  have xn := Ext.note (ρ := ρ) (σ := σ) hi
  have hi' : (st.put i (.exc C (some (2 * (d / 2) + 1)))).get i = some (.exc C (some (2 * (d / 2) + 1))) := by rw [St.get_put, if_pos rfl]
  refine snd_setFlight O R' ha hi' fun h2 R2 _ => ?_
  have D₁ : Hnd (A.mark (some (.ref a))) ρ (st.put i (.exc C (some (2 * (d / 2) + 1)))).hold := .inr ⟨rfl, i, C, _, a, rfl, ha, hi'⟩
  refine S.exs mb cx (f0 :: fs) (A.mark (some (.ref a))) F env L _ _ _ _ _ noX _ _ H.mark (V.ext xn).hold D₁ R2.hold h ?_ PostX.no
  intro ρ₁ σ₁ st₁ s₁ fl1 f1 x₁ R₁ hf1 h₁
  obtain ⟨d', q1, q2⟩ := x₁.ex i C _ hi'
  have ha1 := x₁.at ha
  induction fl1 with
  | next =>
    cases hf1
    refine snd_passOn O R₁ ha1 q1 (q2 (nd_odd d)) fun s' R'' => ?_
    exact X _ _ _ _ i a (xn.trans x₁.unhold) (R''.into st₁.loc st₁.cel _) ha1 ⟨C, d', q1⟩ h₁
  | cont => cases h₁
  | ret v => cases h₁
set_option tactic.hygienic true in
theorem snd_TryS (O : g.Ok) (GO : GOk g G) (S : Snd g clo R n) (H : Here g n cx A F env L) (V : EnvS g ρ st env) (D : Hnd A ρ st) (Re : Rel g clo F ρ σ st s) {mb : Nat} {b fin : List Stmt} {hs : List ExceptHandler} {l : List (Nat × Option Nat × List Mine.S)} {p : Pos}
    (hl : compHs (compS mb cx) cx hs = some l) (hne : (hs.isEmpty && fin.isEmpty) = false)
    (h : exS G R (.try_ (b.map (compS mb cx)) l (fin.map (compS mb cx))) st k x = true) (P : PostF g clo F ρ σ st k Q) (X : PostX g clo F ρ σ st x E) : wpAny (model g.prog g.w) A (exec (.Try b hs [] fin p) env) Q E s := by
  change R.exs (b.map (compS mb cx)) st (finN R (fin.map (compS mb cx)) k)
      (fun i s => noteE i s fun s => match s.get i with
        | some (.exc C _) => match isExc G C with
          | false => false
          | true => handle G R s.hd i C l s (finN R (fin.map (compS mb cx)) k) (finX R (fin.map (compS mb cx)) x)
        | _ => false) = true at h
  -- what an exception out of the suite meets
  have caught : ∀ {ρ₁ : List Addr} {σ₁ : List Str} {st₁ : St} {s₁ : Shared} {i : Nat} {a : Addr} {Q' : Unit → Shared → Prop} {E' : Value → Shared → Prop}, Ext ρ σ st ρ₁ σ₁ st₁ → Rel g clo F ρ₁ σ₁ st₁ s₁ → ρ₁[i]? = some a →
      (noteE i st₁ fun s => match s.get i with
        | some (.exc C _) => match isExc G C with
          | false => false
          | true => handle G R s.hd i C l s (finN R (fin.map (compS mb cx)) k) (finX R (fin.map (compS mb cx)) x)
        | _ => false) = true →
      (∀ st₂ s₂ C d, Ext ρ σ st ρ₁ σ₁ st₂ → Rel g clo F ρ₁ σ₁ st₂ s₂ → st₂.get i = some (.exc C d) → nd d = true → isExc G C = true → handle G R st₂.hd i C l st₂ (finN R (fin.map (compS mb cx)) k) (finX R (fin.map (compS mb cx)) x) = true → Q' () s₂) →
      wpAny (model g.prog g.w) A (noteFrame (.ref a) env) Q' E' s₁ := by
    intro ρ₁ σ₁ st₁ s₁ i a Q' E' e₁ R₁ ha h₁ go
    obtain ⟨C, d, hi, hro, h₁⟩ := noteE_true h₁
    refine snd_note O H.toAmb H.frame R₁ ha hi hro fun h' R' _ => ?_
    have hi' : (st₁.put i (.exc C (some (2 * (d / 2) + 1)))).get i = some (.exc C (some (2 * (d / 2) + 1))) := by rw [St.get_put, if_pos rfl]
    rw [hi'] at h₁
    dsimp only at h₁
    split at h₁
    · cases h₁
    · rename_i hC
      exact go _ _ C _ (e₁.trans (Ext.note hi)) R' hi' (nd_odd d) hC h₁
  rcases hs with _ | ⟨h₀, hs'⟩ <;> rcases fin with _ | ⟨f0, fs⟩
  · exact (Bool.false_ne_true hne.symm).elim
  · skip
    cases hl
    refine wpAny_Try_finally (S.exs mb cx b A F env L _ _ _ _ _ _ _ _ H V D Re h ?_ ?_)
    · intro ρ₁ σ₁ st₁ s₁ fl f e₁ R₁ hf h₁
      induction fl with
      | next => cases hf; exact wpAny_execs_nil (snd_finN S H (V.ext e₁) (D.ext e₁) R₁ (fl := .next) rfl h₁ (P.ext e₁))
      | cont => cases hf; exact snd_finN S H (V.ext e₁) (D.ext e₁) R₁ (fl := .cont) rfl h₁ (P.ext e₁)
      | ret v => obtain ⟨u, rfl, hu⟩ := hf; exact snd_finN S H (V.ext e₁) (D.ext e₁) R₁ (fl := .ret v) ⟨u, rfl, hu⟩ h₁ (P.ext e₁)
    · intro ρ₁ σ₁ st₁ s₁ i a e₁ R₁ ha _ h₁
      refine caught e₁ R₁ ha h₁ ?_
      intro st₂ s₂ C d e₂ R₂ hi hnd hC h₂
      exact snd_finX O S H (V.ext e₂) R₂ ha h₂ (X.ext e₂)
  · skip
    refine wpAny_Try_except (S.exs mb cx b A F env L _ _ _ _ _ _ _ _ H V D Re h ?_ ?_)
    · intro ρ₁ σ₁ st₁ s₁ fl f e₁ R₁ hf h₁
      induction fl with
      | next => cases hf; exact wpAny_execs_nil (P _ _ _ _ .next .next e₁ R₁ rfl h₁)
      | cont => cases hf; exact P _ _ _ _ .cont .cont e₁ R₁ rfl h₁
      | ret v => obtain ⟨u, rfl, hu⟩ := hf; exact P _ _ _ _ (.ret v) _ e₁ R₁ ⟨u, rfl, hu⟩ h₁
    · intro ρ₁ σ₁ st₁ s₁ i a e₁ R₁ ha _ h₁
      refine caught e₁ R₁ ha h₁ ?_
      intro st₂ s₂ C d e₂ R₂ hi hnd hC h₂
      refine snd_setFlight O R₂ ha hi fun h3 R3 _ => ?_
      refine snd_handleBy O GO S H (V.ext e₂) ha hi hnd hC hl R3 h₂ ?_ ?_
      · intro ρ₄ σ₄ st₄ s₄ fl f e₄ R₄ hf h₄
        exact P _ _ _ _ fl f (e₂.trans e₄) R₄ hf h₄
      · intro s' R' hx
        exact X _ _ _ _ i a e₂ R' ha ⟨C, d, hi⟩ hx
  · skip
    refine wpAny_Try_except_finally (S.exs mb cx b A F env L _ _ _ _ _ _ _ _ H V D Re h ?_ ?_)
    · intro ρ₁ σ₁ st₁ s₁ fl f e₁ R₁ hf h₁
      induction fl with
      | next => cases hf; exact wpAny_execs_nil (snd_finN S H (V.ext e₁) (D.ext e₁) R₁ (fl := .next) rfl h₁ (P.ext e₁))
      | cont => cases hf; exact snd_finN S H (V.ext e₁) (D.ext e₁) R₁ (fl := .cont) rfl h₁ (P.ext e₁)
      | ret v => obtain ⟨u, rfl, hu⟩ := hf; exact snd_finN S H (V.ext e₁) (D.ext e₁) R₁ (fl := .ret v) ⟨u, rfl, hu⟩ h₁ (P.ext e₁)
    · intro ρ₁ σ₁ st₁ s₁ i a e₁ R₁ ha _ h₁
      refine caught e₁ R₁ ha h₁ ?_
      intro st₂ s₂ C d e₂ R₂ hi hnd hC h₂
      refine snd_setFlight O R₂ ha hi fun h3 R3 _ => ?_
      refine snd_handleBy O GO S H (V.ext e₂) ha hi hnd hC hl R3 h₂ ?_ ?_
      · intro ρ₄ σ₄ st₄ s₄ fl f e₄ R₄ hf h₄
        have e24 := e₂.trans e₄
        exact snd_finN S H (V.ext e24) (D.ext e24) R₄ hf h₄ (P.ext e24)
      · intro s' R' hx
        exact snd_finX O S H (V.ext e₂) R' ha hx (X.ext e₂)
end
end Mine
end
section
set_option genInjectivity false
set_option genSizeOf false
set_option tactic.hygienic false
open PySem PySem.W PySem.Calls PyProof.Rows PySem.SeqAt
set_option maxRecDepth 100000
namespace Mine
structure DefOk (g : Gd) : Prop where
  hdc : codeHdIn g.K g.tc g.tP = true
  tcs : g.tP ≠ cStatics
  tmg : mainGlobals ≠ g.tP
  tb0 : g.B.TableAt g.tc g.tP #[]
  tK : g.K.lookup g.tP = none
  bm : ∃ b o, nsIn g.K mainGlobals "__builtins__" = some (some (.ref b)) ∧ b ≠ builtinsNs ∧ b ≠ mainGlobals ∧ b ≠ g.tP ∧ g.K.lookup b = some o ∧ o.cls = .type "module" ∧ o.dict = some builtinsNs ∧ o.data = .plain
structure CodeOk (g : Gd) (cx : Cx) (m : Nat) (f : Fn) (c : CloF) : Prop where
  cok : CxOk g cx
  kinds : cx.kinds = c.scope.names
  ps : psIds cx c.params.args = some f.ps
  plain : funOk c.params c.scope = true
  body : f.body = c.body.map (compS m cx)
noncomputable def theClo (g : Gd) : CloP := fun ps b c => ∃ cx m, CodeOk g cx m ⟨ps, [], [], b⟩ c ∧ cx.own = none ∧ c.qual = g.tq ∧ c.params.defaults = [] ∧ noCells c.scope.names = true
section
variable {g : Gd} {F : List Addr} {ρ : List Addr} {σ : List Str} {st : St} {s : Shared} {A : Around} {E : Value → Shared → Prop} {cx : Cx} {env : Env} {L : Addr} {n m : Nat} {R : Rn} {G : Glob} {k : Fl → St → Bool} {x : KX} {Q : Flow → Shared → Prop}
theorem Rel.newTab (O : g.Ok) (Dk : DefOk g) {clo : CloP} {s' : Shared} (R : Rel g clo F ρ σ st s) {a : Addr} {o : Obj} (hn : s.heap.get? a = none) (hB : g.B.objs.size ≤ a) (hx : Heap.ExtBut g.tP s.heap s'.heap)
    (ho : s'.heap.get? a = some o) (hr : OR g clo (ρ ++ [a]) σ .code o) (hP : s'.heap.get? g.tP = some ⟨.none, none, .fields #[rawInt g.tpos.line, rawInt g.tpos.col, .ref a], #[]⟩) (hold : OldK g.B s'.heap) (c : Calm s s') : Rel g clo F (ρ ++ [a]) σ ((st.new .code).setTb st.nx) s' := by
  have σσ : σ ++ [] = σ := List.append_nil σ
  have hk : ∀ {b o}, g.B.objs.size ≤ b → s.heap.get? b = some o → s'.heap.get? b = some o := fun {b o} hb e => hx b o (Nat.ne_of_gt (Nat.lt_of_lt_of_le O.tl hb)) e
  have old : ∀ {i : Nat} {x : Addr} {b' : Ob}, (ρ ++ [a])[i]? = some x → (st.new .code).get i = some b' → (ρ[i]? = some x ∧ st.get i = some b') ∨ (i = st.nx ∧ x = a ∧ b' = .code) := fun {i x b'} e1 e2 => by
    rw [St.get_new] at e2
    rcases getElem?_snoc e1 with p | ⟨q, h⟩
    · rw [if_neg (R.ltNx p)] at e2; exact .inl ⟨p, e2⟩
    · have q' : i = st.nx := q.trans R.len
      rw [if_pos q'] at e2; exact .inr ⟨q', h, (Option.some.inj e2).symm⟩
  have ne : ∀ {i : Nat} {x : Addr} {b' : Ob}, ρ[i]? = some x → st.get i = some b' → x ≠ a := fun p q z => by
    obtain ⟨o', e⟩ := R.there p q
    rw [z, hn] at e; first | exact no_tt e | exact no_ns e | induction e
  refine ⟨by rw [List.length_append, R.len]; rfl, R.slen, R.sml, fun i b' e => ?_, fun i j x b1 b2 e1 e2 g1 g2 => ?_, fun i x b' e e' => ?_, fun i C d x e1 e2 => ?_, fun x hx' => ?_, fun x o' e => ?_, hold, c.gens.trans R.gens, c.drawn.trans R.drawn, c.os.trans R.os, .inr ⟨a, getElem?_push_last ρ a R.len, hP⟩⟩
  · change (st.new .code).get i = some b' at e
    rw [St.get_new] at e
    by_cases q : i = st.nx
    · rw [if_pos q] at e; first | exact no_tt e | exact no_ns e | cases e
      exact ⟨a, o, q ▸ getElem?_push_last ρ a R.len, ho, hr⟩
    · rw [if_neg q] at e
      obtain ⟨x, o', e1, e2, r⟩ := R.obs i b' e
      exact ⟨x, o', at_mono _ e1, hk (R.lt _ _ _ e1 e) e2, σσ ▸ r.mono [a] []⟩
  · rcases old e1 g1 with ⟨p1, q1⟩ | ⟨p1, q1, _⟩ <;> rcases old e2 g2 with ⟨p2, q2⟩ | ⟨p2, q2, _⟩
    · exact R.inj i j x b1 b2 p1 p2 q1 q2
    · exact absurd q2 (ne p1 q1)
    · exact absurd q1 (ne p2 q2)
    · exact .inl (p1.trans p2.symm)
  · rcases old e e' with ⟨p, q⟩ | ⟨_, rfl, _⟩
    · exact R.lt i x b' p q
    · exact hB
  · rcases old e2 e1 with ⟨p, q⟩ | ⟨_, _, z⟩
    · obtain ⟨o', vs, h1, h2, h3, h4, h5⟩ := R.tr i C d x q p
      refine ⟨o', vs, hk (R.lt _ _ _ p q) h1, h2, h3, h4, ?_⟩
      refine h5.imp id ?_
      rintro ⟨T, oT, ts, t1, t2, t3, t4, t5, t6⟩
      refine ⟨T, oT, ts, t1, hk t6 t2, t3, t4, fun ⟨j, bj, m1, m2⟩ => ?_, t6⟩
      rcases old m1 m2 with ⟨m1, m2⟩ | ⟨_, m, _⟩
      · exact t5 ⟨j, bj, m1, m2⟩
      · rw [m, hn] at t2; first | exact no_tt t2 | exact no_ns t2 | induction t2
    · first | exact no_tt z | exact no_ns z | cases z
  · obtain ⟨i, fs, e1, e2, e3⟩ := R.fra x hx'
    refine ⟨i, fs, at_mono _ e1, ?_, e3⟩
    show (st.new .code).get i = _
    rw [St.get_new, if_neg (R.ltNx e1)]
    exact e2
  · refine hx x o' (fun z => ?_) (R.stat x o' e)
    rw [z, Dk.tK] at e; first | exact no_tt e | exact no_ns e | induction e
theorem DefOk.bat (Dk : DefOk g) (O : g.Ok) {clo : CloP} (R : Rel g clo F ρ σ st s) : s.heap.BuiltinsAt (s.heap.nsMap mainGlobals) g.tP := by
  obtain ⟨b, o, h1, h2, h3, h4, h5, h6⟩ := Dk.bm
  exact ⟨b, o, ns_some_of R.stat (O.nsG R) h1, h2, h3, h4, R.stat _ _ h5, h6⟩
set_option tactic.hygienic true in
theorem psIds_ann {cx : Cx} : ∀ {as : List Arg} {is : List Nat}, psIds cx as = some is → ∀ a ∈ as, a.annotation = none := by
  intro as
  induction as with
  | nil =>
    intro _ _ a h
    exact nomatch h
  | cons hd r ih =>
    intro is h a ha
    obtain ⟨x, ann, p⟩ := hd
    induction ann with
    | some e => first | exact no_tt h | exact no_ns h | induction h
    | none =>
      change (match cx.id x, psIds cx r with | some n, some l => some (n :: l) | _, _ => none) = some is at h
      split at h
      · rename_i n l h1 h2
        rcases List.mem_cons.mp ha with rfl | ha
        · rfl
        · exact ih h2 a ha
      · first | exact no_tt h | exact no_ns h | induction h
theorem annotationsOf_none (env : Env) : ∀ {l : List Arg}, (∀ a ∈ l, a.annotation = none) → annotationsOf l env = []
  | [], _ => rfl
  | ⟨x, ann, p⟩ :: r, h => by
    have e : ann = none := h _ List.mem_cons_self
    subst e
    show annotationsOf r env = []
    exact annotationsOf_none env fun y hy => h y (List.mem_cons_of_mem _ hy)
inductive FunX (ps : Arguments) (sc : Scope) : Prop where
  | mk (h1 : ps.posonlyargs = []) (h2 : ps.vararg = none) (h3 : ps.kwonlyargs = []) (h4 : ps.kw_defaults = []) (h5 : ps.kwarg = none) (h6 : noDup (ps.args.map (·.arg)) = true) (h7 : sc.kind = .function) (h8 : sc.isCoroutine = false) (h9 : sc.isGenerator = false)
    (h10 : ∀ x ∈ ps.args, sc.names.lookup x.arg = some .local ∨ sc.names.lookup x.arg = some .cell)
theorem funOk_at {ps : Arguments} {sc : Scope} (hf : funOk ps sc = true) : FunX ps sc := by
  unfold funOk at hf
  simp only [Bool.and_eq_true, List.isEmpty_iff, Option.isNone_iff_eq_none, Bool.not_eq_true', beq_iff_eq, List.all_eq_true, Bool.or_eq_true] at hf
  obtain ⟨⟨⟨⟨⟨⟨⟨⟨⟨a, b⟩, c⟩, d⟩, e⟩, f⟩, g⟩, h⟩, i⟩, j⟩ := hf
  exact ⟨a, b, c, d, e, f, g, h, i, j⟩
theorem annTrees_none {cx : Cx} {ps : Arguments} {sc : Scope} (hf : funOk ps sc = true) {is : List Nat} (hi : psIds cx ps.args = some is) (env : Env) : annTrees ps none env = [] := by
  obtain ⟨q1, q2, q3, q4, q5, _⟩ := funOk_at hf
  obtain ⟨po, a, va, ko, kd, kwa, df⟩ := ps
  dsimp only at q1 q2 q3 q4 q5 hi
  subst q1 q2 q3 q4 q5
  unfold annTrees
  show annotationsOf (a ++ [] ++ [] ++ [] ++ []) env ++ [] = []
  simp only [List.append_nil]
  exact annotationsOf_none env (psIds_ann hi)
set_option tactic.hygienic true in
theorem snd_DefS {n m : Nat} (O : g.Ok) (Dk : DefOk g) (H : Here g n cx A F env L) (V : EnvS g ρ st env) (Re : Rel g (theClo g) F ρ σ st s) {f : Str} {ps : Arguments} {b : List Stmt} {sc : Scope} {pos : Pos} {i : Nat} {fr is : List Nat}
    (h0 : cx.own = some (f, pos)) (hl : cx.kinds.lookup f = some .local) (hi : cx.id f = some i) (hfr : freesOf cx sc.names = some fr) (hps : psIds cx ps.args = some is) (hf : funOk ps sc = true) (hnc : noCells sc.names = true) (hdf : ps.defaults = [])
    (h : exS G R (.defc i is (b.map (compS m ⟨sc.names, cx.gl, cx.id, none⟩)) fr) st k x = true) (P : PostF g (theClo g) F ρ σ st k Q) :
    wpAny (model g.prog g.w) A (exec (.FunctionDef f ps b [] none [] sc none f pos) env) Q E s := by
  obtain ⟨q1, q2, q3, q4, q5, q6, q7, q8, q9, q10⟩ := funOk_at hf
  obtain ⟨hcode, hpos, hqual⟩ := H.code f pos h0
  subst hpos
  have hq : qualnameIn env f f = g.tq := by
    unfold qualnameIn
    rw [H.loc f hl, if_neg (by decide)]
    exact hqual
  refine nestDef_K hdf q4 (annTrees_none hf hps env) ?_
  rw [hq]
  change (match keepC st.cel fr with | some cl => _ | none => false) = true at h
  split at h
  · rename_i cl hcl
    obtain ⟨ml, hml, hml2⟩ := closure_at (sc := sc) H.cok V hfr hcl
    have CH : CodeHd s.heap g.tc g.tP := codeHd_of_K Re.stat Dk.hdc
    have clok : theClo g is (b.map (compS m ⟨sc.names, cx.gl, cx.id, none⟩)) ⟨f, g.tq, ps, b, sc⟩ := ⟨⟨sc.names, cx.gl, cx.id, none⟩, m, ⟨⟨H.cok.id, H.cok.gl⟩, rfl, by
      have e : ∀ {l : List Arg}, psIds ⟨sc.names, cx.gl, cx.id, none⟩ l = psIds cx l := fun {l} => by
        induction l with
        | nil => rfl
        | cons a r ih =>
          obtain ⟨x, ann, p⟩ := a
          induction ann with
          | some _ => rfl
          | none => show (match cx.id x, psIds ⟨sc.names, cx.gl, cx.id, none⟩ r with | some n, some l => some (n :: l) | _, _ => none) = _; rw [ih]; rfl
      exact e.trans hps, hf, rfl⟩, rfl, rfl, hdf, hnc⟩
    have made : ∀ {ρ₁ σ₁ st₁} {s₁ : Shared} {j : Nat} {cv : Addr} {v : Value}, Ext ρ σ st ρ₁ σ₁ st₁ → Rel g (theClo g) F ρ₁ σ₁ st₁ s₁ → ρ₁[j]? = some cv → VR ρ₁ σ₁ (.ref (j + 0)) (.ref cv) → v = .ref cv → storeLoc i (.ref j) st₁ (fun s => k .next s) = true → wpAny (model g.prog g.w) A (storeName env f v) (fun _ s'' => Q .next s'') E s₁ := by
      intro ρ₁ σ₁ st₁ s₁ j cv v e R₁ _ hv hq hk
      subst hq
      exact snd_storeLoc O H (V.ext e) R₁ hl hi hk hv fun ρ₂ σ₂ st₂ s₂ e₂ R₂ h₂ => P _ _ _ _ .next .next (e.trans e₂) R₂ rfl h₂
    have hG := O.nsG Re
    have hB := Dk.bat O Re
    split at h
    · rename_i htb
      have hT := Re.tab
      rw [htb] at hT
      refine makeFunction_K hml H.glo hG hcode CH hT trivial rfl Dk.tmg hB ?_
      intro c' ctv doc h' tk hx hge hlt hrec htab
      obtain ⟨c0, o, vs, t, hc0, ho, hd, hv⟩ := hrec
      cases hc0
      have hn : s.heap.get? c' = none := Heap.get?_none_of_le hge
      have hBc : g.B.objs.size ≤ c' := Nat.le_trans (Re.big O) hge
      have ht : s.heap.TableAt g.tc g.tP #[] := CH.tab hT
      have hne : g.tc ≠ g.tP := by obtain ⟨_, _, _, _, _, _, _, _, _, _, _, _, _, _, _, _, _, _, z⟩ := CH; exact z
      obtain ⟨⟨oc, vc, t1, t2, t3, t4⟩, _⟩ := id ht
      have ht' : h'.TableAt g.tc g.tP (#[] ++ #[rawInt g.tpos.line, rawInt g.tpos.col, .ref c']) := ⟨⟨oc, vc, hx _ _ hne t1, t2, t3, t4⟩, htab⟩
      have R1 := Re.newTab (s' := { s with heap := h', toks := tk }) O Dk hn hBc hx ho (o := o) ⟨vs, t, hd, hv⟩ (by rw [htab]; simp) (Re.old.step_table Dk.tb0 ht ht' hx Dk.tcs) ⟨rfl, rfl, rfl⟩
      have e0 := Re.extNew .code c'
      have e1 : Ext ρ σ st (ρ ++ [c']) σ ((st.new .code).setTb st.nx) := ⟨e0.r, e0.s, e0.loc, e0.cel, e0.hd, e0.ex⟩
      have R2 := R1.pushO O (b := .clo is (b.map (compS m ⟨sc.names, cx.gl, cx.id, none⟩)) cl st.nx) (o := fnMade f g.tq ps b sc ml doc ((s.heap.nsMap mainGlobals "__name__").getD .none) c' ctv) rfl ⟨⟨f, g.tq, ps, b, sc⟩, ml, none, #[], doc, _, ctv, c', clok, getElem?_push_last ρ c' Re.len, rfl, fun y j e => by
        obtain ⟨a, z1, z2⟩ := hml2 y j e
        exact ⟨a, at_mono _ z1, z2⟩⟩ (fun _ _ e => by first | exact Ob.noConfusion e | induction e) tk
      exact made (e1.trans (R1.extNew _ _)) R2 (getElem?_push_last _ _ R1.len) ⟨_, getElem?_push_last _ _ R1.len, rfl⟩ rfl h
    · rename_i j htb
      have hT := Re.tab
      rw [htb] at hT
      induction hjc : st.get j with
      | none => rw [hjc] at h; exact no_tt h
      | some bc =>
      rw [hjc] at h
      induction bc <;> first | exact no_tt h | skip
      cases hj0 : Nat.beq j TB0 with
      | true => rw [hj0] at h; exact no_tt h
      | false =>
        rw [hj0] at h
        dsimp only at h
        have hT : ∃ c, ρ[j]? = some c ∧ s.heap.get? g.tP = some ⟨.none, none, .fields #[rawInt g.tpos.line, rawInt g.tpos.col, .ref c], #[]⟩ := hT.elim (fun q => by rw [q, Nat.beq_refl] at hj0; cases hj0) id
        obtain ⟨cv, hcv, hT⟩ := hT
        refine makeFunction_hit hml H.glo hG hcode CH hT trivial (cv := .ref cv) (by simp [codeAmong, rawInt]) hB ?_
        intro ctv doc h' tk hk hsz
        have R1 := Re.keeps (s' := { s with heap := h', toks := tk }) hk ⟨rfl, rfl, rfl⟩
        have R2 := R1.pushO O (b := .clo is (b.map (compS m ⟨sc.names, cx.gl, cx.id, none⟩)) cl j) (o := fnMade f g.tq ps b sc ml doc ((s.heap.nsMap mainGlobals "__name__").getD .none) cv ctv) rfl ⟨⟨f, g.tq, ps, b, sc⟩, ml, none, #[], doc, _, ctv, cv, clok, hcv, rfl, hml2⟩ (fun _ _ e => by first | exact Ob.noConfusion e | induction e) tk
        exact made (R1.extNew _ _) R2 (getElem?_push_last _ _ R1.len) ⟨_, getElem?_push_last _ _ R1.len, rfl⟩ rfl h
  · first | exact no_tt h | exact no_ns h | induction h
end
end Mine
end
section
set_option genInjectivity false
set_option genSizeOf false
set_option tactic.hygienic false
open PySem PySem.W PySem.Calls PyProof.Rows PySem.SeqAt
set_option maxRecDepth 100000
namespace Mine
section
variable {g : Gd} {G : Glob}
theorem isAdd_true {op : Operator} (h : isAdd op = true) : op = .Add := by
  induction op <;> first | exact no_tt h | rfl
theorem locOf_some {e : Mine.E} {n : Nat} (h : locOf e = some n) : e = .loc n := by
  induction e using Mine.E.casesOn <;> first | exact no_ns h | rw [← Option.some.inj (show some _ = some n from h)]
set_option tactic.hygienic true in
theorem snd_exN (O : g.Ok) (GO : GOk g G) (Dk : DefOk g) {N : Nat} (hS : ∀ m < N + 1, Snd g (theClo g) (run G m) m) {m : Nat} {cx : Cx} {A : Around} {F : List Addr} {env : Env} {L : Addr} {ρ : List Addr} {σ : List Str} {st : St} {s : Shared} {k : Fl → St → Bool} {x : KX} {Q : Flow → Shared → Prop} {E : Value → Shared → Prop} {b : Stmt}
    (H : Here g N cx A F env L) (V : EnvS g ρ st env) (D : Hnd A ρ st) (Re : Rel g (theClo g) F ρ σ st s) (h : exS G (run G N) (compS m cx b) st k x = true) (P : PostF g (theClo g) F ρ σ st k Q) (X : PostX g (theClo g) F ρ σ st x E) : wpAny (model g.prog g.w) A (exec b env) Q E s := by
  have S := hS N (Nat.lt_succ_self N)
  cases m with
  | zero => first | exact no_tt h | exact no_ns h | induction h using PySem.Stmt.casesOn
  | succ m =>
  induction b using PySem.Stmt.casesOn
  case Expr e p =>
    change exS G (run G N) (match plainVal e with | true => .expr (compE 100 cx e) | false => .bad) st k x = true at h
    split at h
    · exact snd_ExprS S H V D Re (by assumption) h P X
    · first | exact no_tt h | exact no_ns h | induction h
  case Pass p => exact wpAny_Pass (P _ _ _ _ .next .next (Ext.refl ..) Re rfl h)
  case Continue p => exact wpAny_Continue (P _ _ _ _ .cont .cont (Ext.refl ..) Re rfl h)
  case Return o p =>
    cases o with
    | some e => exact snd_RetS S H V D Re h P X
    | none =>
      induction N with
      | zero => first | exact no_tt h | exact no_ns h | induction h
      | succ N => exact wpAny_Return_none (P _ _ _ _ (.ret .none) (.ret .none) (Ext.refl ..) Re ⟨_, rfl, rfl⟩ h)
  case Assign ts e p =>
    change exS G (run G N) (compAsg cx ts e) st k x = true at h
    unfold compAsg at h
    split at h
    · rename_i t
      split at h
      · rename_i tg ht hn
        by_cases hn' : ∃ y py, t = .Name y py
        · obtain ⟨y, py, rfl⟩ := hn'
          obtain ⟨bb, hb⟩ := swaps_some e (.Name y py) p.line env
          induction bb with
          | true => exact snd_AssignUse (m := 99) O (fun m hm => hS m (by omega)) H V D Re ht hb h P X
          | false => exact snd_AssignPlain O GO S H V D Re ht hn hb h P X
        · exact snd_AssignPlain O GO S H V D Re ht hn (swaps_not (fun y p q => hn' ⟨y, p, q⟩) ..) h P X
      · first | exact no_tt h | exact no_ns h | induction h
    · first | exact no_tt h | exact no_ns h | induction h
  case AugAssign t op e p =>
    change exS G (run G N) (compAug cx t op e) st k x = true at h
    unfold compAug at h
    split at h
    · rename_i hop
      obtain rfl := isAdd_true hop
      split at h
      · rename_i hat
        obtain rfl := attrOf_some hat
        split at h
        · exact snd_Aug O GO S H V D Re (by assumption) h P X
        · exact no_tt h
      · split at h
        · rename_i hnm
          obtain ⟨_, rfl⟩ := isName_some hnm
          split at h
          · rename_i h1 h2
            exact snd_AugN O S H V D Re rfl (eq_of_beq h1) (locOf_some h2) h P X
          · exact no_tt h
        · exact no_tt h
    · exact no_tt h
  case If t a b p => exact snd_IfS S H V D Re h P X
  case For t it b o p =>
    change exS G (run G N) (compFor (compS m cx) cx t it b o) st k x = true at h
    unfold compFor at h
    split at h
    · split at h
      · exact snd_ForS O S H V D Re (by assumption) (by assumption) h P X
      · first | exact no_tt h | exact no_ns h | induction h
    · first | exact no_tt h | exact no_ns h | induction h
  case While t b o p =>
    induction o using List.casesOn with
    | nil => exact snd_WhileS hS H V D Re h P
    | cons _ _ => first | exact no_tt h | exact no_ns h | induction h using PySem.Stmt.casesOn
  case Raise a b p =>
    cases b with
    | some _ => first | exact no_tt h | exact no_ns h | induction h using PySem.Stmt.casesOn
    | none => cases a with
      | some e => exact snd_Raise O GO S H V D Re h X
      | none => first | exact no_tt h | exact no_ns h | induction h
  case Try b hs o fin p =>
    change exS G (run G N) (compTry (compS m cx) cx b hs o fin) st k x = true at h
    unfold compTry at h
    split at h
    · split at h
      · exact snd_TryS O GO S H V D Re (by assumption) (by assumption) h P X
      · first | exact no_tt h | exact no_ns h | induction h
    · first | exact no_tt h | exact no_ns h | induction h
  case FunctionDef f ps b ds r ts sc tsc f' pos =>
    change exS G (run G N) (compDef (compS m) cx f ps b ds r ts sc tsc f' pos) st k x = true at h
    unfold compDef at h
    split at h
    · rename_i q0
      rw [Bool.and_eq_true, Bool.and_eq_true, Bool.and_eq_true, List.isEmpty_iff, List.isEmpty_iff, Option.isNone_iff_eq_none, Option.isNone_iff_eq_none] at q0
      obtain ⟨⟨⟨rfl, rfl⟩, rfl⟩, rfl⟩ := q0
      split at h
      · rename_i fp n fr is q1 q2 q3 q4 q5
        obtain ⟨f0, p0⟩ := fp
        split at h
        · rename_i q6
          simp only [Bool.and_eq_true, beq_iff_eq, List.isEmpty_iff] at q6
          obtain ⟨⟨⟨⟨⟨rfl, rfl⟩, rfl⟩, z1⟩, z2⟩, z3⟩ := q6
          exact snd_DefS O Dk H V Re q1 (eq_of_beq q2) q3 q4 q5 z2 z3 z1 h P
        · exact no_tt h
      · exact no_tt h
    · exact no_tt h
  all_goals (first | exact no_tt h | exact no_ns h | induction h)
theorem snd_exsN (O : g.Ok) (GO : GOk g G) (Dk : DefOk g) {N : Nat} (hS : ∀ m < N, Snd g (theClo g) (run G m) m) : SndS g (theClo g) (run G N) N := by
  intro m cx b A F env L ρ σ st s k x Q E H V D Re h P X
  cases N with
  | zero => first | exact no_tt h | exact no_ns h | induction h using PySem.Stmt.casesOn
  | succ N =>
  have H := H.le (m := N) (Nat.le_succ N)
  change exsL G (run G N) (b.map (compS m cx)) st k x = true at h
  induction b generalizing ρ σ st s with
  | nil => exact wpAny_execs_nil (P _ _ _ _ .next .next (Ext.refl ..) Re rfl h)
  | cons a r ih =>
    refine wpAny_execs_cons (snd_exN O GO Dk hS H V D Re h ?_ X)
    intro ρ₁ σ₁ st₁ s₁ fl f e₁ R₁ hf h₁
    cases fl with
    | next => cases hf; exact ih _ _ _ _ (V.ext e₁) (D.ext e₁) R₁ (P.ext e₁) (X.ext e₁) h₁
    | cont => cases hf; exact P _ _ _ _ .cont .cont e₁ R₁ rfl h₁
    | ret v => obtain ⟨u, rfl, hu⟩ := hf; exact P _ _ _ _ (.ret v) _ e₁ R₁ ⟨u, rfl, hu⟩ h₁
end
end Mine
end
section
set_option genInjectivity false
set_option genSizeOf false
set_option tactic.hygienic false
open PySem PySem.W PySem.Calls PyProof.Rows PySem.SeqAt
set_option maxRecDepth 100000
namespace Mine
set_option tactic.hygienic true in
theorem noDup_ok : ∀ {l : List Str}, noDup l = true → l.Nodup
  | [], _ => List.nodup_nil
  | x :: r, h => by
    unfold noDup at h
    split at h
    · first | exact no_tt h | exact no_ns h | induction h
    · rename_i q
      refine List.nodup_cons.mpr ⟨fun z => ?_, noDup_ok h⟩
      rw [List.contains_iff_mem.mpr z] at q; first | exact no_tt q | exact no_ns q | cases q
noncomputable def addNew (acc : List (Str × Value)) (p : Str × Value) : List (Str × Value) := if (acc.lookup p.1).isNone then acc ++ [(p.1, p.2)] else acc
theorem forIn_addNew (f : Str × Value → List (Str × Value) → Sem (ForInStep (List (Str × Value)))) (hf : ∀ p acc, f p acc = pure (.yield (addNew acc p))) : ∀ (l : List (Str × Value)) (acc : List (Str × Value)), forIn l acc f = (pure (l.foldl addNew acc) : Sem _)
  | [], acc => by rw [List.forIn_nil]; rfl
  | p :: r, acc => by rw [List.forIn_cons, hf, pure_bind]; exact forIn_addNew f hf r _
theorem fold_old : ∀ (l acc : List (Str × Value)), (∀ p ∈ l, (acc.lookup p.1).isSome = true) → l.foldl addNew acc = acc
  | [], _, _ => rfl
  | p :: r, acc, h => by
    have e : addNew acc p = acc := by
      unfold addNew
      rw [if_neg]
      have := h p List.mem_cons_self
      induction hq : acc.lookup p.1 with
      | none => rw [hq] at this; first | exact no_tt this | exact no_ns this | induction this
      | some v => simp
    rw [List.foldl_cons, e]
    exact fold_old r acc fun q hq => h q (List.mem_cons_of_mem _ hq)
set_option tactic.hygienic true in
theorem lookup_append_none {l m : List (Str × Value)} {n : Str} (h : l.lookup n = none) : (l ++ m).lookup n = m.lookup n := by
  induction l with
  | nil => rfl
  | cons p r ih =>
    obtain ⟨x, v⟩ := p
    rw [List.lookup_cons] at h
    split at h
    · first | exact no_tt h | exact no_ns h | cases h
    · rename_i q
      rw [List.cons_append, List.lookup_cons, q]; exact ih h
theorem fold_new : ∀ (post : List Str) (ds : List Value) (acc : List (Str × Value)), post.Nodup → (∀ n ∈ post, acc.lookup n = none) → (post.zip ds).foldl addNew acc = acc ++ post.zip ds
  | [], _, acc, _, _ => by simp
  | _ :: _, [], acc, _, _ => by simp
  | n :: r, d :: ds, acc, hn, h => by
    obtain ⟨h1, h2⟩ := List.nodup_cons.mp hn
    have e : addNew acc (n, d) = acc ++ [(n, d)] := by
      unfold addNew
      rw [if_pos]
      rw [h n List.mem_cons_self]; rfl
    rw [List.zip_cons_cons, List.foldl_cons, e, fold_new r ds _ h2 (fun m hm => ?_), List.append_assoc]
    · rfl
    · rw [lookup_append_none (h m (List.mem_cons_of_mem _ hm)), List.lookup_cons]
      have : (m == n) = false := beq_eq_false_iff_ne.mpr fun q => h1 (q ▸ hm)
      rw [this]; rfl
theorem lookup_zip_none : ∀ {names : List Str} {us : List Value} {n : Str}, n ∉ names → (names.zip us).lookup n = none
  | [], _, _, _ => rfl
  | _ :: _, [], _, _ => rfl
  | x :: r, u :: us, n, h => by
    rw [List.zip_cons_cons, List.lookup_cons]
    have : (n == x) = false := beq_eq_false_iff_ne.mpr fun q => h (q ▸ List.mem_cons_self)
    rw [this]
    exact lookup_zip_none fun q => h (List.mem_cons_of_mem _ q)
theorem lookup_zip_some : ∀ {names : List Str} {us : List Value} {n : Str}, n ∈ names.take us.length → ((names.zip us).lookup n).isSome = true
  | [], us, n, h => by simp at h
  | _ :: _, [], n, h => by simp at h
  | x :: r, u :: us, n, h => by
    rw [List.zip_cons_cons, List.lookup_cons]
    by_cases q : n = x
    · subst q; simp
    · rw [beq_eq_false_iff_ne.mpr q]
      have h : n ∈ x :: r.take us.length := h
      rcases List.mem_cons.mp h with w | w
      · exact (q w).elim
      · exact lookup_zip_some w
theorem filterMap_same {α β : Type} {f g : α → Option β} : ∀ {l : List α}, (∀ x ∈ l, f x = g x) → l.filterMap f = l.filterMap g
  | [], _ => rfl
  | x :: r, h => by rw [List.filterMap_cons, List.filterMap_cons, h x List.mem_cons_self, filterMap_same fun y hy => h y (List.mem_cons_of_mem _ hy)]
theorem filterMap_zip : ∀ {names : List Str} {us : List Value}, names.Nodup → us.length = names.length → names.filterMap (fun n => ((names.zip us).lookup n).map (n, ·)) = names.zip us
  | [], _, _, _ => by simp
  | x :: r, [], _, h => by cases h
  | x :: r, u :: us, hn, h => by
    obtain ⟨h1, h2⟩ := List.nodup_cons.mp hn
    have ih := filterMap_zip (names := r) (us := us) h2 (by simpa using h)
    rw [List.filterMap_cons, List.zip_cons_cons, List.lookup_cons, beq_self_eq_true]
    dsimp only [Option.map]
    congr 1
    refine (filterMap_same fun m hm => ?_).trans ih
    rw [List.lookup_cons, show (m == x) = false from beq_eq_false_iff_ne.mpr fun q => h1 (q ▸ hm)]
    induction (r.zip us).lookup m <;> rfl
theorem ar2 (a b c : Nat) : a + b + (b + c) - (a + (b + c)) = b := by rw [Nat.add_comm a b, Nat.add_assoc, Nat.add_sub_cancel]
theorem ar3 {N D V : Nat} (h1 : V ≤ N) (h2 : D ≤ N) (h3 : N ≤ V + D) : V = N - D + (V + D - N) ∧ V + D - N ≤ D ∧ V + D - N ≤ N - (N - D) ∧ D - (V + D - N) = N - (N - D) - (V + D - N) ∧ N - D ≤ N := by
  have a : V + D - N ≤ D := Nat.sub_le_of_le_add (by rw [Nat.add_comm D N]; exact Nat.add_le_add_right h1 D)
  rw [Nat.sub_sub_self h2]
  refine ⟨?_, a, a, rfl, Nat.sub_le _ _⟩
  rw [Nat.add_comm, Nat.sub_add_sub_cancel h3 h2, Nat.add_sub_cancel]
theorem split3 {α β : Type} {names : List α} {dvs : List β} {V : Nat} (h1 : V ≤ names.length) (h2 : dvs.length ≤ names.length) (h3 : names.length ≤ V + dvs.length) :
    ∃ n1 n2 n3 d1 d2, names = n1 ++ (n2 ++ n3) ∧ dvs = d1 ++ d2 ∧ V = n1.length + n2.length ∧ d1.length = n2.length ∧ d2.length = n3.length := by
  obtain ⟨a1, a2, a3, a4, a5⟩ := ar3 h1 h2 h3
  refine ⟨names.take (names.length - dvs.length), (names.drop (names.length - dvs.length)).take (V + dvs.length - names.length), (names.drop (names.length - dvs.length)).drop (V + dvs.length - names.length), dvs.take (V + dvs.length - names.length), dvs.drop (V + dvs.length - names.length),
    by rw [List.take_append_drop, List.take_append_drop], by rw [List.take_append_drop], ?_, ?_, ?_⟩
  · rw [List.length_take, List.length_take, List.length_drop, Nat.min_eq_left a5, Nat.min_eq_left a3]; exact a1
  · rw [List.length_take, List.length_take, List.length_drop, Nat.min_eq_left a2, Nat.min_eq_left a3]
  · rw [List.length_drop, List.length_drop, List.length_drop]; exact a4
theorem missing_none {names : List Str} {vals dvs : List Value} (h1 : vals.length ≤ names.length) (h2 : dvs.length ≤ names.length) (h3 : names.length ≤ vals.length + dvs.length) :
    ¬ (!((names.take (names.length - (dvs.drop (dvs.length - names.length)).length)).filter (fun n => (List.lookup n (names.zip vals)).isNone)).isEmpty) = true := by
  have e0 : dvs.drop (dvs.length - names.length) = dvs := by rw [Nat.sub_eq_zero_of_le h2]; rfl
  rw [e0]
  obtain ⟨n1, n2, n3, d1, d2, z1, z2, hv, hd1, hd2⟩ := split3 h1 h2 h3
  subst z1 z2
  have hN' : (n1 ++ (n2 ++ n3)).length - (d1 ++ d2).length = n1.length := by
    rw [List.length_append, List.length_append, List.length_append, hd1, hd2]; exact Nat.add_sub_cancel ..
  have hlen : (n1 ++ n2).length = vals.length := by rw [List.length_append, hv]
  have e1 : ((n1 ++ (n2 ++ n3)).take ((n1 ++ (n2 ++ n3)).length - (d1 ++ d2).length)).filter (fun n => (List.lookup n ((n1 ++ (n2 ++ n3)).zip vals)).isNone) = [] := by
    rw [hN', List.take_left, List.filter_eq_nil_iff]
    intro n hm
    have : n ∈ (n1 ++ (n2 ++ n3)).take vals.length := by
      rw [← hlen, ← List.append_assoc, List.take_left]; exact List.mem_append_left _ hm
    have := lookup_zip_some this
    cases hq : ((n1 ++ (n2 ++ n3)).zip vals).lookup n with
    | none => rw [hq] at this; exact no_tt this
    | some v => exact Bool.false_ne_true
  rw [e1]
  exact Bool.false_ne_true
theorem bindArgs_at {M : Model} {A : Around} {E : Value → Shared → Prop} {s : Shared} {fd : FuncData} {vals : List Value} {as : List Arg} {kd : List (Option Expr)} {df : List Expr} {items : Option (Array Value)} {Q : List (Str × Value) → Shared → Prop} (hp : fd.params = ⟨[], as, none, [], kd, none, df⟩)
   (hs : wpAny M A (seqItems? fd.defaults) (fun r s' => r = items ∧ s' = s) E s) (hn : noDup (as.map (·.arg)) = true) (h1 : vals.length ≤ as.length) (h2 : (items.getD #[]).toList.length ≤ as.length) (h3 : as.length ≤ vals.length + (items.getD #[]).toList.length)
   (h : Q ((as.map (·.arg)).zip (vals ++ (items.getD #[]).toList.drop (vals.length + (items.getD #[]).toList.length - as.length))) s) : wpAny M A (bindArgs fd ⟨vals, []⟩) Q E s := by
  have hnd := noDup_ok hn
  unfold bindArgs
  rw [hp]
  dsimp only
  simp only [List.forIn_nil, List.nil_append, List.append_nil, pure_bind, List.map_nil]
  have hl : (as.map (·.arg)).length = as.length := List.length_map ..
  rw [← hl] at h1 h2 h3 h
  refine wpAny_bind (wpAny_mono hs (fun r s' q => ?_) fun _ _ z => z)
  obtain ⟨rfl, rfl⟩ := q
  rw [if_neg (by simp; simpa using h1)]
  rw [if_neg (missing_none h1 h2 h3)]
  generalize as.map (·.arg) = names at hnd h1 h2 h3 h hl ⊢
  generalize (r.getD #[]).toList = dvs at h2 h3 h ⊢
  have e0 : dvs.drop (dvs.length - names.length) = dvs := by rw [Nat.sub_eq_zero_of_le h2]; rfl
  rw [e0]
  obtain ⟨n1, n2, n3, d1, d2, z1, z2, hv, hd1, hd2⟩ := split3 h1 h2 h3
  subst z1 z2
  have hN' : (n1 ++ (n2 ++ n3)).length - (d1 ++ d2).length = n1.length := by
    rw [List.length_append, List.length_append, List.length_append, hd1, hd2]; exact Nat.add_sub_cancel ..
  have hk : vals.length + (d1 ++ d2).length - (n1 ++ (n2 ++ n3)).length = d1.length := by
    rw [List.length_append, List.length_append, List.length_append, hd1, hd2, hv]; exact ar2 ..
  have hlen : (n1 ++ n2).length = vals.length := by rw [List.length_append, hv]
  rw [hk, List.drop_left] at h
  rw [forIn_addNew _ (fun p acc => by
    obtain ⟨n, d⟩ := p
    unfold addNew
    dsimp only
    split <;> rfl)]
  have e3 : (((n1 ++ (n2 ++ n3)).drop ((n1 ++ (n2 ++ n3)).length - (d1 ++ d2).length)).zip (d1 ++ d2)).foldl addNew ((n1 ++ (n2 ++ n3)).zip vals) = (n1 ++ (n2 ++ n3)).zip (vals ++ d2) := by
    have hz : (n1 ++ (n2 ++ n3)).zip vals = (n1 ++ n2).zip vals := by
      have := List.zip_append (l₁ := n1 ++ n2) (r₁ := n3) (l₂ := vals) (r₂ := []) hlen
      rw [List.append_nil, List.zip_nil_right, List.append_nil, List.append_assoc] at this
      exact this
    have f1 := fold_old (n2.zip d1) ((n1 ++ n2).zip vals) (by
      rintro ⟨n, d⟩ hm
      refine lookup_zip_some ?_
      rw [← hlen, List.take_length]; exact List.mem_append_right _ (List.of_mem_zip hm).1)
    have f2 := fold_new n3 d2 ((n1 ++ n2).zip vals) (hnd.sublist ((List.sublist_append_right n2 n3).trans (List.sublist_append_right n1 _))) (by
      intro n hm
      rw [← List.append_assoc] at hnd
      exact lookup_zip_none fun q => (List.nodup_append.mp hnd).2.2 n q n hm rfl)
    rw [hN', List.drop_left, hz, List.zip_append hd1.symm, List.foldl_append, f1, f2, ← List.append_assoc, List.zip_append hlen]
  rw [e3]
  simp only [pure_bind, List.isEmpty_nil, Bool.not_true, Bool.false_eq_true, if_false]
  rw [filterMap_zip hnd (by rw [List.length_append, List.length_append, List.length_append, hv, hd2, Nat.add_assoc])]
  exact wpAny_pure h
end Mine
end
section
set_option genInjectivity false
set_option genSizeOf false
set_option tactic.hygienic false
open PySem PySem.W PySem.Calls PyProof.Rows PySem.SeqAt
set_option maxRecDepth 100000
namespace Mine
theorem lookup_append {l m : List (Str × Value)} {n : Str} : (l ++ m).lookup n = (l.lookup n).or (m.lookup n) := by
  induction l with
  | nil => rfl
  | cons p r ih =>
    obtain ⟨x, v⟩ := p
    rw [List.cons_append, List.lookup_cons, List.lookup_cons]
    split
    · rfl
    · exact ih
theorem lookup_one {x n : Str} {v : Value} : [(x, v)].lookup n = if n = x then some v else none := by
  rw [List.lookup_cons]
  by_cases q : n = x
  · subst q; simp
  · rw [beq_eq_false_iff_ne.mpr q, if_neg q]; rfl
theorem lookup_none_of {l : List (Str × Value)} {n : Str} (h : n ∉ l.map (·.1)) : l.lookup n = none := by
  induction l with
  | nil => rfl
  | cons p r ih =>
    obtain ⟨x, v⟩ := p
    rw [List.map_cons, List.mem_cons, not_or] at h
    rw [List.lookup_cons, beq_eq_false_iff_ne.mpr h.1]
    exact ih h.2
theorem lookup_reverse {l : List (Str × Value)} (hn : (l.map (·.1)).Nodup) (n : Str) : l.reverse.lookup n = l.lookup n := by
  induction l with
  | nil => rfl
  | cons p r ih =>
    obtain ⟨x, v⟩ := p
    rw [List.map_cons, List.nodup_cons] at hn
    rw [List.reverse_cons, lookup_append, ih hn.2, lookup_one, List.lookup_cons]
    by_cases q : n = x
    · subst q
      rw [lookup_none_of hn.1]; simp
    · rw [if_neg q, beq_eq_false_iff_ne.mpr q]; simp
theorem bindL_at {kindOf : Str → Option NameKind} {y : Str} (hy : kindOf y = some .local) : ∀ (binds : List (Str × Value)) (m : Str → Option Value), bindL kindOf binds m y = (binds.reverse.lookup y).or (m y)
  | [], m => rfl
  | (n, v) :: r, m => by
    unfold bindL
    rw [bindL_at hy r, List.reverse_cons, lookup_append, lookup_one, Option.or_assoc]
    congr 1
    by_cases q : kindOf n = some .local
    · rw [if_pos q]
      by_cases z : y = n
      · simp [z]
      · simp [z]
    · rw [if_neg q, if_neg (show ¬ (y = n) from fun z => q (z ▸ hy))]; rfl
theorem bindC_at {kindOf : Str → Option NameKind} {y : Str} (hy : kindOf y ≠ some .local) : ∀ (binds : List (Str × Value)) (m : Str → Option Value), bindC kindOf binds m y = (binds.reverse.lookup y).or (m y)
  | [], m => rfl
  | (n, v) :: r, m => by
    unfold bindC
    rw [bindC_at hy r, List.reverse_cons, lookup_append, lookup_one, Option.or_assoc]
    congr 1
    by_cases q : kindOf n = some .local
    · rw [if_pos q, if_neg (show ¬ (y = n) from fun z => hy (z ▸ q))]; rfl
    · rw [if_neg q]
      by_cases z : y = n
      · simp [z]
      · simp [z]
theorem cellIds_cons {cx : Cx} {x : Str} {kd : NameKind} {r : List (Str × NameKind)} {l : List Nat} (h : cellIds cx ((x, kd) :: r) = some l) : (kd = .cell ∧ ∃ n l', cx.id x = some n ∧ cellIds cx r = some l' ∧ l = n :: l') ∨ (kd ≠ .cell ∧ cellIds cx r = some l) := by
  by_cases q : kd = .cell
  · subst q
    change (match cx.id x, cellIds cx r with | some n, some l => some (n :: l) | _, _ => none) = some l at h
    split at h
    · cases h; exact .inl ⟨rfl, _, _, by assumption, by assumption, rfl⟩
    · first | exact no_tt h | exact no_ns h | induction h
  · refine .inr ⟨q, ?_⟩
    induction kd <;> first | exact (q rfl).elim | exact h
theorem cellIds_mem {cx : Cx} : ∀ {names : List (Str × NameKind)} {l : List Nat}, cellIds cx names = some l → (∀ x, (x, NameKind.cell) ∈ names → ∃ n, cx.id x = some n ∧ n ∈ l) ∧ ∀ n ∈ l, ∃ x, (x, NameKind.cell) ∈ names ∧ cx.id x = some n := by
  intro names
  induction names with
  | nil =>
    intro l h
    cases h; exact ⟨fun x hx => (nomatch hx), fun n hn => (nomatch hn)⟩
  | cons hd r ih =>
    intro l h
    obtain ⟨y, kd⟩ := hd
    rcases cellIds_cons h with ⟨rfl, n, l', h1, h2, rfl⟩ | ⟨q, h2⟩
    · obtain ⟨a, b⟩ := ih h2
      refine ⟨fun x hx => ?_, fun m hm => ?_⟩
      · rcases List.mem_cons.mp hx with q | hx
        · cases q; exact ⟨n, h1, List.mem_cons_self⟩
        · obtain ⟨m, e1, e2⟩ := a x hx; exact ⟨m, e1, List.mem_cons_of_mem _ e2⟩
      · rcases List.mem_cons.mp hm with rfl | hm
        · exact ⟨y, List.mem_cons_self, h1⟩
        · obtain ⟨x, e1, e2⟩ := b m hm; exact ⟨x, List.mem_cons_of_mem _ e1, e2⟩
    · obtain ⟨a, b⟩ := ih h2
      refine ⟨fun x hx => ?_, fun m hm => let ⟨x, e1, e2⟩ := b m hm; ⟨x, List.mem_cons_of_mem _ e1, e2⟩⟩
      rcases List.mem_cons.mp hx with z | hx
      · cases z; exact (q rfl).elim
      · exact a x hx
theorem cellsFrom_acc : ∀ {names : List (Str × NameKind)} {n : Nat} {acc : List (Str × Addr)} {p : Str × Addr}, p ∈ acc → p ∈ cellsFrom n names acc
  | [], _, _, _, h => h
  | (x, kd) :: r, n, acc, p, h => by
    unfold cellsFrom
    split
    · exact cellsFrom_acc (List.mem_cons_of_mem _ h)
    · exact cellsFrom_acc h
theorem cellsFrom_has : ∀ {names : List (Str × NameKind)} {n : Nat} {acc : List (Str × Addr)} {x : Str}, (x, NameKind.cell) ∈ names → ∃ c, (x, c) ∈ cellsFrom n names acc
  | (y, kd) :: r, n, acc, x, h => by
    unfold cellsFrom
    rcases List.mem_cons.mp h with q | h
    · first | exact no_tt q | exact no_ns q | cases q
      rw [if_pos (by decide)]
      exact ⟨n, cellsFrom_acc List.mem_cons_self⟩
    · split <;> exact cellsFrom_has h
set_option tactic.hygienic true in
theorem lookup_isSome_of {x : Str} {c : Addr} : ∀ {l : List (Str × Addr)}, (x, c) ∈ l → (l.lookup x).isSome = true
  | (y, d) :: r, h => by
    rw [List.lookup_cons]
    split
    · rfl
    · rename_i q
      rcases List.mem_cons.mp h with z | h
      · cases z; simp at q
      · exact lookup_isSome_of h
theorem cellsFrom_none : ∀ {names : List (Str × NameKind)} {n : Nat} {acc : List (Str × Addr)}, noCells names = true → cellsFrom n names acc = acc
  | [], _, _, _ => rfl
  | (x, kd) :: r, n, acc, h => by
    unfold noCells at h
    rw [List.all_cons, Bool.and_eq_true] at h
    unfold cellsFrom
    rw [if_neg (by simpa using h.1)]
    exact cellsFrom_none h.2
section
variable {g : Gd} {clo : CloP} {F : List Addr} {ρ : List Addr} {σ : List Str} {st : St} {s : Shared}
set_option tactic.hygienic true in
theorem psIds_names {cx : Cx} (cok : CxOk g cx) : ∀ {as : List Arg} {ps : List Nat}, psIds cx as = some ps → as.map (·.arg) = ps.map g.nm := by
  intro as
  induction as with
  | nil =>
    intro ps h
    cases h; rfl
  | cons hd r ih =>
    intro ps h
    obtain ⟨x, ann, p⟩ := hd
    induction ann with
    | some e => first | exact no_tt h | exact no_ns h | induction h
    | none =>
      change (match cx.id x, psIds cx r with | some n, some l => some (n :: l) | _, _ => none) = some ps at h
      split at h
      · rename_i n l h1 h2
        cases h
        rw [List.map_cons, List.map_cons, ih h2, cok.id x n h1]
      · first | exact no_tt h | exact no_ns h | induction h
theorem zipLook (O : g.Ok) {x : Nat} {ps : List Nat} {vs : List AV} {us : List Value} (h : VRs ρ σ vs us) : match look (ps.zip vs) x with
    | some v => ∃ u, ((ps.map g.nm).zip us).lookup (g.nm x) = some u ∧ VR ρ σ v u
    | none => ((ps.map g.nm).zip us).lookup (g.nm x) = none := by
  refine h.ind (P := fun vs us => ∀ ps : List Nat, match look (ps.zip vs) x with
    | some v => ∃ u, ((ps.map g.nm).zip us).lookup (g.nm x) = some u ∧ VR ρ σ v u
    | none => ((ps.map g.nm).zip us).lookup (g.nm x) = none) (fun ps => by induction ps <;> rfl) (fun v u vs us h1 _ ih ps => ?_) ps
  induction ps with
  | nil => rfl
  | cons p ps =>
    rw [List.zip_cons_cons, List.map_cons, List.zip_cons_cons, List.lookup_cons]
    unfold look
    by_cases q : p = x
    · subst q
      rw [Nat.beq_refl]
      simp only [beq_self_eq_true]
      exact ⟨u, rfl, h1⟩
    · rw [show Nat.beq p x = false from Bool.eq_false_iff.mpr fun z => q (Nat.eq_of_beq_eq_true z), show (g.nm x == g.nm p) = false from beq_eq_false_iff_ne.mpr fun z => q (O.inj _ _ z).symm]
      exact ih ps
theorem look_split (cells : List Nat) : ∀ (b : List (Nat × AV)) (x : Nat), look (splitCells cells b) x = if cells.any (Nat.beq x) then none else look b x := by
  intro b
  induction b with
  | nil =>
    intro x
    show none = _; split <;> rfl
  | cons hd r ih =>
    intro x
    obtain ⟨y, v⟩ := hd
    unfold splitCells
    induction hc : cells.any (Nat.beq y) with
    | true =>
      dsimp only
      rw [ih x]
      by_cases q : y = x
      · subst q; rw [hc]; rfl
      · split
        · rfl
        · conv => rhs; unfold look
          rw [show Nat.beq y x = false from Bool.eq_false_iff.mpr fun z => q (Nat.eq_of_beq_eq_true z)]
    | false =>
      dsimp only
      unfold look
      by_cases q : y = x
      · subst q; rw [Nat.beq_refl, hc]; rfl
      · rw [show Nat.beq y x = false from Bool.eq_false_iff.mpr fun z => q (Nat.eq_of_beq_eq_true z)]
        exact ih x
theorem any_mem {l : List Nat} {x : Nat} : l.any (Nat.beq x) = true ↔ x ∈ l := by
  rw [List.any_eq_true]
  exact ⟨fun ⟨y, h, e⟩ => Nat.eq_of_beq_eq_true e ▸ h, fun h => ⟨x, h, Nat.beq_refl x⟩⟩
theorem nth_drop : ∀ {d : List AV} {k : Nat} {v : AV}, nth d k = some v → dropN k d = v :: dropN (k + 1) d
  | [], k, v, h => by cases k <;> cases h
  | a :: r, 0, v, h => by cases h; induction r using List.casesOn <;> rfl
  | a :: r, k + 1, v, h => nth_drop (d := r) (k := k) h
theorem arA (a d p : Nat) : a + 1 + d - (p + 1) = a + d - p := by rw [Nat.add_right_comm, Nat.add_sub_add_right]
theorem arB {d p : Nat} (h : p < d) : d - (p + 1) + 1 = d - p := by rw [Nat.sub_add_eq, Nat.sub_add_cancel (Nat.sub_pos_of_lt h)]
set_option tactic.hygienic true in
theorem bindPs_dfl {d : List AV} : ∀ {ps : List Nat} {b : List (Nat × AV)}, bindPs ps [] d = some b → ps.length ≤ d.length ∧ b = ps.zip (dropN (d.length - ps.length) d) := by
  intro ps
  induction ps with
  | nil =>
    intro b h
    cases h; exact ⟨Nat.zero_le _, by simp⟩
  | cons p ps ih =>
    intro b h
    unfold bindPs at h
    split at h
    · rename_i hlt
      have hlt := Nat.blt_eq.mp hlt
      split at h
      · rename_i v hv
        split at h
        · rename_i l hl
          cases h
          obtain ⟨_, e⟩ := ih hl
          refine ⟨hlt, ?_⟩
          rw [List.length_cons, nth_drop hv, List.zip_cons_cons, e]
          congr 4
          first | exact arB hlt | exact (arB hlt).symm | omega
        · first | exact no_tt h | exact no_ns h | induction h
      · first | exact no_tt h | exact no_ns h | induction h
    · first | exact no_tt h | exact no_ns h | induction h
set_option tactic.hygienic true in
theorem bindPs_ok {d : List AV} {ps : List Nat} : ∀ {as : List AV} {b : List (Nat × AV)}, bindPs ps as d = some b → as.length ≤ ps.length ∧ ps.length ≤ as.length + d.length ∧ b = ps.zip (as ++ dropN (as.length + d.length - ps.length) d) := by
  induction ps with
  | nil => intro as b h; induction as with
    | nil =>
      obtain ⟨h1, h2⟩ := bindPs_dfl h
      refine ⟨Nat.zero_le _, by simpa using h1, ?_⟩
      simpa using h2
    | cons _ _ => exact no_ns h
  | cons p ps ih => intro as b h; induction as with
    | nil =>
      obtain ⟨h1, h2⟩ := bindPs_dfl h
      refine ⟨Nat.zero_le _, by simpa using h1, ?_⟩
      simpa using h2
    | cons a as =>
      change (match bindPs ps as d with | some l => some ((p, a) :: l) | none => none) = some b at h
      split at h
      · rename_i l hl
        obtain ⟨h1, h2, e⟩ := ih hl
        refine ⟨Nat.succ_le_succ h1, by simp only [List.length_cons]; rw [Nat.add_right_comm]; exact Nat.succ_le_succ h2, ?_⟩
        rw [← Option.some.inj h, List.cons_append, List.zip_cons_cons, e]
        simp only [List.length_cons]
        congr 4
        first | exact arA .. | exact (arA ..).symm | omega
      · exact no_ns h
end
end Mine
end
section
set_option genInjectivity false
set_option genSizeOf false
set_option tactic.hygienic false
open PySem PySem.W PySem.Calls PyProof.Rows PySem.SeqAt
set_option maxRecDepth 100000
namespace Mine
section
variable {g : Gd} {clo : CloP} {F : List Addr} {ρ : List Addr} {σ : List Str} {st : St} {s : Shared}
theorem Gd.Ok.noLimit (O : g.Ok) {h : Heap} (X : g.K.In h) : h.NoLimit :=
  have N : h.Ns cStatics (h.nsMap cStatics) := .of_isNs (isNs_of_in X O.nl)
  ⟨_, N, ns_none_of X N O.lim⟩
theorem cellR.mono {v : Option AV} {u : Option Value} (m : List Addr) (h : cellR ρ σ v u) : cellR (ρ ++ m) σ v u := by
  induction v <;> induction u <;> first | exact h | (have := VR.mono m [] h; rwa [List.append_nil] at this)
theorem Rel.onto (R : Rel g clo F ρ σ st s) {i : Nat} {L : Addr} {fs : List (Nat × AV)} (hi : ρ[i]? = some L) (hb : st.get i = some (.ns fs)) (hro : st.isRo i = false) : Rel g clo (L :: F) ρ σ st s :=
  ⟨R.len, R.slen, R.sml, R.obs, R.inj, R.lt, R.tr, fun a ha => by
    rcases List.mem_cons.mp ha with rfl | ha
    · exact ⟨i, fs, hi, hb, hro⟩
    · exact R.fra a ha, R.stat, R.old, R.gens, R.drawn, R.os, R.tab⟩
theorem Rel.off {L : Addr} (R : Rel g clo (L :: F) ρ σ st s) : Rel g clo F ρ σ st s :=
  ⟨R.len, R.slen, R.sml, R.obs, R.inj, R.lt, R.tr, fun a ha => R.fra a (List.mem_cons_of_mem _ ha), R.stat, R.old, R.gens, R.drawn, R.os, R.tab⟩
set_option tactic.hygienic true in
theorem Rel.cells (O : g.Ok) {cx : Cx} (cok : CxOk g cx) {b : List (Nat × AV)} {cm : Str → Option Value} {fin : List (Str × Addr)} (hfin : ∀ p ∈ fin, s.heap.IsCell p.2 (cm p.1)) :
    ∀ (names : List (Str × NameKind)) (n : Nat) (acc : List (Str × Addr)) (ids : List Nat) (st : St) (ρ : List Addr) (l : List (Nat × Ix)), cellsFrom n names acc = fin → cellIds cx names = some ids → Rel g clo F ρ σ st s →
      (∀ (i : Nat) a bb, ρ[i]? = some a → st.get i = some bb → a < n) → g.B.objs.size ≤ n → (∀ x m, (x, NameKind.cell) ∈ names → cx.id x = some m → cellR ρ σ (look b m) (cm x)) →
      (∀ x i, lookI l x = some i → ∃ a, ρ[i]? = some a ∧ acc.lookup (g.nm x) = some a) →
      ∃ more, Rel g clo F (ρ ++ more) σ (mkCells ids b st l).1 s ∧ Ext ρ σ st (ρ ++ more) σ (mkCells ids b st l).1 ∧ (∀ x i, lookI (mkCells ids b st l).2 x = some i → ∃ a, (ρ ++ more)[i]? = some a ∧ fin.lookup (g.nm x) = some a) := by
  intro names
  induction names with
  | nil =>
    intro n acc ids st ρ l hf hids R _ _ _ hl
    cases hids
    refine ⟨[], by rw [List.append_nil]; exact R, by rw [List.append_nil]; exact Ext.refl .., ?_⟩
    rw [List.append_nil, ← hf]
    exact hl
  | cons xk r ih =>
    obtain ⟨x, kd⟩ := xk
    intro n acc ids st ρ l hf hids R hlt hB hcm hl
    rcases cellIds_cons hids with ⟨rfl, m, ids', h1, h2, rfl⟩ | ⟨q, h2⟩
    · unfold cellsFrom at hf
      rw [if_pos (by decide)] at hf
      have hmem : (x, n) ∈ fin := hf ▸ cellsFrom_acc List.mem_cons_self
      obtain ⟨o, ho, hd⟩ := hfin _ hmem
      have hnl : ¬ Live ρ st n := fun ⟨i, bb, e1, e2⟩ => Nat.lt_irrefl _ (hlt i n bb e1 e2)
      have hc := hcm x m List.mem_cons_self h1
      have R1 := R.add (b := .cell (look b m)) hnl hB ho (fun vs e => by rw [hd] at e; cases e) ⟨_, hd, hc.mono [n]⟩ (fun _ _ e => by first | exact Ob.noConfusion e | cases e)
      have e1 := R.extNew (.cell (look b m)) n
      obtain ⟨more, q1, q2, q3⟩ := ih (n + 1) ((x, n) :: acc) ids' (st.new (.cell (look b m))) (ρ ++ [n]) ((m, st.nx) :: l) hf h2 R1 (fun i a bb z1 z2 => by
          rw [St.get_new] at z2
          rcases getElem?_snoc z1 with p | ⟨_, p⟩
          · rw [if_neg (R.ltNx p)] at z2; exact Nat.lt_succ_of_lt (hlt i a bb p z2)
          · rw [p]; exact Nat.lt_succ_self n) (Nat.le_succ_of_le hB) (fun y m' hy hm' => (hcm y m' (List.mem_cons_of_mem _ hy) hm').mono [n]) (fun y i hy => by
          unfold lookI at hy
          split at hy
          · rename_i q
            cases hy
            have q := Nat.eq_of_beq_eq_true q
            subst q
            refine ⟨n, getElem?_push_last ρ n R.len, ?_⟩
            rw [cok.id x m h1, List.lookup_cons, beq_self_eq_true]
          · rename_i q
            obtain ⟨a, z1, z2⟩ := hl y i hy
            refine ⟨a, at_mono _ z1, ?_⟩
            rw [List.lookup_cons]
            have : (g.nm y == x) = false := beq_eq_false_iff_ne.mpr fun z => by
              rw [← cok.id x m h1] at z
              rw [O.inj _ _ z, Nat.beq_refl] at q
              cases q
            rw [this]; exact z2)
      refine ⟨n :: more, ?_⟩
      have ea : ρ ++ n :: more = ρ ++ [n] ++ more := by simp
      rw [ea]
      exact ⟨q1, e1.trans q2, q3⟩
    · unfold cellsFrom at hf
      rw [if_neg (by simpa using q)] at hf
      exact ih n acc ids st ρ l hf h2 R hlt hB (fun y m' hy => hcm y m' (List.mem_cons_of_mem _ hy)) hl
end
section
variable {g : Gd} {clo : CloP} {F : List Addr} {ρ : List Addr} {σ : List Str} {st : St} {s : Shared} {R : Rn} {n : Nat}
noncomputable def SndB (g : Gd) (clo : CloP) (R : Rn) (n m : Nat) (cx : Cx) (b : List Stmt) : Prop := ∀ A F env L ρ σ st s k x Q E, Here g n cx A F env L → EnvS g ρ st env → Hnd A ρ st → Rel g clo F ρ σ st s →
  R.exs (b.map (compS m cx)) st k x = true → PostF g clo F ρ σ st k Q → PostX g clo F ρ σ st x E → wpAny (model g.prog g.w) A (execs b env) Q E s
theorem snd_body (O : g.Ok) {cx : Cx} {m : Nat} {f : Fn} {c : CloF} (SB : SndB g clo R n m cx c.body) (CO : CodeOk g cx m f c) {A : Around} {l0 : List Env} (hroom : A.depth + 1 + 2 * n ≤ 900) (hunits : A.units + 3 + 40 * n ≤ 9000)
    (hfr : A.frames = some l0) (hF : l0.filterMap (·.frame) = F) (hall : ∀ x ∈ l0, x.scope.kind ≠ .module ∧ ∃ a, x.frame = some a)
    {env : Env} {L : Addr} (h1 : env.scope = c.scope) (h2 : env.globals = mainGlobals) (h3 : env.builtins = builtinsNs) (h4 : env.frame = some L) (h5 : env.locals = L) (h6 : ∀ f p, cx.own = some (f, p) → env.code = .ref g.tc ∧ p = g.tpos ∧ env.qual ++ f = g.tq)
    {ρ₂ : List Addr} {st₂ : St} {s₂ : Shared} (x2 : Ext ρ σ st ρ₂ σ st₂) (R2 : Rel g clo F ρ₂ σ st₂ s₂) (D : Hnd A ρ st) {l : Nat} {fs : List (Nat × AV)} {cs : List (Nat × Ix)} (hl : st₂.get l = some (.ns fs)) (hlρ : ρ₂[l]? = some L) (hro : st₂.isRo l = false)
    (hcs : ∀ x i, lookI cs x = some i → ∃ a, ρ₂[i]? = some a ∧ env.cells.lookup (g.nm x) = some a)
    {k : KV} {x : KX} {Q : Value → Shared → Prop} {E : Value → Shared → Prop}
    (h : R.exs f.body (st₂.into l cs) (fun fl s3 => match fl with
          | .ret v => k v (s3.back st)
          | .next => k .none (s3.back st)
          | .cont => false)
        (fun i s3 => noteE i s3 fun s3 => x i (s3.back st)) = true)
    (P : PostV g clo F ρ σ st k Q) (X : PostX g clo F ρ σ st x E) :
    wpAny (model g.prog g.w) (A.deeper env) (execs c.body env) (fun fl s' => Q (match fl with | .ret v => v | _ => .none) s')
      (fun e s' => wpAny (model g.prog g.w) (A.deeper env) (leaving env e) (fun _ s'' => E e s'') (fun e' s'' => E e' s'') s') s₂ := by
  obtain ⟨q1, q2, q3, q4, q5, q6, q7, q8, q9, q10⟩ := funOk_at CO.plain
  have kd : ∀ y, env.kindOf y = c.scope.names.lookup y := fun y => by unfold Env.kindOf; rw [h1]
  have H : Here g n cx (A.deeper env) (L :: F) env L :=
    { room := by show A.depth + 1 + 2 * n ≤ 900; exact hroom
      units := by show A.units + 3 + 40 * n ≤ 9000; exact hunits
      fr := ⟨env, l0, Around.frames_deeper hfr, by rw [List.filterMap_cons, h4, hF], fun y hy => by
        rcases List.mem_cons.mp hy with rfl | hy
        · exact ⟨by rw [h1, q7]; decide, L, h4⟩
        · exact hall y hy, h4⟩
      glo := h2, bui := h3, kind := by rw [h1, q7], frame := h4, cok := CO.cok
      loc := fun y hy => by rw [kd, ← CO.kinds]; exact hy
      cel := fun y hy => by rw [kd, ← CO.kinds]; exact hy
      ce1 := fun y hy => by rw [kd, ← CO.kinds]; exact hy
      gim := fun y hy => by rw [kd, ← CO.kinds]; exact hy
      code := h6 }
  have V : EnvS g ρ₂ (st₂.into l cs) env := ⟨by rw [h5]; exact hlρ, hcs⟩
  have D2 : Hnd (A.deeper env) ρ₂ (st₂.into l cs) := by
    have := D.ext x2
    exact this
  have R3 : Rel g clo (L :: F) ρ₂ σ (st₂.into l cs) s₂ := (R2.onto hlρ hl hro).into l cs st₂.hd
  -- what was told stays told at the caller's
  have back : ∀ {ρ₃ σ₃ st₃}, Ext ρ₂ σ (st₂.into l cs) ρ₃ σ₃ st₃ → Ext ρ σ st ρ₃ σ₃ (st₃.back st) := fun {ρ₃ σ₃ st₃} e3 => by
    have x3 : Ext ρ₂ σ st₂ ρ₃ σ₃ ⟨st₃.hp, st₃.nx, st₃.sy, st₃.lo, st₃.hi, st₂.loc, st₂.cel, st₂.hd, st₃.tb⟩ := ⟨e3.r, e3.s, rfl, rfl, rfl, e3.ex⟩
    have := x2.trans x3
    exact ⟨this.r, this.s, rfl, rfl, rfl, this.ex⟩
  rw [CO.body] at h
  refine SB (A.deeper env) (L :: F) env L _ _ _ _ _ _ _ _ H V D2 R3 h ?_ ?_
  · intro ρ₃ σ₃ st₃ s₃ fl u e3 R4 hf h3
    have R5 : Rel g clo F ρ₃ σ₃ (st₃.back st) s₃ := R4.off.into st.loc st.cel st.hd
    induction fl with
    | next => cases hf; exact P _ _ _ _ .none .none (back e3) R5 rfl h3
    | cont => first | exact no_tt h3 | exact no_ns h3 | induction h3
    | ret v => obtain ⟨w, rfl, hw⟩ := hf; exact P _ _ _ _ v w (back e3) R5 hw h3
  · intro ρ₃ σ₃ st₃ s₃ i a e3 R4 ha _ h3
    obtain ⟨C, d, hi, hro3, h3⟩ := noteE_true h3
    unfold leaving
    refine wpAny_bind (snd_note O H.toAmb h4 R4 ha hi hro3 fun h' R' _ => ?_)
    have hi' : (st₃.put i (.exc C (some (2 * (d / 2) + 1)))).get i = some (.exc C (some (2 * (d / 2) + 1))) := by rw [St.get_put, if_pos rfl]
    refine snd_setFlight O R' ha hi' fun h2 R2' _ => ?_
    exact X _ _ _ _ i a (back (e3.trans (Ext.note hi))) (R2'.off.into st.loc st.cel st.hd) ha ⟨C, _, hi'⟩ h3
end
end Mine
end
section
set_option genInjectivity false
set_option genSizeOf false
set_option tactic.hygienic false
open PySem PySem.W PySem.Calls PyProof.Rows PySem.SeqAt
set_option maxRecDepth 100000
namespace Mine
section
variable {g : Gd} {clo : CloP} {F : List Addr} {ρ : List Addr} {σ : List Str} {st : St} {s : Shared} {R : Rn} {n : Nat}
theorem mkCells_get {b : List (Nat × AV)} : ∀ (ids : List Nat) (st : St) (l : List (Nat × Ix)) (i : Nat), i < st.nx → (mkCells ids b st l).1.get i = st.get i
  | [], _, _, _, _ => rfl
  | x :: r, st, l, i, h => by
    show (mkCells r b (st.new (.cell (look b x))) ((x, st.nx) :: l)).1.get i = st.get i
    rw [mkCells_get r _ _ i (Nat.lt_succ_of_lt h), St.get_new, if_neg (Nat.ne_of_lt h)]
theorem mkCells_ro {b : List (Nat × AV)} : ∀ (ids : List Nat) (st : St) (l : List (Nat × Ix)) (i : Nat), (mkCells ids b st l).1.isRo i = st.isRo i
  | [], _, _, _ => rfl
  | x :: r, st, l, i => mkCells_ro r (st.new (.cell (look b x))) ((x, st.nx) :: l) i
noncomputable def DflOk (g : Gd) (dV : Value) (dfl : List AV) : Prop := (dV = .none ∧ dfl = []) ∨ ∃ T o items n, dV = .ref T ∧ g.K.lookup T = some o ∧ o.data = .seq items n ∧ VRs [] [] dfl items.toList
theorem VRs.nil {as : List AV} {vs : List Value} (h : VRs [] [] as vs) : VRs ρ σ as vs := by
  have := h.mono ρ σ
  simpa using this
theorem dropN_len : ∀ (k : Nat) (l : List AV), (dropN k l).length = l.length - k
  | 0, _ => rfl
  | k + 1, [] => by simp [dropN]
  | k + 1, a :: r => by show (dropN k r).length = _; rw [dropN_len k r]; simp
theorem arC {a d p : Nat} (h1 : a ≤ p) (h2 : p ≤ a + d) : a + (d - (a + d - p)) = p := by
  omega
theorem snd_binds {cx : Cx} {m : Nat} {f : Fn} {name qual : Str} {params : Arguments} {body : List Stmt} {scope : Scope} (CO : CodeOk g cx m f ⟨name, qual, params, body, scope⟩) {cl : List (Str × Addr)} {dV kV doc pm cd ct : Value} {an : Option Addr} (hd : DflOk g dV f.dfl) (hdl : f.dfl.length ≤ f.ps.length)
    (Re : Rel g clo F ρ σ st s) {args : List AV} {vs : List Value} (hv : VRs ρ σ args vs) {b : List (Nat × AV)} (hb : bindPs f.ps args f.dfl = some b) :
    ∃ us vs', VRs ρ σ vs' us ∧ b = f.ps.zip vs' ∧ vs'.length = f.ps.length ∧ ∀ (M : Model) (A : Around) (E : Value → Shared → Prop) (Q : List (Str × Value) → Shared → Prop), Q ((f.ps.map g.nm).zip us) s → wpAny M A (bindArgs (fnX name qual params body scope cl dV kV doc pm an cd ct) ⟨vs, []⟩) Q E s := by
  obtain ⟨q1, q2, q3, q4, q5, q6, _⟩ := funOk_at CO.plain
  obtain ⟨po, as, va, ko, kd, kwa, df⟩ := params
  dsimp only at q1 q2 q3 q4 q5 q6
  subst q1 q2 q3 q4 q5
  obtain ⟨b1, b2, b3⟩ := bindPs_ok hb
  have hn := psIds_names CO.cok CO.ps
  dsimp only at hn
  have hlen : as.length = f.ps.length := by have := congrArg List.length hn; simpa using this
  have hvl := hv.length
  have key : ∀ (dvs : List Value), VRs ρ σ f.dfl dvs → ∃ us vs', VRs ρ σ vs' us ∧ b = f.ps.zip vs' ∧ vs'.length = f.ps.length ∧ us = vs ++ dvs.drop (vs.length + dvs.length - as.length) := fun dvs hdv => by
    have hdl' := hdv.length
    refine ⟨_, args ++ dropN (args.length + f.dfl.length - f.ps.length) f.dfl, hv.append (hdv.drop _), b3, ?_, ?_⟩
    · rw [List.length_append, dropN_len]; exact arC b1 b2
    · rw [hvl, hdl', hlen]
  rcases hd with ⟨rfl, hd⟩ | ⟨T, o, items, nn, rfl, hT, ho, hdv⟩
  · obtain ⟨us, vs', k1, k2, k3, rfl⟩ := key [] (by rw [hd]; trivial)
    refine ⟨_, vs', k1, k2, k3, fun M A E Q h => ?_⟩
    refine bindArgs_at (items := none) rfl ?_ q6 (by rw [hvl, hlen]; exact b1) (Nat.zero_le _) (by rw [hvl, hlen]; simpa [hd] using b2) (by rw [hn]; exact h)
    exact wpAny_pure ⟨rfl, rfl⟩
  · obtain ⟨us, vs', k1, k2, k3, rfl⟩ := key items.toList hdv.nil
    have hdl' := hdv.length
    refine ⟨_, vs', k1, k2, k3, fun M A E Q h => ?_⟩
    refine bindArgs_at (items := some items) rfl ?_ q6 (by rw [hvl, hlen]; exact b1) (by show items.toList.length ≤ _; rw [hdl', hlen]; exact hdl) (by show _ ≤ _ + items.toList.length; rw [hvl, hlen, hdl']; exact b2) (by rw [hn]; exact h)
    exact wpAny_seqItems (Re.stat _ _ hT) ho ⟨rfl, rfl⟩
structure Room (n : Nat) (A : Around) (F : List Addr) : Prop where
  room : A.depth + 1 + 2 * n ≤ 900
  units : A.units + 3 + 40 * n ≤ 9000
  fr : ∃ l : List Env, A.frames = some l ∧ l.filterMap (·.frame) = F ∧ ∀ x ∈ l, x.scope.kind ≠ .module ∧ ∃ a, x.frame = some a
theorem Room.deep {A : Around} (h : Room n A F) : A.depth < recursionLimit := by
  have := h.room
  have e : recursionLimit = 1000 := by rfl
  omega
set_option tactic.hygienic true in
theorem snd_enterPlain (O : g.Ok) (SS : SndS g clo R n) {cx : Cx} {m : Nat} {f : Fn} {name qual : Str} {params : Arguments} {body : List Stmt} {scope : Scope} (CO : CodeOk g cx m f ⟨name, qual, params, body, scope⟩) {cl : List (Str × Addr)} {dV kV doc pm ct : Value} {an : Option Addr} (hd : DflOk g dV f.dfl) (hdl : f.dfl.length ≤ f.ps.length)
    (hcells : f.cells = []) (hnc : noCells scope.names = true) {A : Around} (RM : Room n A F) (D : Hnd A ρ st) (Re : Rel g clo F ρ σ st s) {a cd : Addr} {d : Option Addr} {sl : Array (Option Value)}
    (ho : s.heap.get? a = some ⟨.type "function", d, .func (fnX name qual params body scope cl dV kV doc pm an (.ref cd) ct), sl⟩) (hcd : s.heap.CodeRec (.ref cd) qual)
    (hown : ∀ f0 p0, cx.own = some (f0, p0) → cd = g.tc ∧ p0 = g.tpos ∧ (qual ++ ".<locals>.") ++ f0 = g.tq)
    {cs : List (Nat × Ix)} (hcs : ∀ x i, lookI cs x = some i → ∃ a, ρ[i]? = some a ∧ cl.lookup (g.nm x) = some a)
    {args : List AV} {vs : List Value} (hv : VRs ρ σ args vs) {k : KV} {x : KX} {RR : Result → Shared → Prop} (h : enter R f cs args st k x = true) (P : PostV g clo F ρ σ st k fun v s' => RR (.ok (.ret v)) s') (X : PostX g clo F ρ σ st x fun e s' => RR (.error e) s') :
    codeAny (model g.prog g.w) A (.call (.ref a) ⟨vs, []⟩) RR s := by
  obtain ⟨q1, q2, q3, q4, q5, q6, q7, q8, q9, q10⟩ := funOk_at CO.plain
  obtain ⟨l0, f1, f2, f3⟩ := RM.fr
  unfold enter at h
  split at h
  · first | exact no_tt h | exact no_ns h | induction h
  · first | exact no_tt h | exact no_ns h | induction h
  · rename_i b hb hro
    rw [hcells] at h
    change R.exs f.body ((st.new (.ns (splitCells [] b))).into st.nx cs) _ _ = true at h
    have hsp : splitCells [] b = b := by
      clear hb h
      induction b with
      | nil => rfl
      | cons p r ih => obtain ⟨y, v⟩ := p; show (y, v) :: splitCells [] r = _; rw [ih]
    rw [hsp] at h
    obtain ⟨us, vs', k1, k2, k3, hbind⟩ := snd_binds CO (cl := cl) (kV := kV) (doc := doc) (pm := pm) (cd := .ref cd) (ct := ct) (an := an) hd hdl Re hv hb
    have hn := psIds_names CO.cok CO.ps
    dsimp only at hn q6 q7 q8 q9 q10
    have hnl : ∀ y ∈ scope.names, y.2 ≠ .cell := fun y hy => by
      have := List.all_eq_true.mp hnc y hy
      simpa using this
    have hloc : ∀ y ∈ (f.ps.map g.nm).zip us, scope.names.lookup y.1 = some .local := fun y hy => by
      obtain ⟨y1, y2⟩ := y
      have hm := (List.of_mem_zip hy).1
      rw [← hn] at hm
      obtain ⟨ar, har, rfl⟩ := List.mem_map.mp hm
      rcases q10 ar har with z | z
      · exact z
      · exact (hnl _ (mem_of_lookup' z) rfl).elim
    have hnd : (((f.ps.map g.nm).zip us).map (·.1)).Nodup := by
      rw [hn] at q6
      have h1 : us.length = f.ps.length := by rw [k1.length, k3]
      rw [List.map_fst_zip (by rw [List.length_map, h1]; exact Nat.le_refl _)]
      exact noDup_ok q6
    refine codeAny_call_function RM.deep ho rfl q8 q9 rfl hcd (hbind _ _ _ _ ?_)
    refine wpAny_newFunctionEnv hnl hloc (fun h' hns hsb => ?_) q7
    have hk₁ : ∀ b o, s.heap.get? b = some o → h'.get? b = some o := fun b o e => hsb.extBut b o (Nat.ne_of_lt (Heap.lt_size e)) (Heap.get?_push_of_some _ e)
    refine ⟨(O.noLimit Re.stat).keeps hk₁, codeAny_func ?_⟩
    have R1 := Re.keeps (s' := { s with heap := h', toks := s.toks + ((f.ps.map g.nm).zip us).length }) hk₁ ⟨rfl, rfl, rfl⟩
    have hfresh : ¬ Live ρ st s.heap.objs.size := Re.fresh (Heap.get?_none_of_le (Nat.le_refl _))
    obtain ⟨o, es, ep, g1, g2, g3, g4⟩ := hns
    have R2 := R1.add (b := .ns b) hfresh (Re.big O) g1 (fun vs e => by rw [g2] at e; cases e) ⟨es, ep, g2, g3, fun y v hy => by
      have := zipLook (ρ := ρ) (σ := σ) O (x := y) (ps := f.ps) k1
      rw [← k2, hy] at this
      obtain ⟨u, z1, z2⟩ := this
      refine ⟨u, ?_, ?_⟩
      · rw [g4]; dsimp only; rw [lookup_reverse hnd]; exact z1
      · have := VR.mono [s.heap.objs.size] [] z2; rwa [List.append_nil] at this⟩ (fun _ _ e => by first | exact Ob.noConfusion e | induction e)
    refine snd_body O (c := ⟨name, qual, params, body, scope⟩) (SS m cx body) CO RM.room RM.units f1 f2 f3 (L := s.heap.objs.size) rfl rfl rfl rfl rfl ?_ (Re.extNew (.ns b) s.heap.objs.size) R2 D (l := st.nx) (fs := b) (cs := cs) ?_ ?_ ?_ ?_ (k := k) (x := x) (Q := fun v s' => RR (.ok (.ret v)) s') (E := fun e s' => RR (.error e) s') ?_ P X
    · intro f0 p0 e
      obtain ⟨z1, z2, z3⟩ := hown f0 p0 e
      exact ⟨by show Value.ref cd = _; rw [z1], z2, z3⟩
    · rw [St.get_new, if_pos rfl]
    · exact getElem?_push_last ρ _ Re.len
    · exact hro
    · intro y i hy
      obtain ⟨c, z1, z2⟩ := hcs y i hy
      exact ⟨c, at_mono _ z1, z2⟩
    · exact h
theorem cellsFrom_nd : ∀ (names : List (Str × NameKind)) (n : Nat) (acc : List (Str × Addr)), (acc.map (·.1)).Nodup → (names.map (·.1)).Nodup → (∀ x ∈ names.map (·.1), x ∉ acc.map (·.1)) → ((cellsFrom n names acc).map (·.1)).Nodup
  | [], _, _, h, _, _ => h
  | (x, kd) :: r, n, acc, h1, h2, h3 => by
    rw [List.map_cons, List.nodup_cons] at h2
    have h3' : ∀ y ∈ r.map (·.1), y ∉ acc.map (·.1) := fun y hy => h3 y (List.mem_cons_of_mem _ hy)
    unfold cellsFrom
    split
    · refine cellsFrom_nd r _ _ ?_ h2.2 fun y hy q => ?_
      · rw [List.map_cons, List.nodup_cons]; exact ⟨h3 x List.mem_cons_self, h1⟩
      · rw [List.map_cons, List.mem_cons] at q
        rcases q with q | q
        · exact h2.1 (q ▸ hy)
        · exact h3' y hy q
    · exact cellsFrom_nd r _ _ h1 h2.2 h3'
theorem kind_of_mem {x : Str} {kd : NameKind} : ∀ {l : List (Str × NameKind)}, (l.map (·.1)).Nodup → (x, kd) ∈ l → l.lookup x = some kd
  | (y, k2) :: r, hn, h => by
    rw [List.map_cons, List.nodup_cons] at hn
    rw [List.lookup_cons]
    rcases List.mem_cons.mp h with q | h
    · cases q; simp
    · have : (x == y) = false := beq_eq_false_iff_ne.mpr fun q => hn.1 (q ▸ List.mem_map_of_mem (f := (·.1)) h)
      rw [this]; exact kind_of_mem hn.2 h
set_option tactic.hygienic true in
theorem snd_enterCells (O : g.Ok) {cx : Cx} {m : Nat} {f : Fn} {name qual : Str} {params : Arguments} {body : List Stmt} {scope : Scope} (SB : SndB g clo R n m cx body) (CO : CodeOk g cx m f ⟨name, qual, params, body, scope⟩) {dV kV doc pm ct : Value} {an : Option Addr} (hd : DflOk g dV f.dfl) (hdl : f.dfl.length ≤ f.ps.length)
    (hcells : cellIds cx scope.names = some f.cells) (hdup : noDup (scope.names.map (·.1)) = true) {A : Around} (RM : Room n A F) (D : Hnd A ρ st) (Re : Rel g clo F ρ σ st s) {a cd : Addr} {d : Option Addr} {sl : Array (Option Value)}
    (ho : s.heap.get? a = some ⟨.type "function", d, .func (fnX name qual params body scope [] dV kV doc pm an (.ref cd) ct), sl⟩) (hcd : s.heap.CodeRec (.ref cd) qual)
    (hown : ∀ f0 p0, cx.own = some (f0, p0) → cd = g.tc ∧ p0 = g.tpos ∧ (qual ++ ".<locals>.") ++ f0 = g.tq)
    {args : List AV} {vs : List Value} (hv : VRs ρ σ args vs) {k : KV} {x : KX} {RR : Result → Shared → Prop} (h : enter R f [] args st k x = true) (P : PostV g clo F ρ σ st k fun v s' => RR (.ok (.ret v)) s') (X : PostX g clo F ρ σ st x fun e s' => RR (.error e) s') :
    codeAny (model g.prog g.w) A (.call (.ref a) ⟨vs, []⟩) RR s := by
  obtain ⟨q1, q2, q3, q4, q5, q6, q7, q8, q9, q10⟩ := funOk_at CO.plain
  obtain ⟨l0, f1, f2, f3⟩ := RM.fr
  unfold enter at h
  split at h
  · first | exact no_tt h | exact no_ns h | induction h
  · first | exact no_tt h | exact no_ns h | induction h
  · rename_i b hb hro
    change R.exs f.body ((mkCells f.cells b (st.new (.ns (splitCells f.cells b))) []).1.into st.nx (mkCells f.cells b (st.new (.ns (splitCells f.cells b))) []).2) _ _ = true at h
    obtain ⟨us, vs', k1, k2, k3, hbind⟩ := snd_binds CO (cl := []) (kV := kV) (doc := doc) (pm := pm) (cd := .ref cd) (ct := ct) (an := an) hd hdl Re hv hb
    have hn := psIds_names CO.cok CO.ps
    dsimp only at hn q6 q7 q8 q9 q10
    have keysN : (scope.names.map (·.1)).Nodup := noDup_ok hdup
    have cellLook : ∀ {y}, (y, NameKind.cell) ∈ scope.names → scope.names.lookup y = some .cell := fun {y} hy => kind_of_mem keysN hy
    have hkind : ∀ y ∈ (f.ps.map g.nm).zip us, scope.names.lookup y.1 = some .local ∨ (scope.names.lookup y.1 = some .cell ∧ ((cellsFrom (s.heap.objs.size + 1) scope.names []).lookup y.1).isSome = true) := fun y hy => by
      obtain ⟨y1, y2⟩ := y
      have hm := (List.of_mem_zip hy).1
      rw [← hn] at hm
      obtain ⟨ar, har, rfl⟩ := List.mem_map.mp hm
      rcases q10 ar har with z | z
      · exact .inl z
      · obtain ⟨c, hc⟩ := cellsFrom_has (n := s.heap.objs.size + 1) (acc := []) (mem_of_lookup' z)
        exact .inr ⟨z, lookup_isSome_of hc⟩
    have hnd : (((f.ps.map g.nm).zip us).map (·.1)).Nodup := by
      rw [hn] at q6
      have h1 : us.length = f.ps.length := by rw [k1.length, k3]
      rw [List.map_fst_zip (by rw [List.length_map, h1]; exact Nat.le_refl _)]
      exact noDup_ok q6
    refine codeAny_call_function RM.deep ho rfl q8 q9 rfl hcd (hbind _ _ _ _ ?_)
    refine wpAny_newFunctionEnv_cells q7 hkind fun env he s' xx => ?_
    obtain ⟨h₁, tk, rfl, hk₁⟩ := xx.done
    subst he
    refine ⟨(O.noLimit Re.stat).keeps hk₁, codeAny_func ?_⟩
    have R1 := Re.keeps (s' := { s with heap := h₁, toks := tk }) hk₁ ⟨rfl, rfl, rfl⟩
    have hfresh : ¬ Live ρ st s.heap.objs.size := Re.fresh (Heap.get?_none_of_le (Nat.le_refl _))
    have kdf : ∀ y, (newEnv scope s.heap.objs.size mainGlobals (cellsFrom (s.heap.objs.size + 1) scope.names []) (qual ++ ".<locals>.") (some a) (.ref cd) none builtinsNs).kindOf y = scope.names.lookup y := fun y => rfl
    obtain ⟨o, es, ep, g1, g2, g3, g4⟩ := xx.toInCall.ns
    have look1 : ∀ y, match look b y with
        | some v => ∃ u, ((f.ps.map g.nm).zip us).reverse.lookup (g.nm y) = some u ∧ VR ρ σ v u
        | none => ((f.ps.map g.nm).zip us).reverse.lookup (g.nm y) = none := fun y => by
      have := zipLook (ρ := ρ) (σ := σ) O (x := y) (ps := f.ps) k1
      rw [← k2] at this
      rw [lookup_reverse hnd]; exact this
    have R2 := R1.add (b := .ns (splitCells f.cells b)) hfresh (Re.big O) g1 (fun vs e => by rw [g2] at e; cases e) ⟨es, ep, g2, g3, fun y v hy => by
      rw [look_split] at hy
      split at hy
      · first | exact no_tt hy | exact no_ns hy | induction hy
      · rename_i hny
        have := look1 y
        rw [hy] at this
        obtain ⟨u, z1, z2⟩ := this
        refine ⟨u, ?_, ?_⟩
        · rw [g4, bindL_at]
          · rw [z1]; rfl
          · rw [kdf]
            have hm : g.nm y ∈ f.ps.map g.nm := by
              have := lookup_reverse hnd (g.nm y)
              rw [z1] at this
              by_cases q : g.nm y ∈ ((f.ps.map g.nm).zip us).map (·.1)
              · obtain ⟨p, hp, e⟩ := List.mem_map.mp q
                obtain ⟨p1, p2⟩ := p
                exact e ▸ (List.of_mem_zip hp).1
              · rw [lookup_none_of q] at this; first | exact no_tt this | exact no_ns this | cases this
            rw [← hn] at hm
            obtain ⟨ar, har, e⟩ := List.mem_map.mp hm
            rcases q10 ar har with z | z
            · rw [← e]; exact z
            · obtain ⟨n', e1, e2⟩ := (cellIds_mem hcells).1 _ (mem_of_lookup' z)
              have := CO.cok.id _ _ e1
              rw [e] at this
              rw [O.inj _ _ this] at e2
              exact (hny (any_mem.mpr e2)).elim
        · have := VR.mono [s.heap.objs.size] [] z2; rwa [List.append_nil] at this⟩ (fun _ _ e => by first | exact Ob.noConfusion e | induction e)
    have hcellsNd : ((cellsFrom (s.heap.objs.size + 1) scope.names []).map (·.1)).Nodup := cellsFrom_nd _ _ _ List.nodup_nil keysN fun _ _ q => (nomatch q)
    obtain ⟨more, R3, x3, hcs⟩ := Rel.cells O CO.cok (b := b) (cm := bindC (newEnv scope s.heap.objs.size mainGlobals (cellsFrom (s.heap.objs.size + 1) scope.names []) (qual ++ ".<locals>.") (some a) (.ref cd) none builtinsNs).kindOf ((f.ps.map g.nm).zip us) fun _ => none) (fin := cellsFrom (s.heap.objs.size + 1) scope.names [])
      (fun p hp => xx.cell p.1 p.2 (lookup_of_mem_nodup hcellsNd hp)) scope.names (s.heap.objs.size + 1) [] f.cells (st.new (.ns (splitCells f.cells b))) (ρ ++ [s.heap.objs.size]) [] rfl hcells R2
      (fun i aa bb z1 z2 => by
          rw [St.get_new] at z2
          rcases getElem?_snoc z1 with p | ⟨_, p⟩
          · rw [if_neg (Re.ltNx p)] at z2
            obtain ⟨oo, eo⟩ := Re.there p z2
            exact Nat.lt_succ_of_lt (Heap.lt_size eo)
          · rw [p]; exact Nat.lt_succ_self _) (Nat.le_succ_of_le (Re.big O)) (fun y m' hy hm' => by
          rw [bindC_at (by rw [kdf, cellLook hy]; decide), ← CO.cok.id y m' hm']
          have := look1 m'
          induction hb' : look b m' with
          | none => rw [hb'] at this; rw [this]; trivial
          | some v =>
            rw [hb'] at this
            obtain ⟨u, z1, z2⟩ := this
            rw [z1]
            have := VR.mono [s.heap.objs.size] [] z2
            rw [List.append_nil] at this
            exact this) (fun y i e => by cases e)
    refine snd_body O (c := ⟨name, qual, params, body, scope⟩) SB CO RM.room RM.units f1 f2 f3 (L := s.heap.objs.size) rfl rfl rfl rfl rfl ?_ ((Re.extNew (.ns (splitCells f.cells b)) s.heap.objs.size).trans x3) R3 D (l := st.nx) (fs := splitCells f.cells b) (cs := (mkCells f.cells b (st.new (.ns (splitCells f.cells b))) []).2) ?_ ?_ ?_ ?_ (k := k) (x := x) (Q := fun v s' => RR (.ok (.ret v)) s') (E := fun e s' => RR (.error e) s') ?_ P X
    · intro f0 p0 e
      obtain ⟨z1, z2, z3⟩ := hown f0 p0 e
      exact ⟨by show Value.ref cd = _; rw [z1], z2, z3⟩
    · rw [mkCells_get _ _ _ _ (Nat.lt_succ_self st.nx), St.get_new, if_pos rfl]
    · exact at_mono _ (getElem?_push_last ρ _ Re.len)
    · rw [mkCells_ro]; exact hro
    · exact hcs
    · exact h
end
end Mine
end
section
set_option genInjectivity false
set_option genSizeOf false
set_option tactic.hygienic false
open PySem PySem.W PySem.Calls PyProof.Rows PySem.SeqAt
set_option maxRecDepth 100000
namespace Mine
section
variable {prog : Program} {w : World} {A : Around} {E : Value → Shared → Prop} {h : Heap} {g : Array GenState} {d : Drawn} {t : Nat} {os : OsState}
variable {nm q : Str} {C N : Addr} {bs bm bmB : List Value} {hdct : Bool} {sn : List Str} {sub : List Value} {ab : Bool} {col : Option Bool} {dd : Option Addr} {k0 k1 k2 k3 k5 : Option Value} {B newId initId : String}
theorem type_call_exc_own (F : ExcBaseFacts B newId initId bmB) (T : OwnTail h bmB bm) {mN : Str → Option Value} {rest : List Value} {fI : Addr} {oI : Obj} {Q : Fin → Shared → Prop}
    (hC : h.get? C = some (excClassObj nm q C N bs bm hdct sn sub ab col dd k0 k1 k2 k3 k5 newId)) (hn : h.Ns N mN) (hi : mN "__init__" = some (.ref fI))
    (hfI : h.get? fI = some oI) (hfc : oI.cls = .type "function")
    (hq : wpAny (model prog w) A (call (.ref fI) (.ref (h.objs.size + 1) :: rest)) (fun r s' => r = .none ∧ Q (.done (.ret (.ref (h.objs.size + 1)))) s') E
      ⟨(h.push { cls := .type "tuple", data := .seq rest.toArray }).push { cls := .ref C, data := .fields #[.ref h.objs.size, .none, .none, .none, .bool false, .none] }, g, d, t, os⟩) (hrest : rest.length ≤ sizeLine) :
    wpAny (model prog w) A (Builtin.«type.__call__» ⟨.ref C :: rest, []⟩) Q E ⟨h, g, d, t, os⟩ := by
  repeat (first | with_reducible refine wpAny_loadPart_at hC ?_ | with_reducible refine wpAny_madeBy_exc hC ?_ | wp_step)
  refine codeAny_call_builtin_code (Code.quiet_builtin _ F.quiet) (wpAny_check_new_subT F T hC ?_)
  refine codeAny_exc_new_subT F T hC ?_ hrest
  show wpAny _ _ _ _ _ _
  have hC₁ := Heap.get?_push_of_some { cls := .ref C, data := .fields #[.ref h.objs.size, .none, .none, .none, .bool false, .none] }
    (Heap.get?_push_of_some { cls := .type "tuple", data := .seq rest.toArray } hC)
  have hfI₁ := Heap.get?_push_of_some { cls := .ref C, data := .fields #[.ref h.objs.size, .none, .none, .none, .bool false, .none] }
    (Heap.get?_push_of_some { cls := .type "tuple", data := .seq rest.toArray } hfI)
  have hn₁ : ((h.push { cls := .type "tuple", data := .seq rest.toArray }).push { cls := .ref C, data := .fields #[.ref h.objs.size, .none, .none, .none, .bool false, .none] }).Ns N mN :=
    let ⟨o, es, ep, e, r⟩ := hn; ⟨o, es, ep, Heap.get?_push_of_some _ (Heap.get?_push_of_some _ e), r⟩
  have hget : ((h.push { cls := .type "tuple", data := .seq rest.toArray }).push
      { cls := .ref C, data := .fields #[.ref h.objs.size, .none, .none, .none, .bool false, .none] }).get? (h.objs.size + 1) = some
      { cls := .ref C, data := .fields #[.ref h.objs.size, .none, .none, .none, .bool false, .none] } := by heap_get
  have hcC : (Value.ref C :: bm).contains (.ref C) = true := by simp
  have T₁ := T.keeps (h' := (h.push { cls := .type "tuple", data := .seq rest.toArray }).push { cls := .ref C, data := .fields #[.ref h.objs.size, .none, .none, .none, .bool false, .none] })
    fun b o e => Heap.get?_push_of_some _ (Heap.get?_push_of_some _ e)
  unfold isInstance
  repeat (first | with_reducible refine wpAny_loadPart_at hget ?_ | (with_reducible refine wpAny_isSubtype_exc hC₁ ?_; rw [hcC]) | wp_step)
  show wpAny _ _ (typeLookup (.ref C) _) _ _ _
  refine wpAny_typeLookup_tail hC₁ hn₁ T₁ F.mroIs F.init.lookup ?_
  rw [hi]
  refine wpAny_holding (wpAny_bind ?_)
  unfold bindSpecial
  refine wpAny_bind (wpAny_typeOf (T := "function") ⟨_, hfI₁, hfc⟩ ?_)
  rw [if_pos (by decide)]
  refine wpAny_pure (wpAny_bind (wpAny_mono hq (fun r s' hr => ?_) fun _ _ x => x))
  obtain ⟨rfl, hQ⟩ := hr
  wp_walk
  exact hQ
theorem call_exc_own (F : ExcBaseFacts B newId initId bmB) (T : OwnTail h bmB bm) {mN : Str → Option Value} {rest : List Value} {fI : Addr} {oI : Obj} {Q : Value → Shared → Prop}
    (hC : h.get? C = some (excClassObj nm q C N bs bm hdct sn sub ab col dd k0 k1 k2 k3 k5 newId)) (hn : h.Ns N mN) (hi : mN "__init__" = some (.ref fI))
    (hfI : h.get? fI = some oI) (hfc : oI.cls = .type "function")
    (hq : wpAny (model prog w) (A.under (.builtin "type.__call__" ⟨.ref C :: rest, []⟩)) (call (.ref fI) (.ref (h.objs.size + 1) :: rest)) (fun r s' => r = .none ∧ Q (.ref (h.objs.size + 1)) s') E
      ⟨(h.push { cls := .type "tuple", data := .seq rest.toArray }).push { cls := .ref C, data := .fields #[.ref h.objs.size, .none, .none, .none, .bool false, .none] }, g, d, t, os⟩) (hrest : rest.length ≤ sizeLine) :
    wpAny (model prog w) A (call (.ref C) rest) Q E ⟨h, g, d, t, os⟩ := by
  have f1 := tc_lookup
  have f2 := tc_bind (.ref C)
  have hT : (⟨h, g, d, t, os⟩ : Shared).TypeIs (.ref C) "type" := ⟨_, hC, rfl⟩
  refine wpAny_call (codeAny_of_tree ?_)
  show wpAny _ _ (callAny (.ref C) _) _ _ _
  repeat (any_goals (first | assumption | with_reducible refine wpAny_loadPart_at hC ?_ | wp_step))
  refine ⟨rfl, ?_⟩
  exact codeAny_call_builtin_at (Code.quiet_builtin _ (by decide +kernel)) entry_typeCall (wpAny_check_type_call_sub hC (type_call_exc_own F T hC hn hi hfI hfc hq hrest))
end
set_option tactic.hygienic true in
theorem tail_of {K : Frag} {h : Heap} (X : K.In h) {l : List Value} (e : tailIn K l = true) : OwnTail h [.type "Exception", .type "BaseException", .type "object"] l := by
  induction l with
  | nil => first | exact no_tt e | exact no_ns e | induction e
  | cons v r ih =>
    induction v
    case ref A =>
      have e : (match K.lookup A with
        | some ⟨_, _, .cls cd, _⟩ => nsOkIn K cd.ns && (nsIn K cd.ns "__init__" == some none) && tailIn K r
        | _ => false) = true := e
      induction hA : K.lookup A with
      | none => rw [hA] at e; exact no_tt e
      | some oo =>
        rw [hA] at e
        obtain ⟨ocl, od, odt, osl⟩ := oo
        induction odt <;> first | exact no_tt e | skip
        rename_i cd
        simp only [Bool.and_eq_true, beq_iff_eq] at e
        have N := isNs_of_in X e.1.1
        exact .own (X _ _ hA) (.of_isNs N) (ns_none_of X (.of_isNs N) e.1.2) (ih e.2)
    case type a =>
      induction r using List.casesOn with
      | nil => first | exact no_tt e | exact no_ns e | induction e using List.casesOn
      | cons v2 r =>
        induction v2
        case type b =>
          induction r using List.casesOn with
          | nil => first | exact no_tt e | exact no_ns e | induction e using List.casesOn
          | cons v3 r =>
            induction v3
            case type c =>
              induction r using List.casesOn with
              | cons _ _ => first | exact no_tt e | exact no_ns e | induction e using List.casesOn
              | nil =>
                have e : ((a == "Exception" && b == "BaseException") && c == "object") = true := e
                rw [Bool.and_eq_true, Bool.and_eq_true, beq_iff_eq, beq_iff_eq, beq_iff_eq] at e
                rw [e.1.1, e.1.2, e.2]
                exact .base
            all_goals (first | exact no_tt e | exact no_ns e | induction e)
        all_goals (first | exact no_tt e | exact no_ns e | induction e)
    all_goals (first | exact no_tt e | exact no_ns e | induction e)
inductive ExcMkX (g : Gd) (C i : Addr) : Prop where
  | mk (nm : _) (q : _) (N : _) (bs : _) (bm : _) (hdct : _) (sn : _) (sub : _) (ab : _) (col : _) (dd : _) (k0 : _) (k1 : _) (k2 : _) (k3 : _) (k5 : _)
    (h1 : g.K.lookup C = some (excClassObj nm q C N bs bm hdct sn sub ab col dd k0 k1 k2 k3 k5 "Exception.__new__")) (h2 : nsOkIn g.K N = true) (h3 : nsIn g.K N "__init__" = some (some (.ref i))) (h4 : tailIn g.K bm = true)
structure ExcMk (g : Gd) (C i : Addr) : Prop where
  ex : ExcMkX g C i
inductive FnX (g : Gd) (a : Addr) (f : Fn) : Prop where
  | mk (cx : _) (m : _) (d : _) (sl : _) (name : _) (qual : _) (params : _) (body : _) (scope : _) (dV : _) (kV : _) (doc : _) (pm : _) (an : _) (c : _) (ct : _) (h1 : CodeOk g cx m f ⟨name, qual, params, body, scope⟩)
    (h2 : g.K.lookup a = some ⟨.type "function", d, .func (fnX name qual params body scope [] dV kV doc pm an (.ref c) ct), sl⟩) (h3 : codeIn g.K (.ref c) qual = true)
    (h4 : ∀ f0 p0, cx.own = some (f0, p0) → c = g.tc ∧ p0 = g.tpos ∧ (qual ++ ".<locals>.") ++ f0 = g.tq) (h5 : DflOk g dV f.dfl) (h6 : f.dfl.length ≤ f.ps.length) (h7 : cellIds cx scope.names = some f.cells) (h8 : noDup (scope.names.map (·.1)) = true)
structure FnOk (g : Gd) (a : Addr) (f : Fn) : Prop where
  ex : FnX g a f
  small : f.ps.length ≤ 100
structure FsOk (g : Gd) (G : Glob) : Prop where
  fn : ∀ a f, G.fn a = some f → FnOk g a f
  em : ∀ C c i, G.cl C = some c → c.exc = true → c.init = some i → ExcMk g C i
section
variable {g : Gd} {F : List Addr} {ρ : List Addr} {σ : List Str} {st : St} {s : Shared} {A : Around} {E : Value → Shared → Prop} {L : Addr} {n : Nat} {R : Rn} {G : Glob} {k : KV} {x : KX} {Q : Value → Shared → Prop}
theorem Amb.toRoom (H : Amb g (n + 1) A F L) : Room n A F := by
  have h1 := H.room
  have h2 := H.units
  obtain ⟨e, r, h3, h4, h5, _⟩ := H.fr
  exact ⟨by omega, by omega, e :: r, h3, h4, h5⟩
theorem Amb.underMake (H : Amb g (n + 1) A F L) (C : Addr) (vs : List Value) : Room n (A.under (.builtin "type.__call__" ⟨.ref C :: vs, []⟩)) F := by
  have h1 := H.room
  have h2 := H.units
  obtain ⟨e, r, h3, h4, h5, _⟩ := H.fr
  refine ⟨?_, ?_, e :: r, h3, h4, h5⟩
  · rw [depth_under_make]; omega
  · rw [units_under_make]; omega
theorem snd_fn (O : g.Ok) (SS : SndS g (theClo g) R n) {a : Addr} {f : Fn} (FO : FnOk g a f) {A : Around} (RM : Room n A F) (D : Hnd A ρ st) (Re : Rel g (theClo g) F ρ σ st s) {args : List AV} {vs : List Value} (hv : VRs ρ σ args vs) {RR : Result → Shared → Prop}
    (h : enter R f [] args st k x = true) (P : PostV g (theClo g) F ρ σ st k fun v s' => RR (.ok (.ret v)) s') (X : PostX g (theClo g) F ρ σ st x fun e s' => RR (.error e) s') : codeAny (model g.prog g.w) A (.call (.ref a) ⟨vs, []⟩) RR s := by
  obtain ⟨cx, m, d, sl, name, qual, params, body, scope, dV, kV, doc, pm, an, c, ct, q1, q2, q3, q4, q5, q6, q7, q8⟩ := FO.ex
  exact snd_enterCells O (SS m cx body) q1 q5 q6 q7 q8 RM D Re (Re.stat _ _ q2) (codeRec_of Re.stat q3) q4 hv h P X
theorem VRs.len_small {args : List AV} {vs : List Value} (hv : VRs ρ σ args vs) {ps : List Nat} {d : List AV} {b} (hb : bindPs ps args d = some b) : vs.length ≤ ps.length := by
  rw [hv.length]; exact (bindPs_ok hb).1
theorem snd_make (O : g.Ok) (SS : SndS g (theClo g) R n) {C i : Addr} {c : Cl} {f : Fn} (PO : PlOk g C c) (hin : c.init = some i) (FO : FnOk g i f) (H : Amb g (n + 1) A F L) (D : Hnd A ρ st) (Re : Rel g (theClo g) F ρ σ st s) {args : List AV} {vs : List Value} (hv : VRs ρ σ args vs)
    (h : enter R f [] (.ref (st.nx + 1) :: args) ((st.new (.idict [])).new (.inst C st.nx)) (fun v s2 => match v with | .none => k (.ref (st.nx + 1)) s2 | _ => false) x = true) (P : PostV g (theClo g) F ρ σ st k Q) (X : PostX g (theClo g) F ρ σ st x E) :
    wpAny (model g.prog g.w) A (call (.ref C) vs) Q E s := by
  obtain ⟨hi, hf⟩ := PO.ini i hin
  refine wpAny_call ?_
  obtain ⟨hh, gg, dd, t, os⟩ := s
  refine make_core (makes_of Re.stat PO.ma) (looks_findIn Re.stat hi) (fun self => bind_fn Re.stat self (beq_iff_eq.mp hf)) (.inl rfl) ?_
  have R1 := Re.pushO O (b := .idict []) (o := emptyDict) rfl ⟨[], 0, rfl, trivial⟩ (fun _ _ e => by first | exact Ob.noConfusion e | induction e) t
  have e1 := Re.extNew (.idict []) hh.objs.size
  have l1 := getElem?_push_last ρ hh.objs.size Re.len
  have R2 := R1.pushO O (b := .inst C st.nx) (o := instObj C hh.objs.size) rfl ⟨hh.objs.size, #[], l1, rfl⟩ (fun _ _ e => by first | exact Ob.noConfusion e | induction e) t
  have e2 := R1.extNew (.inst C st.nx) (hh.objs.size + 1)
  have hsz : (hh.push emptyDict).objs.size = hh.objs.size + 1 := Heap.size_push ..
  have R2 : Rel g (theClo g) F ((ρ ++ [hh.objs.size]) ++ [hh.objs.size + 1]) σ ((st.new (.idict [])).new (.inst C st.nx)) ⟨(hh.push emptyDict).push (instObj C hh.objs.size), gg, dd, t, os⟩ := by
    have := R2
    dsimp only at this
    rw [hsz] at this
    exact this
  have l2 : ((ρ ++ [hh.objs.size]) ++ [hh.objs.size + 1])[st.nx + 1]? = some (hh.objs.size + 1) := getElem?_push_last _ _ R1.len
  have e12 := e1.trans e2
  refine snd_fn O SS FO (H.underMake C vs) ?_ R2 (args := .ref (st.nx + 1) :: args) (vs := .ref (hh.objs.size + 1) :: vs) ⟨⟨_, l2, rfl⟩, e12.vrs hv⟩ h ?_ ?_
  · have := D.ext e12
    exact this
  · intro ρ' σ' st' s' v u e3 R3 hu hk
    dsimp only at hk
    split at hk
    · first | exact no_tt hu | exact no_ns hu | cases hu
      exact ⟨rfl, P _ _ _ _ (.ref (st.nx + 1)) _ (e12.trans e3) R3 ⟨_, e3.at l2, rfl⟩ hk⟩
    · first | exact no_tt hk | exact no_ns hk | induction hk
  · intro ρ' σ' st' s' i' a' e3 R3 ha hex hx
    exact X _ _ _ _ i' a' (e12.trans e3) R3 ha hex hx
end
end Mine
end
section
set_option genInjectivity false
set_option genSizeOf false
set_option tactic.hygienic false
open PySem PySem.W PySem.Calls PyProof.Rows PySem.SeqAt
set_option maxRecDepth 100000
namespace Mine
section
variable {g : Gd} {F : List Addr} {ρ : List Addr} {σ : List Str} {st : St} {s : Shared} {A : Around} {E : Value → Shared → Prop} {L : Addr} {n : Nat} {R : Rn} {G : Glob} {k : KV} {x : KX} {Q : Value → Shared → Prop}
theorem enter_binds {f : Fn} {cs : List (Nat × Ix)} {args : List AV} (h : enter R f cs args st k x = true) : ∃ b, bindPs f.ps args f.dfl = some b := by
  unfold enter at h
  split at h
  · first | exact no_tt h | exact no_ns h | induction h
  · first | exact no_tt h | exact no_ns h | induction h
  · exact ⟨_, by assumption⟩
theorem snd_excMake (O : g.Ok) (SS : SndS g (theClo g) R n) {C i : Addr} {f : Fn} (EM : ExcMk g C i) (FO : FnOk g i f) (H : Amb g (n + 1) A F L) (D : Hnd A ρ st) (Re : Rel g (theClo g) F ρ σ st s) {args : List AV} {vs : List Value} (hv : VRs ρ σ args vs)
    (h : enter R f [] (.ref st.nx :: args) (st.new (.exc C none)) (fun v s2 => match v with | .none => k (.ref st.nx) s2 | _ => false) x = true) (P : PostV g (theClo g) F ρ σ st k Q) (X : PostX g (theClo g) F ρ σ st x E) :
    wpAny (model g.prog g.w) A (call (.ref C) vs) Q E s := by
  obtain ⟨nm, q, N, bs, bm, hdct, sn, sub, ab, col, dd, k0, k1, k2, k3, k5, m1, m2, m3, m4⟩ := EM.ex
  obtain ⟨cx, m, d, sl, name, qual, params, body, scope, dV, kV, doc, pm, an, c, ct, _, q2, _⟩ := FO.ex
  obtain ⟨b, hb⟩ := enter_binds h
  have hlen : vs.length ≤ sizeLine := by
    have h1 := (bindPs_ok hb).1
    have h2 := FO.small
    have h3 := hv.length
    rw [List.length_cons] at h1
    rw [sizeLine_eq]
    omega
  obtain ⟨hh, gg, dd', t, os⟩ := s
  have hN : hh.Ns N (hh.nsMap N) := .of_isNs (isNs_of_in Re.stat m2)
  refine call_exc_own PySem.F.excBase_Exception (tail_of Re.stat m4) (Re.stat _ _ m1) hN (ns_some_of Re.stat hN m3) (Re.stat _ _ q2) rfl ?_ hlen
  have R1 := Re.keeps (s' := ⟨hh.push { cls := .type "tuple", data := .seq vs.toArray }, gg, dd', t, os⟩) (fun b o e => Heap.get?_push_of_some _ e) ⟨rfl, rfl, rfl⟩
  have hsz : (hh.push { cls := .type "tuple", data := .seq vs.toArray }).objs.size = hh.objs.size + 1 := Heap.size_push ..
  have hn : (hh.push { cls := .type "tuple", data := .seq vs.toArray }).get? (hh.objs.size + 1) = none := Heap.get?_none_of_le (by rw [hsz]; exact Nat.le_refl _)
  have hB : g.B.objs.size ≤ hh.objs.size + 1 := Nat.le_succ_of_le (Re.big O)
  have ho := Heap.get?_push_size (hh.push { cls := .type "tuple", data := .seq vs.toArray }) (o := { cls := .ref C, data := .fields #[.ref hh.objs.size, .none, .none, .none, .bool false, .none] }) rfl
  rw [hsz] at ho
  have R2 := R1.new (s' := ⟨(hh.push { cls := .type "tuple", data := .seq vs.toArray }).push { cls := .ref C, data := .fields #[.ref hh.objs.size, .none, .none, .none, .bool false, .none] }, gg, dd', t, os⟩) (b := .exc C none) hn hB (fun b o e => Heap.get?_push_of_some _ e) ho ⟨_, rfl, rfl, rfl, rfl, rfl⟩ ⟨rfl, rfl, rfl⟩ (fun C' d' e => by
    cases e
    exact ⟨_, _, ho, rfl, rfl, rfl, .inl ⟨rfl, rfl⟩⟩)
  have e1 := Re.extNew (.exc C none) (hh.objs.size + 1)
  have l1 := getElem?_push_last ρ (hh.objs.size + 1) Re.len
  refine wpAny_call ?_
  refine snd_fn O SS FO (H.underMake C vs) ?_ R2 (args := .ref st.nx :: args) (vs := .ref (hh.objs.size + 1) :: vs) ⟨⟨_, l1, rfl⟩, e1.vrs hv⟩ h ?_ ?_
  · have := D.ext e1
    exact this
  · intro ρ' σ' st' s' v u e3 R3 hu hk
    dsimp only at hk
    split at hk
    · first | exact no_tt hu | exact no_ns hu | cases hu
      exact ⟨rfl, P _ _ _ _ (.ref st.nx) _ (e1.trans e3) R3 ⟨_, e3.at l1, rfl⟩ hk⟩
    · first | exact no_tt hk | exact no_ns hk | induction hk
  · intro ρ' σ' st' s' i' a' e3 R3 ha hex hx
    exact X _ _ _ _ i' a' (e1.trans e3) R3 ha hex hx
theorem snd_closure (O : g.Ok) (SS : SndS g (theClo g) R n) (H : Amb g (n + 1) A F L) (D : Hnd A ρ st) (Re : Rel g (theClo g) F ρ σ st s) {i j : Nat} {a : Addr} {ps : List Nat} {b : List S} {cs : List (Nat × Ix)} (ha : ρ[i]? = some a) (hi : st.get i = some (.clo ps b cs j)) (hj : st.get j = some .code)
    {args : List AV} {vs : List Value} (hv : VRs ρ σ args vs) (h : enter R ⟨ps, [], [], b⟩ cs args st k x = true) (P : PostV g (theClo g) F ρ σ st k Q) (X : PostX g (theClo g) F ρ σ st x E) : wpAny (model g.prog g.w) A (call (.ref a) vs) Q E s := by
  obtain ⟨o, ho, c, cl, d, sl, doc, pm, ctv, cd, hc, hcd, rfl, hcells⟩ := Re.at hi ha
  obtain ⟨oc, hoc, vc, tc, g1, g2⟩ := Re.at hj hcd
  obtain ⟨cx, m, CO, hown, hq, hdf, hnc⟩ := hc
  obtain ⟨nm, qual, ps', body, sc⟩ := c
  dsimp only at hq hdf hnc
  subst hq
  refine wpAny_call ?_
  exact snd_enterPlain O SS CO (.inl ⟨rfl, rfl⟩) (Nat.zero_le _) rfl hnc H.toRoom D Re ho ⟨cd, oc, vc, tc, rfl, hoc, g1, g2⟩ (fun f0 p0 e => by rw [hown] at e; cases e) hcells hv h P X
theorem useR_out {r : Option Rs} (h : useR r st k = true) : ∃ y, r = some y ∧ useR (some y) st k = true := useR_some h
set_option tactic.hygienic true in
theorem snd_builtin (O : g.Ok) (GO : GOk g G) (Re : Rel g (theClo g) F ρ σ st s) (hu : A.units < cLine) {b : Nat} {fv : Value} {args : List AV} {vs : List Value} (hb : biVal b = some fv) (hv : VRs ρ σ args vs) (hI : isiG G b args st = true) (h : callB b args st k = true) (P : PostV g (theClo g) F ρ σ st k Q) :
    wpAny (model g.prog g.w) A (call fv vs) Q E s := by
  unfold callB at h
  split at h
  · cases hb; exact snd_append O Re h hv P
  · cases hb; exact snd_pop O Re h hv P
  · first | exact no_tt hb | exact no_ns hb | cases hb
    obtain ⟨y, hy, h⟩ := useR_some h
    exact snd_dget O Re hy hv (PostV.res Re h P)
  · first | exact no_tt hb | exact no_ns hb | cases hb
    obtain ⟨y, hy, h⟩ := useR_some h
    exact snd_join Re hy hv (PostV.res Re h P)
  · obtain ⟨y, hy, h⟩ := useR_some h
    have PP := PostV.res Re h P
    unfold biO at hy
    split at hy
    · cases hb; exact snd_len Re hy hv PP
    · cases hb; exact snd_list O Re hy hv PP
    · cases hb; exact snd_range O Re hy hv PP
    · first | exact no_tt hb | exact no_ns hb | cases hb
      refine snd_isi (fun i C d c e hi => ?_) Re hy hv PP
      subst e
      change (match st.get i with | some (.inst C _) => (match G.cl C, G.cl c with | some cc, some _ => eqB cc.exc false | _, _ => false) | _ => false) = true at hI
      rw [hi] at hI
      dsimp only at hI
      split at hI
      · rename_i cc cd h1 h2
        rw [eqB_ok] at hI
        exact GO.isi C c cc cd h1 (by simpa using hI) h2
      · cases hI
    · cases hb; exact snd_str Re hy hv PP
    · cases hb; exact snd_rev O Re hy hv PP
    · first | exact no_tt hy | exact no_ns hy | induction hy
set_option tactic.hygienic true in
theorem takes_all {kk : Nat → Bool} : ∀ {n : Nat}, takes n kk = true → ∀ m < n, kk m = true
  | 0, _, m, h => absurd h (Nat.not_lt_zero m)
  | n + 1, h, m, hm => by
    unfold takes at h
    split at h
    · rename_i q
      rcases Nat.lt_succ_iff_lt_or_eq.mp hm with hm | rfl
      · exact takes_all h m hm
      · exact q
    · first | exact no_tt h | exact no_ns h | induction h
inductive TakeArgs (args : List AV) (F : Ix → Nat → Bool) : Prop where
  | mk (i : Ix) (n : Nat) (e : args = [.ref i, .int (.ofNat (n + 1))]) (h : F i n = true)
set_option tactic.hygienic true in
theorem takeArgs_inv {args : List AV} {F : Ix → Nat → Bool} (h : (match args with | [.ref i, .int (.ofNat (n + 1))] => F i n | _ => false) = true) : TakeArgs args F := by
  rcases args with _ | ⟨a0, t0⟩
  · exact no_tt h
  induction a0 <;> first | exact no_tt h | skip
  rcases t0 with _ | ⟨b0, t0⟩
  · exact no_tt h
  induction b0 <;> first | exact no_tt h | skip
  rename_i i nn
  induction nn <;> first | exact no_tt h | skip
  rename_i nn
  induction nn <;> first | exact no_tt h | skip
  rcases t0 with _ | ⟨c0, t0⟩
  · exact ⟨_, _, rfl, h⟩
  · exact no_tt h
inductive NumsX (o : Option Ob) (b x : Bool) : Prop where
  | mk (h1 : o = some .nums) (h2 : b = false) (h : x = true)
theorem nums_inv {o : Option Ob} {b x : Bool} (h : (match o, b with | some .nums, false => x | _, _ => false) = true) : NumsX o b x := by
  induction o with
  | none => exact no_tt h
  | some ob =>
    induction ob <;> first | exact no_tt h | skip
    induction b with
    | true => exact no_tt h
    | false => exact ⟨rfl, rfl, h⟩
set_option tactic.hygienic true in
theorem snd_callN (O : g.Ok) (GO : GOk g G) (FO : FsOk g G) (T : TakeOk g (theClo g) G) {N : Nat} (hS : ∀ m < N, Snd g (theClo g) (run G m) m) : SndC g (theClo g) (run G N) N := by
  intro v args fv vs A F L ρ σ st s k x Q E H D Re hv ha h P X
  cases N with
  | zero => first | exact no_tt h | exact no_ns h | induction h using List.casesOn
  | succ N =>
  have SS := (hS N (Nat.lt_succ_self N)).exs
  change callF G (run G N) v args st k x = true at h
  unfold callF at h
  cases v
  case fn a =>
    cases hv
    dsimp only at h
    split at h
    · first | exact no_tt h | exact no_ns h | induction h using List.casesOn
    · rename_i hlt htk
      have htk := Nat.eq_of_beq_eq_true htk
      subst htk
      · obtain ⟨i, nn, rfl, h⟩ := takeArgs_inv h
        dsimp only at h
        obtain ⟨va, vb, rfl, ⟨sa, hsa, rfl⟩, t, rfl⟩ := ha.two
        cases hi : st.get i with
        | none => rw [hi] at h; exact no_tt h
        | some bhi =>
        rw [hi] at h
        cases bhi <;> first | exact no_tt h | skip
        · rename_i j
          dsimp only at h
          · obtain ⟨hj, hro, h⟩ := nums_inv h
            rw [Bool.or_eq_false_iff] at hro
            split at h
            · rename_i hn h2
              have h2 := Nat.eq_of_beq_eq_true h2
              have hn := Nat.ble_eq.mp hn
              refine T A F L _ ρ σ st s i j sa nn t Q E H D Re hsa hi hj hro.1 hro.2 (by omega) fun s' m t' hm R' => ?_
              exact P _ _ _ _ .anyi _ (Ext.refl ..) R' ⟨_, _, rfl⟩ h
            · rename_i hn h2
              have hn := Nat.ble_eq.mp hn
              refine T A F L _ ρ σ st s i j sa nn t Q E H D Re hsa hi hj hro.1 hro.2 hn fun s' m t' hm R' => ?_
              exact P _ _ _ _ (.int (.ofNat m)) _ (Ext.refl ..) R' ⟨_, rfl⟩ (takes_all h m hm)
            · first | exact no_tt h | exact no_ns h | induction h using List.casesOn
    · rename_i hlt htk
      have hlt := Nat.blt_eq.mp hlt
      split at h
      · rename_i f hf
        exact wpAny_call (snd_fn O SS (FO.fn a f hf) H.toRoom D Re ha h P X)
      · split at h
        · rename_i c hc
          split at h
          · rename_i hx
            split at h
            · rename_i i hin
              split at h
              · rename_i f hf
                exact snd_excMake O SS (FO.em a c i hc hx hin) (FO.fn i f hf) H D Re ha h P X
              · first | exact no_tt h | exact no_ns h | induction h
            · first | exact no_tt h | exact no_ns h | induction h
          · rename_i hx
            split at h
            · rename_i i hin
              split at h
              · rename_i f hf
                exact snd_make O SS (GO.pl a c hc hx) hin (FO.fn i f hf) H D Re ha h P X
              · first | exact no_tt h | exact no_ns h | induction h
            · first | exact no_tt h | exact no_ns h | induction h
        · first | exact no_tt h | exact no_ns h | induction h
  case ref i =>
    obtain ⟨a, hia, rfl⟩ := hv
    dsimp only at h
    cases hi : st.get i with
    | none => rw [hi] at h; exact no_tt h
    | some bhi =>
    rw [hi] at h
    induction bhi <;> first | exact no_tt h | skip
    · rename_i ps b cs j
      dsimp only at h
      induction hj : st.get j with
      | none => rw [hj] at h; exact no_tt h
      | some bhj =>
      rw [hj] at h
      induction bhj <;> first | exact no_tt h | skip
      · skip
        dsimp only at h
        exact snd_closure O SS H D Re hia hi hj ha h P X
  case bi b =>
    dsimp only at h
    split at h
    · rename_i hI
      exact snd_builtin O GO Re (by have := H.units; show A.units < 9900; omega) hv ha hI h P
    · first | exact no_tt h | exact no_ns h | induction h
  all_goals exact no_tt h
end
end Mine
end
section
set_option genInjectivity false
set_option genSizeOf false
set_option tactic.hygienic false
open PySem PySem.W PySem.Calls PyProof.Rows PySem.SeqAt
set_option maxRecDepth 100000
namespace Mine
theorem snd_run {g : Gd} {G : Glob} (O : g.Ok) (GO : GOk g G) (Dk : DefOk g) (FO : FsOk g G) (T : TakeOk g (theClo g) G) (N : Nat) : Snd g (theClo g) (run G N) N := by
  induction N using Nat.strongRecOn with
  | _ N hS => exact ⟨snd_evN O GO T hS, snd_tstN hS, snd_exsN O GO Dk hS, snd_callN O GO FO T hS, snd_lp O hS, snd_lc O hS, snd_dc O hS⟩
end Mine
end
section
set_option genInjectivity false
set_option genSizeOf false
set_option tactic.hygienic false
open PySem PySem.W PySem.Calls PyProof.Rows PySem.SeqAt
set_option maxRecDepth 100000
namespace Mine
namespace KT
variable {α : Type}
theorem get_mem {t : KT α} {x : Nat} {v : α} (h : t.get x = some v) : (x, v) ∈ t.list := by
  induction t with
  | nil => exact no_ns h
  | node k w l r il ir =>
    change (match Nat.beq x k with
      | true => some w
      | false => match Nat.blt x k with
        | true => l.get x
        | false => r.get x) = some v at h
    show (x, v) ∈ (k, w) :: (l.list ++ r.list)
    induction q : Nat.beq x k with
    | true =>
      rw [q] at h
      rw [Nat.eq_of_beq_eq_true q, Option.some.inj h]; exact List.mem_cons_self
    | false =>
      rw [q] at h
      dsimp only at h
      induction z : Nat.blt x k with
      | true => rw [z] at h; exact List.mem_cons_of_mem _ (List.mem_append_left _ (il h))
      | false => rw [z] at h; exact List.mem_cons_of_mem _ (List.mem_append_right _ (ir h))
end KT
theorem eqN_ok {l : List Nat} : ∀ {m : List Nat}, eqN l m = true → l = m := by
  induction l with
  | nil => intro m h; induction m with
    | nil => rfl
    | cons _ _ => exact no_tt h
  | cons a r ih => intro m h; induction m with
    | nil => exact no_tt h
    | cons b q => exact (and_tt h).elim fun x y => by rw [Nat.eq_of_beq_eq_true x, ih y]
theorem eqN_refl (l : List Nat) : eqN l l = true := by
  induction l with
  | nil => rfl
  | cons a r ih =>
    show (match Nat.beq a a with | true => eqN r r | false => false) = true
    rw [Nat.beq_refl]; exact ih
noncomputable def memN : List (List Nat) → List Nat → Bool
  | [], _ => false
  | a :: r, x => match eqN a x with | true => true | false => memN r x
noncomputable def namesOk : List (List Nat) → Bool
  | [] => true
  | a :: r => match memN r a || Nat.ble 1000 a.length with | true => false | false => namesOk r
theorem memN_ok : ∀ {r : List (List Nat)} {x : List Nat} {i : Nat}, nthL r i = some x → memN r x = true
  | a :: r, x, 0, h => by cases h; unfold memN; rw [eqN_refl]
  | a :: r, x, i + 1, h => by
    unfold memN
    split
    · rfl
    · exact memN_ok h
set_option tactic.hygienic true in
theorem namesOk_at : ∀ {ns : List (List Nat)}, namesOk ns = true → ∀ {i j : Nat} {x : List Nat}, nthL ns i = some x → x.length < 1000 ∧ (nthL ns j = some x → i = j)
  | [], _, i, j, x, h => by cases h
  | a :: r, hn, i, j, x, h => by
    unfold namesOk at hn
    split at hn
    · first | exact no_tt hn | exact no_ns hn | induction hn
    · rename_i q
      rw [Bool.or_eq_false_iff] at q
      have q2 : a.length < 1000 := by
        have := q.2
        refine Nat.lt_of_not_le fun z => ?_
        rw [Nat.ble_eq.mpr z] at this; first | exact no_tt this | exact no_ns this | cases this
      induction i with
      | zero =>
        cases h
        refine ⟨q2, fun h' => ?_⟩
        induction j with
        | zero => rfl
        | succ j => have := memN_ok (r := r) (i := j) h'; rw [q.1] at this; first | exact no_tt this | exact no_ns this | induction this
      | succ i =>
        refine ⟨(namesOk_at hn (i := i) (j := 0) (x := x) h).1, fun h' => ?_⟩
        induction j with
        | zero => cases h'; have := memN_ok (r := r) (i := i) h; rw [q.1] at this; first | exact no_tt this | exact no_ns this | induction this using List.casesOn
        | succ j => exact congrArg (· + 1) ((namesOk_at hn (i := i) (j := j) (x := x) h).2 h')
theorem strOf_inj {l m : List Nat} (h : strOf l = strOf m) : l = m := by
  have := congrArg (fun s : Str => s.cps.toList) h
  simpa [strOf] using this
theorem nmOf_inj {ns : List (List Nat)} (hn : namesOk ns = true) {i j : Nat} (h : nmOf ns i = nmOf ns j) : i = j := by
  unfold nmOf at h
  induction hi : nthL ns i with
  | some l =>
    rw [hi] at h
    induction hj : nthL ns j with
    | some m =>
      rw [hj] at h
      have := strOf_inj h
      subst this
      exact (namesOk_at hn hi).2 hj
    | none =>
      rw [hj] at h
      have := strOf_inj h
      have hl := (namesOk_at hn (j := 0) hi).1
      rw [this, List.length_replicate] at hl
      omega
  | none =>
    rw [hi] at h
    induction hj : nthL ns j with
    | some m =>
      rw [hj] at h
      have := strOf_inj h
      have hl := (namesOk_at hn (j := 0) hj).1
      rw [← this, List.length_replicate] at hl
      omega
    | none =>
      rw [hj] at h
      have := congrArg List.length (strOf_inj h)
      rw [List.length_replicate, List.length_replicate] at this
      omega
set_option tactic.hygienic true in
theorem idOfT_ok {ns : List (List Nat)} {T : KT Nat} {x : Str} {i : Nat} (h : idOfT ns T x = some i) : nmOf ns i = x := by
  unfold idOfT at h
  split at h
  · split at h
    · rename_i l hl
      split at h
      · rename_i q
        cases h
        unfold nmOf
        rw [hl]
        dsimp only
        rw [eqN_ok q, strOf_cps]
      · first | exact no_tt h | exact no_ns h | induction h
    · first | exact no_tt h | exact no_ns h | induction h
  · first | exact no_tt h | exact no_ns h | induction h
set_option tactic.hygienic true in
theorem glOfT_ok {T : KT (List Nat × AV)} {x : Str} {v : AV} (h : glOfT T x = some v) : ∃ c l, (c, l, v) ∈ T.list ∧ strOf l = x := by
  unfold glOfT at h
  split at h
  · rename_i l w hl
    split at h
    · rename_i q
      cases h
      exact ⟨_, l, KT.get_mem hl, by rw [eqN_ok q, strOf_cps]⟩
    · first | exact no_tt h | exact no_ns h | induction h
  · first | exact no_tt h | exact no_ns h | induction h
set_option tactic.hygienic true in
theorem glChk_ok {K : Frag} {l : List Nat} {v : AV} (h : glChk K l v = true) : ∃ u, (nsIn K mainGlobals (strOf l) = some (some u) ∨ (nsIn K mainGlobals (strOf l) = some none ∧ nsIn K builtinsNs (strOf l) = some (some u))) ∧ VR [] [] v u := by
  unfold glChk at h
  induction v <;> first | exact no_tt h | skip
  · rename_i a
    dsimp only at h
    rcases hb : nsIn K mainGlobals (strOf l) with _ | _ | w
    · rw [hb] at h; exact no_tt h
    · rw [hb] at h; exact no_tt h
    · rw [hb] at h
      induction w <;> first | exact no_tt h | skip
      rw [← Nat.eq_of_beq_eq_true h]
      exact ⟨_, .inl rfl, rfl⟩
  · rename_i k
    dsimp only at h
    rcases h1 : nsIn K mainGlobals (strOf l) with _ | _ | w
    · rw [h1] at h; exact no_tt h
    · rw [h1] at h
      dsimp only at h
      rcases h2 : nsIn K builtinsNs (strOf l) with _ | _ | u
      · rw [h2] at h; exact no_tt h
      · rw [h2] at h; exact no_tt h
      · rw [h2] at h
        induction h3 : biVal k with
        | none => rw [h3] at h; exact no_tt h
        | some w =>
          rw [h3] at h
          refine ⟨u, .inr ⟨rfl, rfl⟩, ?_⟩
          show biVal k = some u
          rw [h3, eq_of_beq (show (u == w) = true from h)]
    · rw [h1] at h; exact no_tt h
theorem dvOf_ok {v : Value} {a : AV} (h : dvOf v = some a) : VR [] [] a v := by
  induction v with
  | none => cases h; rfl
  | int n t => cases h; exact ⟨t, rfl⟩
  | str x t =>
    change (match lowAll (cps x) with | true => some (AV.str (cps x)) | false => none) = some a at h
    split at h
    · cases h; exact ⟨_, t, txt_low [] (lowAll_lt (by assumption)), by rw [strOf_cps]⟩
    · first | exact no_tt h | exact no_ns h | induction h
  | _ => first | exact no_tt h | exact no_ns h | induction h
theorem nonesOf_ok : ∀ {vs : List Value} {l : List AV}, nonesOf vs = some l → VRs [] [] l vs := by
  intro vs
  induction vs with
  | nil =>
    intro l h
    cases h; trivial
  | cons v r ih =>
    intro l h
    unfold nonesOf at h
    split at h
    · cases h; exact ⟨dvOf_ok (by assumption), ih (by assumption)⟩
    · first | exact no_tt h | exact no_ns h | induction h
set_option tactic.hygienic true in
theorem dflIn_ok {g : Gd} {dV : Value} {l : List AV} (h : dflIn g.K dV = some l) : DflOk g dV l := by
  induction dV <;> first | exact no_ns h | skip
  · cases h; exact .inl ⟨rfl, rfl⟩
  · rename_i T
    unfold dflIn at h
    dsimp only at h
    induction hT : g.K.lookup T with
    | none => rw [hT] at h; exact no_ns h
    | some oo =>
      rw [hT] at h
      obtain ⟨cls, d, dt, sl⟩ := oo
      induction dt <;> first | exact no_ns h | skip
      exact .inr ⟨_, _, _, _, rfl, hT, rfl, nonesOf_ok h⟩
structure TabsOk (g : Gd) (T : Tabs) : Prop where
  nm : g.nm = nmOf T.ns
  gl : ∀ p ∈ T.glT.list, glChk g.K p.2.1 p.2.2 = true
theorem Tabs.cxOk {g : Gd} {T : Tabs} (h : TabsOk g T) (kinds : List (Str × NameKind)) (own : Option (Str × Pos)) : CxOk g (T.cx kinds own) :=
  ⟨fun x n e => by rw [h.nm]; exact idOfT_ok e, fun x v e => by
    obtain ⟨c, l, hm, rfl⟩ := glOfT_ok e
    exact glChk_ok (h.gl _ hm)⟩
set_option tactic.hygienic true in
theorem fnIn_ok {g : Gd} {T : Tabs} (h : TabsOk g T) {a : Addr} {f : Fn} (e : fnIn g.K T g.tc g.tpos g.tq a = some f) : FnOk g a f := by
  unfold fnIn at e
  induction hK : g.K.lookup a with
  | none => rw [hK] at e; exact no_ns e
  | some oo =>
    rw [hK] at e
    obtain ⟨cls, d, dt, sl⟩ := oo
    induction cls <;> first | exact no_ns e | skip
    rename_i t
    induction dt <;> first | exact no_ns e | skip
    rename_i fd
    obtain ⟨name, qual, params, body, scope, gls, cl0, dV, kV, doc, pm, an, cV, ct, bs⟩ := fd
    induction body <;> first | exact no_ns e | skip
    rename_i body
    induction cl0 <;> first | exact no_ns e | skip
    induction cV <;> first | exact no_ns e | skip
    rename_i c
    dsimp only at e
    split at e
    · rename_i q
      simp only [Bool.and_eq_true, beq_iff_eq] at q
      obtain ⟨⟨⟨⟨⟨⟨q1, q2⟩, q3⟩, q4⟩, q5⟩, q6⟩, q7⟩ := q
      have q2 := Nat.eq_of_beq_eq_true q2
      have q3 := Nat.eq_of_beq_eq_true q3
      subst q1 q2 q3
      split at e
      · rename_i ps cells dfl e1 e2 e3
        split at e
        · rename_i q8
          rw [Bool.and_eq_true] at q8
          cases e
          refine ⟨⟨_, 100, _, _, _, _, _, _, _, _, _, _, _, _, _, _, ⟨Tabs.cxOk h scope.names (ownOf T g.tpos a), rfl, e1, q4, rfl⟩, hK, q5, ?_, dflIn_ok e3, Nat.ble_eq.mp q8.1, e2, q6⟩, Nat.ble_eq.mp q8.2⟩
          intro f0 p0 e0
          have e0 : ownOf T g.tpos a = some (f0, p0) := e0
          have hp : p0 = g.tpos := by
            unfold ownOf at e0
            split at e0
            · cases e0; rfl
            · first | exact no_tt e0 | exact no_ns e0 | induction e0
          rw [e0] at q7
          simp only [Bool.and_eq_true, beq_iff_eq] at q7
          exact ⟨Nat.eq_of_beq_eq_true q7.1, hp, q7.2⟩
        · first | exact no_tt e | exact no_ns e | induction e
      · first | exact no_tt e | exact no_ns e | induction e
    · exact no_ns e
end Mine
end
section
set_option genInjectivity false
set_option genSizeOf false
set_option tactic.hygienic false
open PySem PySem.W PySem.Calls PyProof.Rows PySem.SeqAt
set_option maxRecDepth 100000
namespace Mine
theorem isNo_ok {o : Option (Option Value)} (h : isNo o = true) : o = some none := by
  rcases o with _ | _ | v <;> first | exact no_tt h | rfl
theorem isBu_ok {o : Option (Option Value)} {t : String} (h : isBu o t = true) : o = some (some (.builtin t)) := by
  rcases o with _ | _ | v
  · exact no_tt h
  · exact no_tt h
  · induction v <;> first | exact no_tt h | (rw [eq_of_beq h]; done)
theorem isRf_ok {o : Option (Option Value)} {a : Addr} (h : isRf o a = true) : o = some (some (.ref a)) := by
  rcases o with _ | _ | v
  · exact no_tt h
  · exact no_tt h
  · induction v <;> first | exact no_tt h | (rw [Nat.eq_of_beq_eq_true h]; done)
theorem isTr_ok {o : Option Bool} {b : Bool} (h : isTr o b = true) : o = some b := by
  unfold isTr at h
  split at h
  · rw [eqB_ok] at h; rw [eq_of_beq h]
  · first | exact no_tt h | exact no_ns h | induction h
set_option tactic.hygienic true in
theorem hasN_mem : ∀ {l : List Nat} {n : Nat}, hasN l n = true → n ∈ l
  | y :: r, n, h => by
    unfold hasN at h
    split at h
    · rename_i q; rw [Nat.eq_of_beq_eq_true q]; exact List.mem_cons_self
    · exact List.mem_cons_of_mem _ (hasN_mem h)
set_option tactic.hygienic true in
theorem lookI_mem : ∀ {l : List (Nat × Ix)} {n i : Nat}, lookI l n = some i → (n, i) ∈ l
  | (y, v) :: r, n, i, h => by
    unfold lookI at h
    split at h
    · rename_i q; cases h; rw [Nat.eq_of_beq_eq_true q]; exact List.mem_cons_self
    · exact List.mem_cons_of_mem _ (lookI_mem h)
theorem plChk_ok {g : Gd} {C : Addr} {c : Cl} (h : plChk g.K g.nm C c = true) : PlOk g C c := by
  unfold plChk at h
  simp only [Bool.and_eq_true, List.all_eq_true] at h
  obtain ⟨⟨⟨⟨⟨⟨⟨⟨h1, h2⟩, h3⟩, h4⟩, h5⟩, h6⟩, h7⟩, h8⟩, h9⟩ := h
  refine ⟨isBu_ok h1, isNo_ok h2, h3, fun n hn => isNo_ok (h4 n (hasN_mem hn)), isBu_ok h5, h6, h7, fun i hi => ?_, fun n f hf => ?_⟩
  · rw [hi] at h8
    simp only [Bool.and_eq_true] at h8
    exact ⟨isRf_ok h8.1, h8.2⟩
  · have := h9 _ (lookI_mem hf)
    exact ⟨isRf_ok this.1, this.2⟩
theorem exChk_ok {g : Gd} {C : Addr} {c : Cl} (h : exChk g.K g.nm C c = true) : ExOk g C c := by
  unfold exChk at h
  simp only [Bool.and_eq_true, List.all_eq_true] at h
  obtain ⟨⟨⟨⟨⟨⟨⟨⟨⟨h1, h2⟩, h3⟩, h4⟩, h5⟩, h6⟩, h7⟩, h8⟩, h9⟩, h10⟩ := h
  refine ⟨isBu_ok h1, isNo_ok h2, h3, fun n hn => isNo_ok (h4 n (hasN_mem hn)), isBu_ok h5, h6, isTr_ok h7, ?_, isTr_ok h9, h10⟩
  induction q : typeIn g.K (.ref C) with
  | none => rw [q] at h8; exact no_tt h8
  | some v =>
    rw [q] at h8
    induction v <;> first | exact no_tt h8 | skip
    rw [eq_of_beq h8]
set_option tactic.hygienic true in
theorem emChk_ok {g : Gd} {C i : Addr} (h : emChk g.K C i = true) : ExcMk g C i := by
  unfold emChk at h
  induction hK : g.K.lookup C with
  | none => rw [hK] at h; exact no_tt h
  | some o =>
    rw [hK] at h
    obtain ⟨cls, dd, dt, sl⟩ := o
    induction cls <;> first | exact no_tt h | skip
    rename_i t
    induction dt <;> first | exact no_tt h | skip
    rename_i cd
    obtain ⟨sl⟩ := sl
    rcases sl with _ | ⟨k0, _ | ⟨k1, _ | ⟨k2, _ | ⟨k3, _ | ⟨k4, r⟩⟩⟩⟩⟩
    case cons.cons.cons.cons.cons =>
      induction k4 with
      | none => exact no_tt h
      | some v =>
        induction v <;> first | exact no_tt h | skip
        rename_i nw
        rcases r with _ | ⟨k5, _ | ⟨k6, q⟩⟩
        · exact no_tt h
        rotate_left
        · exact no_tt h
        simp only [Bool.and_eq_true, Bool.not_eq_true', beq_iff_eq] at h
        obtain ⟨⟨⟨⟨⟨h1, h2⟩, h3⟩, h4⟩, h5⟩, h6⟩ := h
        obtain ⟨nm, bs, mro, ns, q, hd, sn, sub, ab, col, del⟩ := cd
        dsimp only at h2 h3 h5 h6
        rcases mro with _ | ⟨v, bm⟩
        · exact no_tt h2
        · induction v <;> first | exact no_tt h2 | skip
          rename_i C'
          have h2 : (Nat.beq C' C && tailIn g.K bm) = true := h2
          rw [Bool.and_eq_true] at h2
          have hC := Nat.eq_of_beq_eq_true h2.1
          subst h3 h1 h4 hC
          exact ⟨nm, q, ns, bs, bm, hd, sn, sub, ab, col, dd, k0, k1, k2, k3, k5, hK, h5, isRf_ok h6, h2.2⟩
    all_goals exact no_tt h
theorem is_ok {g : Gd} {C c : Addr} (h1 : isBase g.K C = true) (h2 : isAny g.K = true) (h3 : isPair g.K C c = true) : IsOk g C c := by
  unfold isBase at h1
  unfold isAny at h2
  unfold isPair at h3
  simp only [Bool.and_eq_true] at h1 h2
  refine ⟨fun q => ?_, fun q => ?_, h1.1.1.1, h1.1.1.2, isBu_ok h1.1.2, isBu_ok h2.1, isTr_ok h2.2, isTr_ok h1.2⟩
  · rw [q, Nat.beq_refl] at h3; rw [q]; exact h3
  · rw [show Nat.beq C c = false from Bool.eq_false_iff.mpr fun z => q (Nat.eq_of_beq_eq_true z)] at h3; exact h3
theorem fns_at {α β : Type} {f : Nat → Option β} : ∀ {l : List (Nat × β)}, l.map (fun p => f p.1) = l.map (fun p => some p.2) → ∀ p ∈ l, f p.1 = some p.2
  | [], _, p, h => (nomatch h)
  | a :: r, e, p, h => by
    rw [List.map_cons, List.map_cons] at e
    obtain ⟨e1, e2⟩ := List.cons.inj e
    rcases List.mem_cons.mp h with rfl | h
    · exact e1
    · exact fns_at (α := α) e2 p h
structure Sits (g : Gd) (P : Prg) : Prop where
  nm : g.nm = nmOf P.T.ns
  tc : g.tc = P.tc
  tP : g.tP = P.tP
  tpos : g.tpos = P.tpos
  tq : g.tq = P.tq
  c : chk g.K P = true
  f : fnsOf g.K P = P.fns.list.map fun p => some p.2
section
variable {g : Gd} {P : Prg}
theorem Sits.tabs (h : Sits g P) : TabsOk g P.T := by
  have c := h.c
  unfold chk at c
  simp only [Bool.and_eq_true, List.all_eq_true] at c
  exact ⟨h.nm, c.1.1.1.1.1.1.1.1.1.2⟩
theorem Sits.fn (h : Sits g P) {a : Addr} {f : Fn} (e : P.G.fn a = some f) : FnOk g a f := by
  have := fns_at (α := Unit) (f := fun a => fnIn g.K P.T P.tc P.tpos P.tq a) h.f _ (KT.get_mem e)
  rw [← h.tc, ← h.tpos, ← h.tq] at this
  exact fnIn_ok h.tabs this
theorem FnOk.keep {a : Addr} {f : Fn} (h : FnOk g a f) : keepIn g.K (.ref a) = true := by
  obtain ⟨cx, m, d, sl, name, qual, params, body, scope, dV, kV, doc, pm, an, c, ct, _, q2, _⟩ := h.ex
  unfold keepIn
  dsimp only
  rw [q2]
theorem Sits.cl (h : Sits g P) {C : Addr} {c : Cl} (e : P.G.cl C = some c) : keepIn g.K (.ref C) = true ∧ clChk g.K g.nm C c = true := by
  have cc := h.c
  unfold chk at cc
  simp only [Bool.and_eq_true, List.all_eq_true] at cc
  have := cc.1.1.1.1.1.1.1.2 _ (KT.get_mem e)
  rw [h.nm]
  exact this
theorem Sits.pair (h : Sits g P) {C D : Addr} {c d : Cl} (e1 : P.G.cl C = some c) (e2 : P.G.cl D = some d) : pairChk g.K (C, c) (D, d) = true := by
  have cc := h.c
  unfold chk at cc
  simp only [Bool.and_eq_true, List.all_eq_true] at cc
  exact cc.1.1.1.1.1.1.2 _ (KT.get_mem e1) _ (KT.get_mem e2)
theorem Sits.gok (h : Sits g P) : GOk g P.G := by
  have cc := h.c
  unfold chk at cc
  simp only [Bool.and_eq_true, List.all_eq_true] at cc
  refine ⟨fun C c e q => ?_, fun C c e q => ?_, fun C c e1 e2 => ?_, cc.1.1.1.1.1.1.1.1.2, fun a f _ e => (h.fn e).keep, fun a c _ e => (h.cl e).1, fun C c cc' cd e1 q e2 => ?_⟩
  · have := (h.cl e).2
    unfold clChk at this
    rw [q] at this
    simp only [Bool.and_eq_true] at this
    exact plChk_ok this.1
  · have := (h.cl e).2
    unfold clChk at this
    rw [q] at this
    simp only [Bool.and_eq_true] at this
    exact exChk_ok this.1
  · obtain ⟨c1, a1, b1⟩ := isExc_some e1
    obtain ⟨c2, a2, b2⟩ := isExc_some e2
    have := h.pair a1 a2
    unfold pairChk at this
    rw [b1] at this
    dsimp only at this
    rw [b2] at this
    exact isTr_ok this
  · have h1 := (h.cl e1).2
    have h2 := h.pair e1 e2
    unfold clChk at h1
    unfold pairChk at h2
    rw [q] at h1
    dsimp only at h2
    rw [q] at h2
    simp only [Bool.and_eq_true] at h1
    exact is_ok h1.2 cc.1.1.1.1.1.2 h2
theorem Sits.fs (h : Sits g P) : FsOk g P.G := ⟨fun a f e => h.fn e, fun C c i e q hi => by
  have := (h.cl e).2
  unfold clChk at this
  rw [q] at this
  simp only [Bool.and_eq_true] at this
  have h2 := this.2
  rw [hi] at h2
  exact emChk_ok h2⟩
set_option tactic.hygienic true in
theorem Sits.dk (h : Sits g P) (tb : g.B.TableAt g.tc g.tP #[]) : DefOk g := by
  have cc := h.c
  unfold chk at cc
  simp only [Bool.and_eq_true, List.all_eq_true, beq_iff_eq, Option.isNone_iff_eq_none] at cc
  obtain ⟨⟨⟨⟨⟨_, c1⟩, c2⟩, c3⟩, c4⟩, c5⟩ := cc
  rw [← h.tc, ← h.tP] at c1
  rw [← h.tP] at c2 c3 c4 c5
  refine ⟨c1, fun q => ?_, fun q => ?_, tb, c3, ?_⟩
  · rw [q, Nat.beq_refl] at c5; first | exact no_tt c5 | exact no_ns c5 | cases c5
  · rw [← q, Nat.beq_refl] at c4; first | exact no_tt c4 | exact no_ns c4 | cases c4
  · unfold bmChk at c2
    rcases hb : nsIn g.K mainGlobals "__builtins__" with _ | _ | v
    · rw [hb] at c2; exact no_tt c2
    · rw [hb] at c2; exact no_tt c2
    · rw [hb] at c2
      induction v <;> first | exact no_tt c2 | skip
      rename_i b
      simp only [Bool.and_eq_true, Bool.not_eq_true'] at c2
      obtain ⟨⟨⟨d1, d2⟩, d3⟩, d4⟩ := c2
      have ne : ∀ {x y : Nat}, Nat.beq x y = false → x ≠ y := fun {x y} e q => by rw [q, Nat.beq_refl] at e; first | exact no_tt e | exact no_ns e | cases e
      induction hK : g.K.lookup b with
      | none => rw [hK] at d4; exact no_tt d4
      | some oo =>
        rw [hK] at d4
        obtain ⟨cls, d, dt, sl⟩ := oo
        induction cls <;> first | exact no_tt d4 | skip
        rename_i t
        induction d <;> first | exact no_tt d4 | skip
        rename_i d
        induction dt <;> first | exact no_tt d4 | skip
        rw [Bool.and_eq_true] at d4
        have z := Nat.eq_of_beq_eq_true d4.2
        exact ⟨b, _, rfl, ne d1, ne d2, ne d3, hK, by rw [eq_of_beq d4.1], by rw [z], rfl⟩
end
end Mine
end
section
set_option genInjectivity false
set_option genSizeOf false
set_option tactic.hygienic false
open PySem PySem.W PySem.Calls PyProof.Rows PySem.SeqAt
set_option maxRecDepth 100000
namespace Mine
structure TS (B : Shared) (env : Env) (a b : Addr) (M : Int) (fv : Option Int) (s : Shared) : Prop where
  ns : ∃ m, s.heap.Ns env.locals m ∧ m "source" = some (.ref a) ∧ (∃ t, m "most" = some (.int M t)) ∧ ∀ f, fv = some f → ∃ t, m "found" = some (.int f t)
  src : ∃ x t y u n, s.heap.get? a = some ⟨.type "list", none, .seq #[.ref b, .int x t, .int y u] n, #[]⟩
  nums : ∃ xs n, s.heap.get? b = some ⟨.type "list", none, .seq xs n, #[]⟩ ∧ (∀ v ∈ xs.toList, ∃ x t, v = .int x t) ∧ xs.size ≤ 1000
  keep : ∀ c o, c ≠ a → c ≠ b → B.heap.get? c = some o → s.heap.get? c = some o
  calm : Calm B s
  ab : a ≠ b
  la : env.locals ≠ a
  lb : env.locals ≠ b
  fr : B.heap.get? env.locals = none
section
variable {B : Shared} {env : Env} {a b : Addr} {M : Int} {fv : Option Int} {s : Shared} {A : Around} {E : Value → Shared → Prop} {gd : Gd}
theorem TS.keeps (T : TS B env a b M fv s) {s' : Shared} (hk : ∀ c o, s.heap.get? c = some o → s'.heap.get? c = some o) (c : Calm s s') : TS B env a b M fv s' := by
  obtain ⟨⟨m, h1, h2⟩, ⟨x, t, y, u, n, h3⟩, ⟨xs, n2, h4, h5⟩, k, c0, d1, d2, d3, d4⟩ := T
  exact ⟨⟨m, h1.keeps hk, h2⟩, ⟨x, t, y, u, n, hk _ _ h3⟩, ⟨xs, n2, hk _ _ h4, h5⟩, fun c o n1 n2 e => hk _ _ (k c o n1 n2 e), ⟨c.gens.trans c0.gens, c.drawn.trans c0.drawn, c.os.trans c0.os⟩, d1, d2, d3, d4⟩
theorem TS.toks (T : TS B env a b M fv s) (t : Nat) : TS B env a b M fv { s with toks := t } := T.keeps (fun _ _ e => e) ⟨rfl, rfl, rfl⟩
structure EnvT (env : Env) : Prop where
  k : env.scope.kind = .function
  s : env.kindOf "source" = some .local
  m : env.kindOf "most" = some .local
  f : env.kindOf "found" = some .local
variable (Z : EnvT env)
include Z
theorem tk_src {p : Pos} {Q : Value → Shared → Prop} (T : TS B env a b M fv s) (h : Q (.ref a) s) : wpAny (model gd.prog gd.w) A (eval (.Name "source" p) env) Q E s := by
  obtain ⟨m, h1, h2, _⟩ := T.ns
  exact wpAny_Name (wpAny_loadName_local Z.k Z.s h1 h2 h) (by decide +kernel)
theorem tk_most {p : Pos} {Q : Value → Shared → Prop} (T : TS B env a b M fv s) (h : ∀ t, Q (.int M t) s) : wpAny (model gd.prog gd.w) A (eval (.Name "most" p) env) Q E s := by
  obtain ⟨m, h1, _, ⟨t, h3⟩, _⟩ := T.ns
  exact wpAny_Name (wpAny_loadName_local Z.k Z.m h1 h3 (h t)) (by decide +kernel)
theorem tk_found {p : Pos} {f : Int} {Q : Value → Shared → Prop} (T : TS B env a b M (some f) s) (h : ∀ t, Q (.int f t) s) : wpAny (model gd.prog gd.w) A (eval (.Name "found" p) env) Q E s := by
  obtain ⟨m, h1, _, _, h4⟩ := T.ns
  obtain ⟨t, h4⟩ := h4 f rfl
  exact wpAny_Name (wpAny_loadName_local Z.k Z.f h1 h4 (h t)) (by decide +kernel)
theorem tk_sub {p1 p2 p3 : Pos} {c : Nat} {k : Nat} {Q : Value → Shared → Prop} (T : TS B env a b M fv s) (hk : k < 3) (h : ∀ tk v, (∃ x t y u, (#[Value.ref b, .int x t, .int y u])[k]? = some v) → Q v { s with toks := tk }) :
    wpAny (model gd.prog gd.w) A (eval (.Subscript (.Name "source" p1) (.Constant (.int k) c p2) p3) env) Q E s := by
  refine Subscript_ (tk_src Z T (wpAny_Constant_int ?_))
  have T' := T.toks (s.toks + 1)
  obtain ⟨x, t, y, u, n, h3⟩ := T'.src
  have hx : (#[Value.ref b, .int x t, .int y u])[k]? = some ((#[Value.ref b, .int x t, .int y u])[k]'(by simpa using hk)) := Array.getElem?_eq_getElem _
  have hl : ({ s with toks := s.toks + 1 } : Shared).heap.IsList a #[.ref b, .int x t, .int y u] := ⟨_, h3, rfl, n, rfl⟩
  refine tail_any (ops := [.ref a, .int k _]) hl.typeIs slot_list_getitem.lookup (wpAny_getItem_list hl (by omega) (by omega) (by simp) (h _ _ ⟨x, t, y, u, hx⟩)) rfl
theorem tk_int {p1 p2 p3 : Pos} {c : Nat} {k : Nat} {Q : Value → Shared → Prop} (T : TS B env a b M fv s) (hk : k = 1 ∨ k = 2) (h : ∀ tk x t, Q (.int x t) { s with toks := tk }) :
    wpAny (model gd.prog gd.w) A (eval (.Subscript (.Name "source" p1) (.Constant (.int k) c p2) p3) env) Q E s := by
  refine tk_sub Z T (by omega) fun tk v hv => ?_
  obtain ⟨x, t, y, u, hv⟩ := hv
  rcases hk with rfl | rfl
  · cases hv; exact h _ _ _
  · cases hv; exact h _ _ _
theorem tk_nums {p1 p2 p3 : Pos} {c : Nat} {Q : Value → Shared → Prop} (T : TS B env a b M fv s) (h : ∀ tk, Q (.ref b) { s with toks := tk }) :
    wpAny (model gd.prog gd.w) A (eval (.Subscript (.Name "source" p1) (.Constant (.int 0) c p2) p3) env) Q E s := by
  refine tk_sub (k := 0) Z T (by omega) fun tk v hv => ?_
  obtain ⟨x, t, y, u, hv⟩ := hv
  cases hv; exact h _
theorem tk_set {p1 p2 p3 : Pos} {c : Nat} {k : Nat} {x : Int} {t : Tok} {Q : Unit → Shared → Prop} (T : TS B env a b M fv s) (hk : k = 1 ∨ k = 2) (h : ∀ s', TS B env a b M fv s' → Q () s') :
    wpAny (model gd.prog gd.w) A (assign (.Subscript (.Name "source" p1) (.Constant (.int k) c p2) p3) env (.int x t)) Q E s := by
  rw [arm_assign_Subscript]
  refine wpAny_bind (wpAny_holding (tk_src Z T ?_))
  refine wpAny_bind (wpAny_holding (wpAny_Constant_int ?_))
  have T' := T.toks (s.toks + 1)
  refine wpAny_bind (wpAny_standAt (wpAny_bind (wpAny_holding ?_)))
  obtain ⟨⟨m, h1, h2⟩, ⟨x0, t0, y0, u0, n0, h3⟩, ⟨xs, n2, h4, h5⟩, k0, c0, d1, d2, d3, d4⟩ := T'
  refine setList_at h3 (by omega) (by omega) (by show (k : Int) < 3; omega) (wpAny_release (h _ ?_))
  obtain ⟨mm, em⟩ := mapSeq_list #[Value.ref b, .int x0 t0, .int y0 u0] n0 (fun z => z.setIfInBounds ((k : Int).toNat) (.int x t))
  have sb : Heap.SameBut a s.heap (s.heap.update a (Obj.mapSeq (·.setIfInBounds ((k : Int).toNat) (.int x t)))) := Heap.SameBut.update ..
  have g : (s.heap.update a (Obj.mapSeq (·.setIfInBounds ((k : Int).toNat) (.int x t)))).get? a = some ⟨.type "list", none, .seq (#[Value.ref b, .int x0 t0, .int y0 u0].setIfInBounds ((k : Int).toNat) (.int x t)) mm, #[]⟩ := (Heap.get?_update_self _ h3 (by rw [em]; rfl)).trans (congrArg some em)
  refine ⟨⟨m, h1.sameBut sb d2, h2⟩, ?_, ⟨xs, n2, (sb.2 _ (Ne.symm d1)).trans h4, h5⟩, fun c o n1 n2 e => (sb.2 _ n1).trans (k0 c o n1 n2 e), ⟨c0.gens, c0.drawn, c0.os⟩, d1, d2, d3, d4⟩
  rcases hk with rfl | rfl
  · exact ⟨x, t, y0, u0, mm, g⟩
  · exact ⟨x0, t0, x, t, mm, g⟩
set_option tactic.hygienic true in
theorem tk_setS {p1 p2 p3 p : Pos} {c : Nat} {k : Nat} {e : Expr} {Q : Flow → Shared → Prop} (hk : k = 1 ∨ k = 2) (hn : notTup e = true)
    (h : wpAny (model gd.prog gd.w) A (eval e env) (fun v s' => ∃ x t, v = .int x t ∧ TS B env a b M fv s' ∧ ∀ s'', TS B env a b M fv s'' → Q .next s'') E s) :
    wpAny (model gd.prog gd.w) A (exec (.Assign [.Subscript (.Name "source" p1) (.Constant (.int k) c p2) p3] e p) env) Q E s := by
  rw [arm_exec_Assign]
  refine wpAny_bind (wpAny_standAt ?_)
  show wpAny _ A (swapsWith e (some (.Subscript (.Name "source" p1) (.Constant (.int k) c p2) p3)) p.line env >>= _) Q E s
  rw [swaps_not (fun y p q => by cases q), swapped_none (by rw [hn, Bool.or_true])]
  refine wpAny_bind (wpAny_pure ?_)
  rw [if_neg (by decide)]
  refine wpAny_bind (wpAny_mono h (fun v s' hv => ?_) fun _ _ z => z)
  obtain ⟨x, t, rfl, T', hq⟩ := hv
  refine wpAny_bind (wpAny_pure ?_)
  show wpAny _ A (assign (.Subscript (.Name "source" p1) (.Constant (.int k) c p2) p3) env (.int x t) >>= fun _ => pure .next) Q E s'
  exact wpAny_bind (tk_set Z T' hk fun s'' T'' => wpAny_pure (hq s'' T''))
theorem tk_pop {p1 p2 p3 ap p p4 : Pos} {c c2 : Nat} {Q : Value → Shared → Prop} (T : TS B env a b M fv s) (hline : (ap.endLine == p.line) = true) (hne : ∃ xs n, s.heap.get? b = some ⟨.type "list", none, .seq xs n, #[]⟩ ∧ xs.size ≠ 0)
    (h : ∀ s' x t, TS B env a b M fv s' → Q (.int x t) s') :
    wpAny (model gd.prog gd.w) A (eval (.Call (.Attribute (.Subscript (.Name "source" p1) (.Constant (.int 0) c p2) p3) "pop" ap) [.Constant (.int 0) c2 p4] [] p) env) Q E s := by
  rw [arm_eval_Call, notSuper_base rfl]
  have step : ∀ s', TS B env a b M fv s' → s'.heap = s.heap → wpAny (model gd.prog gd.w) A (call (.builtin "list.pop") [.ref b, .int 0 s'.toks]) Q E { s' with toks := s'.toks + 1 } := fun s' T' e => by
    have T' := T'.toks (s'.toks + 1)
    obtain ⟨xs, n, hb, hs⟩ := hne
    obtain ⟨⟨m, h1, h2⟩, ⟨x0, t0, y0, u0, n0, h3⟩, ⟨xs', n2, h4, h5, h6⟩, k0, c0, d1, d2, d3, d4⟩ := T'
    have h4' : s'.heap.get? b = some ⟨.type "list", none, .seq xs' n2, #[]⟩ := h4
    rw [e, hb] at h4'
    cases h4'
    have hpos : 0 < xs.size := Nat.pos_of_ne_zero hs
    have hy : xs[0]? = some xs[0] := Array.getElem?_eq_getElem hpos
    have hbx : s'.heap.get? b = some ⟨.type "list", none, .seq xs n, #[]⟩ := e ▸ hb
    refine call_meets PySem.F.slot_list_pop ⟨_, hbx, rfl⟩ PySem.F.entry_list_pop (PySem.F.args_list_pop_2 _ _) (MeetsSeq.list_pop_at b xs n 0 _ 0 xs[0] (by decide) (by unfold seqIndex?; simp [hpos]) hy (by rw [sizeLine_eq]; omega)) ⟨hbx, ?_⟩
    obtain ⟨m2, em⟩ := mapSeq_list xs n (fun x => x.eraseIdxIfInBounds 0)
    have sb : Heap.SameBut b s'.heap (s'.heap.update b (Obj.mapSeq fun xs => xs.eraseIdxIfInBounds 0)) := Heap.SameBut.update ..
    have g : (s'.heap.update b (Obj.mapSeq fun xs => xs.eraseIdxIfInBounds 0)).get? b = some ⟨.type "list", none, .seq (xs.eraseIdxIfInBounds 0) m2, #[]⟩ := (Heap.get?_update_self _ hbx (by rw [em]; rfl)).trans (congrArg some em)
    obtain ⟨x, t, hx⟩ := h5 xs[0] (by simp)
    show Q _ _
    rw [hx]
    refine h _ x t ⟨⟨m, h1.sameBut sb d3, h2⟩, ⟨x0, t0, y0, u0, n0, (sb.2 _ d1).trans h3⟩, ⟨_, m2, g, fun v hv => h5 v ?_, ?_⟩, fun c o n1 n2 e => (sb.2 _ n2).trans (k0 c o n1 n2 e), ⟨c0.gens, c0.drawn, c0.os⟩, d1, d2, d3, d4⟩
    · have : (xs.eraseIdxIfInBounds 0).toList = xs.toList.eraseIdx 0 := by
        unfold Array.eraseIdxIfInBounds; rw [dif_pos hpos, Array.toList_eraseIdx]
      rw [this] at hv
      exact List.mem_of_mem_eraseIdx hv
    · have : (xs.eraseIdxIfInBounds 0).size = xs.size - 1 := by unfold Array.eraseIdxIfInBounds; rw [dif_pos hpos, Array.size_eraseIdx]
      rw [this]; omega
  refine wpAny_bind (tk_nums Z T fun tk => ?_)
  refine wpAny_bind (wpAny_standAt ?_)
  unfold methodCall
  have hform : methodCallForm ([Expr.Constant (.int 0) c2 p4].length + ([] : List Keyword).length) (backTo p (starEach [.Constant (.int 0) c2 p4] env)) (backToKw p (keywordEach [] env)) = true := by
    have b := backTo_plain (env := env) (pos := p) (es := [.Constant (.int 0) c2 p4]) rfl
    have b' : (backTo p (starEach [.Constant (.int 0) c2 p4] env)).all (fun x => !x.1) = true := by
      rw [List.all_eq_true]; intro y hy
      rw [List.any_eq_false] at b
      have := b y hy
      simpa using this
    unfold methodCallForm
    rw [b']
    rfl
  rw [hform]
  refine wpAny_bind (wpAny_holding ?_)
  show wpAny _ A (getMethod (.ref b) "pop" _) _ E _
  obtain ⟨xs, n, hb, hs⟩ := id hne
  refine getMethod_builtin ⟨_, hb, rfl⟩ PySem.F.plainAttrs_list PySem.F.slot_list_pop PySem.F.type_list_pop (fun b e => by cases e; exact ⟨_, hb, rfl⟩) ?_
  have e3 : ∀ env' : Env, methodCallPos true (.Subscript (.Name "source" p1) (.Constant (.int 0) c p2) p3) env' ap p = pure p := fun env' => by
    unfold methodCallPos; rw [hline]; rfl
  dsimp only
  rw [e3]
  refine wpAny_bind (wpAny_pure ?_)
  refine callWith_list (g := gd) (es := [.Constant (.int 0) c2 p4]) rfl ?_
  show wpAny _ _ (spliced ((false, eval (.Constant (.int 0) c2 p4) env) :: [])) _ _ _
  refine spliced_cons (wpAny_Constant_int (spliced_nil ⟨keep_bi (b := 101) rfl, ?_⟩))
  exact step { s with toks := tk } (T.toks tk) rfl
end
end Mine
end
section
set_option genInjectivity false
set_option genSizeOf false
set_option tactic.hygienic false
open PySem PySem.W PySem.Calls PyProof.Rows PySem.SeqAt
set_option maxRecDepth 100000
namespace Mine
noncomputable def takeIf : List Stmt := match takeBody with
  | .If _ b _ _ :: _ => b
  | _ => []
theorem noPylong {x M : Int} (h0 : 0 ≤ M) (h1 : M < 2147483648) : ¬ (Builtin.divisionGoesByPylong x M) = true := by
  unfold Builtin.divisionGoesByPylong
  have hl : M.natAbs.log2 < 32 := by
    by_cases z : M.natAbs = 0
    · rw [z]; decide
    · rw [Nat.log2_lt z]
      have : M.natAbs < 2147483648 := by omega
      exact Nat.lt_trans this (by decide)
  have hq : ¬ ((if (M == 0) = true then 0 else M.natAbs.log2 / 30 + 1) > 300) := by
    split
    · omega
    · omega
  intro q
  simp only [Bool.and_eq_true, decide_eq_true_eq] at q
  exact hq q.1
section
variable {B : Shared} {env : Env} {a b : Addr} {M : Int} {fv : Option Int} {s : Shared} {A : Around} {E : Value → Shared → Prop} {gd : Gd}
theorem TS.setFound (Z : EnvT env) (T : TS B env a b M fv s) {f : Int} {t : Tok} {Q : Unit → Shared → Prop} (h : ∀ s', TS B env a b M (some f) s' → Q () s') : wpAny (model gd.prog gd.w) A (storeName env "found" (.int f t)) Q E s := by
  obtain ⟨⟨m, h1, h2, ⟨t1, h3⟩, _⟩, ⟨x0, t0, y0, u0, n0, g3⟩, ⟨xs, n2, g4, g5⟩, k0, c0, d1, d2, d3, d4⟩ := T
  refine wpAny_storeName_local Z.f h1 (fun h' hn hs => h _ ⟨⟨_, hn, ?_, ⟨t1, ?_⟩, fun f' e => ?_⟩, ⟨x0, t0, y0, u0, n0, (hs.2 _ (Ne.symm d2)).trans g3⟩, ⟨xs, n2, (hs.2 _ (Ne.symm d3)).trans g4, g5⟩, fun c o n1 n2 e => (hs.2 _ (fun q => by rw [q, d4] at e; cases e)).trans (k0 c o n1 n2 e), ⟨c0.gens, c0.drawn, c0.os⟩, d1, d2, d3, d4⟩) (by rw [Z.k]; rfl)
  · rw [if_neg (by decide +kernel)]; exact h2
  · rw [if_neg (by decide +kernel)]; exact h3
  · cases e; rw [if_pos rfl]; exact ⟨t, rfl⟩
set_option tactic.hygienic true in
theorem tk_foundS (Z : EnvT env) {p1 p : Pos} {e : Expr} {Q : Flow → Shared → Prop} (hp : plainVal e = true)
    (h : wpAny (model gd.prog gd.w) A (eval e env) (fun v s' => ∃ f t, v = .int f t ∧ TS B env a b M fv s' ∧ ∀ s'', TS B env a b M (some f) s'' → Q .next s'') E s) :
    wpAny (model gd.prog gd.w) A (exec (.Assign [.Name "found" p1] e p) env) Q E s := by
  rw [arm_exec_Assign]
  refine wpAny_bind (wpAny_standAt ?_)
  show wpAny _ A (swapsWith e (some (.Name "found" p1)) p.line env >>= _) Q E s
  rw [swaps_plain hp, swapped_none (t := .Name "found" p1) rfl]
  refine wpAny_bind (wpAny_pure ?_)
  rw [if_neg (by decide)]
  refine wpAny_bind (wpAny_mono h (fun v s' hv => ?_) fun _ _ z => z)
  obtain ⟨f, t, rfl, T', hq⟩ := hv
  refine wpAny_bind (wpAny_pure ?_)
  show wpAny _ A (assign (.Name "found" p1) env (.int f t) >>= fun _ => pure .next) Q E s'
  exact wpAny_bind (wpAny_assign_Name (TS.setFound Z T' fun s'' T'' => wpAny_pure (hq s'' T'')))
theorem tk_rest (Z : EnvT env) (T : TS B env a b M none s) (hM : 0 < M) (hM2 : M < 2147483648) {Q : Flow → Shared → Prop} (h : ∀ f t s', 0 ≤ f → f < M → TS B env a b M (some f) s' → Q (.ret (.int f t)) s') :
    wpAny (model gd.prog gd.w) A (execs (takeBody.drop 1) env) Q E s := by
  have hm0 : ¬ (M == 0) = true := by simp; omega
  change wpAny (model gd.prog gd.w) A (execs (?a :: ?b :: ?c :: []) env) Q E s
  refine wpAny_execs_cons (tk_foundS Z rfl (wpAny_BinOp (tk_int (k := 1) Z T (.inl rfl) fun tk x t => tk_most Z (T.toks tk) fun t2 => AutoIntOps.mod_1 hm0 ⟨_, _, rfl, (T.toks tk).toks _, fun s1 T1 => ?_⟩)))
  refine wpAny_execs_cons (tk_setS (k := 1) Z (.inl rfl) rfl (wpAny_BinOp (tk_int (k := 1) Z T1 (.inl rfl) fun tk1 x1 t1 => tk_most Z (T1.toks tk1) fun t3 => AutoIntOps.floordiv_1 hm0 (noPylong (by omega) hM2) ⟨_, _, rfl, (T1.toks tk1).toks _, fun s2 T2 => ?_⟩)))
  refine wpAny_execs_cons ?_
  exact wpAny_Return_some (tk_found Z T2 fun t4 => h _ _ _ (Int.fmod_nonneg_of_pos _ hM) (Int.fmod_lt_of_pos _ hM) T2)
theorem tk_nonempty {xs : Array Value} (hi : ∀ v ∈ xs.toList, ∃ x t, v = .int x t) : ∃ l : List AV, VRs [] [] l xs.toList ∧ flatL l = true ∧ (eqL l [] = some (xs.size == 0)) := by
  obtain ⟨l⟩ := xs
  dsimp only at hi
  induction l with
  | nil => exact ⟨[], trivial, rfl, rfl⟩
  | cons v r ih =>
    obtain ⟨x, t, rfl⟩ := hi v List.mem_cons_self
    obtain ⟨l', h1, h2, _⟩ := ih fun u hu => hi u (List.mem_cons_of_mem _ hu)
    exact ⟨.int x :: l', ⟨⟨t, rfl⟩, h1⟩, h2, rfl⟩
set_option tactic.hygienic true in
theorem tk_body (Z : EnvT env) (T : TS B env a b M none s) (hu : A.units < cLine) (hM : 0 < M) (hM2 : M < 2147483648) {Q : Flow → Shared → Prop} (h : ∀ f t s', 0 ≤ f → f < M → TS B env a b M (some f) s' → Q (.ret (.int f t)) s') :
    wpAny (model gd.prog gd.w) A (execs takeBody env) Q E s := by
  have rest : ∀ s', TS B env a b M none s' → wpAny (model gd.prog gd.w) A (execs (takeBody.drop 1) env) Q E s' := fun s' T' => tk_rest Z T' hM hM2 h
  change wpAny (model gd.prog gd.w) A (execs (?a :: takeBody.drop 1) env) Q E s
  refine wpAny_execs_cons (wpAny_If (wpAny_isTrue_all (by intros; exact fun q => PySem.Expr.noConfusion q) (by intros; exact fun q => PySem.Expr.noConfusion q) (by intros; exact fun q => PySem.Expr.noConfusion q) (fun l ops rs p q => by cases q; exact ⟨_, _, rfl, rfl, rfl⟩) (wpAny_Compare1 (tk_int (k := 1) Z T (.inl rfl) fun tk x t => wpAny_Constant_int ((RcAt.int_int _ _ _ _) _ _ E _ (wpAny_truthy_bool ?_))) rfl)))
  have T1 := (T.toks tk).toks (tk + 1)
  split
  · -- the source is drawn anew
    refine wpAny_execs_cons (tk_setS (B := B) (a := a) (b := b) (M := M) (fv := none) (k := 2) Z (.inr rfl) rfl (wpAny_BinOp (wpAny_BinOp (tk_int (k := 2) Z T1 (.inr rfl) fun tk2 x2 t2 => wpAny_Constant_int (AutoIntOps.mul_0 ?_ (IntMulOk.of_right (by decide +kernel)))))))
    refine wpAny_Constant_int (AutoIntOps.mod_1 (by decide) ⟨_, _, rfl, T1.keeps (fun _ _ e => e) ⟨rfl, rfl, rfl⟩, fun s3 T3 => ?_⟩)
    have set1 : ∀ {s'} {v : Value} {x : Int} {t : Tok} {Q' : Flow → Shared → Prop}, v = .int x t → TS B env a b M none s' → (∀ s'', TS B env a b M none s'' → Q' .next s'') → ∃ x t, v = .int x t ∧ TS B env a b M none s' ∧ ∀ s'', TS B env a b M none s'' → Q' .next s'' := fun e T h => ⟨_, _, e, T, h⟩
    have third : ∀ s', TS B env a b M none s' → wpAny (model gd.prog gd.w) A (execs (takeIf.drop 2) env) (fun f s'' => match f with | .next => wpAny (model gd.prog gd.w) A (execs (List.drop 1 takeBody) env) Q E s'' | f => Q f s'') E s' := fun s4 T4 => by
      change wpAny (model gd.prog gd.w) A (execs (?last :: []) env) _ E s4
      refine wpAny_execs_cons (tk_setS (B := B) (a := a) (b := b) (M := M) (fv := none) (k := 1) Z (.inl rfl) rfl (wpAny_IfExp (wpAny_isTrue_all (by intros; exact fun q => PySem.Expr.noConfusion q) (by intros; exact fun q => PySem.Expr.noConfusion q) (by intros; exact fun q => PySem.Expr.noConfusion q) (fun l ops rs p q => by cases q; exact ⟨_, _, rfl, rfl, rfl⟩) (wpAny_Compare1 (tk_int (k := 1) Z T4 (.inl rfl) fun tk5 x5 t5 => wpAny_Constant_int (PySem.P.ge_int (wpAny_truthy_bool ?_))) rfl))))
      have T5 := (T4.toks tk5).toks (tk5 + 1)
      split
      · exact tk_int (k := 1) Z T5 (.inl rfl) fun tk6 x6 t6 => ⟨_, _, rfl, T5.toks tk6, fun s7 T7 => wpAny_execs_nil (rest _ T7)⟩
      · refine wpAny_UnaryOp (tk_int (k := 1) Z T5 (.inl rfl) fun tk6 x6 t6 => PySem.P.neg_int ⟨_, _, rfl, T5.keeps (fun _ _ e => e) ⟨rfl, rfl, rfl⟩, fun s7 T7 => wpAny_execs_nil (rest _ T7)⟩)
    refine wpAny_execs_cons (tk_setS (B := B) (a := a) (b := b) (M := M) (fv := none) (k := 1) Z (.inl rfl) rfl (wpAny_IfExp (wpAny_isTrue_all (by intros; exact fun q => PySem.Expr.noConfusion q) (by intros; exact fun q => PySem.Expr.noConfusion q) (by intros; exact fun q => PySem.Expr.noConfusion q) (fun l ops rs p q => by cases q; exact ⟨_, _, rfl, rfl, rfl⟩) (wpAny_Compare1 (tk_nums Z T3 fun tk4 => wpAny_List (spliced_nil ⟨by rw [sizeLine_eq]; decide, ?_⟩)) rfl))))
    obtain ⟨xs, n, hb, hi, hs⟩ := T3.nums
    obtain ⟨l, l1, l2, l3⟩ := tk_nonempty hi
    have hk : ∀ c o, s3.heap.get? c = some o → (s3.heap.push { cls := .type "list", data := .seq #[] }).get? c = some o := fun c o e => Heap.get?_push_of_some _ e
    have T4 : TS B env a b M none { s3 with toks := tk4, heap := s3.heap.push { cls := .type "list", data := .seq #[] } } := T3.keeps hk ⟨rfl, rfl, rfl⟩
    have L1 : ({ s3 with toks := tk4, heap := s3.heap.push { cls := .type "list", data := .seq #[] } } : Shared).heap.IsList b xs := ⟨_, hk _ _ hb, rfl, n, rfl⟩
    have L2 : ({ s3 with toks := tk4, heap := s3.heap.push { cls := .type "list", data := .seq #[] } } : Shared).heap.IsList s3.heap.objs.size #[] := ⟨_, Heap.get?_push_size _ rfl, rfl, 0, rfl⟩
    refine (rc_lists (σ := []) (ρ := []) (m := []) L1 L2 l1 trivial l2 rfl l3 hu).2 _ _ E _ (wpAny_truthy_bool ?_)
    split
    · rename_i hq
      refine tk_pop Z T4 rfl ⟨xs, n, hk _ _ hb, fun z => ?_⟩ fun s5 x5 t5 T5 => ⟨_, _, rfl, T5, fun s6 T6 => third s6 T6⟩
      rw [z] at hq; first | exact no_tt hq | exact no_ns hq | induction hq
    · refine wpAny_BinOp (tk_int (k := 2) Z T4 (.inr rfl) fun tk5 x5 t5 => wpAny_Constant_int (AutoIntOps.floordiv_1 (by decide) (noPylong (by decide) (by decide)) ⟨_, _, rfl, T4.keeps (fun _ _ e => e) ⟨rfl, rfl, rfl⟩, fun s6 T6 => third s6 T6⟩))
  · exact wpAny_execs_nil (rest _ T1)
end
end Mine
end
section
set_option genInjectivity false
set_option genSizeOf false
set_option tactic.hygienic false
open PySem PySem.W PySem.Calls PyProof.Rows PySem.SeqAt
set_option maxRecDepth 100000
namespace Mine
section
variable {g : Gd} {clo : CloP} {F : List Addr} {ρ : List Addr} {σ : List Str} {st : St} {s : Shared} {A : Around} {E : Value → Shared → Prop} {L : Addr} {n : Nat}
theorem Rel.soft (O : g.Ok) (R : Rel g clo F ρ σ st s) {i j : Nat} {a b : Addr} (ha : ρ[i]? = some a) (hb : ρ[j]? = some b) (hi : st.get i = some (.src j)) (hj : st.get j = some .nums) (ri : st.isRo i = false) (rj : st.isRo j = false) {s' : Shared}
    (h1 : ∃ x t y u n, s'.heap.get? a = some ⟨.type "list", none, .seq #[.ref b, .int x t, .int y u] n, #[]⟩) (h2 : ∃ xs n, s'.heap.get? b = some ⟨.type "list", none, .seq xs n, #[]⟩ ∧ (∀ v ∈ xs.toList, ∃ x t, v = .int x t) ∧ xs.size ≤ 1000)
    (hk : ∀ c o, c ≠ a → c ≠ b → s.heap.get? c = some o → s'.heap.get? c = some o) (c : Calm s s') : Rel g clo F ρ σ st s' := by
  have Ba := R.lt i a _ ha hi
  have Bb := R.lt j b _ hb hj
  have low : ∀ {c : Addr} {o}, c < g.B.objs.size → s.heap.get? c = some o → s'.heap.get? c = some o := fun {c o} hc e => hk c o (fun q => Nat.not_le.mpr hc (q ▸ Ba)) (fun q => Nat.not_le.mpr hc (q ▸ Bb)) e
  have only : ∀ {i' j' : Nat} {x : Addr} {b1 b2 : Ob}, ρ[i']? = some x → ρ[j']? = some x → st.get i' = some b1 → st.get j' = some b2 → st.isRo j' = false → i' = j' := fun p q e1 e2 r => by
    rcases R.inj _ _ _ _ _ p q e1 e2 with w | ⟨_, w⟩
    · exact w
    · rw [r] at w; first | exact no_tt w | exact no_ns w | induction w
  obtain ⟨x, t, y, u, n, g1⟩ := h1
  obtain ⟨xs, n2, g2, g3, g4⟩ := h2
  refine ⟨R.len, R.slen, R.sml, fun i' b' e => ?_, R.inj, R.lt, fun i' C d x' e1 e2 => ?_, R.fra, fun x' o e => low (O.low x' o e) (R.stat x' o e), oldK_low R.old fun b o hb e => low hb e, c.gens.trans R.gens, c.drawn.trans R.drawn, c.os.trans R.os, R.tab.step0 fun o e => low O.tl e⟩
  · obtain ⟨a', o, e1, e2, r⟩ := R.obs i' b' e
    by_cases q1 : a' = a
    · subst q1
      have := only e1 ha e hi ri
      subst this
      rw [hi] at e; first | exact no_tt e | exact no_ns e | cases e
      exact ⟨a', _, e1, g1, b, x, t, y, u, n, hb, rfl⟩
    · by_cases q2 : a' = b
      · subst q2
        have := only e1 hb e hj rj
        subst this
        rw [hj] at e; first | exact no_tt e | exact no_ns e | cases e
        exact ⟨a', _, e1, g2, xs, n2, rfl, g3, g4⟩
      · exact ⟨a', o, e1, hk _ _ q1 q2 e2, r⟩
  · obtain ⟨o', vs, t1, t2, t3, t4, t5⟩ := R.tr i' C d x' e1 e2
    have na : x' ≠ a := fun q => by
      subst q
      have := only e2 ha e1 hi ri
      subst this; rw [hi] at e1; first | exact no_tt e1 | exact no_ns e1 | cases e1
    have nb : x' ≠ b := fun q => by
      subst q
      have := only e2 hb e1 hj rj
      subst this; rw [hj] at e1; first | exact no_tt e1 | exact no_ns e1 | cases e1
    refine ⟨o', vs, hk _ _ na nb t1, t2, t3, t4, t5.imp id ?_⟩
    rintro ⟨T, oT, ts, k1, k2, k3, k4, k5, k6⟩
    exact ⟨T, oT, ts, k1, hk _ _ (fun q => k5 ⟨i, _, q ▸ ha, hi⟩) (fun q => k5 ⟨j, _, q ▸ hb, hj⟩) k2, k3, k4, k5, k6⟩
theorem lookup_two {v w : Value} : ([(("source" : Str), v), (("most" : Str), w)].reverse.lookup ("source" : Str) = some v) ∧ ([(("source" : Str), v), (("most" : Str), w)].reverse.lookup ("most" : Str) = some w) := by
  have e : (("source" : Str) == ("most" : Str)) = false := by decide +kernel
  constructor
  · show List.lookup _ [(("most" : Str), w), (("source" : Str), v)] = _
    rw [List.lookup_cons, e, List.lookup_cons, beq_self_eq_true]
  · show List.lookup _ [(("most" : Str), w), (("source" : Str), v)] = _
    rw [List.lookup_cons, beq_self_eq_true]
inductive TakeX (K : Frag) (a : Addr) (body : List Stmt) : Prop where
  | mk (t : String) (d : Option Addr) (name qual : Str) (params : Arguments) (scope : Scope) (gls : Addr) (kV doc pm : Value) (an : Option Addr) (c : Addr) (ct : Value) (bs : Addr) (sl : Array (Option Value))
    (h1 : K.lookup a = some ⟨.type t, d, .func ⟨name, qual, params, .stmts body, scope, gls, [], .none, kV, doc, pm, an, .ref c, ct, bs⟩, sl⟩)
    (h2 : (t == "function" && Nat.beq gls mainGlobals && Nat.beq bs builtinsNs && funOk params scope && codeIn K (.ref c) qual && noCells scope.names && (params.args.map (·.arg) == [("source" : Str), ("most" : Str)]) &&
      (scope.names.lookup ("source" : Str) == some .local) && (scope.names.lookup ("most" : Str) == some .local) && (scope.names.lookup ("found" : Str) == some .local)) = true)
set_option tactic.hygienic true in
theorem takeChk_inv {K : Frag} {a : Addr} {tb : List Stmt} (hc : takeChk K a = true) (ht : textIn K a = some tb) : TakeX K a tb := by
  unfold takeChk at hc
  unfold textIn at ht
  induction hK : K.lookup a with
  | none => rw [hK] at hc; exact no_tt hc
  | some oo =>
    rw [hK] at hc ht
    obtain ⟨cls, d, dt, sl⟩ := oo
    induction cls <;> first | exact no_tt hc | skip
    rename_i ty
    induction dt <;> first | exact no_tt hc | skip
    rename_i fd
    obtain ⟨name, qual, params, body, scope, gls, cl0, df, kV, doc, pm, an, cV, ct, bs⟩ := fd
    induction body <;> first | exact no_tt hc | skip
    rename_i body
    cases cl0 <;> first | exact no_tt hc | skip
    induction df <;> first | exact no_tt hc | skip
    induction cV <;> first | exact no_tt hc | skip
    rename_i c
    have ht : body = tb := Option.some.inj ht
    subst ht
    exact ⟨_, _, _, _, _, _, _, _, _, _, _, _, _, _, _, hK, hc⟩
theorem take_ok (O : g.Ok) {G : Glob} (hc : takeChk g.K G.take = true) (ht : textIn g.K G.take = some takeBody) : TakeOk g clo G := by
  intro A F L n ρ σ st s i j a N t Q E H D Re hi hs hn ri rj hN P
  obtain ⟨ty, d, name, qual, params, scope, gls, kV, doc, pm, an, c, ct, bs, sl, hK, hc⟩ := takeChk_inv hc ht
  simp only [Bool.and_eq_true, beq_iff_eq] at hc
  obtain ⟨⟨⟨⟨⟨⟨⟨⟨⟨rfl, q2⟩, q3⟩, q4⟩, q5⟩, q6⟩, q7⟩, q8⟩, q9⟩, q10⟩ := hc
  have q2 := Nat.eq_of_beq_eq_true q2
  have q3 := Nat.eq_of_beq_eq_true q3
  subst q2 q3
  obtain ⟨w1, w2, w3, w4, w5, w6, w7, w8, w9, _⟩ := funOk_at q4
  obtain ⟨po, as, va, ko, kd, kwa, df⟩ := params
  dsimp only at w1 w2 w3 w4 w5 w6 q7
  subst w1 w2 w3 w4 w5
  have hal : as.length = 2 := by have := congrArg List.length q7; simpa using this
  obtain ⟨o1, ho1, b, x, t0, y, u, n0, hb, rfl⟩ := Re.at hs hi
  obtain ⟨o2, ho2, xs, n1, rfl, hint, hsz⟩ := Re.at hn hb
  have hab : a ≠ b := fun q => by
    subst q
    rw [ho1] at ho2
    injection ho2 with ho2
    injection ho2 with _ _ e3 _
    injection e3 with e4 _
    rw [← e4] at hint
    obtain ⟨x', t', e5⟩ := hint (.ref a) (by simp)
    cases e5
  have hLa : s.heap.objs.size ≠ a := fun q => absurd (Heap.lt_size ho1) (by rw [q]; exact Nat.lt_irrefl _)
  have hLb : s.heap.objs.size ≠ b := fun q => absurd (Heap.lt_size ho2) (by rw [q]; exact Nat.lt_irrefl _)
  have hroom : A.depth < recursionLimit := by
    have := H.room
    have e : recursionLimit = 1000 := by rfl
    omega
  have hnl : ∀ y ∈ scope.names, y.2 ≠ .cell := fun y hy => by
    have := List.all_eq_true.mp q6 y hy
    simpa using this
  refine wpAny_call ?_
  refine codeAny_call_def (binds := [(("source" : Str), .ref a), (("most" : Str), .int ((N + 1 : Nat) : Int) t)]) hroom (Re.stat _ _ hK) rfl (O.noLimit Re.stat) (codeRec_of Re.stat q5) rfl (fun M A' E' Q' hq => ?_) hnl ?_ (fun h₀ hns hkk => ?_) w8 w9 w7
  · refine bindArgs_at (items := none) rfl (wpAny_pure ⟨rfl, rfl⟩) w6 (by rw [hal]; exact Nat.le_refl _) (Nat.zero_le _) (by rw [hal]; exact Nat.le_refl _) ?_
    rw [q7]; exact hq
  · intro y hy
    rcases List.mem_cons.mp hy with rfl | hy
    · exact q8
    · rcases List.mem_cons.mp hy with rfl | hy
      · exact q9
      · first | exact no_tt hy | exact no_ns hy | cases hy
  · have Z : EnvT (callEnv ⟨name, qual, ⟨[], as, none, [], [], none, df⟩, .stmts takeBody, scope, mainGlobals, [], .none, kV, doc, pm, an, .ref c, ct, builtinsNs⟩ s.heap.objs.size G.take) := ⟨w7, q8, q9, q10⟩
    have T0 : TS s (callEnv ⟨name, qual, ⟨[], as, none, [], [], none, df⟩, .stmts takeBody, scope, mainGlobals, [], .none, kV, doc, pm, an, .ref c, ct, builtinsNs⟩ s.heap.objs.size G.take) a b ((N + 1 : Nat) : Int) none { s with heap := h₀, toks := s.toks + 2 } :=
      ⟨⟨_, hns, lookup_two.1, ⟨t, lookup_two.2⟩, fun f e => by cases e⟩, ⟨x, t0, y, u, n0, hkk _ _ ho1⟩, ⟨xs, n1, hkk _ _ ho2, hint, hsz⟩, fun c o _ _ e => hkk c o e, ⟨rfl, rfl, rfl⟩, hab, hLa, hLb, Heap.get?_none_of_le (Nat.le_refl _)⟩
    refine tk_body Z T0 ?_ (by omega) (by omega) fun f t' s' f0 f1 T' => ?_
    · have := H.units
      show A.units + 3 < 9900
      omega
    · have R' := Re.soft O hi hb hs hn ri rj T'.src T'.nums T'.keep T'.calm
      obtain ⟨m, rfl⟩ := Int.eq_ofNat_of_zero_le f0
      exact P s' m t' (by omega) R'
end
end Mine
end
section
set_option genInjectivity false
set_option genSizeOf false
set_option tactic.hygienic false
open PySem PySem.W PySem.Calls PyProof.Rows PySem.SeqAt
set_option maxRecDepth 100000
namespace Mine
section
variable {gd : Gd} {A : Around} {E : Value → Shared → Prop} {s : Shared} {env : Env} {m : Str → Option Value} {D : Addr} {items : Array Value}
set_option tactic.hygienic true in
theorem lw_assign {y : Str} {p1 p : Pos} {e : Expr} {Q : Flow → Shared → Prop} (hp : plainVal e = true)
    (h : wpAny (model gd.prog gd.w) A (eval e env) (fun v s' => wpAny (model gd.prog gd.w) A (storeName env y v) (fun _ s'' => Q .next s'') E s') E s) :
    wpAny (model gd.prog gd.w) A (exec (.Assign [.Name y p1] e p) env) Q E s := by
  rw [arm_exec_Assign]
  refine wpAny_bind (wpAny_standAt ?_)
  show wpAny _ A (swapsWith e (some (.Name y p1)) p.line env >>= _) Q E s
  rw [swaps_plain hp, swapped_none (t := .Name y p1) rfl]
  refine wpAny_bind (wpAny_pure ?_)
  rw [if_neg (by decide)]
  refine wpAny_bind (wpAny_mono h (fun v s' hv => ?_) fun _ _ z => z)
  refine wpAny_bind (wpAny_pure ?_)
  show wpAny _ A (assign (.Name y p1) env v >>= fun _ => pure .next) Q E s'
  exact wpAny_bind (wpAny_mono (wpAny_assign_Name hv) (fun _ _ z => wpAny_pure z) fun _ _ z => z)
theorem lw_list3 {e1 e2 e3 : Expr} {p : Pos} {Q : Value → Shared → Prop} (hp : plainArgs [e1, e2, e3] = true)
    (h : wpAny (model gd.prog gd.w) A (eval e1 env) (fun v1 s1 => wpAny (model gd.prog gd.w) A (eval e2 env) (fun v2 s2 => wpAny (model gd.prog gd.w) A (eval e3 env) (fun v3 s3 => Q (.ref s3.heap.objs.size) { s3 with heap := s3.heap.push { cls := .type "list", data := .seq #[v1, v2, v3] } }) E s2) E s1) E s) :
    wpAny (model gd.prog gd.w) A (eval (.List [e1, e2, e3] p) env) Q E s := by
  obtain ⟨a1, b1⟩ := starEach_plain (env := env) hp
  obtain ⟨a2, b2⟩ := starEach_plain (env := env) b1
  obtain ⟨a3, b3⟩ := starEach_plain (env := env) b2
  refine wpAny_List ?_
  rw [a1, a2, a3]
  show wpAny _ _ (spliced ((false, eval e1 env) :: (false, eval e2 env) :: (false, eval e3 env) :: [])) _ _ _
  refine spliced_cons (wpAny_mono h (fun v1 s1 h1 => ?_) fun _ _ z => z)
  refine spliced_cons (wpAny_mono h1 (fun v2 s2 h2 => ?_) fun _ _ z => z)
  refine spliced_cons (wpAny_mono h2 (fun v3 s3 h3 => ?_) fun _ _ z => z)
  exact spliced_nil ⟨by rw [sizeLine_eq]; show 3 ≤ _; omega, h3⟩
structure EnvL (gd : Gd) (env : Env) (m : Str → Option Value) (D : Addr) : Prop where
  k : env.scope.kind = .function
  g : env.globals = mainGlobals
  b : env.builtins = builtinsNs
  s : env.kindOf "script" = some .local
  l : env.kindOf "list" = some .globalImplicit
  u : env.kindOf "sum" = some .globalImplicit
  v : m "script" = some (.ref D)
  hl : nsIn gd.K mainGlobals "list" = some none ∧ nsIn gd.K builtinsNs "list" = some (some (.type "list"))
  hu : nsIn gd.K mainGlobals "sum" = some none ∧ nsIn gd.K builtinsNs "sum" = some (some (.builtin "sum"))
  ng : nsOkIn gd.K mainGlobals = true
  nb : nsOkIn gd.K builtinsNs = true
variable (Z : EnvL gd env m D)
include Z
theorem lw_name {x : Str} {p : Pos} {v : Value} {Q : Value → Shared → Prop} (X : gd.K.In s.heap) (hk : env.kindOf x = some .globalImplicit) (hv : nsIn gd.K mainGlobals x = some none ∧ nsIn gd.K builtinsNs x = some (some v)) (hd : (x == ("__debug__" : Str)) = false) (h : Q v s) :
    wpAny (model gd.prog gd.w) A (eval (.Name x p) env) Q E s := by
  have G : s.heap.Ns mainGlobals (s.heap.nsMap mainGlobals) := .of_isNs (isNs_of_in X Z.ng)
  have B : s.heap.Ns builtinsNs (s.heap.nsMap builtinsNs) := .of_isNs (isNs_of_in X Z.nb)
  exact Name_function_global Z.k hk (loadGlobal_builtin (by rw [Z.g]; exact G) (ns_none_of X G hv.1) (by rw [Z.b]; exact B) (ns_some_of X B hv.2) h) hd
theorem lw_slice {p1 p2 p3 p4 : Pos} {c : Nat} {Q : Value → Shared → Prop} (hn : s.heap.Ns env.locals m) (hl : s.heap.IsList D items) (hs : items.size ≤ 1000)
    (h : ∀ h' tk, (∀ b o, s.heap.get? b = some o → h'.get? b = some o) → ∀ a, s.heap.objs.size ≤ a → h'.get? a = some { cls := .type "list", data := .seq (items.toList.take 40).toArray } → Q (.ref a) { s with heap := h', toks := tk }) :
    wpAny (model gd.prog gd.w) A (eval (.Subscript (.Name "script" p1) (.Slice none (some (.Constant (.int 40) c p2)) none p3) p4) env) Q E s := by
  refine Subscript_ (wpAny_Name (wpAny_loadName_local Z.k Z.s hn Z.v ?_) (by decide +kernel))
  rw [arm_eval_Slice]
  have e : valueOrNone (evalOpt (none : Option Expr) env) = pure .none := rfl
  rw [e]
  refine wpAny_bind (wpAny_pure ?_)
  refine wpAny_bind (wpAny_holding ?_)
  show wpAny _ _ (eval (.Constant (.int 40) c p2) env) _ _ _
  refine wpAny_Constant_int ?_
  refine wpAny_bind (wpAny_holding (wpAny_pure ?_))
  unfold newFields
  refine wpAny_newObj_type ?_ (by size_fits)
  have k : ∀ b o, s.heap.get? b = some o → (s.heap.push { cls := .type "slice", data := .fields ([.none, .int 40 s.toks, .none] : List Value).toArray }).get? b = some o := fun b o e => Heap.get?_push_of_some _ e
  have hl1 : (s.heap.push { cls := .type "slice", data := .fields ([.none, .int 40 s.toks, .none] : List Value).toArray }).IsList D items := let ⟨o, e, r⟩ := hl; ⟨o, k _ _ e, r⟩
  refine tail_any (ops := [.ref s.heap.objs.size, .ref D]) hl1.typeIs slot_list_getitem.lookup (wpAny_getItem_list_slice hl1 (sl := s.heap.objs.size) (vl := .none) (vu := .int 40 s.toks) (vs := .none) ⟨_, Heap.get?_push_size _ rfl, rfl, rfl⟩ .none (.int _ _) .none (by simp) ?_ (by rw [sizeLine_eq]; omega)) rfl
  have e : slicePick items none (some ((40 : Nat) : Int)) none = (items.toList.take 40).toArray := slicePick_upto' items 40
  have e' : slicePick items none (some 40) none = (items.toList.take 40).toArray := e
  rw [e']
  refine h _ _ (fun b o e => Heap.get?_push_of_some _ (k b o e)) _ ?_ (Heap.get?_push_size _ rfl)
  show s.heap.objs.size ≤ (s.heap.push _).objs.size
  rw [Heap.size_push]; exact Nat.le_succ _
theorem lw_list {p1 p2 p3 p4 p5 p6 : Pos} {c : Nat} {Q : Value → Shared → Prop} (X : gd.K.In s.heap) (hn : s.heap.Ns env.locals m) (hl : s.heap.IsList D items) (hs : items.size ≤ 1000)
    (h : ∀ h' tk n, (∀ b o, s.heap.get? b = some o → h'.get? b = some o) → ∀ a, s.heap.objs.size ≤ a → h'.get? a = some ⟨.type "list", none, .seq (items.toList.take 40).toArray n, #[]⟩ → Q (.ref a) { s with heap := h', toks := tk }) :
    wpAny (model gd.prog gd.w) A (eval (.Call (.Name "list" p5) [.Subscript (.Name "script" p1) (.Slice none (some (.Constant (.int 40) c p2)) none p3) p4] [] p6) env) Q E s := by
  rw [eval_Call_plain (fun _ _ _ q => by cases q)]
  refine wpAny_bind (lw_name Z X Z.l Z.hl (by decide +kernel) ?_)
  refine callWith_list (g := gd) (es := [.Subscript (.Name "script" p1) (.Slice none (some (.Constant (.int 40) c p2)) none p3) p4]) rfl ?_
  show wpAny _ _ (spliced ((false, eval (.Subscript (.Name "script" p1) (.Slice none (some (.Constant (.int 40) c p2)) none p3) p4) env) :: [])) _ _ _
  refine spliced_cons (lw_slice Z hn hl hs fun h₁ tk hk a ha ho => spliced_nil ⟨keep_bi (b := 1) rfl, ?_⟩)
  refine call_list_seq a (.inl rfl) ho rfl rfl (fun h' c' hk' hD => ?_) (by rw [List.size_toArray, List.length_take, sizeLine_eq]; omega)
  have hsz : s.heap.objs.size ≤ h₁.objs.size := Nat.le_of_lt (Nat.lt_of_le_of_lt ha (Heap.lt_size ho))
  exact h h' tk c' (fun b o e => hk' b o (hk b o e)) _ hsz hD
theorem lw_total {p1 p2 p3 p4 p5 p6 p7 p8 p9 p10 : Pos} {c c1 c2 : Nat} {Q : Value → Shared → Prop} (X : gd.K.In s.heap) (hh : A.handled = none) (hn : s.heap.Ns env.locals m) (hl : s.heap.IsList D items) (hs : items.size ≤ 1000) (hi : ∀ v ∈ items.toList, ∃ x t, v = .int x t)
    (h : ∀ h' tk x t, (∀ b o, s.heap.get? b = some o → h'.get? b = some o) → Q (.int x t) { s with heap := h', toks := tk }) :
    wpAny (model gd.prog gd.w) A (eval (.BinOp (.Constant (.int 1) c1 p7) .Add (.BinOp (.Call (.Name "sum" p5) [.Subscript (.Name "script" p1) (.Slice none (some (.Constant (.int 40) c p2)) none p3) p4] [] p6) .Mod (.Constant (.int 9973) c2 p8) p9) p10) env) Q E s := by
  refine wpAny_BinOp (wpAny_Constant_int (wpAny_BinOp ?_))
  have X1 : gd.K.In ({ s with toks := s.toks + 1 } : Shared).heap := X
  rw [eval_Call_plain (fun _ _ _ q => by cases q)]
  refine wpAny_bind (lw_name Z X1 Z.u Z.hu (by decide +kernel) ?_)
  refine callWith_list (g := gd) (es := [.Subscript (.Name "script" p1) (.Slice none (some (.Constant (.int 40) c p2)) none p3) p4]) rfl ?_
  show wpAny _ _ (spliced ((false, eval (.Subscript (.Name "script" p1) (.Slice none (some (.Constant (.int 40) c p2)) none p3) p4) env) :: [])) _ _ _
  refine spliced_cons (lw_slice Z (s := { s with toks := s.toks + 1 }) hn hl hs fun h₁ tk hk a ha ho => spliced_nil ⟨?_, ?_⟩)
  · exact ⟨_, .inr (.inl rfl), Looks.of_pure (by kernel_rfl)⟩
  obtain ⟨xs, hxs⟩ := AllInts.items (vs := (items.toList.take 40).toArray) fun v hv => hi v (List.mem_of_mem_take (by simpa using hv))
  refine sum_intListG (xs := xs) hh ⟨_, ho, rfl, 0, by rw [← hxs]⟩ fun h₂ tk2 t2 hk2 => ?_
  refine wpAny_Constant_int (AutoIntOps.mod_1 (by decide) (AutoIntOps.add_0 ?_))
  exact h _ _ _ _ fun b o e => hk2 b o (hk b o e)
theorem lw_source {p1 p2 p3 p4 p5 p6 q1 q2 q3 q4 q5 q6 p7 p8 p9 p10 p11 p12 : Pos} {c c0 c1 c2 d : Nat} {Q : Value → Shared → Prop} (X : gd.K.In s.heap) (hh : A.handled = none) (hn : s.heap.Ns env.locals m) (hl : s.heap.IsList D items) (hs : items.size ≤ 1000) (hi : ∀ v ∈ items.toList, ∃ x t, v = .int x t)
    (h : ∀ (h' : Heap) tk a n x t y u, (∀ b o, s.heap.get? b = some o → h'.get? b = some o) → s.heap.objs.size ≤ a → h'.get? a = some ⟨.type "list", none, .seq (items.toList.take 40).toArray n, #[]⟩ →
      Q (.ref h'.objs.size) { s with heap := h'.push { cls := .type "list", data := .seq #[.ref a, .int x t, .int y u] }, toks := tk }) :
    wpAny (model gd.prog gd.w) A (eval (.List [.Call (.Name "list" p5) [.Subscript (.Name "script" p1) (.Slice none (some (.Constant (.int 40) c p2)) none p3) p4] [] p6, .Constant (.int 0) c0 p11,
      .BinOp (.Constant (.int 1) c1 p7) .Add (.BinOp (.Call (.Name "sum" q5) [.Subscript (.Name "script" q1) (.Slice none (some (.Constant (.int 40) d q2)) none q3) q4] [] q6) .Mod (.Constant (.int 9973) c2 p8) p9) p10] p12) env) Q E s := by
  refine lw_list3 rfl (lw_list Z X hn hl hs fun h₁ tk n hk a ha ho => wpAny_Constant_int ?_)
  have hn1 : h₁.Ns env.locals m := hn.keeps hk
  have hl1 : h₁.IsList D items := let ⟨o, e, r⟩ := hl; ⟨o, hk _ _ e, r⟩
  refine lw_total Z (s := { s with heap := h₁, toks := tk + 1 }) (X.keeps hk) hh hn1 hl1 hs hi fun h₂ tk2 x t hk2 => ?_
  exact h h₂ tk2 a n 0 _ x t (fun b o e => hk2 b o (hk b o e)) ha (hk2 _ _ ho)
end
end Mine
end
section
set_option genInjectivity false
set_option genSizeOf false
set_option tactic.hygienic false
open PySem PySem.W PySem.Calls PyProof.Rows PySem.SeqAt
set_option maxRecDepth 100000
namespace Mine
noncomputable def srcStep (SRC SCR D : Nat) (st : St) (kk : St → Bool) : Bool := match st.hd, st.get st.loc with
  | false, some (.ns fs) => match look fs SCR with
    | some (.fn d) => match Nat.beq d D with
      | true => storeCel SRC (.ref (st.nx + 1)) ((st.new .nums).new (.src st.nx)) fun st2 => match st2.get st2.loc with
        | some (.ns _) => st2.wr st2.loc (.ns []) kk
        | _ => false
      | false => false
    | _ => false
  | _, _ => false
noncomputable def lawRn (st1 : St) (SRC SCR D : Nat) : Rn := ⟨fun _ _ _ _ => false, fun _ _ _ _ => false, fun b st k _ => match b with | _ :: _ => srcStep SRC SCR D st fun st2 => @decide (st2 = st1 ∧ ∀ st', k (.ret (.bool true)) st' = true) (Classical.propDecidable _) | [] => false, fun _ _ _ _ _ => false, fun _ _ _ _ _ => false, fun _ _ _ _ _ _ _ => false, fun _ _ _ _ _ _ _ _ => false⟩
noncomputable def RestOk (g : Gd) (clo : CloP) (n m : Nat) (cx : Cx) (st1 : St) : Prop := ∀ A F env L ρ σ s Q E, Here g n cx A F env L → EnvS g ρ st1 env → Hnd A ρ st1 → Rel g clo F ρ σ st1 s →
  (∀ ρ' σ' st' s', Ext ρ σ st1 ρ' σ' st' → Rel g clo F ρ' σ' st' s' → Q (.ret (.bool true)) s') → wpAny (model g.prog g.w) A (execs (lawBody.drop 1) env) Q E s
section
variable {g : Gd} {clo : CloP}
set_option tactic.hygienic true in
theorem storeCel_nm (O : g.Ok) {F ρ σ st} {s : Shared} {A : Around} {E : Value → Shared → Prop} {cx : Cx} {env : Env} {L : Addr} {n : Nat} (H : Here g n cx A F env L) (V : EnvS g ρ st env) {x : Str} {i : Nat} {v : AV} {u : Value} {k : St → Bool} {Q : Unit → Shared → Prop} (Re : Rel g clo F ρ σ st s)
    (hk : cx.kinds.lookup x = some .cell) (hi : g.nm i = x) (h : storeCel i v st k = true) (hv : VR ρ σ v u) (P : Post0 g clo F ρ σ st k Q) : wpAny (model g.prog g.w) A (storeName env x u) Q E s := by
  unfold storeCel at h
  split at h
  · rename_i c hc
    split at h
    · rename_i w hf
      obtain ⟨hro, hk'⟩ := wr_true h
      obtain ⟨a, ha, hl⟩ := V.cel i c hc
      rw [hi] at hl
      obtain ⟨o, ho, u', hd, hr⟩ := Re.at hf ha
      refine wpAny_storeName_cell H.kind (H.ce1 x hk) hl ⟨o, ho, hd⟩ (fun h' hn hs => ?_)
      obtain ⟨o', ho', hd'⟩ := hn
      exact P _ _ _ _ (Ext.put' hf (fun _ _ e => by first | exact Ob.noConfusion e | cases e)) (Re.same O ha hf hro hs ho' (b := .cell (some v)) ⟨some u, hd', hv⟩ (fun e => by cases e) (fun _ _ e => by first | exact Ob.noConfusion e | cases e) _) hk'
    · first | exact no_tt h | exact no_ns h | induction h
  · first | exact no_tt h | exact no_ns h | induction h
set_option tactic.hygienic true in
theorem law_sndB (O : g.Ok) {st1 : St} {n m : Nat} {cx : Cx} (S : RestOk g clo n m cx st1) {SRC SCR D : Nat} (n1 : g.nm SRC = "source") (n2 : g.nm SCR = "script") (k1 : cx.kinds.lookup ("script" : Str) = some .local) (k2 : cx.kinds.lookup ("list" : Str) = some .globalImplicit) (k3 : cx.kinds.lookup ("sum" : Str) = some .globalImplicit) (k4 : cx.kinds.lookup ("source" : Str) = some .cell)
    (hl : nsIn g.K mainGlobals "list" = some none ∧ nsIn g.K builtinsNs "list" = some (some (.type "list"))) (hu : nsIn g.K mainGlobals "sum" = some none ∧ nsIn g.K builtinsNs "sum" = some (some (.builtin "sum")))
    {oD : Obj} {items : Array Value} {nD : Nat} (d1 : g.B.get? D = some oD) (d2 : oD.cls = .type "list") (d3 : oD.data = .seq items nD) (d4 : items.size ≤ 1000) (d5 : ∀ v ∈ items.toList, ∃ x t, v = .int x t) : SndB g clo (lawRn st1 SRC SCR D) n m cx lawBody := by
  intro A F env L ρ σ st s k x Q E H V Hd Re h P X
  change srcStep SRC SCR D st (fun st2 => @decide (st2 = st1 ∧ ∀ st', k (.ret (.bool true)) st' = true) (Classical.propDecidable _)) = true at h
  unfold srcStep at h
  split at h
  · rename_i fs hhd hfs
    split at h
    · rename_i d hd
      split at h
      · rename_i hq
        have hq := Nat.eq_of_beq_eq_true hq
        subst hq
        obtain ⟨mm, hns, hlk⟩ := Re.ns hfs V.loc
        obtain ⟨u, e1, e2⟩ := hlk _ _ hd
        cases e2
        rw [n2] at e1
        have Z : EnvL g env mm d := ⟨H.kind, H.glo, H.bui, H.loc _ k1, H.gim _ k2, H.gim _ k3, e1, hl, hu, O.ng, O.nb⟩
        have hDs : s.heap.get? d = some oD := Re.old.get_of_cls d1 (by rw [d2]; intro q; cases q)
        have hL : s.heap.IsList d items := ⟨oD, hDs, d2, nD, d3⟩
        change wpAny (model g.prog g.w) A (execs (?first :: lawBody.drop 1) env) Q E s
        refine wpAny_execs_cons (lw_assign rfl (lw_source Z Re.stat (Hd.none hhd) hns hL d4 d5 fun h' tk a n0 x0 t0 y0 u0 hk ha ho => ?_))
        have hn0 : s.heap.get? a = none := Heap.get?_none_of_le ha
        have hBa : g.B.objs.size ≤ a := Nat.le_trans (Re.big O) ha
        have R1 := Re.new (s' := { s with heap := h', toks := tk }) (b := .nums) hn0 hBa hk ho ⟨_, n0, rfl, fun v hv => d5 v (List.mem_of_mem_take (by simpa using hv)), by
          show (items.toList.take 40).toArray.size ≤ 1000
          rw [List.size_toArray, List.length_take]; omega⟩ ⟨rfl, rfl, rfl⟩ (fun _ _ e => by first | exact Ob.noConfusion e | induction e)
        have x1 := Re.extNew .nums a
        have R2 := R1.pushO O (b := .src st.nx) (o := { cls := .type "list", data := .seq #[.ref a, .int x0 t0, .int y0 u0] }) rfl ⟨a, x0, t0, y0, u0, 0, getElem?_push_last ρ a Re.len, rfl⟩ (fun _ _ e => by first | exact Ob.noConfusion e | induction e) tk
        have x2 := R1.extNew (.src st.nx) h'.objs.size
        have x12 := x1.trans x2
        refine storeCel_nm O H (V.ext x12) R2 k4 n1 h ⟨_, getElem?_push_last _ _ R1.len, rfl⟩ ?_
        intro ρ₃ σ₃ st₃ s₃ x3 R3 h3
        dsimp only at h3
        split at h3
        · rename_i fs3 hfs3
          obtain ⟨hro, h4⟩ := wr_true h3
          have V3 := V.ext (x12.trans x3)
          obtain ⟨o3, ho3, es, ep, g1, g2, _⟩ := R3.at hfs3 V3.loc
          have R4 := R3.wr (s' := s₃) O (b := .ns []) V3.loc hro (extBut_refl _ _) ho3 ⟨es, ep, g1, g2, fun y v e => by cases e⟩ hfs3 (fun _ => rfl) ⟨rfl, rfl, rfl⟩ (fun _ _ e => by first | exact Ob.noConfusion e | cases e)
          have x4 : Ext ρ₃ σ₃ st₃ ρ₃ σ₃ (st₃.put st₃.loc (.ns [])) := Ext.put' hfs3 (fun _ _ e => by first | exact Ob.noConfusion e | induction e)
          have xx := (x12.trans x3).trans x4
          obtain ⟨e1, e2⟩ := @of_decide_eq_true _ (Classical.propDecidable _) h4
          subst e1
          exact S A F env L _ _ _ _ _ H (V.ext xx) (Hd.ext xx) R4 fun ρ' σ' st' s' x' R' => P _ _ _ _ (.ret (.bool true)) _ (xx.trans x') R' ⟨_, rfl, rfl⟩ (e2 st')
        · first | exact no_tt h3 | exact no_ns h3 | induction h3
      · first | exact no_tt h | exact no_ns h | induction h
    · first | exact no_tt h | exact no_ns h | induction h
  · first | exact no_tt h | exact no_ns h | induction h
end
end Mine
end
section
set_option genInjectivity false
set_option genSizeOf false
set_option tactic.hygienic false
open PySem PySem.W PySem.Calls PyProof.Rows PySem.SeqAt
set_option maxRecDepth 100000
namespace Mine
noncomputable def stI : St := ⟨.nil, 0, 0, 0, 0, 0, [], false, none⟩
noncomputable def kTrue : KV := fun v _ => match v with | .bool b => b | _ => false
section
variable {g : Gd}
theorem rel_start (O : g.Ok) (hK : g.K.In g.B) (hs : g.s1.heap = g.B) (ht : g.B.get? g.tP = some ⟨.none, none, .fields #[], #[]⟩) : Rel g (theClo g) [] [] [] stI g.s1 :=
  ⟨rfl, rfl, fun x hx => (nomatch hx), fun i b e => (by cases e), fun i j a b b' e => (by cases e), fun i a b e => (by cases e), fun i C d a e => (by cases e), fun a ha => (nomatch ha), by rw [hs]; exact hK, by rw [hs]; exact .refl _, rfl, rfl, rfl, by show g.s1.heap.get? g.tP = _; rw [hs]; exact ht⟩
theorem room_start {n : Nat} (hn : n ≤ 200) : Room n callerA [] := ⟨by show 1 + 300 + 1 + 2 * n ≤ 900; omega, by show 4 + 3 + 40 * n ≤ 9000; omega, [], rfl, rfl, fun x hx => (nomatch hx)⟩
set_option tactic.hygienic true in
theorem law_call (O : g.Ok) {n : Nat} (hn : n ≤ 200) (hK : g.K.In g.B) (hs : g.s1.heap = g.B) (ht : g.B.get? g.tP = some ⟨.none, none, .fields #[], #[]⟩) {a : Addr} {f : Fn} (FO : FnOk g a f) (hc : lawChk g.K a = true) (hb : textIn g.K a = some lawBody)
    {SRC SCR : Nat} (n1 : g.nm SRC = "source") (n2 : g.nm SCR = "script") {st1 : St} (hR : ∀ cx m, CxOk g cx → f.body = lawBody.map (compS m cx) → RestOk g (theClo g) n m cx st1)
    {D : Addr} {oD : Obj} {items : Array Value} {nD : Nat} (d1 : g.B.get? D = some oD) (d2 : oD.cls = .type "list") (d3 : oD.data = .seq items nD) (d4 : items.size ≤ 1000) (d5 : ∀ v ∈ items.toList, ∃ x t, v = .int x t)
    (h : enter (lawRn st1 SRC SCR D) f [] [.fn D] stI kTrue noX = true) :
    wpAny (model g.prog g.w) callerA (call (.ref a) [.ref D]) (fun v s' => v = .bool true ∧ ∃ ρ σ st, Rel g (theClo g) [] ρ σ st s') (fun _ _ => False) g.s1 := by
  obtain ⟨cx, m, d, sl, name, qual, params, body, scope, dV, kV, doc, pm, an, c, ct, q1, q2, q3, q4, q5, q6, q7, q8⟩ := FO.ex
  unfold lawChk at hc
  unfold textIn at hb
  rw [q2] at hc hb
  cases hb
  simp only [Bool.and_eq_true, beq_iff_eq] at hc
  obtain ⟨⟨⟨⟨⟨⟨⟨c1, c2⟩, c3⟩, c4⟩, c5⟩, c6⟩, c7⟩, c8⟩ := hc
  have c5 := isNo_ok c5
  have c6 := isNo_ok c6
  have c8 := isBu_ok c8
  have c7' : nsIn g.K builtinsNs "list" = some (some (.type "list")) := by
    split at c7
    · rename_i q; rw [q, eq_of_beq c7]
    · first | exact no_tt c7 | exact no_ns c7 | induction c7
  have hkn := q1.kinds
  dsimp only at hkn
  have SB : SndB g (theClo g) (lawRn st1 SRC SCR D) n m cx lawBody := law_sndB O (hR cx m q1.cok q1.body) n1 n2 (by rw [hkn]; exact c1) (by rw [hkn]; exact c2) (by rw [hkn]; exact c3) (by rw [hkn]; exact c4) ⟨c5, c7'⟩ ⟨c6, c8⟩ d1 d2 d3 d4 d5
  have Re := rel_start O hK hs ht
  refine wpAny_call ?_
  refine snd_enterCells O SB q1 q5 q6 q7 q8 (room_start hn) (.inl rfl) Re (Re.stat _ _ q2) (codeRec_of Re.stat q3) q4 (args := [.fn D]) (vs := [.ref D]) ⟨rfl, trivial⟩ h ?_ PostX.no
  intro ρ' σ' st' s' v u e R' hv hk
  unfold kTrue at hk
  split at hk
  · first | exact no_tt hv | exact no_ns hv | cases hv
    subst hk
    exact ⟨rfl, ρ', σ', st', R'⟩
  · first | exact no_tt hk | exact no_ns hk | induction hk
end
end Mine
end
section
set_option genInjectivity false
set_option genSizeOf false
set_option tactic.hygienic false
open PySem PySem.W
set_option maxRecDepth 1000000
set_option Elab.async false
namespace Mine
noncomputable def eqL' {α : Type} (f : α → α → Bool) : List α → List α → Bool
  | [], [] => true
  | a :: r, b :: q => match f a b with | true => eqL' f r q | false => false
  | _, _ => false
noncomputable def eqAV : AV → AV → Bool
  | .none, .none => true
  | .bool a, .bool b => eqB a b
  | .int a, .int b => eqI a b
  | .str a, .str b => eqN a b
  | .ref a, .ref b => Nat.beq a b
  | .fn a, .fn b => Nat.beq a b
  | .bi a, .bi b => Nat.beq a b
  | .opt a, .opt b => Nat.beq a b
  | .anyi, .anyi => true
  | _, _ => false
noncomputable def eqNA (p q : Nat × AV) : Bool := match Nat.beq p.1 q.1 with | true => eqAV p.2 q.2 | false => false
noncomputable def eqKA (p q : List Nat × AV) : Bool := match eqN p.1 q.1 with | true => eqAV p.2 q.2 | false => false
noncomputable def eqOb : Ob → Ob → Bool
  | .inst C d, .inst C' d' => match Nat.beq C C' with | true => Nat.beq d d' | false => false
  | .idict a, .idict b => eqL' eqNA a b
  | .list a, .list b => eqL' eqAV a b
  | .tup a, .tup b => eqL' eqAV a b
  | .dict a m, .dict b n => match Nat.beq m n with | true => eqL' eqKA a b | false => false
  | .ns a, .ns b => eqL' eqNA a b
  | .cell none, .cell none => true
  | .cell (some a), .cell (some b) => eqAV a b
  | .itL a m, .itL b n => match Nat.beq a b with | true => Nat.beq m n | false => false
  | .src a, .src b => Nat.beq a b
  | .nums, .nums => true
  | .range a b, .range c d => match eqI a c with | true => eqI b d | false => false
  | _, _ => false
noncomputable def eqOO : Option Ob → Option Ob → Bool
  | none, none => true
  | some a, some b => eqOb a b
  | _, _ => false
noncomputable def refD : Option AV → Option Ix
  | some (.ref i) => some i
  | _ => none
noncomputable def locD (s : St) (x : Nat) : Option AV := match s.get s.loc with | some (.ns fs) => look fs x | _ => none
noncomputable def gIx (s : St) : Option Ix := match refD (locD s 14) with
  | some i => match refD (fieldOf PP.G s i 88) with
    | some e => refD (fieldOf PP.G s e 17)
    | none => none
  | none => none
noncomputable def celD (s : St) (x : Nat) : Option Ix := match lookI s.cel x with
  | some c => match s.get c with | some (.cell (some (.ref r))) => some r | _ => none
  | none => none
noncomputable def fdot (p : List Nat) : List Nat := 102 :: 46 :: p
noncomputable def toldP : List Nat × List S := match f1036.body with
  | .defc _ ps b _ :: _ => (ps, b)
  | _ => ([], [])
noncomputable def bltF (nm : List Nat) (c : Ix) : List (Nat × AV) := [(10, .str [98, 117, 105, 108, 116, 105, 110]), (5, .str nm), (35, .bool false), (38, .ref c), (22, .str []), (6, .none)]
noncomputable def addM (K : Ix) : List (List Nat × Bool) → St → List (List Nat × AV) → St × List (List Nat × AV)
  | [], s, l => (s, l)
  | (_, false) :: r, s, l => addM K r s l
  | (p, true) :: r, s, l =>
    addM K r ((((s.new (.cell (some (.str (fdot p))))).new (.clo toldP.1 toldP.2 [(5, s.nx)] K)).new (.idict (bltF (fdot p) (s.nx + 1)))).new (.inst 331 (s.nx + 2))) ((fdot p, .ref (s.nx + 3)) :: l)
noncomputable def insOf : List (List Nat × Bool) → List (List Nat)
  | [] => []
  | (p, true) :: r => p :: insOf r
  | (_, false) :: r => insOf r
noncomputable def outsOf : List (List Nat × Bool) → List (List Nat)
  | [] => []
  | (p, false) :: r => p :: outsOf r
  | (_, true) :: r => outsOf r
noncomputable def txtDefault : List Nat := [100, 101, 102, 97, 117, 108, 116]
noncomputable def txtUse : List Nat := [85, 115, 101, 77, 101, 116, 104, 111, 100]
noncomputable def bits : Nat → List (List Bool)
  | 0 => [[]]
  | n + 1 => (bits n).map (true :: ·) ++ (bits n).map (false :: ·)
noncomputable def textOf : AV → Option (List Nat)
  | .str p => some p
  | _ => none
noncomputable def textsOf : List AV → Option (List (List Nat))
  | [] => some []
  | a :: r => match textOf a, textsOf r with | some p, some l => some (p :: l) | _, _ => none
noncomputable def dedup : List (List Nat) → List (List Nat)
  | [] => []
  | a :: r => match memN r a with | true => dedup r | false => a :: dedup r
noncomputable def R200 : Rn := run PP.G 200
noncomputable def bodyA : List S := (f1041.body.drop 1).take 9
noncomputable def bodyL : List S := (f1041.body.drop 10).take 1
noncomputable def bodyC : List S := f1041.body.drop 11
noncomputable def kC : Fl → St → Bool := fun fl _ => match fl with | .ret (.bool b) => b | _ => false
noncomputable def kN (k : St → Bool) : Fl → St → Bool := fun fl s => match fl with | .next => k s | _ => false
noncomputable def eqE : Nat → E → E → Bool
  | 0, _, _ => false
  | n + 1, a, b => match a, b with
    | .k v, .k w => eqAV v w
    | .cel x, .cel y => Nat.beq x y
    | .call f as, .call g bs => match eqE n f g with | true => eqL' (eqE n) as bs | false => false
    | .list as, .list bs => eqL' (eqE n) as bs
    | _, _ => false
noncomputable def eqS (a b : S) : Bool := match a, b with
  | .ret a, .ret b => eqE 9 a b
  | _, _ => false
noncomputable def mkTr : List (Nat × Ob) → Tr
  | [] => .nil
  | (i, b) :: r => (mkTr r).set i b
structure LeafD where
  L : List (Nat × Ob)
  nx : Nat
  sy : Nat
  g : Ix
  r : Ix
  kv : List (List Nat × AV)
  fs : List (Nat × AV)
  ts : List (List Nat)
noncomputable def celL : List (Nat × Ix) := [(83, 3), (23, 2), (76, 1)]
noncomputable def LeafD.st (d : LeafD) : St := ⟨mkTr d.L, d.nx, d.sy, 0, 0, 0, celL, false, none⟩
noncomputable def allIn (f : Nat → Option Ob) : List (Nat × Ob) → Bool
  | [] => true
  | (i, b) :: r => match eqOO (f i) (some b) with | true => allIn f r | false => false
noncomputable def isLeaf (d : LeafD) (l : St) : Bool := allIn l.get d.L && Nat.beq l.nx d.nx && Nat.beq l.sy d.sy && Nat.beq l.lo 0 && Nat.beq l.hi 0 && (match l.tb with | none => true | some _ => false)
noncomputable def refV (n : Nat) : AV → Bool
  | .ref i => Nat.blt i n
  | _ => true
noncomputable def refs (n : Nat) : List AV → Bool
  | [] => true
  | a :: r => match refV n a with | true => refs n r | false => false
noncomputable def refN (n : Nat) : List (Nat × AV) → Bool
  | [] => true
  | a :: r => match refV n a.2 with | true => refN n r | false => false
noncomputable def refK (n : Nat) : List (List Nat × AV) → Bool
  | [] => true
  | a :: r => match refV n a.2 with | true => refK n r | false => false
noncomputable def refB (n : Nat) : Ob → Bool
  | .inst _ d => Nat.blt d n
  | .idict a => refN n a
  | .list a => refs n a
  | .tup a => refs n a
  | .dict a _ => refK n a
  | .ns a => refN n a
  | .cell none => true
  | .cell (some a) => refV n a
  | .src j => Nat.blt j n
  | .nums => true
  | _ => false
noncomputable def symB (n : Nat) : List Nat → Bool
  | [] => true
  | c :: r => match Nat.blt c 1114112 || Nat.blt (c - 1114112) n with | true => symB n r | false => false
noncomputable def kvKey : List Nat → Bool
  | 102 :: 46 :: _ => false
  | p => lowP p && !(eqN p txtUse)
noncomputable def kvKeys : List (List Nat × AV) → Bool
  | [] => true
  | a :: r => match kvKey a.1 with | true => kvKeys r | false => false
noncomputable def leafL (n g r : Nat) : List (Nat × Ob) → Bool
  | [] => true
  | (i, b) :: q => match Nat.blt i n && (Nat.beq i g || refB n b) with | true => leafL n g r q | false => false
noncomputable def leafChk (d : LeafD) : Bool := leafL d.nx d.g d.r d.L && refK d.nx d.kv && refN d.nx d.fs && kvKeys d.kv && d.ts.all (symB d.sy) && !(Nat.beq d.g d.r) && !(Nat.beq d.g 0) && !(Nat.beq d.r 0) && Nat.blt d.g d.nx && Nat.blt d.r d.nx && Nat.blt 0 d.nx &&
  (match d.st.get d.g with | some (.dict kv _) => eqL' eqKA kv d.kv | _ => false) && (match d.st.get d.r with | some (.list []) => true | _ => false) && (match d.st.get 0 with | some (.ns fs) => eqL' eqNA fs d.fs | _ => false)
noncomputable def objChk (e : St) (n0 k0 : Nat) (n : List Nat) (j : Ix) : Bool := match e.get j with
  | some (.inst C d) => match Nat.beq C 331 && Nat.ble n0 j && Nat.ble n0 d, e.get d with
    | true, some (.idict fs) => match look fs 38 with
      | some (.ref c) => match eqL' eqNA fs (bltF (fdot n) c) && Nat.ble n0 c, e.get c with
        | true, some (.clo ps b [(x, cc)] k) => match Nat.beq x 5 && Nat.ble n0 cc && Nat.beq k k0 && eqN ps toldP.1 && eqL' eqS b toldP.2, e.get cc with
          | true, some (.cell (some (.str q))) => eqN q (fdot n)
          | _, _ => false
        | _, _ => false
      | _ => false
    | _, _ => false
  | _ => false
noncomputable def newChk (e : St) (n0 k0 : Nat) : List (List Nat × AV) → List AV → Bool
  | [], [] => true
  | (p, .ref j) :: r, .str n :: q => match eqN p (fdot n) && objChk e n0 k0 n j with | true => newChk e n0 k0 r q | false => false
  | _, _ => false
noncomputable def nsSub (fs : List (Nat × AV)) : List (Nat × AV) → Bool
  | [] => true
  | (x, v) :: r => match look fs x with
    | some w => match eqAV w v with | true => nsSub fs r | false => false
    | none => false
noncomputable def tbOf (e : St) (rs : List AV) : Option Nat := match e.tb with
  | some k => match e.get k with | some .code => some k | _ => none
  | none => match rs with | [] => some 0 | _ => none
noncomputable def sameIn (e : St) (g r : Nat) : List (Nat × Ob) → Bool
  | [] => true
  | (i, b) :: q => match Nat.beq i g || Nat.beq i r || Nat.beq i 0 || eqOO (e.get i) (some b) with | true => sameIn e g r q | false => false
noncomputable def endOk (d : LeafD) (e : St) : Bool := match e.get d.g, e.get d.r, e.get 0 with
  | some (.dict kve _), some (.list rs), some (.ns fe) => match tbOf e rs with
    | some k0 => eqL' eqKA (kve.take d.kv.length) d.kv && newChk e d.nx k0 (kve.drop d.kv.length) rs && nsSub fe (putA d.fs 5 (.str txtDefault)) && sameIn e d.g d.r d.L && Nat.beq e.sy d.sy && Nat.beq e.lo 0 && Nat.beq e.hi 0 && (match rs with | [] => true | _ => Nat.ble d.nx k0)
    | none => false
  | _, _, _ => false
noncomputable def anyT : List (List Nat × Bool) → Bool
  | [] => false
  | (_, true) :: _ => true
  | (_, false) :: r => anyT r
noncomputable def LeafD.base (d : LeafD) (t : Bool) : St := match t with
  | true => d.st.new .code
  | false => ⟨mkTr d.L, d.nx + 1, d.sy, 0, 0, 0, celL, false, none⟩
noncomputable def LeafD.ab (d : LeafD) (keys : List (List Nat × Bool)) : St := match addM d.nx keys (d.base (anyT keys)) d.kv with
  | (s, kv') => ⟨((s.hp.set d.g (.pdict kv' (txtUse :: (outsOf keys).map fdot))).set d.r (.lset (insOf keys) (outsOf keys))).set 0 (.ns (putA d.fs 5 (.str txtDefault))), s.nx, s.sy, d.nx, s.nx, 0, celL, false, some TB0⟩
noncomputable def LeafD.keys (d : LeafD) (bs : List Bool) : List (List Nat × Bool) := (d.ts ++ [txtDefault]).zip bs
noncomputable def LeafD.c (d : LeafD) (bs : List Bool) : Bool := R200.exs bodyC (d.ab (d.keys bs)) kC noX
noncomputable def LeafD.loop (d : LeafD) : Bool := R200.exs bodyL d.st (kN (endOk d)) noX
noncomputable def st1 : St := ⟨((((((Tr.nil.set 0 (.ns [])).set 1 (.cell (some (.ref 5)))).set 2 (.cell none)).set 3 (.cell none)).set 4 .nums).set 5 (.src 4)), 6, 0, 0, 0, 0, [(83, 3), (23, 2), (76, 1)], false, none⟩
end Mine
end
section
set_option genInjectivity false
set_option genSizeOf false
set_option maxRecDepth 1000000
set_option maxHeartbeats 0
set_option Elab.async false
namespace Mine
noncomputable def lf0 : LeafD := ⟨[(0, (.ns [(14, (.ref 7)), (81, (.int (.ofNat 5))), (4, (.ref 57)), (82, (.ref 59))])), (1, (.cell (some (.ref 5)))), (2, (.cell (some (.ref 60)))), (3, (.cell (some (.ref 62)))), (4, .nums), (5, (.src 4)), (6, (.idict [(106, (.int (.ofNat 20000))), (107, (.int (.ofNat 40))), (108, (.int (.ofNat 0))), (109, (.int (.ofNat 2))), (67, (.ref 11)), (88, (.ref 17)), (62, (.ref 21)), (110, (.ref 22)), (111, (.ref 23)), (112, (.ref 24)), (113, (.ref 25)), (114, (.int (.ofNat 0))), (36, (.bool true)), (37, .none), (115, .none), (116, .none), (117, .none), (118, .none), (119, .none)])), (7, (.inst 959 6)), (10, (.idict [(10, (.str [101, 110, 118, 105, 114, 111, 110, 109, 101, 110, 116])), (61, (.int (.ofNat 0))), (19, .none), (6, .none), (17, (.ref 13)), (98, (.bool false)), (99, (.ref 14))])), (11, (.inst 353 10)), (13, (.dict [([85, 115, 101, 77, 101, 116, 104, 111, 100], (.ref 28))] 1)), (14, (.dict [] 0)), (16, (.idict [(10, (.str [101, 110, 118, 105, 114, 111, 110, 109, 101, 110, 116])), (61, (.int (.ofNat 1))), (19, (.ref 11)), (6, .none), (17, (.ref 19)), (98, (.bool false)), (99, (.ref 20))])), (17, (.inst 353 16)), (19, (.dict [([102], (.ref 53))] 1)), (20, (.dict [] 0)), (21, (.list [])), (22, (.list [])), (23, (.list [])), (24, (.list [])), (25, (.list [])), (27, (.idict [(10, (.str [115, 112, 101, 99, 105, 97, 108])), (5, (.str [85, 115, 101, 77, 101, 116, 104, 111, 100])), (35, (.bool true)), (38, (.fn 1022)), (22, (.str [])), (6, .none)])), (28, (.inst 331 27)), (30, (.idict [(10, (.str [109, 105, 115, 115, 105, 110, 103])), (6, .none)])), (31, (.inst 216 30)), (33, (.tup [(.str [120]), (.ref 31)])), (34, (.list [(.ref 33)])), (35, (.list [(.str [102])])), (36, (.idict [(10, (.str [99, 104, 97, 114, 97, 99, 116, 101, 114])), (8, (.ref 35)), (6, .none), (13, (.bool false)), (95, (.bool false))])), (37, (.inst 245 36)), (39, (.list [(.ref 37)])), (41, (.idict [(10, (.str [115, 121, 109, 98, 111, 108])), (5, (.str [85, 115, 101, 77, 101, 116, 104, 111, 100])), (6, .none)])), (42, (.inst 266 41)), (44, (.list [(.ref 42)])), (45, (.list [(.ref 37)])), (46, (.list [(.ref 42), (.ref 37)])), (47, (.list [.none])), (48, (.list [.none, .none])), (49, (.idict [(10, (.str [108, 97, 110, 103, 117, 97, 103, 101])), (8, (.ref 46)), (74, (.ref 48)), (6, .none), (96, .none)])), (50, (.inst 288 49)), (52, (.idict [(10, (.str [99, 108, 111, 115, 117, 114, 101])), (43, (.ref 34)), (97, (.ref 50)), (15, (.ref 17)), (6, .none)])), (53, (.inst 310 52)), (55, (.list [(.int (.ofNat 6))])), (56, (.idict [(10, (.str [105, 110, 116, 101, 103, 101, 114])), (8, (.ref 55)), (6, .none), (13, (.bool false)), (95, (.bool false))])), (57, (.inst 245 56)), (59, (.list [])), (60, (.list [(.str [105, 110, 116, 101, 103, 101, 114]), (.str [110, 117, 109, 101, 114, 105, 99])])), (61, (.list [])), (62, (.list []))], 63, 0, 19, 62, [([102], (.ref 53))], [(14, (.ref 7)), (81, (.int (.ofNat 5))), (4, (.ref 57)), (82, (.ref 59))], [[105, 110, 116, 101, 103, 101, 114], [110, 117, 109, 101, 114, 105, 99]]⟩
noncomputable def lf1 : LeafD := ⟨[(0, (.ns [(14, (.ref 7)), (81, (.int (.ofNat 4))), (4, (.ref 57)), (82, (.ref 61))])), (1, (.cell (some (.ref 5)))), (2, (.cell (some (.ref 75)))), (3, (.cell (some (.ref 77)))), (4, .nums), (5, (.src 4)), (6, (.idict [(106, (.int (.ofNat 20000))), (107, (.int (.ofNat 40))), (108, (.int (.ofNat 0))), (109, (.int (.ofNat 2))), (67, (.ref 11)), (88, (.ref 17)), (62, (.ref 21)), (110, (.ref 22)), (111, (.ref 23)), (112, (.ref 24)), (113, (.ref 25)), (114, (.int (.ofNat 0))), (36, (.bool true)), (37, .none), (115, .none), (116, .none), (117, .none), (118, .none), (119, .none)])), (7, (.inst 959 6)), (10, (.idict [(10, (.str [101, 110, 118, 105, 114, 111, 110, 109, 101, 110, 116])), (61, (.int (.ofNat 0))), (19, .none), (6, .none), (17, (.ref 13)), (98, (.bool false)), (99, (.ref 14))])), (11, (.inst 353 10)), (13, (.dict [([85, 115, 101, 77, 101, 116, 104, 111, 100], (.ref 28))] 1)), (14, (.dict [] 0)), (16, (.idict [(10, (.str [101, 110, 118, 105, 114, 111, 110, 109, 101, 110, 116])), (61, (.int (.ofNat 1))), (19, (.ref 11)), (6, .none), (17, (.ref 19)), (98, (.bool false)), (99, (.ref 20))])), (17, (.inst 353 16)), (19, (.dict [([102], (.ref 53))] 1)), (20, (.dict [] 0)), (21, (.list [])), (22, (.list [])), (23, (.list [])), (24, (.list [])), (25, (.list [])), (27, (.idict [(10, (.str [115, 112, 101, 99, 105, 97, 108])), (5, (.str [85, 115, 101, 77, 101, 116, 104, 111, 100])), (35, (.bool true)), (38, (.fn 1022)), (22, (.str [])), (6, .none)])), (28, (.inst 331 27)), (30, (.idict [(10, (.str [109, 105, 115, 115, 105, 110, 103])), (6, .none)])), (31, (.inst 216 30)), (33, (.tup [(.str [120]), (.ref 31)])), (34, (.list [(.ref 33)])), (35, (.list [(.str [102])])), (36, (.idict [(10, (.str [99, 104, 97, 114, 97, 99, 116, 101, 114])), (8, (.ref 35)), (6, .none), (13, (.bool false)), (95, (.bool false))])), (37, (.inst 245 36)), (39, (.list [(.ref 37)])), (41, (.idict [(10, (.str [115, 121, 109, 98, 111, 108])), (5, (.str [85, 115, 101, 77, 101, 116, 104, 111, 100])), (6, .none)])), (42, (.inst 266 41)), (44, (.list [(.ref 42)])), (45, (.list [(.ref 37)])), (46, (.list [(.ref 42), (.ref 37)])), (47, (.list [.none])), (48, (.list [.none, .none])), (49, (.idict [(10, (.str [108, 97, 110, 103, 117, 97, 103, 101])), (8, (.ref 46)), (74, (.ref 48)), (6, .none), (96, .none)])), (50, (.inst 288 49)), (52, (.idict [(10, (.str [99, 108, 111, 115, 117, 114, 101])), (43, (.ref 34)), (97, (.ref 50)), (15, (.ref 17)), (6, .none)])), (53, (.inst 310 52)), (55, (.list [(.int (.ofNat 6))])), (56, (.idict [(10, (.str [105, 110, 116, 101, 103, 101, 114])), (8, (.ref 55)), (6, (.ref 69)), (13, (.bool false)), (95, (.bool false))])), (57, (.inst 245 56)), (61, (.list [(.opt 0), (.opt 2), (.opt 4), (.opt 6)])), (63, (.list [(.str [97]), (.str [98]), (.str [78, 65]), .none])), (64, (.list [(.str [97]), (.str [98]), (.str [78, 65]), .none])), (65, (.list [(.str [97]), (.str [98]), (.str [78, 65]), .none])), (66, (.list [(.str [97]), (.str [98]), (.str [78, 65]), .none])), (67, (.list [(.str [105, 110, 116, 101, 103, 101, 114]), (.str [110, 117, 109, 101, 114, 105, 99])])), (68, (.list [])), (69, (.dict [([99, 108, 97, 115, 115], (.ref 72))] 1)), (70, (.list [(.opt 0), (.opt 2), (.opt 4), (.opt 6)])), (71, (.idict [(10, (.str [99, 104, 97, 114, 97, 99, 116, 101, 114])), (8, (.ref 70)), (6, .none), (13, (.bool false)), (95, (.bool false))])), (72, (.inst 245 71)), (75, (.list [(.str [1114112]), (.str [1114114]), (.str [1114116]), (.str [1114118])])), (77, (.list []))], 78, 8, 19, 77, [([102], (.ref 53))], [(14, (.ref 7)), (81, (.int (.ofNat 4))), (4, (.ref 57)), (82, (.ref 61))], [[1114112], [1114114], [1114116], [1114118]]⟩
noncomputable def lf2 : LeafD := ⟨[(0, (.ns [(14, (.ref 7)), (81, (.int (.ofNat 3))), (4, (.ref 57)), (82, (.ref 61))])), (1, (.cell (some (.ref 5)))), (2, (.cell (some (.ref 74)))), (3, (.cell (some (.ref 76)))), (4, .nums), (5, (.src 4)), (6, (.idict [(106, (.int (.ofNat 20000))), (107, (.int (.ofNat 40))), (108, (.int (.ofNat 0))), (109, (.int (.ofNat 2))), (67, (.ref 11)), (88, (.ref 17)), (62, (.ref 21)), (110, (.ref 22)), (111, (.ref 23)), (112, (.ref 24)), (113, (.ref 25)), (114, (.int (.ofNat 0))), (36, (.bool true)), (37, .none), (115, .none), (116, .none), (117, .none), (118, .none), (119, .none)])), (7, (.inst 959 6)), (10, (.idict [(10, (.str [101, 110, 118, 105, 114, 111, 110, 109, 101, 110, 116])), (61, (.int (.ofNat 0))), (19, .none), (6, .none), (17, (.ref 13)), (98, (.bool false)), (99, (.ref 14))])), (11, (.inst 353 10)), (13, (.dict [([85, 115, 101, 77, 101, 116, 104, 111, 100], (.ref 28))] 1)), (14, (.dict [] 0)), (16, (.idict [(10, (.str [101, 110, 118, 105, 114, 111, 110, 109, 101, 110, 116])), (61, (.int (.ofNat 1))), (19, (.ref 11)), (6, .none), (17, (.ref 19)), (98, (.bool false)), (99, (.ref 20))])), (17, (.inst 353 16)), (19, (.dict [([102], (.ref 53))] 1)), (20, (.dict [] 0)), (21, (.list [])), (22, (.list [])), (23, (.list [])), (24, (.list [])), (25, (.list [])), (27, (.idict [(10, (.str [115, 112, 101, 99, 105, 97, 108])), (5, (.str [85, 115, 101, 77, 101, 116, 104, 111, 100])), (35, (.bool true)), (38, (.fn 1022)), (22, (.str [])), (6, .none)])), (28, (.inst 331 27)), (30, (.idict [(10, (.str [109, 105, 115, 115, 105, 110, 103])), (6, .none)])), (31, (.inst 216 30)), (33, (.tup [(.str [120]), (.ref 31)])), (34, (.list [(.ref 33)])), (35, (.list [(.str [102])])), (36, (.idict [(10, (.str [99, 104, 97, 114, 97, 99, 116, 101, 114])), (8, (.ref 35)), (6, .none), (13, (.bool false)), (95, (.bool false))])), (37, (.inst 245 36)), (39, (.list [(.ref 37)])), (41, (.idict [(10, (.str [115, 121, 109, 98, 111, 108])), (5, (.str [85, 115, 101, 77, 101, 116, 104, 111, 100])), (6, .none)])), (42, (.inst 266 41)), (44, (.list [(.ref 42)])), (45, (.list [(.ref 37)])), (46, (.list [(.ref 42), (.ref 37)])), (47, (.list [.none])), (48, (.list [.none, .none])), (49, (.idict [(10, (.str [108, 97, 110, 103, 117, 97, 103, 101])), (8, (.ref 46)), (74, (.ref 48)), (6, .none), (96, .none)])), (50, (.inst 288 49)), (52, (.idict [(10, (.str [99, 108, 111, 115, 117, 114, 101])), (43, (.ref 34)), (97, (.ref 50)), (15, (.ref 17)), (6, .none)])), (53, (.inst 310 52)), (55, (.list [(.int (.ofNat 6))])), (56, (.idict [(10, (.str [105, 110, 116, 101, 103, 101, 114])), (8, (.ref 55)), (6, (.ref 68)), (13, (.bool false)), (95, (.bool false))])), (57, (.inst 245 56)), (61, (.list [(.opt 0), (.opt 2), (.opt 4)])), (63, (.list [(.str [97]), (.str [98]), (.str [78, 65]), .none])), (64, (.list [(.str [97]), (.str [98]), (.str [78, 65]), .none])), (65, (.list [(.str [97]), (.str [98]), (.str [78, 65]), .none])), (66, (.list [(.str [105, 110, 116, 101, 103, 101, 114]), (.str [110, 117, 109, 101, 114, 105, 99])])), (67, (.list [])), (68, (.dict [([99, 108, 97, 115, 115], (.ref 71))] 1)), (69, (.list [(.opt 0), (.opt 2), (.opt 4)])), (70, (.idict [(10, (.str [99, 104, 97, 114, 97, 99, 116, 101, 114])), (8, (.ref 69)), (6, .none), (13, (.bool false)), (95, (.bool false))])), (71, (.inst 245 70)), (74, (.list [(.str [1114112]), (.str [1114114]), (.str [1114116])])), (76, (.list []))], 77, 6, 19, 76, [([102], (.ref 53))], [(14, (.ref 7)), (81, (.int (.ofNat 3))), (4, (.ref 57)), (82, (.ref 61))], [[1114112], [1114114], [1114116]]⟩
noncomputable def lf3 : LeafD := ⟨[(0, (.ns [(14, (.ref 7)), (81, (.int (.ofNat 2))), (4, (.ref 57)), (82, (.ref 61))])), (1, (.cell (some (.ref 5)))), (2, (.cell (some (.ref 73)))), (3, (.cell (some (.ref 75)))), (4, .nums), (5, (.src 4)), (6, (.idict [(106, (.int (.ofNat 20000))), (107, (.int (.ofNat 40))), (108, (.int (.ofNat 0))), (109, (.int (.ofNat 2))), (67, (.ref 11)), (88, (.ref 17)), (62, (.ref 21)), (110, (.ref 22)), (111, (.ref 23)), (112, (.ref 24)), (113, (.ref 25)), (114, (.int (.ofNat 0))), (36, (.bool true)), (37, .none), (115, .none), (116, .none), (117, .none), (118, .none), (119, .none)])), (7, (.inst 959 6)), (10, (.idict [(10, (.str [101, 110, 118, 105, 114, 111, 110, 109, 101, 110, 116])), (61, (.int (.ofNat 0))), (19, .none), (6, .none), (17, (.ref 13)), (98, (.bool false)), (99, (.ref 14))])), (11, (.inst 353 10)), (13, (.dict [([85, 115, 101, 77, 101, 116, 104, 111, 100], (.ref 28))] 1)), (14, (.dict [] 0)), (16, (.idict [(10, (.str [101, 110, 118, 105, 114, 111, 110, 109, 101, 110, 116])), (61, (.int (.ofNat 1))), (19, (.ref 11)), (6, .none), (17, (.ref 19)), (98, (.bool false)), (99, (.ref 20))])), (17, (.inst 353 16)), (19, (.dict [([102], (.ref 53))] 1)), (20, (.dict [] 0)), (21, (.list [])), (22, (.list [])), (23, (.list [])), (24, (.list [])), (25, (.list [])), (27, (.idict [(10, (.str [115, 112, 101, 99, 105, 97, 108])), (5, (.str [85, 115, 101, 77, 101, 116, 104, 111, 100])), (35, (.bool true)), (38, (.fn 1022)), (22, (.str [])), (6, .none)])), (28, (.inst 331 27)), (30, (.idict [(10, (.str [109, 105, 115, 115, 105, 110, 103])), (6, .none)])), (31, (.inst 216 30)), (33, (.tup [(.str [120]), (.ref 31)])), (34, (.list [(.ref 33)])), (35, (.list [(.str [102])])), (36, (.idict [(10, (.str [99, 104, 97, 114, 97, 99, 116, 101, 114])), (8, (.ref 35)), (6, .none), (13, (.bool false)), (95, (.bool false))])), (37, (.inst 245 36)), (39, (.list [(.ref 37)])), (41, (.idict [(10, (.str [115, 121, 109, 98, 111, 108])), (5, (.str [85, 115, 101, 77, 101, 116, 104, 111, 100])), (6, .none)])), (42, (.inst 266 41)), (44, (.list [(.ref 42)])), (45, (.list [(.ref 37)])), (46, (.list [(.ref 42), (.ref 37)])), (47, (.list [.none])), (48, (.list [.none, .none])), (49, (.idict [(10, (.str [108, 97, 110, 103, 117, 97, 103, 101])), (8, (.ref 46)), (74, (.ref 48)), (6, .none), (96, .none)])), (50, (.inst 288 49)), (52, (.idict [(10, (.str [99, 108, 111, 115, 117, 114, 101])), (43, (.ref 34)), (97, (.ref 50)), (15, (.ref 17)), (6, .none)])), (53, (.inst 310 52)), (55, (.list [(.int (.ofNat 6))])), (56, (.idict [(10, (.str [105, 110, 116, 101, 103, 101, 114])), (8, (.ref 55)), (6, (.ref 67)), (13, (.bool false)), (95, (.bool false))])), (57, (.inst 245 56)), (61, (.list [(.opt 0), (.opt 2)])), (63, (.list [(.str [97]), (.str [98]), (.str [78, 65]), .none])), (64, (.list [(.str [97]), (.str [98]), (.str [78, 65]), .none])), (65, (.list [(.str [105, 110, 116, 101, 103, 101, 114]), (.str [110, 117, 109, 101, 114, 105, 99])])), (66, (.list [])), (67, (.dict [([99, 108, 97, 115, 115], (.ref 70))] 1)), (68, (.list [(.opt 0), (.opt 2)])), (69, (.idict [(10, (.str [99, 104, 97, 114, 97, 99, 116, 101, 114])), (8, (.ref 68)), (6, .none), (13, (.bool false)), (95, (.bool false))])), (70, (.inst 245 69)), (73, (.list [(.str [1114112]), (.str [1114114])])), (75, (.list []))], 76, 4, 19, 75, [([102], (.ref 53))], [(14, (.ref 7)), (81, (.int (.ofNat 2))), (4, (.ref 57)), (82, (.ref 61))], [[1114112], [1114114]]⟩
noncomputable def lf4 : LeafD := ⟨[(0, (.ns [(14, (.ref 7)), (81, (.int (.ofNat 1))), (4, (.ref 57)), (82, (.ref 61))])), (1, (.cell (some (.ref 5)))), (2, (.cell (some (.ref 72)))), (3, (.cell (some (.ref 74)))), (4, .nums), (5, (.src 4)), (6, (.idict [(106, (.int (.ofNat 20000))), (107, (.int (.ofNat 40))), (108, (.int (.ofNat 0))), (109, (.int (.ofNat 2))), (67, (.ref 11)), (88, (.ref 17)), (62, (.ref 21)), (110, (.ref 22)), (111, (.ref 23)), (112, (.ref 24)), (113, (.ref 25)), (114, (.int (.ofNat 0))), (36, (.bool true)), (37, .none), (115, .none), (116, .none), (117, .none), (118, .none), (119, .none)])), (7, (.inst 959 6)), (10, (.idict [(10, (.str [101, 110, 118, 105, 114, 111, 110, 109, 101, 110, 116])), (61, (.int (.ofNat 0))), (19, .none), (6, .none), (17, (.ref 13)), (98, (.bool false)), (99, (.ref 14))])), (11, (.inst 353 10)), (13, (.dict [([85, 115, 101, 77, 101, 116, 104, 111, 100], (.ref 28))] 1)), (14, (.dict [] 0)), (16, (.idict [(10, (.str [101, 110, 118, 105, 114, 111, 110, 109, 101, 110, 116])), (61, (.int (.ofNat 1))), (19, (.ref 11)), (6, .none), (17, (.ref 19)), (98, (.bool false)), (99, (.ref 20))])), (17, (.inst 353 16)), (19, (.dict [([102], (.ref 53))] 1)), (20, (.dict [] 0)), (21, (.list [])), (22, (.list [])), (23, (.list [])), (24, (.list [])), (25, (.list [])), (27, (.idict [(10, (.str [115, 112, 101, 99, 105, 97, 108])), (5, (.str [85, 115, 101, 77, 101, 116, 104, 111, 100])), (35, (.bool true)), (38, (.fn 1022)), (22, (.str [])), (6, .none)])), (28, (.inst 331 27)), (30, (.idict [(10, (.str [109, 105, 115, 115, 105, 110, 103])), (6, .none)])), (31, (.inst 216 30)), (33, (.tup [(.str [120]), (.ref 31)])), (34, (.list [(.ref 33)])), (35, (.list [(.str [102])])), (36, (.idict [(10, (.str [99, 104, 97, 114, 97, 99, 116, 101, 114])), (8, (.ref 35)), (6, .none), (13, (.bool false)), (95, (.bool false))])), (37, (.inst 245 36)), (39, (.list [(.ref 37)])), (41, (.idict [(10, (.str [115, 121, 109, 98, 111, 108])), (5, (.str [85, 115, 101, 77, 101, 116, 104, 111, 100])), (6, .none)])), (42, (.inst 266 41)), (44, (.list [(.ref 42)])), (45, (.list [(.ref 37)])), (46, (.list [(.ref 42), (.ref 37)])), (47, (.list [.none])), (48, (.list [.none, .none])), (49, (.idict [(10, (.str [108, 97, 110, 103, 117, 97, 103, 101])), (8, (.ref 46)), (74, (.ref 48)), (6, .none), (96, .none)])), (50, (.inst 288 49)), (52, (.idict [(10, (.str [99, 108, 111, 115, 117, 114, 101])), (43, (.ref 34)), (97, (.ref 50)), (15, (.ref 17)), (6, .none)])), (53, (.inst 310 52)), (55, (.list [(.int (.ofNat 6))])), (56, (.idict [(10, (.str [105, 110, 116, 101, 103, 101, 114])), (8, (.ref 55)), (6, (.ref 66)), (13, (.bool false)), (95, (.bool false))])), (57, (.inst 245 56)), (61, (.list [(.opt 0)])), (63, (.list [(.str [97]), (.str [98]), (.str [78, 65]), .none])), (64, (.list [(.str [105, 110, 116, 101, 103, 101, 114]), (.str [110, 117, 109, 101, 114, 105, 99])])), (65, (.list [])), (66, (.dict [([99, 108, 97, 115, 115], (.ref 69))] 1)), (67, (.list [(.opt 0)])), (68, (.idict [(10, (.str [99, 104, 97, 114, 97, 99, 116, 101, 114])), (8, (.ref 67)), (6, .none), (13, (.bool false)), (95, (.bool false))])), (69, (.inst 245 68)), (72, (.list [(.str [1114112])])), (74, (.list []))], 75, 2, 19, 74, [([102], (.ref 53))], [(14, (.ref 7)), (81, (.int (.ofNat 1))), (4, (.ref 57)), (82, (.ref 61))], [[1114112]]⟩
noncomputable def isLf (l : St) : Bool := isLeaf lf0 l || isLeaf lf1 l || isLeaf lf2 l || isLeaf lf3 l || isLeaf lf4 l
end Mine
end
section
set_option genInjectivity false
set_option genSizeOf false
set_option maxRecDepth 1000000
set_option maxHeartbeats 0
set_option Elab.async false
namespace Mine
theorem phA : R200.exs bodyA st1 (kN isLf) noX = true := by decide +kernel
theorem lfc0 : leafChk lf0 = true := by decide +kernel
theorem lfl0 : lf0.loop = true := by decide +kernel
theorem lfc1 : leafChk lf1 = true := by decide +kernel
theorem lfl1 : lf1.loop = true := by decide +kernel
theorem lfc2 : leafChk lf2 = true := by decide +kernel
theorem lfl2 : lf2.loop = true := by decide +kernel
theorem lfc3 : leafChk lf3 = true := by decide +kernel
theorem lfl3 : lf3.loop = true := by decide +kernel
theorem lfc4 : leafChk lf4 = true := by decide +kernel
theorem lfl4 : lf4.loop = true := by decide +kernel
end Mine
end
section
set_option genInjectivity false
set_option genSizeOf false
set_option maxRecDepth 1000000
set_option maxHeartbeats 0
set_option Elab.async false
namespace Mine
theorem pc0_111 : lf0.c [true, true, true] = true := by decide +kernel
theorem pc0_110 : lf0.c [true, true, false] = true := by decide +kernel
theorem pc0_101 : lf0.c [true, false, true] = true := by decide +kernel
theorem pc0_100 : lf0.c [true, false, false] = true := by decide +kernel
theorem pc0_011 : lf0.c [false, true, true] = true := by decide +kernel
theorem pc0_010 : lf0.c [false, true, false] = true := by decide +kernel
theorem pc0_001 : lf0.c [false, false, true] = true := by decide +kernel
theorem pc0_000 : lf0.c [false, false, false] = true := by decide +kernel
theorem pc1_11111 : lf1.c [true, true, true, true, true] = true := by decide +kernel
theorem pc1_11110 : lf1.c [true, true, true, true, false] = true := by decide +kernel
theorem pc1_11101 : lf1.c [true, true, true, false, true] = true := by decide +kernel
theorem pc1_11100 : lf1.c [true, true, true, false, false] = true := by decide +kernel
theorem pc1_11011 : lf1.c [true, true, false, true, true] = true := by decide +kernel
theorem pc1_11010 : lf1.c [true, true, false, true, false] = true := by decide +kernel
theorem pc1_11001 : lf1.c [true, true, false, false, true] = true := by decide +kernel
theorem pc1_11000 : lf1.c [true, true, false, false, false] = true := by decide +kernel
theorem pc1_10111 : lf1.c [true, false, true, true, true] = true := by decide +kernel
theorem pc1_10110 : lf1.c [true, false, true, true, false] = true := by decide +kernel
theorem pc1_10101 : lf1.c [true, false, true, false, true] = true := by decide +kernel
theorem pc1_10100 : lf1.c [true, false, true, false, false] = true := by decide +kernel
theorem pc1_10011 : lf1.c [true, false, false, true, true] = true := by decide +kernel
theorem pc1_10010 : lf1.c [true, false, false, true, false] = true := by decide +kernel
theorem pc1_10001 : lf1.c [true, false, false, false, true] = true := by decide +kernel
theorem pc1_10000 : lf1.c [true, false, false, false, false] = true := by decide +kernel
theorem pc1_01111 : lf1.c [false, true, true, true, true] = true := by decide +kernel
theorem pc1_01110 : lf1.c [false, true, true, true, false] = true := by decide +kernel
theorem pc1_01101 : lf1.c [false, true, true, false, true] = true := by decide +kernel
theorem pc1_01100 : lf1.c [false, true, true, false, false] = true := by decide +kernel
theorem pc1_01011 : lf1.c [false, true, false, true, true] = true := by decide +kernel
theorem pc1_01010 : lf1.c [false, true, false, true, false] = true := by decide +kernel
theorem pc1_01001 : lf1.c [false, true, false, false, true] = true := by decide +kernel
theorem pc1_01000 : lf1.c [false, true, false, false, false] = true := by decide +kernel
theorem pc1_00111 : lf1.c [false, false, true, true, true] = true := by decide +kernel
theorem pc1_00110 : lf1.c [false, false, true, true, false] = true := by decide +kernel
theorem pc1_00101 : lf1.c [false, false, true, false, true] = true := by decide +kernel
theorem pc1_00100 : lf1.c [false, false, true, false, false] = true := by decide +kernel
theorem pc1_00011 : lf1.c [false, false, false, true, true] = true := by decide +kernel
theorem pc1_00010 : lf1.c [false, false, false, true, false] = true := by decide +kernel
theorem pc1_00001 : lf1.c [false, false, false, false, true] = true := by decide +kernel
theorem pc1_00000 : lf1.c [false, false, false, false, false] = true := by decide +kernel
theorem pc2_1111 : lf2.c [true, true, true, true] = true := by decide +kernel
theorem pc2_1110 : lf2.c [true, true, true, false] = true := by decide +kernel
theorem pc2_1101 : lf2.c [true, true, false, true] = true := by decide +kernel
theorem pc2_1100 : lf2.c [true, true, false, false] = true := by decide +kernel
theorem pc2_1011 : lf2.c [true, false, true, true] = true := by decide +kernel
theorem pc2_1010 : lf2.c [true, false, true, false] = true := by decide +kernel
theorem pc2_1001 : lf2.c [true, false, false, true] = true := by decide +kernel
theorem pc2_1000 : lf2.c [true, false, false, false] = true := by decide +kernel
theorem pc2_0111 : lf2.c [false, true, true, true] = true := by decide +kernel
theorem pc2_0110 : lf2.c [false, true, true, false] = true := by decide +kernel
theorem pc2_0101 : lf2.c [false, true, false, true] = true := by decide +kernel
theorem pc2_0100 : lf2.c [false, true, false, false] = true := by decide +kernel
theorem pc2_0011 : lf2.c [false, false, true, true] = true := by decide +kernel
theorem pc2_0010 : lf2.c [false, false, true, false] = true := by decide +kernel
theorem pc2_0001 : lf2.c [false, false, false, true] = true := by decide +kernel
theorem pc2_0000 : lf2.c [false, false, false, false] = true := by decide +kernel
theorem pc3_111 : lf3.c [true, true, true] = true := by decide +kernel
theorem pc3_110 : lf3.c [true, true, false] = true := by decide +kernel
theorem pc3_101 : lf3.c [true, false, true] = true := by decide +kernel
theorem pc3_100 : lf3.c [true, false, false] = true := by decide +kernel
theorem pc3_011 : lf3.c [false, true, true] = true := by decide +kernel
theorem pc3_010 : lf3.c [false, true, false] = true := by decide +kernel
theorem pc3_001 : lf3.c [false, false, true] = true := by decide +kernel
theorem pc3_000 : lf3.c [false, false, false] = true := by decide +kernel
theorem pc4_11 : lf4.c [true, true] = true := by decide +kernel
theorem pc4_10 : lf4.c [true, false] = true := by decide +kernel
theorem pc4_01 : lf4.c [false, true] = true := by decide +kernel
theorem pc4_00 : lf4.c [false, false] = true := by decide +kernel
end Mine
end
section
set_option genInjectivity false
set_option genSizeOf false
set_option tactic.hygienic false
open PySem PySem.W PySem.Calls PyProof.Rows PySem.SeqAt
set_option maxRecDepth 100000
namespace Mine
theorem eqL'_ok {α : Type} {f : α → α → Bool} {l : List α} : ∀ {m : List α}, (∀ a ∈ l, ∀ b, f a b = true → a = b) → eqL' f l m = true → l = m := by
  induction l with
  | nil => intro m _ h; cases m with
    | nil => rfl
    | cons _ _ => exact no_tt h
  | cons a r ih => intro m hf h; cases m with
    | nil => exact no_tt h
    | cons b q => exact (and_tt h).elim fun x y => by rw [hf a List.mem_cons_self b x, ih (fun x hx => hf x (List.mem_cons_of_mem _ hx)) y]
theorem eqI_eq {a b : Int} (h : eqI a b = true) : a = b := by rw [eqI_ok] at h; exact eq_of_beq h
theorem eqB_eq {a b : Bool} (h : eqB a b = true) : a = b := by rw [eqB_ok] at h; exact eq_of_beq h
theorem eqAV_ok {a b : AV} (h : eqAV a b = true) : a = b := by
  induction a <;> induction b <;> first | exact no_tt h | rfl | exact congrArg AV.bool (eqB_eq h) | exact congrArg AV.int (eqI_eq h) | exact congrArg AV.str (eqN_ok h) | exact congrArg AV.ref (Nat.eq_of_beq_eq_true h) | exact congrArg AV.fn (Nat.eq_of_beq_eq_true h) | exact congrArg AV.bi (Nat.eq_of_beq_eq_true h) | exact congrArg AV.opt (Nat.eq_of_beq_eq_true h)
set_option tactic.hygienic true in
theorem eqNA_ok {p q : Nat × AV} (h : eqNA p q = true) : p = q := by
  unfold eqNA at h
  split at h
  · rename_i e; obtain ⟨a, b⟩ := p; obtain ⟨c, d⟩ := q; rw [show a = c from Nat.eq_of_beq_eq_true e, show b = d from eqAV_ok h]
  · first | exact no_tt h | exact no_ns h | induction h
set_option tactic.hygienic true in
theorem eqKA_ok {p q : List Nat × AV} (h : eqKA p q = true) : p = q := by
  unfold eqKA at h
  split at h
  · rename_i e; obtain ⟨a, b⟩ := p; obtain ⟨c, d⟩ := q; rw [show a = c from eqN_ok e, show b = d from eqAV_ok h]
  · first | exact no_tt h | exact no_ns h | induction h
set_option tactic.hygienic true in
theorem eqOb_ok {a b : Ob} (h : eqOb a b = true) : a = b := by
  induction a
  case inst C d => induction b <;> first | exact no_tt h | exact (and_tt h).elim fun e h => by rw [Nat.eq_of_beq_eq_true e, Nat.eq_of_beq_eq_true h]
  case idict l => induction b <;> first | exact no_tt h | exact congrArg Ob.idict (eqL'_ok (fun _ _ _ => eqNA_ok) h)
  case list l => induction b <;> first | exact no_tt h | exact congrArg Ob.list (eqL'_ok (fun _ _ _ => eqAV_ok) h)
  case tup l => induction b <;> first | exact no_tt h | exact congrArg Ob.tup (eqL'_ok (fun _ _ _ => eqAV_ok) h)
  case dict l m => induction b <;> first | exact no_tt h | exact (and_tt h).elim fun e h => by rw [Nat.eq_of_beq_eq_true e, eqL'_ok (fun _ _ _ => eqKA_ok) h]
  case ns l => induction b <;> first | exact no_tt h | exact congrArg Ob.ns (eqL'_ok (fun _ _ _ => eqNA_ok) h)
  case cell v => induction v with
    | none => induction b <;> first | exact no_tt h | (rename_i w; induction w <;> first | exact no_tt h | rfl)
    | some v => induction b <;> first | exact no_tt h | (rename_i w; induction w <;> first | exact no_tt h | exact congrArg (fun x => Ob.cell (some x)) (eqAV_ok h))
  case itL j m => induction b <;> first | exact no_tt h | exact (and_tt h).elim fun e h => by rw [Nat.eq_of_beq_eq_true e, Nat.eq_of_beq_eq_true h]
  case src j => induction b <;> first | exact no_tt h | exact congrArg Ob.src (Nat.eq_of_beq_eq_true h)
  case nums => induction b <;> first | exact no_tt h | rfl
  case range x y => induction b <;> first | exact no_tt h | exact (and_tt h).elim fun e h => by rw [eqI_eq e, eqI_eq h]
  all_goals exact no_tt h
theorem eqOO_ok {a b : Option Ob} (h : eqOO a b = true) : a = b := by
  cases a with
  | none => cases b with
    | none => rfl
    | some _ => exact no_tt h
  | some a => cases b with
    | none => exact no_tt h
    | some b => rw [eqOb_ok h]
set_option tactic.hygienic true in
theorem eqE_ok {n : Nat} : ∀ {a b : E}, eqE n a b = true → a = b := by
  induction n with
  | zero => intro a b h; first | exact no_tt h | exact no_ns h | induction h
  | succ n ih =>
    intro a b h
    cases a
    case k v => cases b <;> first | exact no_tt h | exact congrArg E.k (eqAV_ok h)
    case cel x => cases b <;> first | exact no_tt h | exact congrArg E.cel (Nat.eq_of_beq_eq_true h)
    case call f as => cases b <;> first | exact no_tt h | exact (and_tt h).elim fun e h => by rw [ih e, eqL'_ok (fun _ _ _ => ih) h]
    case list as => cases b <;> first | exact no_tt h | exact congrArg E.list (eqL'_ok (fun _ _ _ => ih) h)
    all_goals exact no_tt h
theorem eqS_ok {a b : S} (h : eqS a b = true) : a = b := by
  induction a using Mine.S.casesOn <;> first | exact no_tt h | skip
  induction b using Mine.S.casesOn <;> first | exact no_tt h | skip
  rw [eqE_ok h]
set_option tactic.hygienic true in
theorem mkTr_get : ∀ {L : List (Nat × Ob)} {i : Nat} {b : Ob}, (mkTr L).get i = some b → (i, b) ∈ L
  | [], _, _, h => by cases h
  | (j, c) :: r, i, b, h => by
    change ((mkTr r).set j c).get i = some b at h
    rw [Tr.get_set] at h
    split at h
    · rename_i e; cases h; rw [e]; exact List.mem_cons_self
    · exact List.mem_cons_of_mem _ (mkTr_get h)
set_option tactic.hygienic true in
theorem allIn_ok {f : Nat → Option Ob} : ∀ {L : List (Nat × Ob)}, allIn f L = true → ∀ p ∈ L, f p.1 = some p.2
  | [], _, p, hp => (nomatch hp)
  | (i, b) :: r, h, p, hp => by
    unfold allIn at h
    split at h
    · rename_i e
      rcases List.mem_cons.mp hp with rfl | hp
      · exact eqOO_ok e
      · exact allIn_ok h p hp
    · first | exact no_tt h | exact no_ns h | induction h
section
variable {g : Gd} {clo : CloP} {F : List Addr} {ρ : List Addr} {σ : List Str} {e : St} {s : Shared}
theorem Rel.remap (R : Rel g clo F ρ σ e s) {ρ' : List Addr} {st' : St} (h1 : ρ'.length = st'.nx) (h2 : st'.sy = e.sy)
    (h3 : ∀ (i : Nat) b, st'.get i = some b → ∃ a o, ρ'[i]? = some a ∧ s.heap.get? a = some o ∧ OR g clo ρ' σ b o ∧ ∃ (i₀ : Nat) (b₀ : Ob), ρ[i₀]? = some a ∧ e.get i₀ = some b₀)
    (h4 : ∀ (i j : Nat) (a : Addr) (b b' : Ob), ρ'[i]? = some a → ρ'[j]? = some a → st'.get i = some b → st'.get j = some b' → i = j ∨ (st'.isRo i = true ∧ st'.isRo j = true))
    (h5 : ∀ (i : Nat) C d, st'.get i ≠ some (.exc C d)) (h6 : ∀ a ∈ F, FraOk ρ' st'.get st'.isRo a) (h7 : TabOk g ρ' st'.tb s.heap) : Rel g clo F ρ' σ st' s := by
  refine ⟨h1, by rw [h2]; exact R.slen, R.sml, fun i b hb => ?_, h4, fun i a b hi hb => ?_, fun i C d a hb => absurd hb (h5 i C d), h6, R.stat, R.old, R.gens, R.drawn, R.os, h7⟩
  · obtain ⟨a, o, q1, q2, q3, _⟩ := h3 i b hb
    exact ⟨a, o, q1, q2, q3⟩
  · obtain ⟨a', o, q1, q2, q3, i₀, b₀, q4, q5⟩ := h3 i b hb
    rw [hi] at q1; first | exact no_tt q1 | exact no_ns q1 | cases q1
    exact R.lt i₀ _ b₀ q4 q5
end
end Mine
end
section
set_option genInjectivity false
set_option genSizeOf false
set_option tactic.hygienic false
open PySem PySem.W PySem.Calls PyProof.Rows PySem.SeqAt
set_option maxRecDepth 100000
namespace Mine
theorem nbeq_false {a b : Nat} (h : Nat.beq a b = false) : a ≠ b := fun q => by rw [q, Nat.beq_refl] at h; first | exact no_tt h | exact no_ns h | cases h
set_option tactic.hygienic true in
theorem leafL_ok {n g r : Nat} : ∀ {L : List (Nat × Ob)}, leafL n g r L = true → ∀ p ∈ L, p.1 < n ∧ (p.1 = g ∨ refB n p.2 = true)
  | [], _, p, hp => (nomatch hp)
  | (i, b) :: q, h, p, hp => by
    unfold leafL at h
    split at h
    · rename_i e
      rw [Bool.and_eq_true, Bool.or_eq_true] at e
      rcases List.mem_cons.mp hp with rfl | hp
      · exact ⟨Nat.blt_eq.mp e.1, e.2.imp (fun z => Nat.eq_of_beq_eq_true z) id⟩
      · exact leafL_ok h p hp
    · first | exact no_tt h | exact no_ns h | induction h
structure LeafOk (d : LeafD) : Prop where
  L : ∀ p ∈ d.L, p.1 < d.nx ∧ (p.1 = d.g ∨ refB d.nx p.2 = true)
  kv : refK d.nx d.kv = true
  fs : refN d.nx d.fs = true
  ks : kvKeys d.kv = true
  ts : ∀ p ∈ d.ts, symB d.sy p = true
  gr : d.g ≠ d.r
  g0 : d.g ≠ 0
  r0 : d.r ≠ 0
  gl : d.g < d.nx
  rl : d.r < d.nx
  zl : 0 < d.nx
  og : ∃ ep, d.st.get d.g = some (.dict d.kv ep)
  or : d.st.get d.r = some (.list [])
  of : d.st.get 0 = some (.ns d.fs)
set_option tactic.hygienic true in
theorem leafChk_ok {d : LeafD} (h : leafChk d = true) : LeafOk d := by
  unfold leafChk at h
  simp only [Bool.and_eq_true, Bool.not_eq_true', List.all_eq_true] at h
  obtain ⟨⟨⟨⟨⟨⟨⟨⟨⟨⟨⟨⟨⟨h1, h2⟩, h3⟩, h4⟩, h5⟩, h6⟩, h7⟩, h8⟩, h9⟩, h10⟩, h11⟩, h12⟩, h13⟩, h14⟩ := h
  refine ⟨leafL_ok h1, h2, h3, h4, h5, nbeq_false h6, nbeq_false h7, nbeq_false h8, Nat.blt_eq.mp h9, Nat.blt_eq.mp h10, Nat.blt_eq.mp h11, ?_, ?_, ?_⟩
  · split at h12
    · rename_i kv ep q; rw [eqL'_ok (fun _ _ _ => eqKA_ok) h12] at q; exact ⟨ep, q⟩
    · first | exact no_tt h12 | exact no_ns h12 | induction h12
  · split at h13
    · assumption
    · first | exact no_tt h13 | exact no_ns h13 | induction h13
  · split at h14
    · rename_i fs q; rw [eqL'_ok (fun _ _ _ => eqNA_ok) h14] at q; exact q
    · first | exact no_tt h14 | exact no_ns h14 | induction h14
theorem LeafOk.low {d : LeafD} (K : LeafOk d) {i : Nat} {b : Ob} (h : d.st.get i = some b) : (i, b) ∈ d.L ∧ i < d.nx := ⟨mkTr_get h, (K.L _ (mkTr_get h)).1⟩
theorem LeafOk.noExc {d : LeafD} (K : LeafOk d) {i C : Nat} {x : Option Ix} : d.st.get i ≠ some (.exc C x) := fun h => by
  obtain ⟨m, _⟩ := K.low h
  rcases (K.L _ m).2 with q | q
  · obtain ⟨ep, e⟩ := K.og
    dsimp only at q
    rw [← q, h] at e; first | exact no_tt e | exact no_ns e | cases e
  · first | exact no_tt q | exact no_ns q | induction q
section
variable {g : Gd} {clo : CloP} {F : List Addr} {ρ : List Addr} {σ : List Str} {l e : St} {s : Shared} {d : LeafD}
theorem isRo_zero {st : St} (h2 : st.hi = 0) (i : Nat) : st.isRo i = false := by
  unfold St.isRo; rw [h2]
  have : Nat.blt i 0 = false := Bool.eq_false_iff.mpr fun z => absurd (Nat.blt_eq.mp z) (Nat.not_lt_zero i)
  rw [this, Bool.and_false]
theorem isLeaf_ok (h : isLeaf d l = true) : (∀ p ∈ d.L, l.get p.1 = some p.2) ∧ l.nx = d.nx ∧ l.sy = d.sy ∧ l.lo = 0 ∧ l.hi = 0 ∧ l.tb = none := by
  unfold isLeaf at h
  simp only [Bool.and_eq_true] at h
  obtain ⟨⟨⟨⟨⟨h1, h2⟩, h3⟩, h4⟩, h5⟩, h6⟩ := h
  refine ⟨allIn_ok h1, Nat.eq_of_beq_eq_true h2, Nat.eq_of_beq_eq_true h3, Nat.eq_of_beq_eq_true h4, Nat.eq_of_beq_eq_true h5, ?_⟩
  split at h6
  · assumption
  · first | exact no_tt h6 | exact no_ns h6 | induction h6
theorem leaf_rel (K : LeafOk d) (R : Rel g clo F ρ σ l s) (hF : ∀ a ∈ F, ρ[0]? = some a) (h : isLeaf d l = true) : Rel g clo F ρ σ d.st s := by
  obtain ⟨h1, h2, h3, h4, h5, h6⟩ := isLeaf_ok h
  have up : ∀ {i b}, d.st.get i = some b → l.get i = some b := fun e => h1 _ (K.low e).1
  refine R.remap (by rw [R.len, h2]; rfl) h3.symm (fun i b hb => ?_) (fun i j a b b' q1 q2 e1 e2 => ?_) (fun i C x => K.noExc) (fun a ha => ⟨0, d.fs, hF a ha, K.of, isRo_zero rfl 0⟩) (by have := R.tab; rw [h6] at this; exact this)
  · obtain ⟨a, o, q1, q2, q3⟩ := R.obs i b (up hb)
    exact ⟨a, o, q1, q2, q3, i, b, q1, up hb⟩
  · rcases R.inj i j a b b' q1 q2 (up e1) (up e2) with w | ⟨w, _⟩
    · exact .inl w
    · rw [isRo_zero h5] at w; first | exact no_tt w | exact no_ns w | induction w
end
section
variable {g : Gd} {clo : CloP} {ρ ρ' : List Addr} {σ : List Str} {n : Nat}
theorem VR.re {a : AV} {v : Value} (hp : ∀ i, i < n → ρ'[i]? = ρ[i]?) (hr : refV n a = true) (h : VR ρ σ a v) : VR ρ' σ a v := by
  induction a with
  | ref i => obtain ⟨x, e, h⟩ := h; exact ⟨x, by rw [hp i (Nat.blt_eq.mp hr)]; exact e, h⟩
  | _ => exact h
theorem VRs.re (hp : ∀ i, i < n → ρ'[i]? = ρ[i]?) {as : List AV} {vs : List Value} (hr : refs n as = true) (h : VRs ρ σ as vs) : VRs ρ' σ as vs := by
  refine h.ind (P := fun as vs => refs n as = true → VRs ρ' σ as vs) (fun _ => trivial) (fun a v r q h1 _ ih hr => ?_) hr
  unfold refs at hr
  split at hr
  · exact ⟨h1.re hp (by assumption), ih hr⟩
  · first | exact no_tt hr | exact no_ns hr | induction hr
theorem IR.re (hp : ∀ i, i < n → ρ'[i]? = ρ[i]?) {fs : List (Nat × AV)} {es : List DictEntry} (hr : refN n fs = true) (h : IR g ρ σ fs es) : IR g ρ' σ fs es := by
  refine h.ind (P := fun fs es => refN n fs = true → IR g ρ' σ fs es) (fun _ => trivial) (fun x v r e q t h1 h2 _ ih hr => ?_) hr
  unfold refN at hr
  split at hr
  · exact ⟨⟨t, h1⟩, h2.re hp (by assumption), ih hr⟩
  · first | exact no_tt hr | exact no_ns hr | induction hr
theorem KR.re (hp : ∀ i, i < n → ρ'[i]? = ρ[i]?) {kv : List (List Nat × AV)} {es : List (Str × Value)} (hr : refK n kv = true) (h : KR ρ σ kv es) : KR ρ' σ kv es := by
  refine h.ind (P := fun kv es => refK n kv = true → KR ρ' σ kv es) (fun _ => trivial) (fun x v r e u q h1 h2 _ ih hr => ?_) hr
  unfold refK at hr
  split at hr
  · exact ⟨h1, h2.re hp (by assumption), ih hr⟩
  · first | exact no_tt hr | exact no_ns hr | induction hr
theorem refN_look : ∀ {fs : List (Nat × AV)} {x : Nat} {v : AV}, refN n fs = true → look fs x = some v → refV n v = true := by
  intro fs
  induction fs with
  | nil =>
    intro x v hr h
    cases h
  | cons hd r ih =>
    intro x v hr h
    obtain ⟨y, w⟩ := hd
    unfold refN at hr
    unfold look at h
    split at hr
    · split at h
      · cases h; assumption
      · exact ih hr h
    · first | exact no_tt hr | exact no_ns hr | induction hr
theorem OR.re (hp : ∀ i, i < n → ρ'[i]? = ρ[i]?) {b : Ob} {o : Obj} (hr : refB n b = true) (h : OR g clo ρ σ b o) : OR g clo ρ' σ b o := by
  induction b with
  | inst C d => obtain ⟨dx, sl, e, h⟩ := h; exact ⟨dx, sl, by rw [hp d (Nat.blt_eq.mp hr)]; exact e, h⟩
  | idict fs => obtain ⟨es, m, e, h⟩ := h; exact ⟨es, m, e, h.re hp hr⟩
  | list vs => obtain ⟨xs, m, e, h⟩ := h; exact ⟨xs, m, e, h.re hp hr⟩
  | tup vs => obtain ⟨xs, m, e, h⟩ := h; exact ⟨xs, m, e, h.re hp hr⟩
  | dict kv ep => obtain ⟨es, kvs, a, b, c, d, e, h⟩ := h; exact ⟨es, kvs, a, b, c, d, e, h.re hp hr⟩
  | ns fs => obtain ⟨es, ep, a, b, c⟩ := h; exact ⟨es, ep, a, b, fun x v e => let ⟨u, p, q⟩ := c x v e; ⟨u, p, q.re hp (refN_look hr e)⟩⟩
  | cell v =>
    obtain ⟨u, a, c⟩ := h
    refine ⟨u, a, ?_⟩
    induction v with
    | none => induction u <;> exact c
    | some v => induction u with
      | none => exact c
      | some u => exact VR.re hp hr c
  | src j => obtain ⟨a, x, t, y, u, m, e, h⟩ := h; exact ⟨a, x, t, y, u, m, by rw [hp j (Nat.blt_eq.mp hr)]; exact e, h⟩
  | nums => exact h
  | _ => first | exact no_tt hr | exact no_ns hr | induction hr
end
end Mine
end
section
set_option genInjectivity false
set_option genSizeOf false
set_option tactic.hygienic false
open PySem PySem.W PySem.Calls PyProof.Rows PySem.SeqAt
set_option maxRecDepth 100000
namespace Mine
theorem txt_low_cons {σ : List Str} {c : Nat} {p : List Nat} (hc : c < 1114112) : txt σ (c :: p) = (txt σ p).map (c :: ·) := by
  have : Nat.blt c 1114112 = true := Nat.blt_eq.mpr hc
  show (match txt σ p with
    | none => none
    | some l => match Nat.blt c 1114112 with
      | true => some (c :: l)
      | false => match σ[c - 1114112]? with
        | some s => some (s.cps.toList ++ l)
        | none => none) = _
  induction txt σ p with
  | none => rfl
  | some l => simp only [this]; rfl
theorem txt_fdot {σ : List Str} {p l : List Nat} (h : txt σ p = some l) : txt σ (fdot p) = some (102 :: 46 :: l) := by
  unfold fdot
  rw [txt_low_cons (by omega), txt_low_cons (by omega), h]; rfl
set_option tactic.hygienic true in
theorem txt_sym_some {σ : List Str} {n : Nat} (hn : n = σ.length) : ∀ {p : List Nat}, symB n p = true → ∃ l, txt σ p = some l := by
  intro p
  induction p with
  | nil =>
    intro _
    exact ⟨[], rfl⟩
  | cons c r ih =>
    intro h
    unfold symB at h
    split at h
    · rename_i q
      obtain ⟨l, hl⟩ := ih h
      unfold txt
      rw [hl]
      dsimp only
      induction hc : Nat.blt c 1114112 with
      | true => exact ⟨_, rfl⟩
      | false =>
        rw [hc, Bool.false_or] at q
        have := Nat.blt_eq.mp q
        rw [hn] at this
        dsimp only
        rw [List.getElem?_eq_getElem this]
        exact ⟨_, rfl⟩
    · first | exact no_tt h | exact no_ns h | induction h
structure Meth (e : St) (n0 k0 : Nat) (n : List Nat) (j dd c cc : Nat) : Prop where
  fa : e.get j = some (.inst 331 dd)
  fb : e.get dd = some (.idict (bltF (fdot n) c))
  fc : e.get c = some (.clo toldP.1 toldP.2 [(5, cc)] k0)
  fd : e.get cc = some (.cell (some (.str (fdot n))))
  lj : n0 ≤ j
  ld : n0 ≤ dd
  lc : n0 ≤ c
  lcc : n0 ≤ cc
set_option tactic.hygienic true in
theorem objChk_ok {e : St} {n0 k0 : Nat} {n : List Nat} {j : Ix} (h : objChk e n0 k0 n j = true) : ∃ dd c cc, Meth e n0 k0 n j dd c cc := by
  unfold objChk at h
  induction hj : e.get j with
  | none => rw [hj] at h; exact no_tt h
  | some b1 =>
  rw [hj] at h
  induction b1 <;> first | exact no_tt h | skip
  rename_i C dd
  dsimp only at h
  induction hc : (Nat.beq C 331 && Nat.ble n0 j && Nat.ble n0 dd) with
  | false => rw [hc] at h; exact no_tt h
  | true =>
  rw [hc] at h
  induction hd : e.get dd with
  | none => rw [hd] at h; exact no_tt h
  | some b2 =>
  rw [hd] at h
  induction b2 <;> first | exact no_tt h | skip
  rename_i fs
  dsimp only at h
  induction hl : look fs 38 with
  | none => rw [hl] at h; exact no_tt h
  | some v =>
  rw [hl] at h
  induction v <;> first | exact no_tt h | skip
  rename_i c
  dsimp only at h
  induction hq : (eqL' eqNA fs (bltF (fdot n) c) && Nat.ble n0 c) with
  | false => rw [hq] at h; exact no_tt h
  | true =>
  rw [hq] at h
  induction hcl : e.get c with
  | none => rw [hcl] at h; exact no_tt h
  | some b3 =>
  rw [hcl] at h
  induction b3 <;> first | exact no_tt h | skip
  rename_i ps b cs k
  rcases cs with _ | ⟨⟨x, cc⟩, _ | ⟨y, r⟩⟩
  · exact no_tt h
  rotate_left
  · exact no_tt h
  dsimp only at h
  induction hz : (Nat.beq x 5 && Nat.ble n0 cc && Nat.beq k k0 && eqN ps toldP.1 && eqL' eqS b toldP.2) with
  | false => rw [hz] at h; exact no_tt h
  | true =>
  rw [hz] at h
  induction hcell : e.get cc with
  | none => rw [hcell] at h; exact no_tt h
  | some b4 =>
  rw [hcell] at h
  induction b4 <;> first | exact no_tt h | skip
  rename_i ov
  induction ov <;> first | exact no_tt h | skip
  rename_i v
  induction v <;> first | exact no_tt h | skip
  rename_i q
  have h : eqN q (fdot n) = true := h
  simp only [Bool.and_eq_true] at hc hq hz
  obtain ⟨⟨c1, c2⟩, c3⟩ := hc
  obtain ⟨q1, q2⟩ := hq
  obtain ⟨⟨⟨⟨z1, z2⟩, z3⟩, z4⟩, z5⟩ := hz
  rw [Nat.eq_of_beq_eq_true c1] at hj
  rw [eqL'_ok (fun _ _ _ => eqNA_ok) q1] at hd
  rw [Nat.eq_of_beq_eq_true z1, Nat.eq_of_beq_eq_true z3, eqN_ok z4, eqL'_ok (fun _ _ _ => eqS_ok) z5] at hcl
  rw [eqN_ok h] at hcell
  exact ⟨dd, c, cc, hj, hd, hcl, hcell, Nat.ble_eq.mp c2, Nat.ble_eq.mp c3, Nat.ble_eq.mp q2, Nat.ble_eq.mp z2⟩
set_option tactic.hygienic true in
theorem newChk_ok {e : St} {n0 k0 : Nat} {news : List (List Nat × AV)} : ∀ {rs : List AV}, newChk e n0 k0 news rs = true →
    (∀ p ∈ news, ∃ n j dd c cc, p = (fdot n, .ref j) ∧ .str n ∈ rs ∧ Meth e n0 k0 n j dd c cc) ∧ (∀ v ∈ rs, ∃ n j, v = .str n ∧ (fdot n, AV.ref j) ∈ news) := by
  induction news with
  | nil => intro rs h; induction rs with
    | nil => exact ⟨fun _ h => (nomatch h), fun _ h => (nomatch h)⟩
    | cons _ _ => exact no_tt h
  | cons pj r ih =>
    obtain ⟨p, v⟩ := pj
    intro rs h
    induction rs using List.casesOn with
    | nil => induction v <;> exact no_tt h
    | cons w q =>
      induction v
      case ref j =>
        induction w
        case str n =>
          have hh : (match eqN p (fdot n) && objChk e n0 k0 n j with | true => newChk e n0 k0 r q | false => false) = true := h
          induction z : eqN p (fdot n) && objChk e n0 k0 n j with
          | false => rw [z] at hh; first | exact no_tt hh | exact no_ns hh | induction hh
          | true =>
            rw [z] at hh
            rw [Bool.and_eq_true] at z
            have e1 := eqN_ok z.1
            subst e1
            obtain ⟨dd, c, cc, M⟩ := objChk_ok z.2
            obtain ⟨a, b⟩ := ih (rs := q) hh
            refine ⟨fun x hx => ?_, fun v hv => ?_⟩
            · rcases List.mem_cons.mp hx with rfl | hx
              · exact ⟨n, j, dd, c, cc, rfl, List.mem_cons_self, M⟩
              · obtain ⟨n', j', dd', c', cc', e1, e2, e3⟩ := a x hx
                exact ⟨n', j', dd', c', cc', e1, List.mem_cons_of_mem _ e2, e3⟩
            · rcases List.mem_cons.mp hv with rfl | hv
              · exact ⟨n, j, rfl, List.mem_cons_self⟩
              · obtain ⟨n', j', e1, e2⟩ := b v hv
                exact ⟨n', j', e1, List.mem_cons_of_mem _ e2⟩
        all_goals exact no_tt h
      all_goals exact no_tt h
set_option tactic.hygienic true in
theorem sameIn_ok {e : St} {g r : Nat} : ∀ {L : List (Nat × Ob)}, sameIn e g r L = true → ∀ p ∈ L, p.1 ≠ g → p.1 ≠ r → p.1 ≠ 0 → e.get p.1 = some p.2 := by
  intro L
  induction L with
  | nil =>
    intro _ p hp
    exact nomatch hp
  | cons hd q ih =>
    intro h p hp
    obtain ⟨i, b⟩ := hd
    unfold sameIn at h
    split at h
    · rename_i z
      rcases List.mem_cons.mp hp with rfl | hp
      · intro h1 h2 h3
        dsimp only at h1 h2 h3 ⊢
        simp only [Bool.or_eq_true] at z
        rcases z with ((z | z) | z) | z
        · exact (h1 (Nat.eq_of_beq_eq_true z)).elim
        · exact (h2 (Nat.eq_of_beq_eq_true z)).elim
        · exact (h3 (Nat.eq_of_beq_eq_true z)).elim
        · exact eqOO_ok z
      · exact ih h p hp
    · first | exact no_tt h | exact no_ns h | induction h
set_option tactic.hygienic true in
theorem nsSub_ok {fe : List (Nat × AV)} : ∀ {l : List (Nat × AV)}, nsSub fe l = true → ∀ x v, look l x = some v → look fe x = some v := by
  intro l
  induction l with
  | nil =>
    intro _ x v h
    cases h
  | cons hd r ih =>
    intro h x v hl
    obtain ⟨y, w⟩ := hd
    unfold nsSub at h
    split at h
    · rename_i w' hw
      split at h
      · rename_i q
        unfold look at hl
        split at hl
        · rename_i z; cases hl; rw [← Nat.eq_of_beq_eq_true z, hw, eqAV_ok q]
        · exact ih h x v hl
      · first | exact no_tt h | exact no_ns h | induction h
    · first | exact no_tt h | exact no_ns h | induction h
structure EndOk (d : LeafD) (e : St) (news : List (List Nat × AV)) (rs : List AV) (k0 : Nat) : Prop where
  og : ∃ ep, e.get d.g = some (.dict (d.kv ++ news) ep)
  or : e.get d.r = some (.list rs)
  of : ∃ fe, e.get 0 = some (.ns fe) ∧ ∀ x v, look (putA d.fs 5 (.str txtDefault)) x = some v → look fe x = some v
  same : ∀ p ∈ d.L, p.1 ≠ d.g → p.1 ≠ d.r → p.1 ≠ 0 → e.get p.1 = some p.2
  sy : e.sy = d.sy
  lo : e.lo = 0
  hi : e.hi = 0
  m1 : ∀ p ∈ news, ∃ n j dd c cc, p = (fdot n, .ref j) ∧ .str n ∈ rs ∧ Meth e d.nx k0 n j dd c cc
  m2 : ∀ v ∈ rs, ∃ n j, v = .str n ∧ (fdot n, AV.ref j) ∈ news
  code : rs ≠ [] → e.get k0 = some .code ∧ d.nx ≤ k0
set_option tactic.hygienic true in
theorem endOk_ok {d : LeafD} {e : St} (h : endOk d e = true) : ∃ news rs k0, EndOk d e news rs k0 := by
  unfold endOk at h
  induction hg : e.get d.g with
  | none => rw [hg] at h; exact no_tt h
  | some b1 =>
  rw [hg] at h
  induction b1 <;> first | exact no_tt h | skip
  rename_i kve ep
  induction hr : e.get d.r with
  | none => rw [hr] at h; exact no_tt h
  | some b2 =>
  rw [hr] at h
  induction b2 <;> first | exact no_tt h | skip
  rename_i rs
  induction hf : e.get 0 with
  | none => rw [hf] at h; exact no_tt h
  | some b3 =>
  rw [hf] at h
  induction b3 <;> first | exact no_tt h | skip
  · rename_i fe
    dsimp only at h
    split at h
    · rename_i k0 hk
      simp only [Bool.and_eq_true] at h
      obtain ⟨⟨⟨⟨⟨⟨⟨h1, h2⟩, h3⟩, h4⟩, h5⟩, h6⟩, h7⟩, h8⟩ := h
      have e1 := eqL'_ok (fun _ _ _ => eqKA_ok) h1
      have e2 : d.kv ++ kve.drop d.kv.length = kve := by
        have := List.take_append_drop d.kv.length kve
        rw [e1] at this; exact this
      obtain ⟨m1, m2⟩ := newChk_ok h2
      refine ⟨kve.drop d.kv.length, rs, k0, ⟨ep, by rw [e2]; exact hg⟩, hr, ⟨fe, hf, nsSub_ok h3⟩, sameIn_ok h4, Nat.eq_of_beq_eq_true h5, Nat.eq_of_beq_eq_true h6, Nat.eq_of_beq_eq_true h7, m1, m2, fun hne => ?_⟩
      unfold tbOf at hk
      refine ⟨?_, ?_⟩
      · split at hk
        · split at hk
          · cases hk; assumption
          · first | exact no_tt hk | exact no_ns hk | induction hk
        · split at hk
          · exact (hne rfl).elim
          · first | exact no_tt hk | exact no_ns hk | induction hk
      · split at h8
        · exact (hne rfl).elim
        · exact Nat.ble_eq.mp h8
    · first | exact no_tt h | exact no_ns h | induction h
end Mine
end
section
set_option genInjectivity false
set_option genSizeOf false
set_option tactic.hygienic false
open PySem PySem.W PySem.Calls PyProof.Rows PySem.SeqAt
set_option maxRecDepth 100000
namespace Mine
section
variable {g : Gd} {clo : CloP} {F : List Addr} {ρ : List Addr} {σ : List Str} {e : St} {s : Shared} {d : LeafD} {news : List (List Nat × AV)} {rs : List AV} {k0 : Nat}
structure Part (g : Gd) (clo : CloP) (ρ : List Addr) (σ : List Str) (e : St) (s : Shared) (d : LeafD) (news : List (List Nat × AV)) (k0 : Nat) (any : Bool) (st : St) (kv : List (List Nat × AV)) (ρ' : List Addr) : Prop where
  len : ρ'.length = st.nx
  nx : d.nx < st.nx
  sy : st.sy = d.sy
  pre : ∀ i, i < d.nx → ρ'[i]? = ρ[i]?
  old : ∀ i, i < d.nx → st.get i = d.st.get i
  new : ∀ (i : Nat) (b : Ob), d.nx ≤ i → st.get i = some b → i < st.nx ∧ ∃ (a : Addr) (o : Obj) (i₀ : Nat) (b₀ : Ob), ρ'[i]? = some a ∧ s.heap.get? a = some o ∧ OR g clo ρ' σ b o ∧ ρ[i₀]? = some a ∧ e.get i₀ = some b₀ ∧ d.nx ≤ i₀ ∧ ∀ C x, b ≠ .exc C x
  kv : ∀ p ∈ kv, p ∈ d.kv ∨ ∃ key n idx j a, p = (fdot key, AV.ref idx) ∧ (fdot n, AV.ref j) ∈ news ∧ txt σ n = txt σ key ∧ ρ'[idx]? = some a ∧ ρ[j]? = some a
  code : any = true → ρ'[d.nx]? = ρ[k0]? ∧ e.get k0 = some .code
set_option tactic.hygienic true in
theorem Part.step {any : Bool} {st : St} {kv : List (List Nat × AV)} {ρ' : List Addr} (P : Part g clo ρ σ e s d news k0 any st kv ρ') {a : Addr} {o : Obj} {b : Ob} {i₀ : Nat} {b₀ : Ob} (h1 : s.heap.get? a = some o) (h2 : OR g clo (ρ' ++ [a]) σ b o) (h3 : ρ[i₀]? = some a) (h4 : e.get i₀ = some b₀) (h5 : d.nx ≤ i₀) (h6 : ∀ C x, b ≠ .exc C x) :
    Part g clo ρ σ e s d news k0 any (st.new b) kv (ρ' ++ [a]) := by
  have σσ : σ ++ [] = σ := List.append_nil σ
  have lt : ∀ {i : Nat}, i < d.nx → i < ρ'.length := fun h => by rw [P.len]; exact Nat.lt_trans h P.nx
  refine ⟨by rw [List.length_append, P.len]; rfl, Nat.lt_succ_of_lt P.nx, P.sy, fun i hi => by rw [List.getElem?_append_left (lt hi)]; exact P.pre i hi, fun i hi => ?_, fun i b' hi hb => ?_, fun p hp => ?_, fun h => ?_⟩
  · rw [St.get_new, if_neg (Nat.ne_of_lt (Nat.lt_trans hi P.nx))]; exact P.old i hi
  · rw [St.get_new] at hb
    split at hb
    · rename_i q
      cases hb
      exact ⟨by rw [q]; exact Nat.lt_succ_self _, a, o, i₀, b₀, by rw [q]; exact getElem?_push_last ρ' a P.len, h1, h2, h3, h4, h5, h6⟩
    · obtain ⟨hlt, a', o', i', b'', q1, q2, q3, q4⟩ := P.new i b' hi hb
      exact ⟨Nat.lt_succ_of_lt hlt, a', o', i', b'', at_mono _ q1, q2, σσ ▸ q3.mono [a] [], q4⟩
  · rcases P.kv p hp with q | ⟨key, n, idx, j, a', q1, q2, q3, q4, q5⟩
    · exact .inl q
    · exact .inr ⟨key, n, idx, j, a', q1, q2, q3, at_mono _ q4, q5⟩
  · rw [List.getElem?_append_left (by rw [P.len]; exact P.nx)]; exact P.code h
theorem IR.cong {ρ' : List Addr} {x : Nat} {v v' : AV} {r r' : List (Nat × AV)} (hv : ∀ u, VR ρ σ v u → VR ρ' σ v' u) (hr : ∀ es, IR g ρ σ r es → IR g ρ' σ r' es) (es : List DictEntry) (h : IR g ρ σ ((x, v) :: r) es) : IR g ρ' σ ((x, v') :: r') es := by
  induction es with
  | nil => exact h.elim
  | cons e es => exact ⟨h.1, hv _ h.2.1, hr _ h.2.2⟩
theorem IR.blt (O : g.Ok) {n p l : List Nat} {c c' : Nat} {ρ' : List Addr} {a : Addr} (hn : txt σ (fdot n) = some l) (hp : txt σ (fdot p) = some l) (hc : ρ[c]? = some a) (hc' : ρ'[c']? = some a)
    {es : List DictEntry} (h : IR g ρ σ (bltF (fdot n) c) es) : IR g ρ' σ (bltF (fdot p) c') es := by
  refine IR.cong (ρ := ρ) (ρ' := ρ') (σ := σ) (v := AV.str [98, 117, 105, 108, 116, 105, 110]) (v' := AV.str [98, 117, 105, 108, 116, 105, 110]) (fun _ z => z) (IR.cong (ρ := ρ) (ρ' := ρ') (σ := σ) (v := AV.str (fdot n)) (v' := AV.str (fdot p)) (fun u z => ?_) (IR.cong (ρ := ρ) (ρ' := ρ') (σ := σ) (v := AV.bool false) (v' := AV.bool false) (fun _ z => z) (IR.cong (ρ := ρ) (ρ' := ρ') (σ := σ) (v := AV.ref c) (v' := AV.ref c') (fun u z => ?_) (IR.cong (ρ := ρ) (ρ' := ρ') (σ := σ) (v := AV.str []) (v' := AV.str []) (fun _ z => z) (IR.cong (ρ := ρ) (ρ' := ρ') (σ := σ) (v := AV.none) (v' := AV.none) (r := []) (fun _ z => z) (fun es h => ?_)))))) es h
  · obtain ⟨l', t, q1, q2⟩ := z
    rw [hn] at q1; first | exact no_tt q1 | exact no_ns q1 | cases q1
    exact ⟨l, t, hp, q2⟩
  · obtain ⟨a', q1, q2⟩ := z
    rw [hc] at q1; first | exact no_tt q1 | exact no_ns q1 | cases q1
    exact ⟨a, hc', q2⟩
  · rw [h.nil_inv]; trivial
set_option tactic.hygienic true in
theorem Part.meth (O : g.Ok) (R : Rel g clo F ρ σ e s) {st : St} {kv : List (List Nat × AV)} {ρ' : List Addr} (P : Part g clo ρ σ e s d news k0 true st kv ρ') {n p : List Nat} {j dd c cc : Nat} (M : Meth e d.nx k0 n j dd c cc) (hm : (fdot n, AV.ref j) ∈ news) (ht : txt σ n = txt σ p) {l : List Nat} (hl : txt σ p = some l) :
    ∃ ρ'', Part g clo ρ σ e s d news k0 true ((((st.new (.cell (some (.str (fdot p))))).new (.clo toldP.1 toldP.2 [(5, st.nx)] d.nx)).new (.idict (bltF (fdot p) (st.nx + 1)))).new (.inst 331 (st.nx + 2))) ((fdot p, .ref (st.nx + 3)) :: kv) ρ'' := by
  have tn := txt_fdot (ht.trans hl)
  have tp := txt_fdot hl
  obtain ⟨acc, occ, q1, q2, ucc, q3, q4⟩ := R.obs cc _ M.fd
  obtain ⟨ac, oc, w1, w2, cf, cl, df, sl, doc, pm, ctv, cd, w3, w4, w5, w6⟩ := R.obs c _ M.fc
  obtain ⟨ad, od, v1, v2, es, m, v3, v4⟩ := R.obs dd _ M.fb
  obtain ⟨aj, oj, u1, u2, dx, slj, u3, u4⟩ := R.obs j _ M.fa
  have P1 := P.step (b := .cell (some (.str (fdot p)))) q2 ⟨ucc, q3, by
    induction ucc with
    | none => exact q4.elim
    | some u =>
      obtain ⟨l', t, z1, z2⟩ := q4
      rw [tn] at z1; first | exact no_tt z1 | exact no_ns z1 | cases z1
      exact ⟨_, t, tp, z2⟩⟩ q1 M.fd M.lcc (fun _ _ q => by first | exact Ob.noConfusion q | induction q)
  have L1 : (ρ' ++ [acc])[st.nx]? = some acc := getElem?_push_last ρ' acc P.len
  have P2 := P1.step (b := .clo toldP.1 toldP.2 [(5, st.nx)] d.nx) (a := ac) w2 ⟨cf, cl, df, sl, doc, pm, ctv, cd, w3, at_mono _ ((P1.code rfl).1.trans w4), w5, fun x i hx => by
    obtain ⟨a', z1, z2⟩ := w6 5 cc (by unfold lookI; rw [Nat.beq_refl])
    rw [q1] at z1; first | exact no_tt z1 | exact no_ns z1 | cases z1
    unfold lookI at hx
    split at hx
    · rename_i hq
      cases hx
      rw [← Nat.eq_of_beq_eq_true hq]
      exact ⟨acc, at_mono _ L1, z2⟩
    · cases hx⟩ w1 M.fc M.lc (fun _ _ q => by first | exact Ob.noConfusion q | cases q)
  have L2 : (ρ' ++ [acc] ++ [ac])[st.nx + 1]? = some ac := getElem?_push_last _ ac P1.len
  have P3 := P2.step (b := .idict (bltF (fdot p) (st.nx + 1))) (a := ad) v2 ⟨es, m, v3, IR.blt O tn tp w1 (at_mono _ L2) v4⟩ v1 M.fb M.ld (fun _ _ q => by first | exact Ob.noConfusion q | induction q)
  have L3 : (ρ' ++ [acc] ++ [ac] ++ [ad])[st.nx + 2]? = some ad := getElem?_push_last _ ad P2.len
  rw [v1] at u3; first | exact no_tt u3 | exact no_ns u3 | cases u3
  have P4 := P3.step (b := .inst 331 (st.nx + 2)) (a := aj) u2 ⟨ad, slj, at_mono _ L3, u4⟩ u1 M.fa M.lj (fun _ _ q => by first | exact Ob.noConfusion q | induction q)
  have L4 : (ρ' ++ [acc] ++ [ac] ++ [ad] ++ [aj])[st.nx + 3]? = some aj := getElem?_push_last _ aj P3.len
  refine ⟨_, P4.len, P4.nx, P4.sy, P4.pre, P4.old, P4.new, fun x hx => ?_, P4.code⟩
  rcases List.mem_cons.mp hx with rfl | hx
  · exact .inr ⟨p, n, st.nx + 3, j, aj, rfl, hm, ht, L4, u1⟩
  · exact P4.kv x hx
theorem Part.all (O : g.Ok) (R : Rel g clo F ρ σ e s) {any : Bool} : ∀ (keys : List (List Nat × Bool)) (st : St) (kv : List (List Nat × AV)) (ρ' : List Addr), Part g clo ρ σ e s d news k0 any st kv ρ' → (anyT keys = true → any = true) →
    (∀ q ∈ keys, q.2 = true → ∃ n j dd c cc l, Meth e d.nx k0 n j dd c cc ∧ (fdot n, AV.ref j) ∈ news ∧ txt σ n = txt σ q.1 ∧ txt σ q.1 = some l) →
      ∃ ρ'', Part g clo ρ σ e s d news k0 any (addM d.nx keys st kv).1 (addM d.nx keys st kv).2 ρ'' := by
  intro keys
  induction keys with
  | nil => intro st kv ρ' P _ _; exact ⟨ρ', P⟩
  | cons pq r ih =>
    obtain ⟨p, t⟩ := pq
    intro st kv ρ' P ha hk
    cases t with
    | false => exact ih st kv ρ' P (fun h => ha h) fun q hq => hk q (List.mem_cons_of_mem _ hq)
    | true =>
      have e := ha rfl
      subst e
      obtain ⟨n, j, dd, c, cc, l, h1, h2, h3, h4⟩ := hk _ List.mem_cons_self rfl
      obtain ⟨ρ'', P'⟩ := P.meth O R h1 h2 h3 h4
      exact ih _ _ ρ'' P' (fun _ => rfl) fun q hq => hk q (List.mem_cons_of_mem _ hq)
end
end Mine
end
section
set_option genInjectivity false
set_option genSizeOf false
set_option tactic.hygienic false
open PySem PySem.W PySem.Calls PyProof.Rows PySem.SeqAt
set_option maxRecDepth 100000
namespace Mine
section
variable {g : Gd} {clo : CloP} {F : List Addr} {ρ : List Addr} {σ : List Str} {e : St} {s : Shared} {d : LeafD} {news : List (List Nat × AV)} {rs : List AV} {k0 : Nat}
theorem KR.at {kv : List (List Nat × AV)} {kvs : List (Str × Value)} (h : KR ρ σ kv kvs) (hn : (kvs.map (·.1)).Nodup) : ∀ p ∈ kv, ∃ x u, txt σ p.1 = some x.cps.toList ∧ valueAt kvs x = some u ∧ VR ρ σ p.2 u := by
    refine h.ind (P := fun kv kvs => (kvs.map (·.1)).Nodup → ∀ p ∈ kv, ∃ x u, txt σ p.1 = some x.cps.toList ∧ valueAt kvs x = some u ∧ VR ρ σ p.2 u) (fun _ _ h => nomatch h) (fun q v kv x u kvs h1 h2 h3 ih hn p hp => ?_) hn
    rw [List.map_cons, List.nodup_cons] at hn
    rcases List.mem_cons.mp hp with rfl | hp
    · exact ⟨x, u, h1, by unfold valueAt; simp, h2⟩
    · obtain ⟨y, w, a, b, c⟩ := ih hn.2 p hp
      refine ⟨y, w, a, ?_, c⟩
      have hne : x ≠ y := fun z => by
        subst z
        refine hn.1 ?_
        unfold valueAt at b
        induction hf : kvs.find? (fun kv => decide (kv.1 = x)) with
        | none => rw [hf] at b; first | exact no_tt b | exact no_ns b | induction b
        | some z =>
          have := List.find?_some hf
          have hm := List.mem_of_find?_eq_some hf
          exact List.mem_map.mpr ⟨z, hm, by simpa using this⟩
      unfold valueAt at b ⊢
      rw [List.find?_cons, show decide (x = y) = false from by simpa using hne]
      exact b
theorem KR.none {kv : List (List Nat × AV)} {kvs : List (Str × Value)} {y : Str} (h : KR ρ σ kv kvs) (hn : ∀ p ∈ kv, txt σ p.1 ≠ some y.cps.toList) : valueAt kvs y = none := by
  refine h.ind (P := fun kv kvs => (∀ p ∈ kv, txt σ p.1 ≠ some y.cps.toList) → valueAt kvs y = Option.none) (fun _ => rfl) (fun q v kv x u kvs h1 h2 h3 ih hn => ?_) hn
  have hne : x ≠ y := fun z => by subst z; exact hn _ List.mem_cons_self h1
  have := ih fun p hp => hn p (List.mem_cons_of_mem _ hp)
  unfold valueAt at this ⊢
  rw [List.find?_cons, show decide (x = y) = false from by simpa using hne]
  exact this
theorem kvKeys_ok : ∀ {kv : List (List Nat × AV)}, kvKeys kv = true → ∀ p ∈ kv, kvKey p.1 = true
  | [], _, p, hp => (nomatch hp)
  | a :: r, h, p, hp => by
    unfold kvKeys at h
    split at h
    · rcases List.mem_cons.mp hp with rfl | hp
      · assumption
      · exact kvKeys_ok h p hp
    · first | exact no_tt h | exact no_ns h | induction h
set_option tactic.hygienic true in
theorem kvKey_ok {p : List Nat} (h : kvKey p = true) : (∀ q, p ≠ 102 :: 46 :: q) ∧ lowP p = true ∧ p ≠ txtUse := by
  unfold kvKey at h
  split at h
  · first | exact no_tt h | exact no_ns h | induction h
  · rename_i hq
    rw [Bool.and_eq_true, Bool.not_eq_true'] at h
    exact ⟨fun q e => hq q e, h.1, fun z => by rw [z, eqN_refl] at h; cases h.2⟩
theorem refK_at {n : Nat} : ∀ {kv : List (List Nat × AV)}, refK n kv = true → ∀ p ∈ kv, refV n p.2 = true
  | [], _, p, hp => (nomatch hp)
  | a :: r, h, p, hp => by
    unfold refK at h
    split at h
    · rcases List.mem_cons.mp hp with rfl | hp
      · assumption
      · exact refK_at h p hp
    · first | exact no_tt h | exact no_ns h | induction h
theorem VRs.mem {as : List AV} {vs : List Value} (h : VRs ρ σ as vs) : (∀ a ∈ as, ∃ v ∈ vs, VR ρ σ a v) ∧ ∀ v ∈ vs, ∃ a ∈ as, VR ρ σ a v := by
  refine h.ind (P := fun as vs => (∀ a ∈ as, ∃ v ∈ vs, VR ρ σ a v) ∧ ∀ v ∈ vs, ∃ a ∈ as, VR ρ σ a v) ⟨fun _ h => (nomatch h), fun _ h => (nomatch h)⟩ (fun a v r q h1 _ ih => ⟨fun b hb => ?_, fun b hb => ?_⟩)
  · rcases List.mem_cons.mp hb with rfl | hb
    · exact ⟨v, List.mem_cons_self, h1⟩
    · obtain ⟨w, h3, h4⟩ := ih.1 b hb; exact ⟨w, List.mem_cons_of_mem _ h3, h4⟩
  · rcases List.mem_cons.mp hb with rfl | hb
    · exact ⟨a, List.mem_cons_self, h1⟩
    · obtain ⟨w, h3, h4⟩ := ih.2 b hb; exact ⟨w, List.mem_cons_of_mem _ h3, h4⟩
noncomputable def Has (σ : List Str) (news : List (List Nat × AV)) (p : List Nat) : Prop := ∃ n j, (fdot n, AV.ref j) ∈ news ∧ txt σ n = txt σ p
open Classical in
noncomputable def keysAt (σ : List Str) (news : List (List Nat × AV)) (d : LeafD) : List Bool := (d.ts ++ [txtDefault]).map fun p => decide (Has σ news p)
theorem keysAt_len : (keysAt σ news d).length = d.ts.length + 1 := by unfold keysAt; simp
theorem mem_keys {q : List Nat × Bool} (h : q ∈ d.keys (keysAt σ news d)) : q.1 ∈ d.ts ++ [txtDefault] ∧ (q.2 = true ↔ Has σ news q.1) := by
  unfold LeafD.keys keysAt at h
  generalize d.ts ++ [txtDefault] = l at h ⊢
  induction l with
  | nil => first | exact no_tt h | exact no_ns h | cases h
  | cons a r ih =>
    rw [List.map_cons, List.zip_cons_cons] at h
    rcases List.mem_cons.mp h with rfl | h
    · exact ⟨List.mem_cons_self, by simp⟩
    · obtain ⟨x, y⟩ := ih h; exact ⟨List.mem_cons_of_mem _ x, y⟩
theorem ins_mem : ∀ {keys : List (List Nat × Bool)} {p : List Nat}, p ∈ insOf keys → (p, true) ∈ keys
  | (a, true) :: r, p, h => by
    rcases List.mem_cons.mp (show p ∈ a :: insOf r from h) with rfl | h
    · exact List.mem_cons_self
    · exact List.mem_cons_of_mem _ (ins_mem h)
  | (a, false) :: r, p, h => List.mem_cons_of_mem _ (ins_mem (show p ∈ insOf r from h))
theorem outs_mem : ∀ {keys : List (List Nat × Bool)} {p : List Nat}, p ∈ outsOf keys → (p, false) ∈ keys
  | (a, false) :: r, p, h => by
    rcases List.mem_cons.mp (show p ∈ a :: outsOf r from h) with rfl | h
    · exact List.mem_cons_self
    · exact List.mem_cons_of_mem _ (outs_mem h)
  | (a, true) :: r, p, h => List.mem_cons_of_mem _ (outs_mem (show p ∈ outsOf r from h))
theorem any_mem' : ∀ {keys : List (List Nat × Bool)}, anyT keys = true → ∃ p, (p, true) ∈ keys
  | (a, true) :: r, _ => ⟨a, List.mem_cons_self⟩
  | (a, false) :: r, h => let ⟨p, hp⟩ := any_mem' (keys := r) h; ⟨p, List.mem_cons_of_mem _ hp⟩
end
end Mine
end
section
set_option genInjectivity false
set_option genSizeOf false
set_option tactic.hygienic false
open PySem PySem.W PySem.Calls PyProof.Rows PySem.SeqAt
set_option maxRecDepth 100000
namespace Mine
section
variable {g : Gd} {clo : CloP} {F : List Addr} {ρ : List Addr} {σ : List Str} {e : St} {s : Shared} {d : LeafD} {news : List (List Nat × AV)} {rs : List AV} {k0 : Nat}
theorem has_meth (EO : EndOk d e news rs k0) {n : List Nat} {j : Nat} (h : (fdot n, AV.ref j) ∈ news) : AV.str n ∈ rs ∧ ∃ dd c cc, Meth e d.nx k0 n j dd c cc := by
  obtain ⟨n', j', dd, c, cc, q, h2, h3⟩ := EO.m1 _ h
  injection q with q1 q2
  have : n = n' := by unfold fdot at q1; injection q1 with _ q1; injection q1
  injection q2 with q2
  subst this q2
  exact ⟨h2, dd, c, cc, h3⟩
theorem ab_get (keys : List (List Nat × Bool)) (i : Nat) : (d.ab keys).get i = if i = 0 then some (.ns (putA d.fs 5 (.str txtDefault))) else if i = d.r then some (.lset (insOf keys) (outsOf keys)) else if i = d.g then some (.pdict (addM d.nx keys (d.base (anyT keys)) d.kv).2 (txtUse :: (outsOf keys).map fdot)) else (addM d.nx keys (d.base (anyT keys)) d.kv).1.get i := by
  show (((((addM d.nx keys (d.base (anyT keys)) d.kv).1.hp.set d.g _).set d.r _).set 0 _).get i) = _
  rw [Tr.get_set, Tr.get_set, Tr.get_set]; rfl
theorem ab_ro (keys : List (List Nat × Bool)) (i : Nat) : (d.ab keys).isRo i = (Nat.ble d.nx i && Nat.blt i (addM d.nx keys (d.base (anyT keys)) d.kv).1.nx) := rfl
set_option tactic.hygienic true in
theorem part_base (K : LeafOk d) (R : Rel g clo F ρ σ e s) (EO : EndOk d e news rs k0) (hlen : d.nx ≤ ρ.length) (any : Bool) (ha : any = true → rs ≠ []) : ∃ ρ', Part g clo ρ σ e s d news k0 any (d.base any) d.kv ρ' := by
  have tl : (ρ.take d.nx).length = d.nx := by rw [List.length_take]; omega
  have pre : ∀ (x : Addr) i, i < d.nx → (ρ.take d.nx ++ [x])[i]? = ρ[i]? := fun x i hi => by
    rw [List.getElem?_append_left (by rw [tl]; exact hi), List.getElem?_take, if_pos hi]
  induction any with
  | false =>
    refine ⟨ρ.take d.nx ++ [0], by rw [List.length_append, tl]; rfl, Nat.lt_succ_self _, rfl, pre 0, fun i hi => rfl, fun i b hi hb => ?_, fun p hp => .inl hp, fun h => by cases h⟩
    have hb' : d.st.get i = some b := hb
    exact absurd (K.low hb').2 (Nat.not_lt.mpr hi)
  | true =>
    obtain ⟨hc, hk⟩ := EO.code (ha rfl)
    obtain ⟨a, o, q1, q2, q3⟩ := R.obs k0 _ hc
    have gl : (ρ.take d.nx ++ [a])[d.nx]? = some a := getElem?_push_last _ _ tl
    refine ⟨ρ.take d.nx ++ [a], by rw [List.length_append, tl]; rfl, Nat.lt_succ_self _, rfl, pre a, fun i hi => ?_, fun i b hi hb => ?_, fun p hp => .inl hp, fun _ => ⟨gl.trans q1.symm, hc⟩⟩
    · show (d.st.new .code).get i = _
      rw [St.get_new, if_neg (show i ≠ d.st.nx from Nat.ne_of_lt hi)]
    · have hb' : (d.st.new .code).get i = some b := hb
      rw [St.get_new] at hb'
      split at hb'
      · rename_i q
        have q : i = d.nx := q
        cases hb'
        exact ⟨by rw [q]; exact Nat.lt_succ_self _, a, o, k0, _, by rw [q]; exact gl, q2, q3, q1, hc, hk, fun _ _ z => by cases z⟩
      · exact absurd (K.low hb').2 (Nat.not_lt.mpr hi)
noncomputable abbrev Told (g : Gd) (clo : CloP) (σ : List Str) (ρ ρ'' : List Addr) (e : St) (s : Shared) (nx hi i : Nat) (b : Ob) : Prop :=
  ∃ a o, ρ''[i]? = some a ∧ s.heap.get? a = some o ∧ OR g clo ρ'' σ b o ∧ (∃ (i₀ : Nat) (b₀ : Ob), ρ[i₀]? = some a ∧ e.get i₀ = some b₀ ∧ (i < nx → i₀ = i) ∧ (nx ≤ i → nx ≤ i₀ ∧ i < hi)) ∧ ∀ C x, b ≠ .exc C x
theorem fdot_none {n : List Nat} (hh : txt σ n = none) : txt σ (fdot n) = none := by
  unfold fdot; rw [txt_low_cons (by omega), txt_low_cons (by omega), hh]; rfl
section
variable {ρ'' : List Addr} {hi : Nat} {keys : List (List Nat × Bool)}
theorem told_0 (K : LeafOk d) (R : Rel g clo F ρ σ e s) (EO : EndOk d e news rs k0) (pre : ∀ i, i < d.nx → ρ''[i]? = ρ[i]?) : Told g clo σ ρ ρ'' e s d.nx hi 0 (.ns (putA d.fs 5 (.str txtDefault))) := by
  obtain ⟨fe, hof, hofl⟩ := EO.of
  obtain ⟨a, o, q1, q2, es, ep, q3, q4, q5⟩ := R.obs 0 _ hof
  refine ⟨a, o, (pre 0 K.zl).trans q1, q2, ⟨es, ep, q3, q4, fun x v hx => ?_⟩, ⟨0, _, q1, hof, fun _ => rfl, fun h => absurd K.zl (Nat.not_lt.mpr h)⟩, fun _ _ z => by cases z⟩
  obtain ⟨u, z1, z2⟩ := q5 x v (hofl x v hx)
  refine ⟨u, z1, z2.re (n := d.nx) pre ?_⟩
  rw [look_put] at hx
  split at hx
  · cases hx; rfl
  · exact refN_look K.fs hx
theorem told_r (K : LeafOk d) (R : Rel g clo F ρ σ e s) (EO : EndOk d e news rs k0) (pre : ∀ i, i < d.nx → ρ''[i]? = ρ[i]?) (hkeys : ∀ q ∈ keys, q.1 ∈ d.ts ++ [txtDefault] ∧ (q.2 = true ↔ Has σ news q.1)) (txts : ∀ p ∈ d.ts ++ [txtDefault], ∃ l, txt σ p = some l) :
    Told g clo σ ρ ρ'' e s d.nx hi d.r (.lset (insOf keys) (outsOf keys)) := by
  obtain ⟨a, o, q1, q2, xs, m, q3, q4⟩ := R.obs d.r _ EO.or
  obtain ⟨w1, w2⟩ := q4.mem
  refine ⟨a, o, (pre _ K.rl).trans q1, q2, ⟨xs, m, q3, fun v hv => ?_, fun p hp => ?_, fun p hp => ?_⟩, ⟨d.r, _, q1, EO.or, fun _ => rfl, fun h => absurd K.rl (Nat.not_lt.mpr h)⟩, fun _ _ z => by cases z⟩
  · obtain ⟨av, z1, z2⟩ := w2 v hv
    obtain ⟨n, j, rfl, _⟩ := EO.m2 _ z1
    obtain ⟨l, t, _, z3⟩ := z2
    exact ⟨_, t, z3⟩
  · obtain ⟨n, j, z1, z2⟩ := ((hkeys _ (ins_mem hp)).2).mp rfl
    obtain ⟨v, z3, z4⟩ := w1 _ (has_meth EO z1).1
    obtain ⟨l, t, z5, rfl⟩ := z4
    exact ⟨strOf l, t, by rw [← z2, z5]; rfl, z3⟩
  · obtain ⟨z1, z2⟩ := hkeys _ (outs_mem hp)
    obtain ⟨l, hl⟩ := txts _ z1
    refine ⟨strOf l, by rw [hl]; rfl, fun t hm => ?_⟩
    obtain ⟨av, z3, z4⟩ := w2 _ hm
    obtain ⟨n, j, rfl, z5⟩ := EO.m2 _ z3
    obtain ⟨l', t', z6, z7⟩ := z4
    injection z7 with z7 _
    have z8 := strOf_inj z7
    have : Has σ news p := ⟨n, j, z5, by rw [z6, hl, z8]⟩
    have := z2.mpr this
    cases this
theorem told_g (K : LeafOk d) (R : Rel g clo F ρ σ e s) (EO : EndOk d e news rs k0) {any : Bool} {st : St} {kv : List (List Nat × AV)} (P : Part g clo ρ σ e s d news k0 any st kv ρ'') (hkeys : ∀ q ∈ keys, q.1 ∈ d.ts ++ [txtDefault] ∧ (q.2 = true ↔ Has σ news q.1)) (txts : ∀ p ∈ d.ts ++ [txtDefault], ∃ l, txt σ p = some l) :
    Told g clo σ ρ ρ'' e s d.nx hi d.g (.pdict kv (txtUse :: (outsOf keys).map fdot)) := by
  have pre := P.pre
  obtain ⟨epg, hog⟩ := EO.og
  obtain ⟨a, o, q1, q2, es, kvs, q3, q4, q5, q6, q7, q8⟩ := R.obs d.g _ hog
  have hmap := (show s.heap.DictOf g.knd a kvs from ⟨o, es, epg, q2, q3, q4, q5, q6, q7⟩).mapOf
  have hf : ∀ k, findBy g.knd.is es k = valueAt kvs k := fun k => by
    obtain ⟨o', es', ep', z1, z2, z3, z4, z5⟩ := hmap
    rw [q2] at z1; first | exact no_tt z1 | exact no_ns z1 | cases z1
    rw [q4] at z3; first | exact no_tt z3 | exact no_ns z3 | cases z3
    exact z5 k
  refine ⟨a, o, (pre _ K.gl).trans q1, q2, ⟨es, epg, valueAt kvs, q3, q4, q5, hf, fun p hp => ?_, fun p hp => ?_⟩, ⟨d.g, _, q1, hog, fun _ => rfl, fun h => absurd K.gl (Nat.not_lt.mpr h)⟩, fun _ _ z => by cases z⟩
  · rcases P.kv p hp with hp | ⟨key, n, idx, j, aj, rfl, z2, z3, z4, z5⟩
    · obtain ⟨x, u, w1, w2, w3⟩ := q8.at q7 p (List.mem_append_left _ hp)
      exact ⟨x, u, w1, w2, w3.re (n := d.nx) pre (refK_at K.kv p hp)⟩
    · obtain ⟨x, u, w1, w2, w3⟩ := q8.at q7 _ (List.mem_append_right _ z2)
      obtain ⟨aj', w4, rfl⟩ := w3
      rw [z5] at w4; first | exact no_tt w4 | exact no_ns w4 | cases w4
      refine ⟨x, _, ?_, w2, ⟨aj, z4, rfl⟩⟩
      have hn : ∃ l, txt σ n = some l := by
        induction hh : txt σ n with
        | none =>
          have : txt σ (fdot n) = none := fdot_none hh
          dsimp only at w1
          rw [this] at w1; first | exact no_tt w1 | exact no_ns w1 | induction w1
        | some l => exact ⟨l, rfl⟩
      obtain ⟨l, hl⟩ := hn
      dsimp only at w1 ⊢
      rw [txt_fdot hl] at w1
      rw [txt_fdot (z3.symm.trans hl)]
      exact w1
  · -- keys that are surely not there
    have other : ∀ {y : Str}, (∀ q ∈ d.kv, txt σ q.1 ≠ some y.cps.toList) → (∀ n j, (fdot n, AV.ref j) ∈ news → txt σ (fdot n) ≠ some y.cps.toList) → valueAt kvs y = none := fun {y} h1 h2 => KR.none q8 fun q hq => by
      rcases List.mem_append.mp hq with hq | hq
      · exact h1 q hq
      · obtain ⟨n, j, dd, c, cc, rfl, _, _⟩ := EO.m1 q hq
        exact h2 n j hq
    rcases List.mem_cons.mp hp with rfl | hp
    · have hu : txt σ txtUse = some txtUse := lowP_txt (by decide)
      refine ⟨strOf txtUse, by rw [hu]; rfl, other (fun q hq z => ?_) fun n j hm z => ?_⟩
      · obtain ⟨k1, k2, k3⟩ := kvKey_ok (kvKeys_ok K.ks q hq)
        rw [lowP_txt k2] at z
        injection z with z
        exact k3 z
      · induction hh : txt σ n with
        | none =>
          have : txt σ (fdot n) = none := fdot_none hh
          rw [this] at z; first | exact no_tt z | exact no_ns z | induction z
        | some l =>
          rw [txt_fdot hh] at z
          injection z with z
          have z : 102 :: 46 :: l = txtUse := z
          unfold txtUse at z
          injection z with z _
          cases z
    · obtain ⟨p', hp', rfl⟩ := List.mem_map.mp hp
      obtain ⟨z1, z2⟩ := hkeys _ (outs_mem hp')
      obtain ⟨l, hl⟩ := txts _ z1
      dsimp only at hl
      refine ⟨strOf (102 :: 46 :: l), by rw [txt_fdot hl]; rfl, other (fun q hq z => ?_) fun n j hm z => ?_⟩
      · obtain ⟨k1, k2, k3⟩ := kvKey_ok (kvKeys_ok K.ks q hq)
        rw [lowP_txt k2] at z
        injection z with z
        exact k1 l z
      · induction hh : txt σ n with
        | none =>
          have : txt σ (fdot n) = none := fdot_none hh
          rw [this] at z; first | exact no_tt z | exact no_ns z | induction z
        | some l' =>
          rw [txt_fdot hh] at z
          injection z with z
          have z : 102 :: 46 :: l' = 102 :: 46 :: l := z
          injection z with _ z; injection z with _ z
          have : Has σ news p' := ⟨n, j, hm, by rw [hh, hl, z]⟩
          have := z2.mpr this
          cases this
theorem told_o (K : LeafOk d) (R : Rel g clo F ρ σ e s) (EO : EndOk d e news rs k0) {any : Bool} {st : St} {kv : List (List Nat × AV)} (P : Part g clo ρ σ e s d news k0 any st kv ρ'') {i : Nat} {b : Ob} (n0 : ¬ i = 0) (nr : ¬ i = d.r) (ng : ¬ i = d.g) (hb : st.get i = some b) :
    Told g clo σ ρ ρ'' e s d.nx st.nx i b := by
  have pre := P.pre
  by_cases hi : i < d.nx
  · rw [P.old i hi] at hb
    have hm := (K.low hb).1
    have he := EO.same _ hm ng nr n0
    dsimp only at he
    obtain ⟨a, o, q1, q2, q3⟩ := R.obs i _ he
    have hr := (K.L _ hm).2
    dsimp only at hr
    exact ⟨a, o, (pre i hi).trans q1, q2, q3.re (n := d.nx) pre (hr.elim (fun z => (ng z).elim) id), ⟨i, _, q1, he, fun _ => rfl, fun h => absurd hi (Nat.not_lt.mpr h)⟩, fun C x z => K.noExc (z ▸ hb)⟩
  · obtain ⟨hlt, a, o, i₀, b₀, q1, q2, q3, q4, q5, q6, q7⟩ := P.new i b (Nat.le_of_not_lt hi) hb
    exact ⟨a, o, q1, q2, q3, ⟨i₀, b₀, q4, q5, fun h => (hi h).elim, fun _ => ⟨q6, hlt⟩⟩, q7⟩
end
set_option tactic.hygienic true in
theorem ab_rel (O : g.Ok) (K : LeafOk d) (R : Rel g clo F ρ σ e s) (EO : EndOk d e news rs k0) (hlen : d.nx ≤ ρ.length) (hF : ∀ a ∈ F, ρ[0]? = some a) :
    ∃ ρ'', Rel g clo F ρ'' σ (d.ab (d.keys (keysAt σ news d))) s ∧ ∀ i, i < d.nx → ρ''[i]? = ρ[i]? := by
  generalize hks : d.keys (keysAt σ news d) = keys
  have hkeys : ∀ q ∈ keys, q.1 ∈ d.ts ++ [txtDefault] ∧ (q.2 = true ↔ Has σ news q.1) := fun q hq => mem_keys (hks ▸ hq)
  have hsl : d.sy = σ.length := by rw [R.slen, EO.sy]
  have txts : ∀ p ∈ d.ts ++ [txtDefault], ∃ l, txt σ p = some l := fun p hp => by
    rcases List.mem_append.mp hp with hp | hp
    · exact txt_sym_some hsl (K.ts p hp)
    · rw [List.mem_singleton] at hp; subst hp; exact ⟨_, lowP_txt (by decide)⟩
  have hne : anyT keys = true → rs ≠ [] := fun h => by
    obtain ⟨p, hp⟩ := any_mem' h
    obtain ⟨n, j, h1, _⟩ := ((hkeys _ hp).2).mp rfl
    intro z
    have := (has_meth EO h1).1
    rw [z] at this; first | exact no_tt this | exact no_ns this | cases this
  obtain ⟨ρ0, P0⟩ := part_base (clo := clo) (F := F) (s := s) (σ := σ) K R EO hlen (anyT keys) hne
  obtain ⟨ρ'', P⟩ := Part.all O R keys _ _ _ P0 id fun q hq h2 => by
    obtain ⟨n, j, h3, h4⟩ := ((hkeys q hq).2).mp h2
    obtain ⟨dd, c, cc, M⟩ := (has_meth EO h3).2
    obtain ⟨l, hl⟩ := txts _ (hkeys q hq).1
    exact ⟨n, j, dd, c, cc, l, M, h3, h4, hl⟩
  have pre := P.pre
  have nxP := P.nx
  obtain ⟨epg, hog⟩ := EO.og
  obtain ⟨fe, hof, hofl⟩ := EO.of
  -- what each told object is
  have told : ∀ (i : Nat) b, (d.ab keys).get i = some b → Told g clo σ ρ ρ'' e s d.nx (addM d.nx keys (d.base (anyT keys)) d.kv).1.nx i b := fun i b hb => by
    rw [ab_get] at hb
    split at hb
    · rename_i q
      rw [q, ← Option.some.inj hb]; exact told_0 K R EO pre
    · split at hb
      · rename_i q
        rw [q, ← Option.some.inj hb]; exact told_r K R EO pre hkeys txts
      · split at hb
        · rename_i q
          rw [q, ← Option.some.inj hb]; exact told_g K R EO P hkeys txts
        · rename_i n0 nr ng
          exact told_o K R EO P n0 nr ng hb
  refine ⟨ρ'', R.remap P.len (by rw [EO.sy]; exact P.sy) (fun i b hb => ?_) (fun i j a b b' q1 q2 e1 e2 => ?_) (fun i C x h => ?_) (fun a ha => ⟨0, putA d.fs 5 (.str txtDefault), (pre 0 K.zl).trans (hF a ha), by rw [ab_get, if_pos rfl], ?_⟩) (.inl rfl), pre⟩
  · obtain ⟨a, o, q1, q2, q3, ⟨i₀, b₀, q4, q5, _⟩, _⟩ := told i b hb
    exact ⟨a, o, q1, q2, q3, i₀, b₀, q4, q5⟩
  · obtain ⟨a1, o1, w1, _, _, ⟨i₀, b₀, w4, w5, w6, w7⟩, _⟩ := told i b e1
    obtain ⟨a2, o2, v1, _, _, ⟨j₀, c₀, v4, v5, v6, v7⟩, _⟩ := told j b' e2
    rw [q1] at w1; first | exact no_tt w1 | exact no_ns w1 | cases w1
    rw [q2] at v1; first | exact no_tt v1 | exact no_ns v1 | cases v1
    have same : i₀ = j₀ := by
      rcases R.inj i₀ j₀ _ _ _ w4 v4 w5 v5 with z | ⟨z, _⟩
      · exact z
      · rw [isRo_zero EO.hi] at z; first | exact no_tt z | exact no_ns z | induction z
    by_cases hi : i < d.nx
    · by_cases hj : j < d.nx
      · left; rw [← w6 hi, ← v6 hj, same]
      · exfalso
        have := (v7 (Nat.le_of_not_lt hj)).1
        rw [← same, w6 hi] at this
        exact absurd hi (Nat.not_lt.mpr this)
    · by_cases hj : j < d.nx
      · exfalso
        have := (w7 (Nat.le_of_not_lt hi)).1
        rw [same, v6 hj] at this
        exact absurd hj (Nat.not_lt.mpr this)
      · right
        rw [ab_ro, ab_ro, Nat.ble_eq.mpr (Nat.le_of_not_lt hi), Nat.ble_eq.mpr (Nat.le_of_not_lt hj), Nat.blt_eq.mpr (w7 (Nat.le_of_not_lt hi)).2, Nat.blt_eq.mpr (v7 (Nat.le_of_not_lt hj)).2]
        exact ⟨rfl, rfl⟩
  · obtain ⟨_, _, _, _, _, _, q⟩ := told i _ h
    exact q C x rfl
  · rw [ab_ro]
    have : Nat.ble d.nx 0 = false := Bool.eq_false_iff.mpr fun z => absurd (Nat.ble_eq.mp z) (Nat.not_le.mpr K.zl)
    rw [this, Bool.false_and]
end
end Mine
end
section
set_option genInjectivity false
set_option genSizeOf false
set_option tactic.hygienic false
open PySem PySem.W PySem.Calls PyProof.Rows PySem.SeqAt
set_option maxRecDepth 100000
namespace Mine
theorem execs_append : ∀ (a b : List Stmt) (env : Env), execs (a ++ b) env = (execs a env >>= fun f => match f with | .next => execs b env | f => pure f)
  | [], b, env => by rw [List.nil_append]; show _ = (pure Flow.next >>= _); rw [pure_bind]
  | x :: r, b, env => by
    rw [List.cons_append, execs_cons, execs_cons, bind_assoc]
    congr 1
    funext f
    induction f <;> first | (exact execs_append r b env) | (rw [pure_bind])
theorem wpAny_execs_append {M : Model} {A : Around} {E : Value → Shared → Prop} {s : Shared} {env : Env} {a b : List Stmt} {Q : Flow → Shared → Prop}
    (h : wpAny M A (execs a env) (fun f s' => match f with | .next => wpAny M A (execs b env) Q E s' | f => Q f s') E s) : wpAny M A (execs (a ++ b) env) Q E s := by
  rw [execs_append]
  refine wpAny_bind (wpAny_mono h (fun f s' hf => ?_) fun _ _ z => z)
  induction f <;> first | exact hf | exact wpAny_pure hf
noncomputable def goodLeaf (d : LeafD) : Prop := leafChk d = true ∧ d.loop = true ∧ ∀ bs : List Bool, bs.length = d.ts.length + 1 → d.c bs = true
theorem st1_ns {i : Nat} {fs : List (Nat × AV)} (h : st1.get i = some (.ns fs)) : i = 0 := by
  unfold st1 St.get at h
  simp only [Tr.get_set, Tr.get_nil] at h
  split at h
  · first | exact no_tt h | exact no_ns h | cases h
  · split at h
    · first | exact no_tt h | exact no_ns h | cases h
    · split at h
      · first | exact no_tt h | exact no_ns h | cases h
      · split at h
        · first | exact no_tt h | exact no_ns h | cases h
        · split at h
          · first | exact no_tt h | exact no_ns h | cases h
          · split at h
            · assumption
            · first | exact no_tt h | exact no_ns h | induction h
theorem st1_exc {i C : Nat} {x : Option Ix} (h : st1.get i = some (.exc C x)) : False := by
  unfold st1 St.get at h
  simp only [Tr.get_set, Tr.get_nil] at h
  repeat (split at h; · cases h)
  cases h
set_option tactic.hygienic true in
theorem rest_ok {g : Gd} (O : g.Ok) (S : Snd g (theClo g) R200 200) {m : Nat} {cx : Cx} (hb : f1041.body = lawBody.map (compS m cx)) {isL : St → Bool} (hA : R200.exs bodyA st1 (kN isL) noX = true) (hL : ∀ l, isL l = true → ∃ d, goodLeaf d ∧ isLeaf d l = true) : RestOk g (theClo g) 200 m cx st1 := by
  intro A F env L ρ σ s Q E H V D Re P
  have hh : A.handled = none := D.none rfl
  have hF : ∀ a ∈ F, ρ[0]? = some a := fun a ha => by
    obtain ⟨i, fs, q1, q2, _⟩ := Re.fra a ha
    rw [st1_ns q2] at q1; exact q1
  have eA : bodyA = ((lawBody.drop 1).take 9).map (compS m cx) := by unfold bodyA; rw [hb, List.map_take, List.map_drop]
  have eL : bodyL = ((lawBody.drop 10).take 1).map (compS m cx) := by unfold bodyL; rw [hb, List.map_take, List.map_drop]
  have eC : bodyC = (lawBody.drop 11).map (compS m cx) := by unfold bodyC; rw [hb, List.map_drop]
  have split3 : lawBody.drop 1 = (lawBody.drop 1).take 9 ++ ((lawBody.drop 10).take 1 ++ lawBody.drop 11) := by
    have e1 : lawBody.drop 10 = (lawBody.drop 10).take 1 ++ (lawBody.drop 10).drop 1 := (List.take_append_drop 1 _).symm
    have e2 : lawBody.drop 1 = (lawBody.drop 1).take 9 ++ (lawBody.drop 1).drop 9 := (List.take_append_drop 9 _).symm
    rw [List.drop_drop] at e1 e2
    rw [← e1]; exact e2
  rw [split3]
  refine wpAny_execs_append ?_
  rw [eA] at hA
  refine S.exs m cx _ A F env L ρ σ st1 s _ noX _ E H V D Re hA ?_ PostX.no
  intro ρ1 σ1 l s1 fl f e1 R1 hf h1
  induction fl with
  | cont => first | exact no_tt h1 | exact no_ns h1 | induction h1
  | ret v => first | exact no_tt h1 | exact no_ns h1 | induction h1
  | next =>
  cases hf
  obtain ⟨d, ⟨hc, hlp, hph⟩, hl⟩ := hL l h1
  have K := leafChk_ok hc
  have hF1 : ∀ a ∈ F, ρ1[0]? = some a := fun a ha => e1.at (hF a ha)
  have Rl := leaf_rel K R1 hF1 hl
  have V1 : EnvS g ρ1 d.st env := ⟨e1.at V.loc, fun x i q => let ⟨a, b, c⟩ := V.cel x i q; ⟨a, e1.at b, c⟩⟩
  refine wpAny_execs_append ?_
  have hlp' : R200.exs (((lawBody.drop 10).take 1).map (compS m cx)) d.st (kN (endOk d)) noX = true := by rw [← eL]; exact hlp
  refine S.exs m cx _ A F env L ρ1 σ1 d.st s1 _ noX _ E H V1 (.inl hh) Rl hlp' ?_ PostX.no
  intro ρ2 σ2 e s2 fl f e2 R2 hf h2
  induction fl with
  | cont => first | exact no_tt h2 | exact no_ns h2 | induction h2
  | ret v => first | exact no_tt h2 | exact no_ns h2 | induction h2
  | next =>
  cases hf
  obtain ⟨news, rs, k0, EO⟩ := endOk_ok h2
  have hlen1 : ρ1.length = d.nx := Rl.len
  have hlen : d.nx ≤ ρ2.length := by
    obtain ⟨mm, hm⟩ := e2.r
    rw [hm, List.length_append, hlen1]; exact Nat.le_add_right _ _
  have hF2 : ∀ a ∈ F, ρ2[0]? = some a := fun a ha => e2.at (hF1 a ha)
  obtain ⟨ρ3, R3, pre⟩ := ab_rel O K R2 EO hlen hF2
  have low : ∀ {i : Nat} {a : Addr}, ρ1[i]? = some a → ρ3[i]? = some a := fun {i a} q => by
    rw [pre i (by rw [← hlen1]; exact (List.getElem?_eq_some_iff.mp q).1)]; exact e2.at q
  have V3 : EnvS g ρ3 (d.ab (d.keys (keysAt σ2 news d))) env := ⟨low (e1.at V.loc), fun x i q => let ⟨a, b, c⟩ := V.cel x i q; ⟨a, low (e1.at b), c⟩⟩
  have hpc : R200.exs ((lawBody.drop 11).map (compS m cx)) (d.ab (d.keys (keysAt σ2 news d))) kC noX = true := by rw [← eC]; exact hph _ keysAt_len
  refine S.exs m cx _ A F env L ρ3 σ2 _ s2 _ noX _ E H V3 (.inl hh) R3 hpc ?_ PostX.no
  intro ρ4 σ4 st4 s4 fl f e4 R4 hf h4
  induction fl with
  | next => first | exact no_tt h4 | exact no_ns h4 | induction h4
  | cont => first | exact no_tt h4 | exact no_ns h4 | induction h4
  | ret v =>
  obtain ⟨u, rfl, hu⟩ := hf
  induction v with
  | bool b =>
    change b = true at h4
    subst h4
    cases hu
    -- told again from the first line's names
    have hσ : ∃ mm, σ4 = σ ++ mm := by
      obtain ⟨a1, b1⟩ := e1.s
      obtain ⟨a2, b2⟩ := e2.s
      obtain ⟨a3, b3⟩ := e4.s
      exact ⟨a1 ++ (a2 ++ a3), by rw [b3, b2, b1]; simp⟩
    by_cases hne : ∃ a, a ∈ F
    · obtain ⟨a, ha⟩ := hne
      obtain ⟨i, fs, q1, q2, q3⟩ := R4.fra a ha
      obtain ⟨a', o, w1, w2, es, ep, w3, w4, _⟩ := R4.obs i _ q2
      rw [q1] at w1; first | exact no_tt w1 | exact no_ns w1 | cases w1
      have gz : ∀ j, (Tr.nil.set 0 (.ns [])).get j = if j = 0 then some (.ns []) else none := fun j => by rw [Tr.get_set]; rfl
      refine P ρ σ4 ⟨Tr.nil.set 0 (.ns []), 6, st4.sy, 0, 0, 0, celL, false, some TB0⟩ s4 ⟨⟨[], by simp⟩, hσ, rfl, rfl, rfl, fun i C x z => (st1_exc z).elim⟩ (R4.remap Re.len rfl (fun j b hb => ?_) (fun j k x b b' z1 z2 z3 z4 => ?_) (fun j C x z => ?_) (fun x hx => ⟨0, [], hF x hx, (gz 0).trans (if_pos rfl), isRo_zero rfl 0⟩) (.inl rfl))
      · have hb : (Tr.nil.set 0 (.ns [])).get j = some b := hb
        rw [gz] at hb
        split at hb
        · rename_i z
          cases hb
          subst z
          exact ⟨a, o, hF a ha, w2, ⟨es, ep, w3, w4, fun x v z => by cases z⟩, i, _, q1, q2⟩
        · first | exact no_tt hb | exact no_ns hb | induction hb
      · have z3 : (Tr.nil.set 0 (.ns [])).get j = some b := z3
        have z4 : (Tr.nil.set 0 (.ns [])).get k = some b' := z4
        rw [gz] at z3 z4
        split at z3
        · split at z4
          · rename_i y1 y2; left; rw [y1, y2]
          · first | exact no_tt z4 | exact no_ns z4 | induction z4
        · first | exact no_tt z3 | exact no_ns z3 | induction z3
      · have z : (Tr.nil.set 0 (.ns [])).get j = some (.exc C x) := z
        rw [gz] at z
        split at z <;> cases z
    · refine P ρ σ4 ⟨.nil, 6, st4.sy, 0, 0, 0, celL, false, some TB0⟩ s4 ⟨⟨[], by simp⟩, hσ, rfl, rfl, rfl, fun i C x z => (st1_exc z).elim⟩ (R4.remap Re.len rfl (fun j b hb => by cases hb) (fun j k x b b' z1 z2 z3 z4 => by cases z3) (fun j C x z => by cases z) (fun x hx => (hne ⟨x, hx⟩).elim) (.inl rfl))
  | _ => first | exact no_tt h4 | exact no_ns h4 | induction h4
end Mine
end
section
set_option genInjectivity false
set_option genSizeOf false
set_option tactic.hygienic false
open PySem PySem.W PySem.Calls PyProof.Rows PySem.SeqAt
set_option maxRecDepth 100000
namespace Mine
noncomputable def st00 (D : Nat) : St := (mkCells f1041.cells [(80, .fn D)] (stI.new (.ns [(80, .fn D)])) []).1.into 0 (mkCells f1041.cells [(80, .fn D)] (stI.new (.ns [(80, .fn D)])) []).2
theorem src_law (D : Nat) (kk : St → Bool) : srcStep 76 80 D (st00 D) kk = kk st1 := by
  have e : srcStep 76 80 D (st00 D) kk = (match Nat.beq D D with | true => kk st1 | false => false) := by kernel_rfl
  rw [e, Nat.beq_refl]
theorem enter_law (D : Nat) : enter (lawRn st1 76 80 D) f1041 [] [.fn D] stI kTrue noX = true := by
  have e : enter (lawRn st1 76 80 D) f1041 [] [.fn D] stI kTrue noX = srcStep 76 80 D (st00 D) (fun st2 => @decide (st2 = st1 ∧ ∀ st' : St, true = true) (Classical.propDecidable _)) := by kernel_rfl
  rw [e, src_law]
  exact @decide_eq_true _ (Classical.propDecidable _) ⟨rfl, fun _ => rfl⟩
end Mine
end
section
set_option genInjectivity false
set_option genSizeOf false
set_option tactic.hygienic false
open PySem PySem.W PySem.Calls PyProof.Rows PySem.SeqAt
set_option maxRecDepth 100000
namespace Mine
open Mine.Hd
set_option tactic.hygienic true in
theorem lay_list {R : WRecords} {cl : Str → Option Addr} {P : Params} {ord : List DictEntry → List DictEntry} {xs : List WData} {s s1 : Shared} {vs : List Value} (h : layAllW R cl P ord [.list xs] s = some (vs, s1)) :
    ∃ a, vs = [.ref a] ∧ s1.heap.objs.size = a + 1 ∧ ∃ o, s1.heap.get? a = some o := by
  unfold layAllW at h
  split at h
  · rename_i a ha
    unfold layW at ha
    split at ha
    · rename_i r hr
      cases ha
      unfold layAllW at h
      cases h
      exact ⟨_, rfl, Heap.size_push .., _, Heap.get?_push_size _ rfl⟩
    · first | exact no_tt ha | exact no_ns ha | induction ha
  · first | exact no_tt h | exact no_ns h | induction h
theorem reads_ints {R : WRecords} {cl : Str → Option Addr} {h : Heap} : ∀ {vs : List Value} {xs : List WData} {as : List Addr}, ReadsAllW R cl h vs xs as → (∀ x ∈ xs, ∃ i, x = .int i) → vs.length = xs.length ∧ ∀ v ∈ vs, ∃ x t, v = .int x t := by
  intro vs xs
  induction xs generalizing vs with
  | nil => intro as hr _; cases hr; exact ⟨rfl, fun _ h => (nomatch h)⟩
  | cons x xs ih =>
    intro as hr hi
    cases hr with
    | cons h1 h2 =>
      obtain ⟨a, b⟩ := ih h2 fun x hx => hi x (List.mem_cons_of_mem _ hx)
      obtain ⟨i, e⟩ := hi _ List.mem_cons_self
      subst e
      cases h1
      refine ⟨congrArg (· + 1) a, fun v hv => ?_⟩
      rcases List.mem_cons.mp hv with rfl | hv
      · exact ⟨_, _, rfl⟩
      · exact b v hv
theorem args_of {args : List WData} (h : orow.toRowW.claim.pre args = true) : ∃ ns : List Int, args = [.list (ns.map .int)] ∧ ns.length ≤ 63 := by
  obtain ⟨h1, h2⟩ := pre_splitW h
  obtain ⟨dd, r, rfl, h3, h4⟩ := hasAllW_cons (e := .list .int) (es := []) h1
  have := hasAllW_nil h4
  subst this
  obtain ⟨xs, rfl, h5⟩ := hasW_list h3
  obtain ⟨ns, rfl⟩ := items_int h5
  refine ⟨ns, rfl, ?_⟩
  have hp : orow.toRowW.pre = .and (.not (.lt (.lit (.int 63)) (.len (.arg 0)))) (.lit (.bool true)) := by kernel_rfl
  rw [hp] at h2
  by_cases hlt : ((63 : Int) < (ns.length : Int))
  · exfalso
    have e : less? (WData.int 63) (WData.int (ns.length : Int)) = some (decide ((63 : Int) < (ns.length : Int))) := rfl
    simp [WTm.holds, WTm.value, e, hlt] at h2
  · omega
end Mine
end
section
set_option genInjectivity false
set_option genSizeOf false
set_option tactic.hygienic false
open PySem PySem.W PyProof.Rows
set_option Elab.async false
set_option maxRecDepth 10000000
set_option maxHeartbeats 0
namespace Mine
open Mine.Hd
theorem left_of2 {p q : Program} {loose : List Str} {Xt : Shared → Bool} {w : World} {n₀ N : Nat} {ann : Option Value} {s₀ : Shared} {t : SharedT} {α : Type} {Y : Shared → α} {Z : α}
    (hs : fencedOpening treeTable p w N = some s₀) (ht : t.abs = s₀) (b1 : (s₀.heap.isNs mainGlobals && s₀.gens.size == 0) = true) (b2 : s₀.heap.objs.size = n₀) (b3 : s₀.heap.nsMap mainGlobals "__annotations__" = ann)
    (hA : (ran p w n₀ ann N t).map (fun r => endsA p s₀.heap r.2.1.abs) = some true) (hB : (ran p w n₀ ann N t).map (fun r => seenB p q loose Xt r.2.1.abs) = some (openGood q loose)) (hC : (ran p w n₀ ann N t).map (fun r => Y r.2.1.abs) = some Z) :
    (openEnds treeTable p w N).map (fun s => (openSeen q loose (importedModules p.main.body) Xt true s, Y s)) = some (openGood q loose, Z) := by
  cases hr : ran p w n₀ ann N t with
  | none => rw [hr] at hA; cases hA
  | some r =>
    obtain ⟨f, s', c, ps⟩ := r
    rw [hr] at hA hB hC
    have hA' := Option.some.inj hA
    have hB' := Option.some.inj hB
    have hC' := Option.some.inj hC
    have e := topRun_of_seg (segRun_of hr)
    rw [ht] at e
    have e1 : topFrom treeTable p w N s₀ = some s'.abs := by
      unfold topFrom
      rw [b1, b2, b3]
      dsimp only
      rw [e]
      dsimp only [Option.bind]
      rw [show (staticsOk (importedModules p.main.body) s₀.heap s'.abs.heap && namesBound p s'.abs.heap && gensDone s'.abs && laidKept s₀.heap s'.abs.heap) = true from hA']
    unfold openEnds
    rw [hs]
    dsimp only [Option.bind]
    rw [e1]
    dsimp only [Option.map]
    rw [show openSeen q loose (importedModules p.main.body) Xt true s'.abs = openGood q loose from hB', show Y s'.abs = Z from hC']
theorem left2 : LeftO p q loose Xt Yf (fun _ => Ya) N := fun w => by
  obtain ⟨s₀, hs, hv⟩ := Option.map_eq_some_iff.mp (boot_open (p := p) (N := N) opens (by decide +kernel) fences w)
  have e0 := boot_is hv
  generalize s₀.os = os at e0
  subst e0
  obtain ⟨b1, b2, b3⟩ := bootHead w os
  exact left_of2 hs (sT_abs w os) b1 b2 b3 (runA w os) (runB w os) (runC w os)
theorem head2 (call : WalkX q loose (XL q []) Yf (fun _ => Ya) orow.toRowW dk.1 dk.2 fun f vs => PySem.call f vs) : PySem.Challenge.rw_pq1417_01.Holds :=
  holds_law said fun k1 => holds_openX (r := orow) (q := q) (loose := loose) (Xt := Xt) (XP := XL q []) (Yf := Yf) (Ya := fun _ => Ya) (N := N) left2 (fun s e => xl_of s (Bool.and_eq_true_iff.mp e).1) XL.keeps hdef hthe hkw
    (fun s e => recFacts_of (Bool.and_eq_true_iff.mp e).2) rfl k1 hok hbare hprom call
end Mine
end
section
set_option genInjectivity false
set_option genSizeOf false
set_option tactic.hygienic false
set_option maxRecDepth 100000
namespace Mine
theorem bools0 {P : List Bool → Prop} (h : P []) : ∀ bs : List Bool, bs.length = 0 → P bs := fun bs z => by
  cases bs with
  | nil => exact h
  | cons _ _ => cases z
theorem boolsS {P : List Bool → Prop} {n : Nat} (t : ∀ bs : List Bool, bs.length = n → P (true :: bs)) (f : ∀ bs : List Bool, bs.length = n → P (false :: bs)) : ∀ bs : List Bool, bs.length = n + 1 → P bs := fun bs z => by
  cases bs with
  | nil => cases z
  | cons b r => cases b with
    | false => exact f r (Nat.succ.inj z)
    | true => exact t r (Nat.succ.inj z)
theorem good0 : goodLeaf lf0 := ⟨lfc0, lfl0, show ∀ bs : List Bool, bs.length = 3 → lf0.c bs = true from
  (boolsS (boolsS (boolsS (bools0 pc0_111) (bools0 pc0_110)) (boolsS (bools0 pc0_101) (bools0 pc0_100))) (boolsS (boolsS (bools0 pc0_011) (bools0 pc0_010)) (boolsS (bools0 pc0_001) (bools0 pc0_000))))⟩
theorem good1 : goodLeaf lf1 := ⟨lfc1, lfl1, show ∀ bs : List Bool, bs.length = 5 → lf1.c bs = true from
  (boolsS (boolsS (boolsS (boolsS (boolsS (bools0 pc1_11111) (bools0 pc1_11110)) (boolsS (bools0 pc1_11101) (bools0 pc1_11100))) (boolsS (boolsS (bools0 pc1_11011) (bools0 pc1_11010)) (boolsS (bools0 pc1_11001) (bools0 pc1_11000)))) (boolsS (boolsS (boolsS (bools0 pc1_10111) (bools0 pc1_10110)) (boolsS (bools0 pc1_10101) (bools0 pc1_10100))) (boolsS (boolsS (bools0 pc1_10011) (bools0 pc1_10010)) (boolsS (bools0 pc1_10001) (bools0 pc1_10000))))) (boolsS (boolsS (boolsS (boolsS (bools0 pc1_01111) (bools0 pc1_01110)) (boolsS (bools0 pc1_01101) (bools0 pc1_01100))) (boolsS (boolsS (bools0 pc1_01011) (bools0 pc1_01010)) (boolsS (bools0 pc1_01001) (bools0 pc1_01000)))) (boolsS (boolsS (boolsS (bools0 pc1_00111) (bools0 pc1_00110)) (boolsS (bools0 pc1_00101) (bools0 pc1_00100))) (boolsS (boolsS (bools0 pc1_00011) (bools0 pc1_00010)) (boolsS (bools0 pc1_00001) (bools0 pc1_00000))))))⟩
theorem good2 : goodLeaf lf2 := ⟨lfc2, lfl2, show ∀ bs : List Bool, bs.length = 4 → lf2.c bs = true from
  (boolsS (boolsS (boolsS (boolsS (bools0 pc2_1111) (bools0 pc2_1110)) (boolsS (bools0 pc2_1101) (bools0 pc2_1100))) (boolsS (boolsS (bools0 pc2_1011) (bools0 pc2_1010)) (boolsS (bools0 pc2_1001) (bools0 pc2_1000)))) (boolsS (boolsS (boolsS (bools0 pc2_0111) (bools0 pc2_0110)) (boolsS (bools0 pc2_0101) (bools0 pc2_0100))) (boolsS (boolsS (bools0 pc2_0011) (bools0 pc2_0010)) (boolsS (bools0 pc2_0001) (bools0 pc2_0000)))))⟩
theorem good3 : goodLeaf lf3 := ⟨lfc3, lfl3, show ∀ bs : List Bool, bs.length = 3 → lf3.c bs = true from
  (boolsS (boolsS (boolsS (bools0 pc3_111) (bools0 pc3_110)) (boolsS (bools0 pc3_101) (bools0 pc3_100))) (boolsS (boolsS (bools0 pc3_011) (bools0 pc3_010)) (boolsS (bools0 pc3_001) (bools0 pc3_000))))⟩
theorem good4 : goodLeaf lf4 := ⟨lfc4, lfl4, show ∀ bs : List Bool, bs.length = 2 → lf4.c bs = true from
  (boolsS (boolsS (bools0 pc4_11) (bools0 pc4_10)) (boolsS (bools0 pc4_01) (bools0 pc4_00)))⟩
theorem isLf_good (l : St) (h : isLf l = true) : ∃ d, goodLeaf d ∧ isLeaf d l = true := by
  unfold isLf at h
  simp only [Bool.or_eq_true] at h
  rcases h with (((h | h) | h) | h) | h
  · exact ⟨_, good0, h⟩
  · exact ⟨_, good1, h⟩
  · exact ⟨_, good2, h⟩
  · exact ⟨_, good3, h⟩
  · exact ⟨_, good4, h⟩
end Mine
end
section
set_option genInjectivity false
set_option genSizeOf false
set_option tactic.hygienic false
open PySem PySem.W PySem.Calls PyProof.Rows PySem.SeqAt
set_option maxRecDepth 100000
set_option maxHeartbeats 0
namespace Mine
open Mine.Hd
set_option tactic.hygienic true in
theorem frag_at {h : Heap} : ∀ {as : List Addr} {a : Addr} {o : Obj}, (fragOf as h).lookup a = some o → h.get? a = some o
  | [], _, _, e => by cases e
  | x :: r, a, o, e => by
    unfold fragOf at e
    rw [List.filterMap_cons] at e
    induction hx : h.get? x with
    | none => rw [hx] at e; exact frag_at (as := r) e
    | some ox =>
      rw [hx] at e
      change List.lookup a ((x, ox) :: fragOf r h) = some o at e
      rw [List.lookup_cons] at e
      split at e
      · rename_i q; cases e; rw [eq_of_beq q]; exact hx
      · exact frag_at e
set_option tactic.hygienic true in
theorem tabEmpty_ok {h : Heap} {a : Addr} (e : tabEmpty h a = true) : h.get? a = some ⟨.none, none, .fields #[], #[]⟩ := by
  unfold tabEmpty at e
  induction ho : h.get? a with
  | none => rw [ho] at e; exact no_tt e
  | some o =>
    rw [ho] at e
    obtain ⟨c, d, dt, ⟨sl⟩⟩ := o
    induction c <;> first | exact no_tt e | skip
    induction d <;> first | exact no_tt e | skip
    induction dt <;> first | exact no_tt e | skip
    rename_i vs
    obtain ⟨vs⟩ := vs
    induction vs <;> first | exact no_tt e | skip
    induction sl <;> first | exact no_tt e | skip
    rfl
noncomputable def theG (w : World) (s₀ s₁ : Shared) : Gd := ⟨orow.toRowW.prog, w, nmOf PP.T.ns, fragOf addrs s₀.heap, s₁.heap, s₁, PP.tc, PP.tP, PP.tpos, PP.tq⟩
theorem namesGood : namesOk PP.T.ns = true := by decide +kernel
theorem nmA : nmOf PP.T.ns 0 = "append" := by kernel_rfl
theorem nmB : nmOf PP.T.ns 1 = "pop" := by kernel_rfl
theorem nmC : nmOf PP.T.ns 2 = "get" := by kernel_rfl
theorem nmD : nmOf PP.T.ns 3 = "join" := by kernel_rfl
theorem nmE : nmOf PP.T.ns 76 = "source" := by kernel_rfl
theorem nmF : nmOf PP.T.ns 80 = "script" := by kernel_rfl
theorem walk : WalkX q loose (XL q []) Yf (fun _ => Ya) orow.toRowW dk.1 dk.2 fun f vs => PySem.call f vs := by
  intro w s₀ s₁ mg mb G Y a o pm cd doc dV kV h2 h3 h4 h5 hmg gens args vals as L hpre hlay reads well hsys
  unfold Yf Ya at Y
  simp only [Prod.mk.injEq] at Y
  obtain ⟨y1, y2, y3, y4, y5⟩ := Y
  unfold chk2 at y1
  simp only [Bool.and_eq_true] at y1
  obtain ⟨⟨⟨z1, z2⟩, z3⟩, z4⟩ := y1
  have X0 : (fragOf addrs s₀.heap).In s₀.heap := fun _ _ e => frag_at e
  have X1 : (fragOf addrs s₀.heap).In s₁.heap := X0.keeps L.keeps
  obtain ⟨ns, rfl, hns⟩ := args_of hpre
  obtain ⟨ord, _, hlaid⟩ := L.laid
  obtain ⟨D, rfl, hsz, oD', hD'⟩ := lay_list hlaid
  have hP : s₁.heap.get? PP.tP = some ⟨.none, none, .fields #[], #[]⟩ := L.keeps _ _ (tabEmpty_ok y2)
  have Si : Sits (theG w s₀ s₁) PP := ⟨rfl, rfl, rfl, rfl, rfl, z1, y3⟩
  have O : (theG w s₀ s₁).Ok := by
    have cc := z1
    unfold chk at cc
    simp only [Bool.and_eq_true] at cc
    obtain ⟨⟨⟨⟨⟨⟨⟨⟨⟨⟨⟨⟨⟨c1, c2⟩, c3⟩, c4⟩, _⟩, _⟩, _⟩, _⟩, _⟩, _⟩, _⟩, _⟩, _⟩, _⟩ := cc
    exact ⟨fun i j => nmOf_inj namesGood, fun x ob e => Heap.lt_size (X1 x ob e), isNo_ok c1, c2, G.low, ⟨D, oD', hsz, hD'⟩, c3, c4, Heap.lt_size hP, nmA, nmB, nmC, nmD⟩
  have CH : CodeHd s₁.heap PP.tc PP.tP := by
    have cc := z1
    unfold chk at cc
    simp only [Bool.and_eq_true] at cc
    exact codeHd_of_K X1 cc.1.1.1.1.2
  have Dk : DefOk (theG w s₀ s₁) := Si.dk (CH.tab hP)
  have T : TakeOk (theG w s₀ s₁) (theClo (theG w s₀ s₁)) PP.G := take_ok O z2 y4
  have S := snd_run O Si.gok Dk Si.fs T 200
  have FO : FnOk (theG w s₀ s₁) 1041 f1041 := Si.fn (by kernel_rfl)
  have ea : a = 1041 := by
    have e1 := ns_some_of X1 G.T.g (isRf_ok z4)
    have e2 : dk.1.name = ("law" : Str) := by kernel_rfl
    rw [e2] at hmg
    rw [e1] at hmg
    injection hmg with hmg; injection hmg with hmg; exact hmg.symm
  subst ea
  cases reads with
  | cons r1 r2 =>
    cases r1 with
    | list d1 d2 d3 d4 =>
      obtain ⟨l1, l2⟩ := reads_ints d4 fun x hx => by obtain ⟨i, _, rfl⟩ := List.mem_map.mp hx; exact ⟨i, rfl⟩
      have hit := law_call O (n := 200) (Nat.le_refl _) X1 rfl hP FO z3 y5 (SRC := 76) (SCR := 80) nmE nmF (st1 := st1) (fun cx m _ hb => rest_ok O S hb phA isLf_good) d1 d2 d3 (by
        rw [List.length_map] at l1
        have : ∀ (v : Array Value), v.size = v.toList.length := fun v => by simp
        rw [this, l1]; omega) l2 (enter_law D)
      refine wpAny_mono hit (fun v s' hv => ?_) fun _ _ z => z.elim
      obtain ⟨rfl, ρ, σ, st, R⟩ := hv
      refine ⟨.inl ⟨_, .bool true, [], rfl, fun cls => rfl, .bool true, by kernel_rfl, fun _ => ⟨List.nodup_nil, fun x hx => (nomatch hx)⟩⟩, R.old, R.os, ?_⟩
      rw [R.gens]
      show AllBare s₁.gens
      rw [gens]
      exact .of_eq rfl
end Mine
end
theorem PySem.Challenge.cw_pq1417_01_holds : PySem.Challenge.rw_pq1417_01.Holds :=
  Mine.head2 Mine.walk
