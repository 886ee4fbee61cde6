import PyProof.Rows.All
import Wide.All
import OpenK.AllK
import Wide.FinOn
import Lean
import PySem.Challenge.RW_xm0602_01
set_option Elab.async false
set_option maxRecDepth 100000
set_option maxHeartbeats 4000000

section D0part
open PySem PySem.W PyProof.Rows PySem.Calls
namespace Mine
noncomputable def stAt (k : Nat) : Option Stmt := PySem.Challenge.pw_xm0602_01.main.body[k]?
noncomputable def bodyAt (k : Nat) : List Stmt := match stAt k with
  | some (.FunctionDef _ _ body _ _ _ _ _ _ _) => body
  | _ => []
noncomputable def paramsAt (k : Nat) : Option Arguments := match stAt k with
  | some (.FunctionDef _ a _ _ _ _ _ _ _ _) => some a
  | _ => none
noncomputable def scopeAt (k : Nat) : Option Scope := match stAt k with
  | some (.FunctionDef _ _ _ _ _ _ sc _ _ _) => some sc
  | _ => none
noncomputable def recAt (k : Nat) : DefRec := match stAt k with
  | some (.FunctionDef name a body _ _ _ sc _ _ pos) => ⟨name, a, body, sc, pos⟩
  | _ => ⟨"", ⟨[], [], none, [], [], none, []⟩, [], ⟨.function, [], false, false, []⟩, ⟨0, 0, 0, 0⟩⟩
end Mine

end D0part

section HApart
open PySem PySem.W PyProof.Rows PySem.Calls
namespace Mine
section
/-- the statements of the text that the look at the top keeps -/
noncomputable def keepQ : List Nat := [0, 2, 3, 4, 5, 6, 7, 8, 9, 10, 12, 13, 14, 15, 16, 17, 18, 19, 20, 21, 23, 24, 25, 26, 27, 28, 29, 30, 31, 32, 33, 34, 35, 36, 37, 38, 39, 41, 42, 43, 44, 45, 46, 47, 48, 49, 50, 51, 52]
noncomputable def qv : Program := view PySem.Challenge.pw_xm0602_01 keepQ
noncomputable def looseQ : List Str := [Str.ofString "LEVELS", Str.ofString "write_path", Str.ofString "write_expr"]
noncomputable def dents (P : Params) (l : List (String × Nat × Value)) : List DictEntry := l.map fun x => ⟨PyData.keyHash P (Str.ofString x.1), .str (Str.ofString x.1) x.2.1, x.2.2⟩
noncomputable def dEnts : List (String × Nat × Value) := [("__name__", 165, .str (Str.ofString "law_xm0602_01") 498), ("__doc__", 166, .none), ("__package__", 167, .none), ("__loader__", 168, .builtin "__main__.__loader__#\x6fpaque"), ("__spec__", 169, .none), ("__annotations__", 170, .ref 6), ("__builtins__", 171, .ref 4), ("__file__", 173, .str (Str.ofString "/claim/cut.py") 172), ("__cached__", 174, .none), ("LEVELS", 241, .ref 15), ("WHOLE", 245, .int 0 244), ("CAST", 247, .int 10 246), ("UNARY", 249, .int 11 248), ("POSTFIX", 251, .int 12 250), ("COMPARED", 253, .int 3 252), ("BLOCKS", 260, .ref 17), ("JUMPS", 264, .ref 18), ("INDENT", 266, .str (Str.ofString "    ") 265), ("write_angles", 273, .ref 25), ("write_path", 280, .ref 31), ("write_type", 286, .ref 36), ("write_row", 293, .ref 43), ("write_pattern", 299, .ref 48), ("write_part", 305, .ref 53), ("write_referred", 314, .ref 60), ("write_literal", 321, .ref 67), ("write_variant", 327, .ref 72), ("is_long", 334, .ref 79), ("write_fields", 340, .ref 84), ("level_of", 348, .ref 91), ("write_expr", 359, .ref 99), ("written", 368, .ref 106), ("write_ahead", 376, .ref 113), ("write_side", 385, .ref 120), ("write_operated", 396, .ref 127), ("write_list", 402, .ref 132), ("write_behind", 408, .ref 137), ("write_gathered", 414, .ref 142), ("write_jump", 424, .ref 149), ("write_condition", 431, .ref 156), ("write_block_like", 443, .ref 163), ("write_bound", 450, .ref 170), ("write_if", 458, .ref 177), ("write_match", 470, .ref 184), ("write_rows", 476, .ref 189), ("indented", 482, .ref 194), ("write_block", 488, .ref 199), ("write_statement", 497, .ref 206), ("_law_jar", 508, .ref 213), ("_law_dip", 517, .ref 220), ("_law_one", 525, .ref 227), ("_law_path", 532, .ref 234), ("_law_expr", 543, .ref 241), ("_law_rows", 553, .ref 248), ("_law_block", 561, .ref 255), ("_law_if_right", 573, .ref 262), ("_law_match_right", 589, .ref 269), ("_law_jump_right", 602, .ref 276), ("_law_gathered_right", 608, .ref 281), ("law", 614, .ref 286)]
noncomputable def dLevs : List (String × Nat × Value) := [("||", 187, .int 1 188), ("&&", 190, .int 2 191), ("==", 193, .int 3 194), ("!=", 196, .int 3 197), ("<", 199, .int 3 200), ("<=", 202, .int 3 203), (">", 205, .int 3 206), (">=", 208, .int 3 209), ("|", 211, .int 4 212), ("^", 214, .int 5 215), ("&", 217, .int 6 218), ("<<", 220, .int 7 221), (">>", 223, .int 7 224), ("+", 226, .int 8 227), ("-", 229, .int 8 230), ("*", 232, .int 9 233), ("/", 235, .int 9 236), ("%", 238, .int 9 239)]
noncomputable def seqO (vs : Array Value) : Obj := { cls := .type "tuple", data := .seq vs }
noncomputable def codeO (vs : Array Value) : Obj := { cls := .type "code", data := .fields vs }
noncomputable def funO (r : DefRec) (c d : Addr) : Obj := { cls := .type "function", data := .func { docDef r.name r.params r.body r.scope (.str (Str.ofString "lendcore.printer") 242) (.ref c) .none with defaults := .ref d, kwdefaults := .none } }
/-- the part of the heap behind the top that the proof looks at -/
noncomputable def KQ (P : Params) : Frag := [(3, { cls := .type "dict", data := .dict (dents P dEnts).toArray 60 }), (15, { cls := .type "dict", data := .dict (dents P dLevs).toArray 18 }),
  (26, seqO #[.str (Str.ofString "") 274]), (30, codeO #[.str (Str.ofString "write_path") 275, .str (Str.ofString "write_path") 276, .str (Str.ofString "/claim/cut.py") 277, .int 13 0, .int 2 0, .int 0 0, .int 0 0, .int 3 0, .ref 27, .bool true, .int 181 0, .ref 28, .none, .none, .none, .ref 29, .int 278 0, .int 13 0, .str (Str.ofString "/claim/cut.py") 279]), (31, funO (recAt 11) 30 26),
  (92, seqO #[.int 0 244, .bool false]), (98, codeO #[.str (Str.ofString "write_expr") 349, .str (Str.ofString "write_expr") 350, .str (Str.ofString "/claim/cut.py") 351, .int 86 0, .int 3 0, .int 0 0, .int 0 0, .int 3 0, .ref 93, .bool true, .int 181 0, .ref 94, .none, .ref 95, .ref 96, .ref 97, .int 357 0, .int 86 0, .str (Str.ofString "/claim/cut.py") 358]), (99, funO (recAt 22) 98 92)]
noncomputable def aQ : List Addr := [3, 15, 26, 30, 31, 92, 98, 99]
theorem aQ_eq (P : Params) : aQ = (KQ P).map (·.1) := rfl
noncomputable abbrev HQ : Hook := kHook KQ aQ aQ_eq
abbrev RQ : OpenRow := PySem.Challenge.rw_xm0602_01.row
noncomputable abbrev XQ (s : Shared) : Bool := xlAt qv [] s && recOk (RowW.records RQ.toRowW) s
noncomputable abbrev LQ (w : World) : Prop := (openEnds treeTable RQ.prog w 3406).map (fun s => (openSeen qv looseQ (importedModules RQ.prog.main.body) XQ true s, Hook.obs HQ s)) = some (openGood qv looseQ, Hook.val HQ w)

end
end Mine

end HApart

section HB4part
open PySem PySem.W PyProof.Rows PySem.Calls
namespace Mine
theorem left_f (w : World) : LQ (w.withFollow "special-get-raises" false) := by
  show (openEnds treeTable RQ.prog _ 3406).map _ = _
  unfold openEnds fencedOpening topFrom
  rw [PySem.W.Fast.te14364793385576792824, PySem.W.Fast.te14082659384304107361, PySem.W.Fast.te10274390034422433532, PySem.W.Fast.te4187177175401517315]
  kernel_rfl
end Mine

end HB4part

section HB5part
open PySem PySem.W PyProof.Rows PySem.Calls
namespace Mine
theorem left_t (w : World) : LQ (w.withFollow "special-get-raises" true) := by
  show (openEnds treeTable RQ.prog _ 3406).map _ = _
  unfold openEnds fencedOpening topFrom
  rw [PySem.W.Fast.te14364793385576792824, PySem.W.Fast.te14082659384304107361, PySem.W.Fast.te10274390034422433532, PySem.W.Fast.te4187177175401517315]
  kernel_rfl
end Mine

end HB5part

section HC1part
open PySem PySem.W PyProof.Rows PySem.Calls
namespace Mine
theorem well_said : PySem.Challenge.rw_xm0602_01.wellSaid = true := by
  rw [PySem.W.Fast.te9446332074065402090]
  kernel_rfl
end Mine

end HC1part

section HC2part
open PySem PySem.W PyProof.Rows PySem.Calls
namespace Mine
noncomputable def recL : DefRec := recAt 52
theorem defs_at : defOf qv RQ.name = some (recAt 52, []) := by kernel_rfl
theorem prog_at : RQ.prog.theDef RQ.name = some ((recAt 52).params, (recAt 52).body, (recAt 52).scope) := by kernel_rfl
theorem kw_at : kwWritten? (recAt 52).params.kwonlyargs (recAt 52).params.kw_defaults = some [] := by kernel_rfl
theorem chains_at : (chainsOk qv && opensWell RQ.prog && (frees RQ.toRowW && RQ.within.isEmpty)) = true := by kernel_rfl
theorem bare_at : RQ.prog.bare := ⟨rfl, rfl, rfl, rfl, rfl, by decide +kernel⟩
theorem promised_at : RQ.toRowW.promised := by w_witness2
end Mine

end HC2part

section DApart
namespace Mine

/-- the pure values -/
inductive V where
  | none | bool (b : Bool) | int (i : Int) | str (l : List Nat) | tup (vs : List V) | lst (vs : List V) | jar

inductive BOp where | add | sub | mul | fdiv | mod | pow
inductive COp where | eq | ne | lt | gt | ge | isin
inductive BI where | len | max2 | tupleOf | listOf | isBool | strOf | intOf
inductive ItK where | plain | range | enum
inductive Tgt where | one (x : Nat) | tup (xs : List Nat)

inductive E where
  | raw
  | none | bool (b : Bool) | int (i : Int) | str (k : Nat)
  | loc (x : Nat) | cel
  | glob (g : Nat)
  | bin (o : BOp) (a b : E)
  | neg (i : Int)
  | cmp (o : COp) (a b : E)
  | isNone (pos : Bool) (a : E)
  | and (es : List E) | or (es : List E) | not (a : E)
  | ite (c a b : E)
  | sub (a i : E)
  | lev (a : E)
  | tup (es : List E) | lst (es : List E)
  | comp (elt : E) (t : Tgt) (k : ItK) (it : E)
  | call (f : Nat) (es : List E)
  | bi (b : BI) (es : List E)
  | join (sep a : E) | split (a sep : E)

inductive S where
  | raw
  | ret (e : E)
  | asg (x : Nat) (e : E)
  | own (x : Nat)
  | ownC (x : Nat) (elt : E) (t : Tgt) (k : ItK) (it : E)
  | tasg (xs : List Nat) (es : List E)
  | tasgO (pre : List (Nat × E)) (x y k : Nat)
  | unp (xs : List Nat) (e : E)
  | setJ (i : Int) (e : E)
  | ite (c : E) (a b : List S)
  | app (x : Nat) (e : E)
  | whl (c : E) (b : List S)
  | for (t : Tgt) (k : ItK) (it : E) (b : List S)

structure FDef where
  params : List Nat
  dflt : List V
  cel : Bool
  body : List S

structure St where
  ρ : List (Nat × V)
  own : Option (Nat × List V)
  j : Int × Int

inductive Fl where | next | ret (v : V)

noncomputable def lk : List (Nat × V) → Nat → Option V
  | [], _ => none
  | (y, v) :: r, x => match Nat.beq y x with
    | true => some v
    | false => lk r x

noncomputable def St.get (σ : St) (x : Nat) : Option (V × St) := match σ.own with
  | none => match lk σ.ρ x with
    | some v => some (v, σ)
    | none => none
  | some (y, vs) => match Nat.beq y x with
    | true => some (.lst vs, ⟨(x, .lst vs) :: σ.ρ, none, σ.j⟩)
    | false => match lk σ.ρ x with
      | some v => some (v, σ)
      | none => none
noncomputable def St.set (σ : St) (x : Nat) (v : V) : St := match σ.own with
  | none => ⟨(x, v) :: σ.ρ, none, σ.j⟩
  | some (y, vs) => match Nat.beq y x with
    | true => ⟨(x, v) :: σ.ρ, none, σ.j⟩
    | false => ⟨(x, v) :: σ.ρ, some (y, vs), σ.j⟩
noncomputable def St.setOwn (σ : St) (x : Nat) (vs : List V) : Option St := match σ.own with
  | none => some ⟨σ.ρ, some (x, vs), σ.j⟩
  | some _ => none
noncomputable def St.setAll : St → List Nat → List V → Option St
  | σ, [], [] => some σ
  | σ, x :: xs, v :: vs => (σ.set x v).setAll xs vs
  | _, _, _ => none

noncomputable def LIM : Nat := 1048576
noncomputable def beqL : List Nat → List Nat → Bool
  | [], [] => true
  | a :: r, b :: s => match Nat.beq a b with
    | true => beqL r s
    | false => false
  | _, _ => false
noncomputable def allStr : List V → Option (List (List Nat))
  | [] => some []
  | .str l :: r => match allStr r with
    | some ls => some (l :: ls)
    | none => none
  | _ :: _ => none
noncomputable def fits (n : Nat) : Bool := Nat.ble n LIM
noncomputable def smallI (i : Int) : Bool := Nat.blt i.natAbs 1099511627776

noncomputable def onInts {α : Type} (f : Int → Int → Option α) : V → V → Option α
  | .int a, .int b => f a b
  | _, _ => none
noncomputable def addV : V → V → Option V
  | .int a, .int b => some (.int (a + b))
  | .str a, .str b => match fits (a.length + b.length) with
    | true => some (.str (a ++ b))
    | false => none
  | .lst a, .lst b => match fits (a.length + b.length) with
    | true => some (.lst (a ++ b))
    | false => none
  | .tup (a :: as), .tup (b :: bs) => match fits ((a :: as).length + (b :: bs).length) with
    | true => some (.tup ((a :: as) ++ (b :: bs)))
    | false => none
  | _, _ => none
noncomputable def mulV : V → V → Option V
  | .int a, .int b => match smallI a && smallI b with
    | true => some (.int (a * b))
    | false => none
  | .tup [a], .int b => match decide (b = 4) with
    | true => some (.tup [a, a, a, a])
    | false => none
  | _, _ => none
noncomputable def binV (o : BOp) (a b : V) : Option V := match o with
  | .add => addV a b
  | .sub => onInts (fun a b => some (.int (a - b))) a b
  | .mul => mulV a b
  | .fdiv => onInts (fun a b => match decide (0 < b) && smallI b with
    | true => some (.int (a.fdiv b))
    | false => none) a b
  | .mod => onInts (fun a b => match decide (0 < b) && smallI b with
    | true => some (.int (a.fmod b))
    | false => none) a b
  | .pow => onInts (fun a b => match decide (a = 10) && decide (b = 18) with
    | true => some (.int 1000000000000000000)
    | false => none) a b

noncomputable def memS (a : List Nat) : List (List Nat) → Bool
  | [] => false
  | b :: r => match beqL b a with
    | true => true
    | false => memS a r
noncomputable def eqV : V → V → Option Bool
  | .str a, .str b => some (beqL a b)
  | .int a, .int b => some (a == b)
  | .lst a, .lst [] => some a.isEmpty
  | _, _ => none
noncomputable def neV : V → V → Option Bool
  | .str a, .str b => some (!beqL a b)
  | .lst a, .lst [] => some (!a.isEmpty)
  | _, _ => none
noncomputable def inV : V → V → Option Bool
  | .str a, .tup vs => match allStr vs with
    | some ls => some (memS a ls)
    | none => none
  | _, _ => none
noncomputable def cmpV (o : COp) (a b : V) : Option Bool := match o with
  | .eq => eqV a b
  | .ne => neV a b
  | .lt => onInts (fun a b => some (decide (a < b))) a b
  | .gt => onInts (fun a b => some (decide (a > b))) a b
  | .ge => onInts (fun a b => some (decide (a ≥ b))) a b
  | .isin => inV a b

noncomputable def subV (j : Int × Int) : V → V → Option V
  | .tup vs, .int i => match decide (0 ≤ i) && decide (i < 1000) with
    | true => vs[i.toNat]?
    | false => none
  | .lst vs, .int i => match decide (0 ≤ i) && decide (i < 1000) with
    | true => vs[i.toNat]?
    | false => none
  | .jar, .int 0 => some (.int j.1)
  | .jar, .int 1 => some (.int j.2)
  | _, _ => none

noncomputable def lenV : V → Option V
  | .tup vs => match fits vs.length with
    | true => some (.int vs.length)
    | false => none
  | .lst vs => match fits vs.length with
    | true => some (.int vs.length)
    | false => none
  | _ => none
noncomputable def tupV : V → Option V
  | .lst vs => match fits vs.length with
    | true => some (.tup vs)
    | false => none
  | _ => none
noncomputable def lstV : V → Option V
  | .tup vs => match fits vs.length with
    | true => some (.lst vs)
    | false => none
  | _ => none
noncomputable def isbV : V → Option V
  | .bool _ => some (.bool true)
  | .int _ => some (.bool false)
  | _ => none
noncomputable def strV : V → Option V
  | .int i => match decide (i = 1) with
    | true => some (.str [49])
    | false => match decide (i = 5) with
      | true => some (.str [53])
      | false => match decide (i = 12) with
        | true => some (.str [49, 50])
        | false => none
  | _ => none
noncomputable def intV : V → Option V
  | .bool b => some (.int (match b with | true => 1 | false => 0))
  | _ => none
noncomputable def on1 (f : V → Option V) : List V → Option V
  | [a] => f a
  | _ => none
noncomputable def on2 (f : V → V → Option V) : List V → Option V
  | [a, b] => f a b
  | _ => none
noncomputable def biV (o : BI) (vs : List V) : Option V := match o with
  | .len => on1 lenV vs
  | .max2 => on2 (onInts fun a b => some (.int (if a < b then b else a))) vs
  | .tupleOf => on1 tupV vs
  | .listOf => on1 lstV vs
  | .isBool => on1 isbV vs
  | .strOf => on1 strV vs
  | .intOf => on1 intV vs
theorem onInts_inv {α : Type} {f : Int → Int → Option α} {a b : V} {r : α} (h : onInts f a b = some r) : ∃ i j, a = .int i ∧ b = .int j ∧ f i j = some r := by
  cases a <;> first | (cases b <;> first | exact ⟨_, _, rfl, rfl, h⟩ | cases h) | cases h
theorem on1_inv {f : V → Option V} {vs : List V} {r : V} (h : on1 f vs = some r) : ∃ a, vs = [a] ∧ f a = some r := by
  match vs with
  | [] => cases h
  | [a] => exact ⟨a, rfl, h⟩
  | _ :: _ :: _ => cases h
theorem on2_inv {f : V → V → Option V} {vs : List V} {r : V} (h : on2 f vs = some r) : ∃ a b, vs = [a, b] ∧ f a b = some r := by
  match vs with
  | [] => cases h
  | [_] => cases h
  | [a, b] => exact ⟨a, b, rfl, h⟩
  | _ :: _ :: _ :: _ => cases h

noncomputable def joinL (sep : List Nat) : List (List Nat) → List Nat
  | [] => []
  | [a] => a
  | a :: r => a ++ (sep ++ joinL sep r)
noncomputable def sumLen (sep : List Nat) : List (List Nat) → Nat
  | [] => 0
  | a :: r => a.length + sep.length + sumLen sep r
noncomputable def joinV (sep : List Nat) : V → Option V
  | .lst vs => match allStr vs with
    | some ls => match fits (sumLen sep ls) && fits ls.length with
      | true => some (.str (joinL sep ls))
      | false => none
    | none => none
  | _ => none
noncomputable def splitC (c : Nat) : List Nat → List (List Nat)
  | [] => [[]]
  | x :: r => match Nat.beq x c with
    | true => [] :: splitC c r
    | false => match splitC c r with
      | [] => [[x]]
      | h :: t => (x :: h) :: t
noncomputable def itemsOf : ItK → V → Option (List V)
  | .plain, .tup vs => match fits vs.length with
    | true => some vs
    | false => none
  | .plain, .lst vs => match fits vs.length with
    | true => some vs
    | false => none
  | .plain, .str l => match fits l.length with
    | true => some (l.map fun c => .str [c])
    | false => none
  | .range, .int n => match decide (0 ≤ n) && decide (n ≤ 64) with
    | true => some ((List.range n.toNat).map fun i => .int (Int.ofNat i))
    | false => none
  | .enum, .lst vs => match fits vs.length with
    | true => some (vs.zipIdx.map fun p => .tup [.int (Int.ofNat p.2), p.1])
    | false => none
  | _, _ => none

noncomputable def St.bindT (σ : St) : Tgt → V → Option St
  | .one x, v => some (σ.set x v)
  | .tup xs, .tup vs => σ.setAll xs vs
  | .tup _, _ => none

noncomputable def evs (ev : E → St → Option (V × St)) : List E → St → Option (List V × St)
  | [], σ => some ([], σ)
  | e :: r, σ => match ev e σ with
    | none => none
    | some (v, σ₁) => match evs ev r σ₁ with
      | none => none
      | some (vs, σ₂) => some (v :: vs, σ₂)
noncomputable def andL (ev : E → St → Option (V × St)) : List E → St → Option (V × St)
  | [], _ => none
  | [e], σ => match ev e σ with
    | some (.bool b, σ₁) => some (.bool b, σ₁)
    | _ => none
  | e :: r, σ => match ev e σ with
    | some (.bool true, σ₁) => andL ev r σ₁
    | some (.bool false, σ₁) => some (.bool false, σ₁)
    | _ => none
noncomputable def orL (ev : E → St → Option (V × St)) : List E → St → Option (V × St)
  | [], _ => none
  | [e], σ => match ev e σ with
    | some (.bool b, σ₁) => some (.bool b, σ₁)
    | _ => none
  | e :: r, σ => match ev e σ with
    | some (.bool false, σ₁) => orL ev r σ₁
    | some (.bool true, σ₁) => some (.bool true, σ₁)
    | _ => none
noncomputable def compL (f : V → Int × Int → Option (V × (Int × Int))) : List V → Int × Int → Option (List V × (Int × Int))
  | [], j => some ([], j)
  | v :: r, j => match f v j with
    | none => none
    | some (y, j₁) => match compL f r j₁ with
      | none => none
      | some (ys, j₂) => some (y :: ys, j₂)
noncomputable def exsL (ex : S → St → Option (Fl × St)) : List S → St → Option (Fl × St)
  | [], σ => some (.next, σ)
  | s :: r, σ => match ex s σ with
    | some (.next, σ₁) => exsL ex r σ₁
    | some (.ret v, σ₁) => some (.ret v, σ₁)
    | none => none
noncomputable def forL (t : Tgt) (body : St → Option (Fl × St)) : List V → St → Option (Fl × St)
  | [], σ => some (.next, σ)
  | v :: r, σ => match σ.bindT t v with
    | none => none
    | some σ₁ => match body σ₁ with
      | some (.next, σ₂) => forL t body r σ₂
      | some (.ret u, σ₂) => some (.ret u, σ₂)
      | none => none

structure Ih where
  ev : E → St → Option (V × St)
  ex : S → St → Option (Fl × St)
  call : Nat → List V → Int × Int → Option (V × (Int × Int))

/-- the tables of a program: values of global names, texts, levels, defs -/
structure Tab where
  gval : Nat → Option V
  lit : Nat → List Nat
  lev : List Nat → Option Int
  jar : Nat
  fdef : Nat → Option FDef

noncomputable def compE (ih : Ih) (elt : E) (t : Tgt) (v : V) (j : Int × Int) : Option (V × (Int × Int)) := match (⟨[], none, j⟩ : St).bindT t v with
  | none => none
  | some σ => match ih.ev elt σ with
    | none => none
    | some (y, σ₁) => match σ₁.own with
      | none => some (y, σ₁.j)
      | some _ => none

noncomputable def compV (ih : Ih) (elt : E) (t : Tgt) (k : ItK) (it : E) (σ : St) : Option (List V × St) := match ih.ev it σ with
  | none => none
  | some (v, σ₁) => match itemsOf k v with
    | none => none
    | some xs => match compL (compE ih elt t) xs σ₁.j with
      | none => none
      | some (ys, j) => some (ys, ⟨σ₁.ρ, σ₁.own, j⟩)

noncomputable def evStep (T : Tab) (ih : Ih) : E → St → Option (V × St)
  | .raw, _ => none
  | .none, σ => some (.none, σ)
  | .bool b, σ => some (.bool b, σ)
  | .int i, σ => some (.int i, σ)
  | .str k, σ => some (.str (T.lit k), σ)
  | .loc x, σ => σ.get x
  | .cel, σ => some (.jar, σ)
  | .glob g, σ => match T.gval g with
    | some v => some (v, σ)
    | none => none
  | .bin o a b, σ => match ih.ev a σ with
    | none => none
    | some (u, σ₁) => match ih.ev b σ₁ with
      | none => none
      | some (v, σ₂) => match binV o u v with
        | none => none
        | some r => some (r, σ₂)
  | .neg i, σ => some (.int (-i), σ)
  | .cmp o a b, σ => match ih.ev a σ with
    | none => none
    | some (u, σ₁) => match ih.ev b σ₁ with
      | none => none
      | some (v, σ₂) => match cmpV o u v with
        | none => none
        | some r => some (.bool r, σ₂)
  | .isNone p a, σ => match ih.ev a σ with
    | none => none
    | some (.none, σ₁) => some (.bool p, σ₁)
    | some (_, σ₁) => some (.bool (!p), σ₁)
  | .and es, σ => andL ih.ev es σ
  | .or es, σ => orL ih.ev es σ
  | .not a, σ => match ih.ev a σ with
    | some (.bool b, σ₁) => some (.bool (!b), σ₁)
    | _ => none
  | .ite c a b, σ => match ih.ev c σ with
    | some (.bool true, σ₁) => ih.ev a σ₁
    | some (.bool false, σ₁) => ih.ev b σ₁
    | _ => none
  | .sub a i, σ => match ih.ev a σ with
    | none => none
    | some (u, σ₁) => match ih.ev i σ₁ with
      | none => none
      | some (v, σ₂) => match subV σ₂.j u v with
        | none => none
        | some r => some (r, σ₂)
  | .lev a, σ => match ih.ev a σ with
    | some (.str l, σ₁) => match T.lev l with
      | some i => some (.int i, σ₁)
      | none => none
    | _ => none
  | .tup es, σ => match fits es.length, evs ih.ev es σ with
    | true, some (vs, σ₁) => some (.tup vs, σ₁)
    | _, _ => none
  | .lst es, σ => match fits es.length, evs ih.ev es σ with
    | true, some (vs, σ₁) => some (.lst vs, σ₁)
    | _, _ => none
  | .comp elt t k it, σ => match compV ih elt t k it σ with
    | some (ys, σ₁) => some (.lst ys, σ₁)
    | none => none
  | .call f es, σ => match evs ih.ev es σ with
    | none => none
    | some (vs, σ₁) => match ih.call f vs σ₁.j with
      | none => none
      | some (v, j) => some (v, ⟨σ₁.ρ, σ₁.own, j⟩)
  | .bi b es, σ => match evs ih.ev es σ with
    | none => none
    | some (vs, σ₁) => match biV b vs with
      | none => none
      | some v => some (v, σ₁)
  | .join sep a, σ => match ih.ev sep σ with
    | some (.str l, σ₁) => match ih.ev a σ₁ with
      | none => none
      | some (v, σ₂) => match joinV l v with
        | none => none
        | some r => some (r, σ₂)
    | _ => none
  | .split a sep, σ => match ih.ev a σ with
    | some (.str l, σ₁) => match ih.ev sep σ₁ with
      | some (.str [c], σ₂) => match fits l.length with
        | true => some (.lst ((splitC c l).map .str), σ₂)
        | false => none
      | _ => none
    | _ => none

noncomputable def exStep (T : Tab) (ih : Ih) : S → St → Option (Fl × St)
  | .raw, _ => none
  | .ret e, σ => match ih.ev e σ with
    | some (v, σ₁) => some (.ret v, σ₁)
    | none => none
  | .asg x e, σ => match ih.ev e σ with
    | some (v, σ₁) => some (.next, σ₁.set x v)
    | none => none
  | .own x, σ => match σ.setOwn x [] with
    | some σ₁ => some (.next, σ₁)
    | none => none
  | .ownC x elt t k it, σ => match compV ih elt t k it σ with
    | some (ys, σ₁) => match σ₁.setOwn x ys with
      | some σ₂ => some (.next, σ₂)
      | none => none
    | none => none
  | .tasg xs es, σ => match evs ih.ev es σ with
    | some (vs, σ₁) => match σ₁.setAll xs vs with
      | some σ₂ => some (.next, σ₂)
      | none => none
    | none => none
  | .tasgO pre x y k, σ => match evs ih.ev (pre.map (·.2)) σ with
    | some (vs, σ₁) => match σ₁.setOwn x [] with
      | some σ₂ => match σ₂.setAll (pre.map (·.1) ++ [y]) (vs ++ [.str (T.lit k)]) with
        | some σ₃ => some (.next, σ₃)
        | none => none
      | none => none
    | none => none
  | .unp xs e, σ => match ih.ev e σ with
    | some (.tup vs, σ₁) => match σ₁.setAll xs vs with
      | some σ₂ => some (.next, σ₂)
      | none => none
    | _ => none
  | .setJ i e, σ => match ih.ev e σ with
    | some (.int v, σ₁) => match σ₁.get T.jar with
      | some (.jar, σ₂) => match decide (i = 0), decide (i = 1) with
        | true, _ => some (.next, ⟨σ₂.ρ, σ₂.own, (v, σ₂.j.2)⟩)
        | _, true => some (.next, ⟨σ₂.ρ, σ₂.own, (σ₂.j.1, v)⟩)
        | _, _ => none
      | _ => none
    | _ => none
  | .ite c a b, σ => match ih.ev c σ with
    | some (.bool true, σ₁) => exsL ih.ex a σ₁
    | some (.bool false, σ₁) => exsL ih.ex b σ₁
    | _ => none
  | .app x e, σ => match σ.own with
    | some (z, _) => match Nat.beq z x with
      | true => match ih.ev e σ with
        | some (v, σ₁) => match σ₁.own with
          | some (y, vs) => match Nat.beq y x && fits vs.length with
            | true => some (.next, ⟨σ₁.ρ, some (y, vs ++ [v]), σ₁.j⟩)
            | false => none
          | none => none
        | none => none
      | false => none
    | none => none
  | .whl c b, σ => match ih.ev c σ with
    | some (.bool true, σ₁) => match exsL ih.ex b σ₁ with
      | some (.next, σ₂) => ih.ex (.whl c b) σ₂
      | some (.ret v, σ₂) => some (.ret v, σ₂)
      | none => none
    | some (.bool false, σ₁) => some (.next, σ₁)
    | _ => none
  | .for t k it b, σ => match ih.ev it σ with
    | some (v, σ₁) => match itemsOf k v with
      | some xs => forL t (exsL ih.ex b) xs σ₁
      | none => none
    | none => none

noncomputable def FDef.binds (d : FDef) (vs : List V) : Option (List (Nat × V)) :=
  match Nat.ble vs.length d.params.length && Nat.ble d.params.length (vs.length + d.dflt.length) with
  | true => match d.cel with
    | false => some (d.params.zip (vs ++ d.dflt.drop (vs.length + d.dflt.length - d.params.length))).reverse
    | true => match vs with
      | [.jar] => some []
      | _ => none
  | false => none

noncomputable def callStep (T : Tab) (ih : Ih) (f : Nat) (vs : List V) (j : Int × Int) : Option (V × (Int × Int)) := match T.fdef f with
  | none => none
  | some d => match d.binds vs with
    | none => none
    | some ρ => match exsL ih.ex d.body ⟨ρ, none, j⟩ with
      | some (.ret v, σ) => some (v, σ.j)
      | _ => none

noncomputable def run (T : Tab) : Nat → Ih
  | 0 => ⟨fun _ _ => none, fun _ _ => none, fun _ _ _ => none⟩
  | n + 1 => ⟨evStep T (run T n), exStep T (run T n), callStep T (run T n)⟩
end Mine

end DApart

section DBpart
open PySem PySem.W PyProof.Rows
namespace Mine

noncomputable abbrev Led := List (Addr × Obj)

/-- the names and texts of a program -/
structure Nms where
  nm : Nat → Str
  nb : Nat
  lit : Nat → Str
  jar : Nat
  lev : Nat
  inj : ∀ x y, x < nb → y < nb → nm x = nm y → x = y

/-- what a block may read -/
structure Cx where
  ls : List Nat
  gs : List Nat
  cj : Bool

noncomputable def bopOf : BOp → Operator
  | .add => .Add | .sub => .Sub | .mul => .Mult | .fdiv => .FloorDiv | .mod => .Mod | .pow => .Pow
noncomputable def copOf : COp → CmpOp
  | .eq => .Eq | .ne => .NotEq | .lt => .Lt | .gt => .Gt | .ge => .GtE | .isin => .In
noncomputable def biName : BI → String
  | .len => "len" | .max2 => "max" | .tupleOf => "tuple" | .listOf => "list" | .isBool => "isinstance" | .strOf => "str" | .intOf => "int"

section
variable (Z : Nms)

noncomputable def NotBool (e : Expr) : Prop := ∀ env whole, isTrue e env whole = (do let v ← whole; standAt e.pos; holding [v] (truthy v))

noncomputable def EnumTup (k : ItK) (t : Tgt) : Prop := match k, t with
  | .enum, .one _ => False
  | _, _ => True
noncomputable def kindIs (sc : Scope) (ns : List Nat) (k : NameKind) : Prop := ∀ x, x ∈ ns → sc.names.lookup (Z.nm x) = some k

mutual
inductive TrE : Cx → E → Expr → Prop
  | raw {c e} : TrE c .raw e
  | none {c k p} : TrE c .none (.Constant .none k p)
  | bool {c b k p} : TrE c (.bool b) (.Constant (.bool b) k p)
  | int {c i k p} : TrE c (.int i) (.Constant (.int i) k p)
  | str {c i k p} : TrE c (.str i) (.Constant (.str (Z.lit i)) k p)
  | loc {c x p} : c.ls.elem x = true → TrE c (.loc x) (.Name (Z.nm x) p)
  | cel {c p} : c.cj = true → TrE c .cel (.Name (Z.nm Z.jar) p)
  | glob {c g p} : c.gs.elem g = true → TrE c (.glob g) (.Name (Z.nm g) p)
  | bin {c o a b l r p} : TrE c a l → TrE c b r → TrE c (.bin o a b) (.BinOp l (bopOf o) r p)
  | neg {c i k p q} : TrE c (.neg i) (.UnaryOp .USub (.Constant (.int i) k p) q)
  | cmp {c o a b l r p} : TrE c a l → TrE c b r → behindInMarks (copOf o) r = false → TrE c (.cmp o a b) (.Compare l [copOf o] [r] p)
  | isN {c a l k p q} : TrE c a l → TrE c (.isNone true a) (.Compare l [.Is] [.Constant .none k p] q)
  | isNN {c a l k p q} : TrE c a l → TrE c (.isNone false a) (.Compare l [.IsNot] [.Constant .none k p] q)
  | and {c es xs p} : TrEs c es xs → TrE c (.and es) (.BoolOp .And xs p)
  | or {c es xs p} : TrEs c es xs → TrE c (.or es) (.BoolOp .Or xs p)
  | not {c a x p} : TrE c a x → TrE c (.not a) (.UnaryOp .Not x p)
  | ite {c t a b xt xa xb p} : TrE c t xt → TrE c a xa → TrE c b xb → TrE c (.ite t a b) (.IfExp xt xa xb p)
  | sub {c a i xa xi p} : TrE c a xa → TrE c i xi → (∀ o i', subscripted xi false o i' = operate [o, i'] (getItem o i')) → TrE c (.sub a i) (.Subscript xa xi p)
  | lev {c i xi q p} : c.gs.elem Z.lev = true → TrE c i xi → (∀ o i', subscripted xi false o i' = operate [o, i'] (getItem o i')) → TrE c (.lev i) (.Subscript (.Name (Z.nm Z.lev) q) xi p)
  | tup {c es xs k p} : TrEs c es xs → TrE c (.tup es) (.Tuple xs k p)
  | lst {c es xs p} : TrEs c es xs → TrE c (.lst es) (.List xs p)
  | comp {c c' elt t k it xe xt xi sc p} : EnumTup k t → TrIt c k it xi → TrT c' t xt → TrE c' elt xe → CompOk c c' sc → TrE c (.comp elt t k it) (.ListComp xe [⟨xt, xi, [], 0⟩] sc p)
  | call {c f es xs p q} : c.gs.elem f = true → TrEs c es xs → es ≠ [] → TrE c (.call f es) (.Call (.Name (Z.nm f) p) xs [] q)
  | bi {c b es xs g p q} : c.gs.elem g = true → Z.nm g = Str.ofString (biName b) → b ≠ .isBool → TrEs c es xs → es ≠ [] → TrE c (.bi b es) (.Call (.Name (Z.nm g) p) xs [] q)
  | isBool {c a xa g g' p p' q} : c.gs.elem g = true → Z.nm g = Str.ofString "isinstance" → c.gs.elem g' = true → Z.nm g' = Str.ofString "bool" → TrE c a xa →
      TrE c (.bi .isBool [a]) (.Call (.Name (Z.nm g) p) [xa, .Name (Z.nm g') p'] [] q)
  | join {c i a xa k p ap q} : ap.endLine = q.line → TrE c a xa → TrE c (.join (.str i) a) (.Call (.Attribute (.Constant (.str (Z.lit i)) k p) (Str.ofString "join") ap) [xa] [] q)
  | split {c x i k p r ap q} : ap.endLine = q.line → c.ls.elem x = true → TrE c (.split (.loc x) (.str i)) (.Call (.Attribute (.Name (Z.nm x) p) (Str.ofString "split") ap) [.Constant (.str (Z.lit i)) k r] [] q)
inductive TrEs : Cx → List E → List Expr → Prop
  | nil {c} : TrEs c [] []
  | cons {c e es x xs} : TrE c e x → (∀ ys env, starEach (x :: ys) env = (false, eval x env) :: starEach ys env) → TrEs c es xs → TrEs c (e :: es) (x :: xs)
inductive TrIt : Cx → ItK → E → Expr → Prop
  | plain {c e x} : TrE c e x → (∀ env v, foldedSetIterable x env v = pure v) → TrIt c .plain e x
  | range {c e x g p q} : c.gs.elem g = true → Z.nm g = Str.ofString "range" → TrE c e x → (∀ env, starEach [x] env = [(false, eval x env)]) → TrIt c .range e (.Call (.Name (Z.nm g) p) [x] [] q)
  | enum {c e x g p q} : c.gs.elem g = true → Z.nm g = Str.ofString "enumerate" → TrE c e x → (∀ env, starEach [x] env = [(false, eval x env)]) → TrIt c .enum e (.Call (.Name (Z.nm g) p) [x] [] q)
inductive TrT : Cx → Tgt → Expr → Prop
  | one {c x p} : c.ls.elem x = true → TrT c (.one x) (.Name (Z.nm x) p)
  | tup {c xs es k p} : TrNs c xs es → xs.Nodup → TrT c (.tup xs) (.Tuple es k p)
inductive TrNs : Cx → List Nat → List Expr → Prop
  | nil {c} : TrNs c [] []
  | cons {c x xs es p} : c.ls.elem x = true → TrNs c xs es → TrNs c (x :: xs) (.Name (Z.nm x) p :: es)
inductive CompOk : Cx → Cx → Scope → Prop
  | mk {c c' sc} : sc.kind = .function → (∀ y ∈ sc.names, y.2 ≠ .cell) → (∀ y ∈ sc.names, y.2 = .local → sc.names.lookup y.1 = some .local) →
      (∀ x, c'.ls.elem x = true → x < Z.nb ∧ sc.names.lookup (Z.nm x) = some .local) → (∀ x, c'.gs.elem x = true → sc.names.lookup (Z.nm x) = some .globalImplicit) →
      (match c'.cj with
        | true => c.cj = true ∧ ∃ pre post, sc.names = pre ++ (Z.nm Z.jar, .free) :: post ∧ (∀ y ∈ pre ++ post, y.2 ≠ .free) ∧ (pre.lookup (Z.nm Z.jar)) = Option.none
        | false => ∀ y ∈ sc.names, y.2 ≠ .free) → CompOk c c' sc
end

mutual
inductive TrS : Cx → S → Stmt → Prop
  | raw {c s} : TrS c .raw s
  | ret {c e x p} : TrE Z c e x → TrS c (.ret e) (.Return (some x) p)
  | asg {c x e xe p q} : c.ls.elem x = true → TrE Z c e xe → (∀ env l, swapsWith xe (some (.Name (Z.nm x) p)) l env = pure false) → TrS c (.asg x e) (.Assign [.Name (Z.nm x) p] xe q)
  | own {c x p q r} : c.ls.elem x = true → TrS c (.own x) (.Assign [.Name (Z.nm x) p] (.List [] q) r)
  | ownC {c c' x elt t k it xe xt xi sc p q r} : EnumTup k t → c.ls.elem x = true → TrIt Z c k it xi → TrT Z c' t xt → TrE Z c' elt xe → CompOk Z c c' sc →
      (p.line = q.line) → (sc.names.any fun (n, k) => n == Z.nm x && (k == .local || k == .cell)) = false →
      TrS c (.ownC x elt t k it) (.Assign [.Name (Z.nm x) p] (.ListComp xe [⟨xt, xi, [], 0⟩] sc q) r)
  | tasg {c xs es ts vs k k' p q r} : TrNs Z c xs ts → TrEs Z c es vs → xs.Nodup → es.length ≤ 1000 → (vs.all (foldedForSure 8) || !vs.all (constantsAlone 8)) = true → TrS c (.tasg xs es) (.Assign [.Tuple ts k p] (.Tuple vs k' q) r)
  | tasgO {c pre x y i ts es ps ps' k k' kk p q r s t} : TrNs Z c (pre.map (·.1)) ts → TrEs Z c (pre.map (·.2)) es → (pre.map (·.1) ++ [x, y]).Nodup → pre.length ≤ 1000 → c.ls.elem x = true → c.ls.elem y = true →
      TrS c (.tasgO pre x y i) (.Assign [.Tuple (ts ++ [.Name (Z.nm x) ps, .Name (Z.nm y) ps']) k p] (.Tuple (es ++ [.List [] q, .Constant (.str (Z.lit i)) kk r]) k' s) t)
  | unp {c xs ts e xe k p q} : TrNs Z c xs ts → xs.Nodup → TrE Z c e xe → (∀ vs k' q', xe ≠ .Tuple vs k' q') → (∀ vs k', xe ≠ .List vs k') → (∀ env l, swapsWith xe (some (.Tuple ts k p)) l env = pure false) →
      TrS c (.unp xs e) (.Assign [.Tuple ts k p] xe q)
  | setJ {c i e xe xj k p q r} : TrE Z c e xe → c.cj = false → xj = Expr.Name (Z.nm Z.jar) p → c.ls.elem Z.jar = true → (∀ env l t, swapsWith xe (some t) l env = pure false) →
      TrS c (.setJ i e) (.Assign [.Subscript xj (.Constant (.int i) k q) r] xe s)
  | ite {c t a b xt xa xb p} : TrE Z c t xt → TrSs c a xa → TrSs c b xb → TrS c (.ite t a b) (.If xt xa xb p)
  | app {c x e xe p ap q r} : ap.endLine = q.line → c.ls.elem x = true → TrE Z c e xe → (∀ env, starEach [xe] env = [(false, eval xe env)]) →
      TrS c (.app x e) (.Expr (.Call (.Attribute (.Name (Z.nm x) p) (Str.ofString "append") ap) [xe] [] q) r)
  | whl {c t b xt xb p} : TrE Z c t xt → TrSs c b xb → TrS c (.whl t b) (.While xt xb [] p)
  | for {c t k it b xt xi xb p} : EnumTup k t → TrIt Z c k it xi → TrT Z c t xt → TrSs c b xb → TrS c (.for t k it b) (.For xt xi xb [] p)
inductive TrSs : Cx → List S → List Stmt → Prop
  | nil {c} : TrSs c [] []
  | cons {c s ss x xs} : TrS c s x → TrSs c ss xs → TrSs c (s :: ss) (x :: xs)
end
end
end Mine

end DBpart

section DCpart
open PySem PySem.W PyProof.Rows
namespace Mine

/-- the ground: the heap at the law's call, and the rest of the shared state there -/
structure Gl where
  h₀ : Heap
  s₀ : Shared

noncomputable abbrev tupO (us : List Value) : Obj := { cls := .type "tuple", data := .seq us.toArray }
noncomputable abbrev lstO (us : List Value) (n : Nat) : Obj := { cls := .type "list", data := .seq us.toArray n }

noncomputable def InL (h₀ : Heap) (N : Led) (a : Addr) (o : Obj) : Prop := (a, o) ∈ N ∨ h₀.get? a = some o

/-- the jar's place, and the own list's -/
structure Pin where
  j : Option Addr
  o : Addr

mutual
inductive RV (h₀ : Heap) (N : Led) (ja : Pin) : Value → V → Prop
  | none : RV h₀ N ja .none .none
  | bool (b : Bool) : RV h₀ N ja (.bool b) (.bool b)
  | int (i : Int) (t : Tok) : RV h₀ N ja (.int i t) (.int i)
  | str (x : Str) (t : Tok) : RV h₀ N ja (.str x t) (.str x.cps.toList)
  | tup {a : Addr} {o : Obj} {us : List Value} {vs : List V} {n : Nat} : InL h₀ N a o → o.cls = .type "tuple" → o.data = .seq us.toArray n → RVs h₀ N ja us vs → RV h₀ N ja (.ref a) (.tup vs)
  | lst {a : Addr} {o : Obj} {us : List Value} {vs : List V} {n : Nat} : InL h₀ N a o → o.cls = .type "list" → o.data = .seq us.toArray n → RVs h₀ N ja us vs → RV h₀ N ja (.ref a) (.lst vs)
  | jar {a : Addr} : ja.j = some a → RV h₀ N ja (.ref a) .jar
inductive RVs (h₀ : Heap) (N : Led) (ja : Pin) : List Value → List V → Prop
  | nil : RVs h₀ N ja [] []
  | cons {u v us vs} : RV h₀ N ja u v → RVs h₀ N ja us vs → RVs h₀ N ja (u :: us) (v :: vs)
end

section
variable {h₀ : Heap} {N N' : Led} {ja : Pin}
theorem InL.mono (hs : ∀ p ∈ N, p ∈ N') {a o} (h : InL h₀ N a o) : InL h₀ N' a o := h.imp (hs _) id
mutual
theorem RV.mono (hs : ∀ p ∈ N, p ∈ N') {u v} : RV h₀ N ja u v → RV h₀ N' ja u v
  | .none => .none
  | .bool b => .bool b
  | .int i t => .int i t
  | .str x t => .str x t
  | .tup a b c d => .tup (a.mono hs) b c (RVs.mono hs d)
  | .lst a b c d => .lst (a.mono hs) b c (RVs.mono hs d)
  | .jar e => .jar e
theorem RVs.mono (hs : ∀ p ∈ N, p ∈ N') {us vs} : RVs h₀ N ja us vs → RVs h₀ N' ja us vs
  | .nil => .nil
  | .cons a b => .cons (RV.mono hs a) (RVs.mono hs b)
end
theorem RVs.nil_inv {us} (h : RVs h₀ N ja us []) : us = [] := by cases h; rfl
theorem RVs.cons_inv {us v vs} (h : RVs h₀ N ja us (v :: vs)) : ∃ u us', us = u :: us' ∧ RV h₀ N ja u v ∧ RVs h₀ N ja us' vs := by cases h with | cons a b => exact ⟨_, _, rfl, a, b⟩
theorem RVs.one_inv {us v} (h : RVs h₀ N ja us [v]) : ∃ u, us = [u] ∧ RV h₀ N ja u v := by
  obtain ⟨u, us', rfl, a, b⟩ := h.cons_inv
  exact ⟨u, by rw [b.nil_inv], a⟩
theorem RVs.ne_nil {us v vs} (h : RVs h₀ N ja us (v :: vs)) (e : us = []) : False := by
  obtain ⟨u, us', rfl, _⟩ := h.cons_inv
  cases e
theorem RV.int_inv {x i} (h : RV h₀ N ja x (.int i)) : ∃ t, x = .int i t := by cases h with | int _ t => exact ⟨t, rfl⟩
theorem RV.bool_inv {x b} (h : RV h₀ N ja x (.bool b)) : x = .bool b := by cases h; rfl
theorem RV.str_inv {x l} (h : RV h₀ N ja x (.str l)) : ∃ y t, x = .str y t ∧ l = y.cps.toList := by cases h with | str y t => exact ⟨y, t, rfl, rfl⟩
theorem RV.tup_inv {x vs} (h : RV h₀ N ja x (.tup vs)) : ∃ a o us n, x = .ref a ∧ InL h₀ N a o ∧ o.cls = .type "tuple" ∧ o.data = .seq us.toArray n ∧ RVs h₀ N ja us vs := by cases h with | tup a b c d => exact ⟨_, _, _, _, rfl, a, b, c, d⟩
theorem RV.lst_inv {x vs} (h : RV h₀ N ja x (.lst vs)) : ∃ a o us n, x = .ref a ∧ InL h₀ N a o ∧ o.cls = .type "list" ∧ o.data = .seq us.toArray n ∧ RVs h₀ N ja us vs := by cases h with | lst a b c d => exact ⟨_, _, _, _, rfl, a, b, c, d⟩
theorem RV.jar_inv {x} (h : RV h₀ N ja x .jar) : ∃ a, x = .ref a ∧ ja.j = some a := by cases h with | jar e => exact ⟨_, rfl, e⟩
mutual
theorem RV.pin {ja' : Pin} (e : ja'.j = ja.j) {u v} : RV h₀ N ja u v → RV h₀ N ja' u v
  | .none => .none
  | .bool b => .bool b
  | .int i t => .int i t
  | .str x t => .str x t
  | .tup a b c d => .tup a b c (RVs.pin e d)
  | .lst a b c d => .lst a b c (RVs.pin e d)
  | .jar h => .jar (e.trans h)
theorem RVs.pin {ja' : Pin} (e : ja'.j = ja.j) {us vs} : RVs h₀ N ja us vs → RVs h₀ N ja' us vs
  | .nil => .nil
  | .cons a b => .cons (RV.pin e a) (RVs.pin e b)
end
theorem RV.pinD {D : Addr} {u v} (h : RV h₀ N ja u v) : RV h₀ N ⟨ja.j, D⟩ u v := RV.pin (ja := ja) (ja' := ⟨ja.j, D⟩) rfl h
theorem RVs.pinD {D : Addr} {us vs} (h : RVs h₀ N ja us vs) : RVs h₀ N ⟨ja.j, D⟩ us vs := RVs.pin (ja := ja) (ja' := ⟨ja.j, D⟩) rfl h
theorem RVs.length {us vs} (h : RVs h₀ N ja us vs) : us.length = vs.length := by
  induction us generalizing vs with
  | nil => cases h; rfl
  | cons u us ih => cases h with | cons a b => rw [List.length_cons, List.length_cons, ih b]
theorem RVs.append {us vs us' vs'} (h : RVs h₀ N ja us vs) (h' : RVs h₀ N ja us' vs') : RVs h₀ N ja (us ++ us') (vs ++ vs') := by
  induction us generalizing vs with
  | nil => cases h; exact h'
  | cons u us ih => cases h with | cons a b => exact .cons a (ih b)
theorem RVs.get {us vs} (h : RVs h₀ N ja us vs) {i : Nat} {v : V} (e : vs[i]? = some v) : ∃ u, us[i]? = some u ∧ RV h₀ N ja u v := by
  induction us generalizing vs i with
  | nil => cases h; simp at e
  | cons u us ih =>
    cases h with
    | cons a b =>
      cases i with
      | zero => simp at e; subst e; exact ⟨u, rfl, a⟩
      | succ i => simp at e; obtain ⟨w, hw, r⟩ := ih b e; exact ⟨w, by simpa using hw, r⟩
theorem RVs.drop {us vs} (h : RVs h₀ N ja us vs) : ∀ i, RVs h₀ N ja (us.drop i) (vs.drop i) := by
  intro i
  induction i generalizing us vs with
  | zero => simpa using h
  | succ i ih => cases h with
    | nil => simpa using RVs.nil
    | cons a b => simpa using ih b
theorem RVs.unit {u v} (h : RV h₀ N ja u v) : RVs h₀ N ja [u] [v] := .cons h .nil
end

noncomputable def JarL (ja : Pin) (j : Int × Int) (J : Led) : Prop := match ja.j with
  | none => J = []
  | some a => ∃ t₀ t₁ n, J = [(a, lstO [.int j.1 t₀, .int j.2 t₁] n)]

section
variable (Z : Nms) (G : Gl)
noncomputable def OwnL (N : Led) (ja : Pin) (m : Str → Option Value) (own : Option (Nat × List V)) (O : Led) : Prop := match own with
  | none => O = []
  | some (x, vs) => x < Z.nb ∧ ∃ a us n, O = [(a, lstO us n)] ∧ (m (Z.nm x) = some (.ref a) ∧ a = ja.o) ∧ RVs G.h₀ N ja us vs
noncomputable def VarsR (N : Led) (ja : Pin) (m : Str → Option Value) (σ : St) : Prop := ∀ x v, x < Z.nb → (∀ y vs, σ.own = some (y, vs) → y ≠ x) → lk σ.ρ x = some v → ∃ u, m (Z.nm x) = some u ∧ RV G.h₀ N ja u v

structure Core (L : Addr) (N P : Led) (ja : Pin) (σ : St) (h : Heap) (m : Str → Option Value) (O J : Led) : Prop where
  fr : Fr G.h₀ L h m
  nw : News G.h₀ L h (J ++ (O ++ (P ++ N)))
  dN : ∀ p ∈ N, ∀ q ∈ J ++ (O ++ P), p.1 ≠ q.1
  dO : ∀ p ∈ O, ∀ q ∈ J ++ P, p.1 ≠ q.1
  dJ : ∀ p ∈ J, ∀ q ∈ P, p.1 ≠ q.1
  jr : JarL ja σ.j J
  ow : OwnL Z G N ja m σ.own O
  vr : VarsR Z G N ja m σ

noncomputable def Inv (L : Addr) (N P : Led) (ja : Pin) (σ : St) (s : Shared) : Prop :=
  (∃ h tk, s = { G.s₀ with heap := h, toks := tk }) ∧ ∃ m O J, Core Z G L N P ja σ s.heap m O J
end

section
variable {Z : Nms} {G : Gl} {L : Addr} {N P : Led} {ja : Pin} {σ : St} {h h' : Heap} {m : Str → Option Value} {O J : Led}

theorem VarsR.pin {ja' : Pin} (e : ja'.j = ja.j) (h : VarsR Z G N ja m σ) : VarsR Z G N ja' m σ := fun x v hx ho e' => let ⟨u, hu, r⟩ := h x v hx ho e'; ⟨u, hu, r.pin e⟩
theorem JarL.pin {ja' : Pin} (e : ja'.j = ja.j) {j : Int × Int} (h : JarL ja j J) : JarL ja' j J := by unfold JarL at h ⊢; rw [e]; exact h
theorem Core.of (C : Core Z G L N P ja σ h m O J) (F : Fr G.h₀ L h' m) (W : News G.h₀ L h' (J ++ (O ++ (P ++ N)))) : Core Z G L N P ja σ h' m O J := { C with fr := F, nw := W }
theorem Core.keeps (C : Core Z G L N P ja σ h m O J) (hk : ∀ b o, h.get? b = some o → h'.get? b = some o) : Core Z G L N P ja σ h' m O J :=
  C.of (C.fr.keeps hk) fun p hp => ⟨hk _ _ (C.nw p hp).1, (C.nw p hp).2⟩
theorem Core.N_get (C : Core Z G L N P ja σ h m O J) {p} (hp : p ∈ N) : h.get? p.1 = some p.2 := (C.nw p (by simp [hp])).1
theorem Core.P_get (C : Core Z G L N P ja σ h m O J) {p} (hp : p ∈ P) : h.get? p.1 = some p.2 := (C.nw p (by simp [hp])).1
theorem Core.inL (C : Core Z G L N P ja σ h m O J) {a o} (hp : InL G.h₀ N a o) : h.get? a = some o := hp.elim (fun q => C.N_get q) fun q => C.fr.keep _ _ q

theorem OwnL.mono {N N' : Led} (hs : ∀ p ∈ N, p ∈ N') {own} (h : OwnL Z G N ja m own O) : OwnL Z G N' ja m own O := by
  cases own with
  | none => exact h
  | some y =>
    obtain ⟨x, vs⟩ := y
    obtain ⟨hx, a, us, n, e1, e2, e3⟩ := h
    exact ⟨hx, a, us, n, e1, e2, e3.mono hs⟩
theorem VarsR.mono {N N' : Led} (hs : ∀ p ∈ N, p ∈ N') (h : VarsR Z G N ja m σ) : VarsR Z G N' ja m σ := fun x v hx ho e =>
  let ⟨u, hu, r⟩ := h x v hx ho e; ⟨u, hu, r.mono hs⟩

/-- a new object behind heaps that grow -/
theorem Core.add (C : Core Z G L N P ja σ h m O J) {D : Addr} {o : Obj} (hk : ∀ b o, h.get? b = some o → h'.get? b = some o) (hD : h'.get? D = some o) (hn : h.get? D = none) :
    Core Z G L ((D, o) :: N) P ja σ h' m O J := by
  have C' := C.keeps hk
  have ne : ∀ q ∈ J ++ (O ++ (P ++ N)), D ≠ q.1 := fun q hq e => by rw [e, (C.nw q hq).1] at hn; cases hn
  refine { C' with nw := ?_, dN := ?_, ow := C.ow.mono fun p hp => List.mem_cons_of_mem _ hp, vr := C.vr.mono fun p hp => List.mem_cons_of_mem _ hp }
  · intro p hp
    have hp' : p = (D, o) ∨ p ∈ J ++ (O ++ (P ++ N)) := by
      simp only [List.mem_append, List.mem_cons] at hp ⊢
      rcases hp with hp | hp | hp | hp | hp <;> simp [hp]
    rcases hp' with rfl | hp'
    · refine ⟨hD, ?_, ?_⟩
      · rintro rfl
        obtain ⟨oL, _, _, hL, _⟩ := C.fr.ns
        rw [hL] at hn; cases hn
      · cases e : G.h₀.get? D with
        | none => rfl
        | some o' => rw [C.fr.keep _ _ e] at hn; cases hn
    · exact C'.nw p hp'
  · intro p hp q hq
    rcases List.mem_cons.mp hp with rfl | hp
    · exact ne q (by simp only [List.mem_append] at hq ⊢; rcases hq with hq | hq | hq <;> simp [hq])
    · exact C.dN p hp q hq
theorem get_fresh (h : Heap) : h.get? h.objs.size = none := Heap.get?_none_of_le (Nat.le_refl _)
theorem Core.push (C : Core Z G L N P ja σ h m O J) (o : Obj) (hf : o.isFreed = false := by rfl) : Core Z G L ((h.objs.size, o) :: N) P ja σ (h.push o) m O J :=
  C.add (fun _ _ e => Heap.get?_push_of_some _ e) (Heap.get?_push_size _ hf) (get_fresh h)
/-- by a rule that speaks of a frame and a ledger -/
theorem Core.ofN (C : Core Z G L N P ja σ h m O J) {D : Addr} {o : Obj} (F : Fr G.h₀ L h' m) (W : News G.h₀ L h' ((D, o) :: (J ++ (O ++ (P ++ N))))) (lt : ∀ p ∈ J ++ (O ++ (P ++ N)), p.1 < D) :
    Core Z G L ((D, o) :: N) P ja σ h' m O J := by
  refine { C with fr := F, nw := ?_, dN := ?_, ow := C.ow.mono fun p hp => List.mem_cons_of_mem _ hp, vr := C.vr.mono fun p hp => List.mem_cons_of_mem _ hp }
  · intro p hp
    refine W p ?_
    simp only [List.mem_append, List.mem_cons] at hp ⊢
    rcases hp with hp | hp | hp | hp | hp <;> simp [hp]
  · intro p hp q hq
    rcases List.mem_cons.mp hp with rfl | hp
    · exact Nat.ne_of_gt (lt q (by simp only [List.mem_append] at hq ⊢; rcases hq with hq | hq | hq <;> simp [hq]))
    · exact C.dN p hp q hq
/-- a protected object more -/
theorem Core.protect (C : Core Z G L N P ja σ h m O J) {D : Addr} {o : Obj} (hk : ∀ b o, h.get? b = some o → h'.get? b = some o) (hD : h'.get? D = some o) (hn : h.get? D = none) :
    Core Z G L N ((D, o) :: P) ja σ h' m O J ∧ ∀ p ∈ P, p.1 ≠ D := by
  have C' := C.keeps hk
  have ne : ∀ q ∈ J ++ (O ++ (P ++ N)), q.1 ≠ D := fun q hq e => by rw [← e, (C.nw q hq).1] at hn; cases hn
  refine ⟨{ C' with nw := ?_, dN := ?_, dO := ?_, dJ := ?_ }, fun p hp => ne p (by simp [hp])⟩
  · intro p hp
    have hp' : p = (D, o) ∨ p ∈ J ++ (O ++ (P ++ N)) := by
      simp only [List.mem_append, List.mem_cons] at hp ⊢
      rcases hp with hp | hp | (hp | hp) | hp <;> simp [hp]
    rcases hp' with rfl | hp'
    · refine ⟨hD, ?_, ?_⟩
      · rintro rfl
        obtain ⟨oL, _, _, hL, _⟩ := C.fr.ns
        rw [hL] at hn; cases hn
      · cases e : G.h₀.get? D with
        | none => rfl
        | some o' => rw [C.fr.keep _ _ e] at hn; cases hn
    · exact C'.nw p hp'
  · intro p hp q hq
    have hq' : q = (D, o) ∨ q ∈ J ++ (O ++ P) := by
      simp only [List.mem_append, List.mem_cons] at hq ⊢
      rcases hq with hq | hq | hq | hq <;> simp [hq]
    rcases hq' with rfl | hq'
    · exact ne p (by simp [hp])
    · exact C.dN p hp q hq'
  · intro p hp q hq
    have hq' : q = (D, o) ∨ q ∈ J ++ P := by
      simp only [List.mem_append, List.mem_cons] at hq ⊢
      rcases hq with hq | hq | hq <;> simp [hq]
    rcases hq' with rfl | hq'
    · exact ne p (by simp [hp])
    · exact C.dO p hp q hq'
  · intro p hp q hq
    rcases List.mem_cons.mp hq with rfl | hq
    · exact ne p (by simp [hp])
    · exact C.dJ p hp q hq
theorem Core.unprotect {D : Addr} {o : Obj} (C : Core Z G L N ((D, o) :: P) ja σ h m O J) : Core Z G L N P ja σ h m O J := by
  refine { C with nw := ?_, dN := ?_, dO := ?_, dJ := ?_ }
  · intro p hp
    refine C.nw p ?_
    simp only [List.mem_append, List.mem_cons] at hp ⊢
    rcases hp with hp | hp | hp | hp <;> simp [hp]
  · intro p hp q hq
    refine C.dN p hp q ?_
    simp only [List.mem_append, List.mem_cons] at hq ⊢
    rcases hq with hq | hq | hq <;> simp [hq]
  · intro p hp q hq
    refine C.dO p hp q ?_
    simp only [List.mem_append, List.mem_cons] at hq ⊢
    rcases hq with hq | hq <;> simp [hq]
  · exact fun p hp q hq => C.dJ p hp q (List.mem_cons_of_mem _ hq)
/-- a protected object turns -/
theorem Core.turn {D : Addr} {o o' : Obj} (C : Core Z G L N ((D, o) :: P) ja σ h m O J) (hP : ∀ p ∈ P, p.1 ≠ D) (hs : ∀ b x, b ≠ D → h.get? b = some x → h'.get? b = some x) (hD : h'.get? D = some o') :
    Core Z G L N ((D, o') :: P) ja σ h' m O J := by
  have z := C.nw (D, o) (by simp)
  have ne : ∀ p, p ∈ J ++ (O ++ (P ++ N)) → p.1 ≠ D := by
    intro p hp
    simp only [List.mem_append] at hp
    rcases hp with hp | hp | hp | hp
    · exact C.dJ p hp (D, o) (by simp)
    · exact C.dO p hp (D, o) (by simp)
    · exact hP p hp
    · exact C.dN p hp (D, o) (by simp)
  obtain ⟨oL, a1, a2, hL, a3⟩ := C.fr.ns
  refine { C with fr := ⟨⟨oL, a1, a2, hs _ _ (Ne.symm z.2.1) hL, a3⟩, fun b x e => hs _ _ ?_ (C.fr.keep b x e), C.fr.above⟩, nw := ?_, dN := ?_, dO := ?_, dJ := ?_ }
  · rintro rfl; rw [z.2.2] at e; cases e
  · intro p hp
    have hp' : p = (D, o') ∨ p ∈ J ++ (O ++ (P ++ N)) := by
      simp only [List.mem_append, List.mem_cons] at hp ⊢
      rcases hp with hp | hp | (hp | hp) | hp <;> simp [hp]
    rcases hp' with rfl | hp'
    · exact ⟨hD, z.2⟩
    · have y := C.nw p (by simp only [List.mem_append, List.mem_cons] at hp' ⊢; rcases hp' with hp' | hp' | hp' | hp' <;> simp [hp'])
      exact ⟨hs _ _ (ne p hp') y.1, y.2⟩
  · intro p hp q hq
    have hq' : q = (D, o') ∨ q ∈ J ++ (O ++ P) := by
      simp only [List.mem_append, List.mem_cons] at hq ⊢
      rcases hq with hq | hq | hq | hq <;> simp [hq]
    rcases hq' with rfl | hq'
    · exact ne p (by simp [hp])
    · exact C.dN p hp q (by simp only [List.mem_append, List.mem_cons] at hq' ⊢; rcases hq' with hq' | hq' | hq' <;> simp [hq'])
  · intro p hp q hq
    have hq' : q = (D, o') ∨ q ∈ J ++ P := by
      simp only [List.mem_append, List.mem_cons] at hq ⊢
      rcases hq with hq | hq | hq <;> simp [hq]
    rcases hq' with rfl | hq'
    · exact ne p (by simp [hp])
    · exact C.dO p hp q (by simp only [List.mem_append, List.mem_cons] at hq' ⊢; rcases hq' with hq' | hq' <;> simp [hq'])
  · intro p hp q hq
    rcases List.mem_cons.mp hq with rfl | hq
    · exact ne p (by simp [hp])
    · exact C.dJ p hp q (List.mem_cons_of_mem _ hq)

theorem lk_cons (x y : Nat) (v : V) (r : List (Nat × V)) : lk ((x, v) :: r) y = if x = y then some v else lk r y := by
  show (match Nat.beq x y with | true => some v | false => lk r y) = _
  by_cases e : x = y
  · subst e; simp
  · have : Nat.beq x y = false := by
      cases q : Nat.beq x y with
      | false => rfl
      | true => exact absurd (Nat.eq_of_beq_eq_true q) e
    rw [this, if_neg e]
theorem beq_false {x y : Nat} (e : x ≠ y) : Nat.beq x y = false := by
  cases q : Nat.beq x y with
  | false => rfl
  | true => exact absurd (Nat.eq_of_beq_eq_true q) e
theorem beq_true (x : Nat) : Nat.beq x x = true := by simp

theorem St.set_ρ (σ : St) (x : Nat) (v : V) : (σ.set x v).ρ = (x, v) :: σ.ρ := by
  unfold St.set; (repeat' split) <;> rfl
theorem St.set_j (σ : St) (x : Nat) (v : V) : (σ.set x v).j = σ.j := by
  unfold St.set; (repeat' split) <;> rfl
theorem St.set_own_none {σ : St} (x : Nat) (v : V) (h : σ.own = none) : (σ.set x v).own = none := by
  unfold St.set; rw [h]
theorem St.set_own_same {σ : St} (x : Nat) (v : V) {vs : List V} (h : σ.own = some (x, vs)) : (σ.set x v).own = none := by
  unfold St.set; rw [h]; simp
theorem St.set_own_ne {σ : St} (x : Nat) (v : V) {y : Nat} {vs : List V} (h : σ.own = some (y, vs)) (e : y ≠ x) : (σ.set x v).own = some (y, vs) := by
  unfold St.set; rw [h]; simp [beq_false e]

/-- a name of the frame is stored -/
theorem Core.store (C : Core Z G L N P ja σ h m O J) {x : Nat} {u : Value} {v : V} (hx : x < Z.nb) (r : RV G.h₀ N ja u v) (hn : h'.Ns L (fun y => if y = Z.nm x then some u else m y)) (hs : Heap.SameBut L h h') :
    ∃ O', Core Z G L N P ja (σ.set x v) h' (fun y => if y = Z.nm x then some u else m y) O' J := by
  have F : Fr G.h₀ L h' _ := C.fr.set hn hs
  have W : News G.h₀ L h' (J ++ (O ++ (P ++ N))) := C.nw.set hs
  have vr : VarsR Z G N ja (fun y => if y = Z.nm x then some u else m y) (σ.set x v) := by
    intro z w hz ho e
    rw [St.set_ρ, lk_cons] at e
    by_cases q : x = z
    · subst q
      rw [if_pos rfl] at e
      cases e
      exact ⟨u, if_pos rfl, r⟩
    · rw [if_neg q] at e
      have ho' : ∀ y vs, σ.own = some (y, vs) → y ≠ z := by
        intro y vs he
        by_cases q' : y = x
        · rw [q']; exact q
        · exact ho y vs (St.set_own_ne x v he q')
      obtain ⟨u', hu, r'⟩ := C.vr z w hz ho' e
      exact ⟨u', (if_neg (fun k => q (Z.inj _ _ hx hz k.symm))).trans hu, r'⟩
  have jr : JarL ja (σ.set x v).j J := by rw [St.set_j]; exact C.jr
  cases ho : σ.own with
  | none =>
    have eO : O = [] := by have := C.ow; rw [ho] at this; exact this
    subst eO
    exact ⟨[], { C with fr := F, nw := W, jr, vr, ow := by rw [St.set_own_none x v ho]; rfl }⟩
  | some p =>
    obtain ⟨y, vs⟩ := p
    have ow := C.ow
    rw [ho] at ow
    obtain ⟨hy, a, us, n, eO, em, rs⟩ := ow
    by_cases q : y = x
    · refine ⟨[], ⟨F, ?_, ?_, (fun p hp => nomatch hp), C.dJ, jr, by subst q; rw [St.set_own_same y v ho]; rfl, vr⟩⟩
      · intro p hp
        refine W p ?_
        simp only [List.mem_append, List.nil_append] at hp ⊢
        rcases hp with hp | hp | hp <;> simp [hp]
      · intro p hp q hq
        refine C.dN p hp q ?_
        simp only [List.mem_append, List.nil_append] at hq ⊢
        rcases hq with hq | hq <;> simp [hq]
    · refine ⟨O, { C with fr := F, nw := W, jr, vr, ow := ?_ }⟩
      have e : (σ.set x v).own = some (y, vs) := St.set_own_ne x v ho q
      rw [e]
      exact ⟨hy, a, us, n, eO, ⟨(if_neg (fun k => q (Z.inj _ _ hy hx k))).trans em.1, em.2⟩, rs⟩

/-- a name of the frame is read; an own list is handed out for good -/
theorem Core.read (C : Core Z G L N P ja σ h m O J) {x : Nat} {v : V} {σ' : St} (hx : x < Z.nb) (e : σ.get x = some (v, σ')) :
    ∃ u N' O', m (Z.nm x) = some u ∧ (∀ p ∈ N, p ∈ N') ∧ RV G.h₀ N' ja u v ∧ Core Z G L N' P ja σ' h m O' J := by
  unfold St.get at e
  cases ho : σ.own with
  | none =>
    rw [ho] at e
    cases hl : lk σ.ρ x with
    | none => simp [hl] at e
    | some v' =>
      simp only [hl] at e
      cases e
      obtain ⟨u, hu, r⟩ := C.vr x v hx (by rw [ho]; intro _ _ k; cases k) hl
      exact ⟨u, N, O, hu, fun _ q => q, r, C⟩
  | some p =>
    obtain ⟨y, vs⟩ := p
    rw [ho] at e
    by_cases q : y = x
    · subst q
      simp only [beq_true] at e
      cases e
      have ow := C.ow
      rw [ho] at ow
      obtain ⟨hy, a, us, n, rfl, em, rs⟩ := ow
      have hs : ∀ p ∈ N, p ∈ (a, lstO us n) :: N := fun p hp => List.mem_cons_of_mem _ hp
      have r : RV G.h₀ ((a, lstO us n) :: N) ja (.ref a) (.lst vs) := .lst (.inl (.head _)) rfl rfl (rs.mono hs)
      refine ⟨.ref a, (a, lstO us n) :: N, [], em.1, hs, r, ⟨C.fr, ?_, ?_, (fun p hp => nomatch hp), C.dJ, C.jr, rfl, ?_⟩⟩
      · intro p hp
        refine C.nw p ?_
        simp only [List.mem_append, List.nil_append, List.mem_cons] at hp ⊢
        rcases hp with hp | hp | hp | hp <;> simp [hp]
      · intro p hp q hq
        have hq' : q ∈ J ++ P := by simpa using hq
        rcases List.mem_cons.mp hp with rfl | hp
        · exact C.dO _ (.head _) q hq'
        · refine C.dN p hp q ?_
          simp only [List.mem_append] at hq' ⊢
          rcases hq' with hq' | hq' <;> simp [hq']
      · intro z w hz _ e
        rw [lk_cons] at e
        by_cases k : y = z
        · subst k
          rw [if_pos rfl] at e
          cases e
          exact ⟨.ref a, em.1, r⟩
        · rw [if_neg k] at e
          obtain ⟨u', hu, r'⟩ := C.vr z w hz (by rw [ho]; intro y' vs' k'; cases k'; exact k) e
          exact ⟨u', hu, r'.mono hs⟩
    · simp only [beq_false q] at e
      cases hl : lk σ.ρ x with
      | none => simp [hl] at e
      | some v' =>
        simp only [hl] at e
        cases e
        obtain ⟨u, hu, r⟩ := C.vr x v hx (by rw [ho]; intro y' vs' k'; cases k'; exact q) hl
        exact ⟨u, N, O, hu, fun _ q => q, r, C⟩
end

/-- an own list begins: it is a new object, and its name is stored -/
theorem Core.begin {Z : Nms} {G : Gl} {L : Addr} {N P : Led} {ja : Pin} {σ σ' : St} {h h₁ h' : Heap} {m : Str → Option Value} {O J : Led}
    (C : Core Z G L N P ja σ h m O J) {x : Nat} {D : Addr} {us : List Value} {vs : List V} {n : Nat} (hx : x < Z.nb) (e : σ.setOwn x vs = some σ') (rs : RVs G.h₀ N ja us vs)
    (hk : ∀ b o, h.get? b = some o → h₁.get? b = some o) (hD : h₁.get? D = some (lstO us n)) (hd : h.get? D = none)
    (hn : h'.Ns L (fun y => if y = Z.nm x then some (.ref D) else m y)) (hs : Heap.SameBut L h₁ h') :
    ∃ O', Core Z G L N P ⟨ja.j, D⟩ σ' h' (fun y => if y = Z.nm x then some (.ref D) else m y) O' J := by
  unfold St.setOwn at e
  cases ho : σ.own with
  | some _ => simp [ho] at e
  | none =>
    simp only [ho] at e
    cases e
    have eO : O = [] := by have := C.ow; rw [ho] at this; exact this
    subst eO
    obtain ⟨C₁, hP⟩ := C.protect hk hD hd
    have F : Fr G.h₀ L h' _ := C₁.fr.set hn hs
    have W := C₁.nw.set hs
    refine ⟨[(D, lstO us n)], ⟨F, ?_, ?_, ?_, C.dJ, C.jr, ⟨hx, D, us, n, rfl, ⟨if_pos rfl, rfl⟩, rs.pinD⟩, ?_⟩⟩
    · intro p hp
      refine W p ?_
      simp only [List.mem_append, List.nil_append, List.mem_cons] at hp ⊢
      rcases hp with hp | (hp | hp) | hp | hp <;> simp_all
    · intro p hp q hq
      refine C₁.dN p hp q ?_
      simp only [List.mem_append, List.nil_append, List.mem_cons] at hq ⊢
      rcases hq with hq | (hq | hq) | hq <;> simp_all
    · intro p hp q hq
      have : p = (D, lstO us n) := by simpa using hp
      subst this
      rcases List.mem_append.mp hq with hq | hq
      · exact Ne.symm (C₁.dJ q hq _ (.head _))
      · exact Ne.symm (hP q hq)
    · intro z w hz hoz e
      have q : x ≠ z := hoz x vs rfl
      obtain ⟨u, hu, r⟩ := C.vr z w hz (by rw [ho]; intro _ _ k; cases k) e
      exact ⟨u, (if_neg (fun k => q (Z.inj _ _ hx hz k.symm))).trans hu, r.pinD⟩

/-- an own list grows by one -/
theorem Core.grow {Z : Nms} {G : Gl} {L : Addr} {N P : Led} {ja : Pin} {ρ : List (Nat × V)} {j : Int × Int} {h h' : Heap} {m : Str → Option Value} {O J : Led} {x : Nat} {vs : List V}
    (C : Core Z G L N P ja ⟨ρ, some (x, vs), j⟩ h m O J) {a : Addr} {us : List Value} {n n' : Nat} {u : Value} {v : V} (eO : O = [(a, lstO us n)]) (rs : RVs G.h₀ N ja us vs) (r : RV G.h₀ N ja u v)
    (ha : h'.get? a = some (lstO (us ++ [u]) n')) (hs : Heap.SameBut a h h') : Core Z G L N P ja ⟨ρ, some (x, vs ++ [v]), j⟩ h' m [(a, lstO (us ++ [u]) n')] J := by
  subst eO
  have z := C.nw (a, lstO us n) (by simp)
  have ow := C.ow
  obtain ⟨hx, a', us', n₁, eO, em, _⟩ := ow
  have ea : a' = a := by cases eO; rfl
  subst ea
  have ne : ∀ p, p ∈ J ++ (P ++ N) → p.1 ≠ a' := by
    intro p hp
    simp only [List.mem_append] at hp
    rcases hp with hp | hp | hp
    · exact Ne.symm (C.dO (a', _) (.head _) p (by simp [hp]))
    · exact Ne.symm (C.dO (a', _) (.head _) p (by simp [hp]))
    · exact C.dN p hp (a', lstO us n) (by simp)
  refine ⟨C.fr.change hs z.2.1 z.2.2, ?_, ?_, ?_, C.dJ, C.jr, ⟨hx, a', _, n', rfl, em, rs.append (.unit r)⟩, ?_⟩
  · intro p hp
    have hp' : p = (a', lstO (us ++ [u]) n') ∨ p ∈ J ++ (P ++ N) := by
      simp only [List.mem_append, List.mem_cons] at hp ⊢
      rcases hp with hp | (hp | hp) | hp | hp <;> simp_all
    rcases hp' with rfl | hp'
    · exact ⟨ha, z.2⟩
    · have y := C.nw p (by simp only [List.mem_append, List.mem_cons] at hp' ⊢; rcases hp' with hp' | hp' | hp' <;> simp [hp'])
      exact ⟨(hs.2 _ (ne p hp')).trans y.1, y.2⟩
  · intro p hp q hq
    have hq' : q = (a', lstO (us ++ [u]) n') ∨ q ∈ J ++ P := by
      simp only [List.mem_append, List.mem_cons] at hq ⊢
      rcases hq with hq | (hq | hq) | hq <;> simp_all
    rcases hq' with rfl | hq'
    · exact ne p (by simp [hp])
    · exact C.dN p hp q (by simp only [List.mem_append] at hq' ⊢; rcases hq' with hq' | hq' <;> simp [hq'])
  · intro p hp q hq
    have : p = (a', lstO (us ++ [u]) n') := by simpa using hp
    subst this
    exact Ne.symm (ne q (by simp only [List.mem_append] at hq ⊢; rcases hq with hq | hq <;> simp [hq]))
  · intro z' w hz ho e
    exact C.vr z' w hz (by intro y vs' k; cases k; exact ho x _ rfl) e

/-- the jar turns -/
theorem Core.pour {Z : Nms} {G : Gl} {L : Addr} {N P : Led} {a : Addr} {ja : Pin} {σ : St} {h h' : Heap} {m : Str → Option Value} {O J : Led} (q : ja.j = some a)
    (C : Core Z G L N P ja σ h m O J) {j' : Int × Int} {t₀ t₁ : Tok} {n : Nat} (ha : h'.get? a = some (lstO [.int j'.1 t₀, .int j'.2 t₁] n)) (hs : Heap.SameBut a h h') :
    Core Z G L N P ja ⟨σ.ρ, σ.own, j'⟩ h' m O [(a, lstO [.int j'.1 t₀, .int j'.2 t₁] n)] := by
  have jr := C.jr
  unfold JarL at jr
  rw [q] at jr
  obtain ⟨s₀, s₁, n₀, eJ⟩ := jr
  subst eJ
  have z := C.nw (a, lstO [.int σ.j.1 s₀, .int σ.j.2 s₁] n₀) (by simp)
  have ne : ∀ p, p ∈ O ++ (P ++ N) → p.1 ≠ a := by
    intro p hp
    simp only [List.mem_append] at hp
    rcases hp with hp | hp | hp
    · exact C.dO p hp _ (List.mem_append_left _ (.head _))
    · exact Ne.symm (C.dJ (a, _) (.head _) p hp)
    · exact C.dN p hp _ (List.mem_append_left _ (.head _))
  refine ⟨C.fr.change hs z.2.1 z.2.2, ?_, ?_, ?_, ?_, by unfold JarL; rw [q]; exact ⟨t₀, t₁, n, rfl⟩, C.ow, C.vr⟩
  · intro p hp
    have hp' : p = (a, lstO [.int j'.1 t₀, .int j'.2 t₁] n) ∨ p ∈ O ++ (P ++ N) := by simpa using hp
    rcases hp' with rfl | hp'
    · exact ⟨ha, z.2⟩
    · have y := C.nw p (by simp only [List.mem_append, List.mem_cons] at hp' ⊢; rcases hp' with hp' | hp' | hp' <;> simp [hp'])
      exact ⟨(hs.2 _ (ne p hp')).trans y.1, y.2⟩
  · intro p hp q hq
    have hq' : q = (a, lstO [.int j'.1 t₀, .int j'.2 t₁] n) ∨ q ∈ O ++ P := by simpa using hq
    rcases hq' with rfl | hq'
    · exact ne p (by simp [hp])
    · exact C.dN p hp q (by simp only [List.mem_append, List.mem_cons] at hq' ⊢; rcases hq' with hq' | hq' <;> simp [hq'])
  · intro p hp q hq
    have hq' : q = (a, lstO [.int j'.1 t₀, .int j'.2 t₁] n) ∨ q ∈ P := by simpa using hq
    rcases hq' with rfl | hq'
    · exact ne p (by simp [hp])
    · exact C.dO p hp q (by simp [hq'])
  · intro p hp q hq
    have : p = (a, lstO [.int j'.1 t₀, .int j'.2 t₁] n) := by simpa using hp
    subst this
    exact C.dJ (a, _) (.head _) q hq
end Mine

end DCpart

section DDpart
open PySem PySem.W PyProof.Rows
namespace Mine

section
variable {Z : Nms} {G : Gl} {L : Addr} {N P : Led} {ja : Pin} {σ : St} {s : Shared}
theorem Inv.core (I : Inv Z G L N P ja σ s) : ∃ m O J, Core Z G L N P ja σ s.heap m O J := I.2
theorem Inv.at {h : Heap} {tk : Nat} {N' P' : Led} {ja' : Pin} {σ' : St} {L' : Addr} (I : Inv Z G L N P ja σ s) {m O J} (C : Core Z G L' N' P' ja' σ' h m O J) : Inv Z G L' N' P' ja' σ' { s with heap := h, toks := tk } := by
  obtain ⟨⟨h₁, t₁, e⟩, _⟩ := I
  exact ⟨⟨h, tk, by rw [e]⟩, m, O, J, C⟩
theorem Inv.tok (I : Inv Z G L N P ja σ s) (tk : Nat) : Inv Z G L N P ja σ { s with toks := tk } := by
  obtain ⟨m, O, J, C⟩ := I.2
  exact I.at C
theorem Inv.keeps (I : Inv Z G L N P ja σ s) {h : Heap} (tk : Nat) (hk : ∀ b o, s.heap.get? b = some o → h.get? b = some o) : Inv Z G L N P ja σ { s with heap := h, toks := tk } := by
  obtain ⟨m, O, J, C⟩ := I.2
  exact I.at (C.keeps hk)
theorem Inv.add (I : Inv Z G L N P ja σ s) {h : Heap} (tk : Nat) {D : Addr} {o : Obj} (hk : ∀ b o, s.heap.get? b = some o → h.get? b = some o) (hD : h.get? D = some o) (hn : s.heap.get? D = none) :
    Inv Z G L ((D, o) :: N) P ja σ { s with heap := h, toks := tk } := by
  obtain ⟨m, O, J, C⟩ := I.2
  exact I.at (C.add hk hD hn)
theorem Inv.inL (I : Inv Z G L N P ja σ s) {a o} (h : InL G.h₀ N a o) : s.heap.get? a = some o := by
  obtain ⟨m, O, J, C⟩ := I.2
  exact C.inL h
end

theorem mono_cons {N : Led} {p : Addr × Obj} : ∀ q ∈ N, q ∈ p :: N := fun _ h => List.mem_cons_of_mem _ h
theorem fits_le {n : Nat} (h : fits n = true) : n ≤ 1048576 := Nat.le_of_ble_eq_true h
theorem small_lt {i : Int} (h : smallI i = true) : i.natAbs < 1099511627776 := Nat.le_of_ble_eq_true h

/-- what an operation leaves -/
noncomputable abbrev Res (Z : Nms) (G : Gl) (L : Addr) (N P : Led) (ja : Pin) (v : V) (σ : St) (u : Value) (s' : Shared) : Prop :=
  ∃ N', (∀ p ∈ N, p ∈ N') ∧ RV G.h₀ N' ja u v ∧ Inv Z G L N' P ja σ s'

structure AOk (n : Nat) (A : Around) : Prop where
  hd : A.handled = none
  dep : A.depth + n < recursionLimit
  uni : A.units + 8 * n + 200 < cLine
theorem AOk.le {n k : Nat} {A : Around} (h : AOk n A) (hk : k ≤ n) : AOk k A := ⟨h.hd, by have := h.dep; omega, by have := h.uni; omega⟩
theorem AOk.room {n : Nat} {A : Around} (h : AOk n A) : A.units < cLine := by have := h.uni; omega

section
variable {prog : Program} {w : World} {A : Around} {E : Value → Shared → Prop} {s : Shared} {Z : Nms} {G : Gl} {L : Addr} {N P : Led} {ja : Pin} {σ : St}

theorem isTup_of {a : Addr} {o : Obj} {us : List Value} {n : Nat} (I : Inv Z G L N P ja σ s) (h : InL G.h₀ N a o) (hc : o.cls = .type "tuple") (hd : o.data = .seq us.toArray n) : s.heap.IsTuple a us.toArray := ⟨o, I.inL h, hc, n, hd⟩
theorem isList_of {a : Addr} {o : Obj} {us : List Value} {n : Nat} (I : Inv Z G L N P ja σ s) (h : InL G.h₀ N a o) (hc : o.cls = .type "list") (hd : o.data = .seq us.toArray n) : s.heap.IsList a us.toArray := ⟨o, I.inL h, hc, n, hd⟩

theorem toList_append (x y : Str) : (x ++ y).cps.toList = x.cps.toList ++ y.cps.toList := by rw [Str.cps_append, Array.toList_append]
theorem length_toList (x : Str) : x.length = x.cps.toList.length := by show x.cps.size = _; simp

/-- a tuple times four -/
theorem noFill_tuple_mul : fillsNumberSlot (.type "tuple") "mul" = pure false :=
  PySem.fillsNumberSlot_seq (id := "tuple.__mul__") (r := some (.builtin "tuple.__rmul__")) F.slot_tuple_mul.lookup (by decide +kernel) F.slot_tuple_rmul.lookup (by decide +kernel)
theorem repeat_tuple : seqRepeat? (.type "tuple") = pure (some (.builtin "tuple.__mul__")) := by
  unfold seqRepeat?
  rw [PySem.seqSlot_of (T := "tuple") (name := "__mul__") (id := "tuple.__mul__") F.slot_tuple_mul.lookup (by decide +kernel), PySem.seqSlot_of (T := "tuple") (name := "__rmul__") (id := "tuple.__rmul__") F.slot_tuple_rmul.lookup (by decide +kernel)]
  rfl
open AutoSeq1 (wpAny_loadPart') in
theorem int_rmul_tuple (a : Int) (t : Tok) (l : Addr) (items : Array Value) (n : Nat) (d : Option Addr) (sl : Array (Option Value)) :
    Meets (Builtin.«int.__rmul__» ⟨[.int a t, .ref l], []⟩) (fun _ R s => s.heap.get? l = some { cls := .type "tuple", dict := d, data := .seq items n, slots := sl } ∧ R (.ok (.ret Value.notImplemented)) s) :=
  .of_wp fun prog w A R s h => by obtain ⟨hp, g, d, tk, os⟩ := s; obtain ⟨hl, h⟩ := h; wp_walk; exact ⟨_, rfl, h⟩
open AutoSeq1 (wpAny_loadPart') in
theorem tuple_mul4 (l : Addr) (x : Value) (n : Nat) (d : Option Addr) (sl : Array (Option Value)) (u : Tok) :
    Meets (Builtin.«tuple.__mul__» ⟨[.ref l, .int 4 u], []⟩) (fun _ R s => s.heap.get? l = some { cls := .type "tuple", dict := d, data := .seq #[x] n, slots := sl } ∧
      R (.ok (.ret (Value.ref s.heap.objs.size))) { s with heap := s.heap.push { cls := Value.type "tuple", data := Data.seq #[x, x, x, x] } }) :=
  .of_wp fun prog w A R s h => by
    obtain ⟨hp, g, d, tk, os⟩ := s; obtain ⟨hl, h⟩ := h
    wp_walk using wpAny_loadPart' hl
    exact ⟨_, rfl, h⟩
theorem mul_tuple4 {l : Addr} {x : Value} {u : Tok} {Q : Value → Shared → Prop} (hl : s.heap.IsTuple l #[x]) (h : Q (.ref s.heap.objs.size) { s with heap := s.heap.push (tupO [x, x, x, x]) }) :
    wpAny (model prog w) A (binaryOp .Mult (.ref l) (.int 4 u)) Q E s := by
  obtain ⟨⟨cls, d, data, sl⟩, ho, hcl, k, hd⟩ := id hl
  simp only at hcl hd
  subst hcl hd
  exact wpAny_binaryOp_repeat_ref (T := "tuple") (U := "int") (by decide) ⟨_, ho, rfl⟩ (fun s' => typeIs_int s' 4 u) noFill_tuple_mul F.fills_int_mul F.slot_int_rmul repeat_tuple F.slot_int_index.lookup
    (call_meets F.slot_int_rmul (typeIs_int s 4 u) F.entry_int_rmul (F.args_int_rmul_2 _ _) (int_rmul_tuple 4 u l #[x] k d sl)
      ⟨ho, rfl, ⟨_, ho, rfl⟩, call_meets F.slot_tuple_mul ⟨_, ho, rfl⟩ F.entry_tuple_mul (F.args_tuple_mul_2 _ _) (tuple_mul4 l x k d sl u) ⟨ho, h⟩⟩)

theorem bin_sound {o : BOp} {a b r : V} {x y : Value} (e : binV o a b = some r) (ra : RV G.h₀ N ja x a) (rb : RV G.h₀ N ja y b) (I : Inv Z G L N P ja σ s) :
    wpAny (model prog w) A (binaryOp (bopOf o) x y) (Res Z G L N P ja r σ) E s := by
  cases o with
  | add =>
    have e : addV a b = some r := e
    unfold addV at e
    split at e
    · cases e; obtain ⟨_, rfl⟩ := ra.int_inv; obtain ⟨_, rfl⟩ := rb.int_inv
      exact wpAny_add_int ⟨N, fun _ q => q, .int _ _, I.tok _⟩
    · rename_i l l'
      split at e
      · rename_i hf
        cases e
        obtain ⟨x, t, rfl, rfl⟩ := ra.str_inv; obtain ⟨y, u, rfl, rfl⟩ := rb.str_inv
        refine KOpn.add (by rw [length_toList, length_toList]; have := fits_le hf; omega) fun t' k _ => ⟨N, fun _ q => q, ?_, I.tok _⟩
        rw [← toList_append]
        exact .str _ _
      · cases e
    · rename_i l l'
      split at e
      · rename_i hf
        cases e
        obtain ⟨_, _, _, _, rfl, i₁, c₁, d₁, r₁⟩ := ra.lst_inv; obtain ⟨_, _, _, _, rfl, i₂, c₂, d₂, r₂⟩ := rb.lst_inv
        obtain ⟨m, O, J, C⟩ := I.2
        refine add_lists C.fr C.nw (isList_of I i₁ c₁ d₁) (isList_of I i₂ c₂ d₂) (fun h' F' W' => ⟨_, mono_cons, .lst (.inl (.head _)) rfl rfl ((r₁.append r₂).mono mono_cons), I.at (tk := s.toks) (C.ofN F' W' fun p hp => Heap.lt_size (C.nw p hp).1)⟩)
          (by rw [r₁.length, r₂.length, sizeLine_eq]; have := fits_le hf; omega)
      · cases e
    · rename_i a' as b' bs
      split at e
      · rename_i hf
        cases e
        obtain ⟨_, _, _, _, rfl, i₁, c₁, d₁, r₁⟩ := ra.tup_inv; obtain ⟨_, _, _, _, rfl, i₂, c₂, d₂, r₂⟩ := rb.tup_inv
        obtain ⟨m, O, J, C⟩ := I.2
        refine add_tuples C.fr C.nw (isTup_of I i₁ c₁ d₁) (isTup_of I i₂ c₂ d₂) (fun q => (r₁.ne_nil q).elim) (fun _ q => (r₂.ne_nil q).elim)
          (fun _ _ h' F' W' => ⟨_, mono_cons, .tup (.inl (.head _)) rfl rfl ((r₁.append r₂).mono mono_cons), I.at (tk := s.toks) (C.ofN F' W' fun p hp => Heap.lt_size (C.nw p hp).1)⟩)
          (by rw [r₁.length, r₂.length, sizeLine_eq]; have := fits_le hf; omega)
      · cases e
    · cases e
  | sub =>
    obtain ⟨_, _, rfl, rfl, e'⟩ := onInts_inv e
    cases e'; obtain ⟨_, rfl⟩ := ra.int_inv; obtain ⟨_, rfl⟩ := rb.int_inv
    exact PySem.P.sub_int ⟨N, fun _ q => q, .int _ _, I.tok _⟩
  | mul =>
    have e : mulV a b = some r := e
    unfold mulV at e
    split at e
    · split at e
      · rename_i hf
        cases e; obtain ⟨_, rfl⟩ := ra.int_inv; obtain ⟨_, rfl⟩ := rb.int_inv
        have h1 := small_lt (Bool.and_eq_true_iff.mp hf).1
        exact PySem.P.mul_int ⟨N, fun _ q => q, .int _ _, I.tok _⟩ (IntMulOk.of_left (intBits_le (by omega)))
      · cases e
    · rename_i a' b'
      split at e
      · rename_i hf
        cases e
        obtain rfl := of_decide_eq_true hf
        obtain ⟨_, _, _, _, rfl, i₁, c₁, d₁, r₁⟩ := ra.tup_inv; obtain ⟨_, rfl⟩ := rb.int_inv
        obtain ⟨x₀, rfl, q₁⟩ := r₁.one_inv
        refine mul_tuple4 (isTup_of I i₁ c₁ d₁) ?_
        obtain ⟨m, O, J, C⟩ := I.2
        have q₁' := q₁.mono (N' := (s.heap.objs.size, tupO [x₀, x₀, x₀, x₀]) :: N) mono_cons
        exact ⟨_, mono_cons, .tup (.inl (.head _)) rfl rfl (.cons q₁' (.cons q₁' (.cons q₁' (.cons q₁' .nil)))), I.at (tk := s.toks) (C.push _)⟩
      · cases e
    · cases e
  | fdiv =>
    obtain ⟨a', b', rfl, rfl, e'⟩ := onInts_inv e
    split at e'
    · rename_i hf
      cases e'; obtain ⟨_, rfl⟩ := ra.int_inv; obtain ⟨_, rfl⟩ := rb.int_inv
      have h0 := of_decide_eq_true (Bool.and_eq_true_iff.mp hf).1
      have h1 := small_lt (Bool.and_eq_true_iff.mp hf).2
      refine floordiv_int (by omega) ⟨N, fun _ q => q, .int _ _, I.tok _⟩ (Or.inl (PyProof.noPylong_of_log2 ?_))
      have hb : b'.natAbs ≠ 0 := by omega
      exact Nat.lt_of_lt_of_le ((Nat.log2_lt hb (k := 41)).mpr (by omega)) (by omega)
    · cases e'
  | mod =>
    obtain ⟨a', b', rfl, rfl, e'⟩ := onInts_inv e
    split at e'
    · rename_i hf
      cases e'; obtain ⟨_, rfl⟩ := ra.int_inv; obtain ⟨_, rfl⟩ := rb.int_inv
      have h0 := of_decide_eq_true (Bool.and_eq_true_iff.mp hf).1
      exact mod_int' (by omega) ⟨N, fun _ q => q, .int _ _, I.tok _⟩
    · cases e'
  | pow =>
    obtain ⟨a', b', rfl, rfl, e'⟩ := onInts_inv e
    split at e'
    · rename_i hf
      cases e'; obtain ⟨_, rfl⟩ := ra.int_inv; obtain ⟨_, rfl⟩ := rb.int_inv
      obtain rfl := of_decide_eq_true (Bool.and_eq_true_iff.mp hf).1
      obtain rfl := of_decide_eq_true (Bool.and_eq_true_iff.mp hf).2
      exact pow_int_small (by decide) (by decide) (by decide) ⟨N, fun _ q => q, .int _ _, I.tok _⟩
    · cases e'

theorem beqL_iff : ∀ a b : List Nat, beqL a b = true ↔ a = b
  | [], [] => by simp [beqL]
  | [], _ :: _ => by simp [beqL]
  | _ :: _, [] => by simp [beqL]
  | x :: r, y :: s => by
    unfold beqL
    by_cases h : x = y
    · subst h; simp [beqL_iff r s]
    · rw [beq_false h]; simp [h]
theorem beqL_eq (a b : List Nat) : beqL a b = (a == b) := by
  by_cases h : a = b
  · subst h; rw [(beqL_iff a a).mpr rfl]; simp
  · have : beqL a b = false := by
      cases q : beqL a b with
      | false => rfl
      | true => exact absurd ((beqL_iff a b).mp q) h
    rw [this]; simp [h]

theorem allStr_rv {vs : List V} : ∀ {us : List Value} {ls : List (List Nat)}, allStr vs = some ls → RVs G.h₀ N ja us vs →
    ∃ l : List (Str × Tok), us = strValues l ∧ l.map (·.1.cps.toList) = ls := by
  induction vs with
  | nil => intro us ls e r; cases e; cases r; exact ⟨[], rfl, rfl⟩
  | cons v vs ih =>
    intro us ls e r
    cases r with | cons a b =>
    cases v <;> try (cases e; done)
    rename_i l₀
    unfold allStr at e
    cases q : allStr vs with
    | none => rw [q] at e; cases e
    | some ls' =>
      rw [q] at e
      cases e
      obtain ⟨l, rfl, h2⟩ := ih q b
      cases a with | str x t =>
      exact ⟨(x, t) :: l, rfl, by rw [List.map_cons, h2]⟩

theorem memS_any {a : List Nat} : ∀ l : List (List Nat), memS a l = l.any (fun b => b == a)
  | [] => rfl
  | b :: r => by
    unfold memS
    rw [beqL_eq, List.any_cons, memS_any r]
    cases b == a <;> rfl

noncomputable def strIs (k : List Nat) : Value → Bool
  | .str x _ => x.cps.toList == k
  | _ => false

theorem cmp_sound {o : COp} {a b : V} {r : Bool} {x y : Value} (e : cmpV o a b = some r) (ra : RV G.h₀ N ja x a) (rb : RV G.h₀ N ja y b) (I : Inv Z G L N P ja σ s) (hu : A.units < cLine) :
    wpAny (model prog w) A (compareOp (copOf o) x y) (fun u s' => u = .bool r ∧ Inv Z G L N P ja σ s') E s := by
  cases o with
  | eq =>
    have e : eqV a b = some r := e
    unfold eqV at e
    split at e
    · cases e; obtain ⟨x, t, rfl, rfl⟩ := ra.str_inv; obtain ⟨y, u, rfl, rfl⟩ := rb.str_inv
      exact PySem.P.eq_str ⟨by rw [beqL_eq], I⟩
    · cases e; obtain ⟨_, rfl⟩ := ra.int_inv; obtain ⟨_, rfl⟩ := rb.int_inv
      exact PySem.P.eq_int ⟨rfl, I⟩
    · cases e
      obtain ⟨_, _, _, _, rfl, i₁, c₁, d₁, r₁⟩ := ra.lst_inv; obtain ⟨_, _, _, _, rfl, i₂, c₂, d₂, r₂⟩ := rb.lst_inv
      obtain rfl := r₂.nil_inv
      have h1 := isList_of I i₁ c₁ d₁
      have h2 := isList_of I i₂ c₂ d₂
      cases r₁ with
      | nil => exact SeqAt.eq_listAt (e := fun _ => true) h1 h2 rfl hu (fun j hj _ => absurd hj (Nat.not_lt_zero _)) ⟨rfl, I⟩
      | cons q₁ q₂ => exact SeqAt.eq_list_lengthsAt h1 h2 (by simp) hu ⟨rfl, I⟩
    · cases e
  | ne =>
    have e : neV a b = some r := e
    unfold neV at e
    split at e
    · cases e; obtain ⟨x, t, rfl, rfl⟩ := ra.str_inv; obtain ⟨y, u, rfl, rfl⟩ := rb.str_inv
      exact PySem.P.ne_str ⟨by rw [beqL_eq]; rfl, I⟩
    · cases e
      obtain ⟨_, _, _, _, rfl, i₁, c₁, d₁, r₁⟩ := ra.lst_inv; obtain ⟨_, _, _, _, rfl, i₂, c₂, d₂, r₂⟩ := rb.lst_inv
      obtain rfl := r₂.nil_inv
      have h1 := isList_of I i₁ c₁ d₁
      have h2 := isList_of I i₂ c₂ d₂
      cases r₁ with
      | nil => exact SeqAt.RcNeAt.lists (e := fun _ => true) h1 h2 rfl hu (fun j hj _ => absurd hj (Nat.not_lt_zero _)) prog w E _ ⟨rfl, I⟩
      | cons q₁ q₂ => exact SeqAt.RcNeAt.lists_lengths h1 h2 (by simp) hu prog w E _ ⟨rfl, I⟩
    · cases e
  | lt =>
    obtain ⟨_, _, rfl, rfl, e'⟩ := onInts_inv e
    cases e'; obtain ⟨_, rfl⟩ := ra.int_inv; obtain ⟨_, rfl⟩ := rb.int_inv
    exact PySem.P.lt_int ⟨rfl, I⟩
  | gt =>
    obtain ⟨_, _, rfl, rfl, e'⟩ := onInts_inv e
    cases e'; obtain ⟨_, rfl⟩ := ra.int_inv; obtain ⟨_, rfl⟩ := rb.int_inv
    exact PySem.P.gt_int ⟨rfl, I⟩
  | ge =>
    obtain ⟨_, _, rfl, rfl, e'⟩ := onInts_inv e
    cases e'; obtain ⟨_, rfl⟩ := ra.int_inv; obtain ⟨_, rfl⟩ := rb.int_inv
    exact PySem.P.ge_int ⟨rfl, I⟩
  | isin =>
    have e : inV a b = some r := e
    unfold inV at e
    split at e
    · rename_i k vs _
      cases q : allStr vs with
      | none => rw [q] at e; cases e
      | some ls =>
        rw [q] at e
        cases e
        obtain ⟨x, t, rfl, rfl⟩ := ra.str_inv
        obtain ⟨_, _, _, _, rfl, i₂, c₂, d₂, r₂⟩ := rb.tup_inv
        obtain ⟨l, hl, hm⟩ := allStr_rv q r₂
        subst hl
        refine SeqAt.in_tupleAt (strIs x.cps.toList) (isTup_of I i₂ c₂ d₂) ?_ ⟨?_, I⟩
        · intro y hy
          have hy' : y ∈ strValues l := by simpa using hy
          obtain ⟨p, hp, rfl⟩ := List.mem_map.mp hy'
          exact (SeqRoads2.EqGives.str _ _ _ _).at _ _
        · rw [memS_any, ← hm]
          rw [List.any_map, ← Array.any_toList]
          show Value.bool ((strValues l).any _) = _
          rw [strValues, List.any_map]
          rfl
    · cases e

theorem sub_sound {value slice : Expr} {a b r : V} {x y : Value} (e : subV σ.j a b = some r) (ra : RV G.h₀ N ja x a) (rb : RV G.h₀ N ja y b) (I : Inv Z G L N P ja σ s)
    (hs : ∀ o i, subscripted slice false o i = operate [o, i] (getItem o i)) : wpAny (model prog w) A (subscriptTail value slice x y) (Res Z G L N P ja r σ) E s := by
  unfold subV at e
  split at e
  · rename_i vs i
    split at e
    · rename_i h0
      have h1 := of_decide_eq_true (Bool.and_eq_true_iff.mp h0).2
      have h0 := of_decide_eq_true (Bool.and_eq_true_iff.mp h0).1
      obtain ⟨_, _, _, _, rfl, i₁, c₁, d₁, r₁⟩ := ra.tup_inv; obtain ⟨_, rfl⟩ := rb.int_inv
      obtain ⟨z, hz, rz⟩ := r₁.get e
      have ht : IsTup s.heap _ _ := isTup_of I i₁ c₁ d₁
      have hl : i.toNat < vs.length := by obtain ⟨q, _⟩ := List.getElem?_eq_some_iff.mp e; exact q
      have hj : seqIndex? i vs.length = some i.toNat := by
        have hn : ¬ (i < 0) := by omega
        have : (decide (0 ≤ i) && decide (i < (vs.length : Int))) = true := by rw [Bool.and_eq_true]; exact ⟨decide_eq_true h0, decide_eq_true (by omega)⟩
        simp only [seqIndex?, if_neg hn, this, if_true]
      exact tail_any ht.typeIs slot_tuple_getitem.lookup (getItem_tuple ht (by omega) (by omega) (by rw [List.size_toArray, r₁.length]; exact hj) (by simpa using hz) ⟨N, fun _ q => q, rz, I⟩) (hs _ _)
    · cases e
  · rename_i vs i
    split at e
    · rename_i h0
      have h1 := of_decide_eq_true (Bool.and_eq_true_iff.mp h0).2
      have h0 := of_decide_eq_true (Bool.and_eq_true_iff.mp h0).1
      obtain ⟨_, _, _, _, rfl, i₁, c₁, d₁, r₁⟩ := ra.lst_inv; obtain ⟨_, rfl⟩ := rb.int_inv
      obtain ⟨z, hz, rz⟩ := r₁.get e
      have ht := isList_of I i₁ c₁ d₁
      exact tail_any ht.typeIs slot_list_getitem.lookup (wpAny_getItem_list ht h0 (by omega) (by simpa using hz) ⟨N, fun _ q => q, rz, I⟩) (hs _ _)
    · cases e
  · cases e
    obtain ⟨_, rfl, q⟩ := ra.jar_inv; obtain ⟨_, rfl⟩ := rb.int_inv
    obtain ⟨m, O, J, C⟩ := I.2
    have jr := C.jr
    unfold JarL at jr
    rw [q] at jr
    obtain ⟨t₀, t₁, n, eJ⟩ := jr
    subst eJ
    have ht : s.heap.IsList _ _ := ⟨_, (C.nw _ (List.mem_append_left _ (.head _))).1, rfl, n, rfl⟩
    exact tail_any ht.typeIs slot_list_getitem.lookup (wpAny_getItem_list ht (by decide) (by decide) rfl ⟨N, fun _ q => q, .int _ _, I⟩) (hs _ _)
  · cases e
    obtain ⟨_, rfl, q⟩ := ra.jar_inv; obtain ⟨_, rfl⟩ := rb.int_inv
    obtain ⟨m, O, J, C⟩ := I.2
    have jr := C.jr
    unfold JarL at jr
    rw [q] at jr
    obtain ⟨t₀, t₁, n, eJ⟩ := jr
    subst eJ
    have ht : s.heap.IsList _ _ := ⟨_, (C.nw _ (List.mem_append_left _ (.head _))).1, rfl, n, rfl⟩
    exact tail_any ht.typeIs slot_list_getitem.lookup (wpAny_getItem_list ht (by decide) (by decide) rfl ⟨N, fun _ q => q, .int _ _, I⟩) (hs _ _)
  · cases e
end
end Mine

end DDpart

section DEpart
open PySem PySem.W PyProof.Rows
namespace Mine

noncomputable def biVal : BI → Value
  | .len => .builtin "len" | .max2 => .builtin "max" | .tupleOf => .type "tuple" | .listOf => .type "list" | .isBool => .builtin "isinstance" | .strOf => .type "str" | .intOf => .type "int"
theorem boot_bi (b : BI) : bootBuiltins (Str.ofString (biName b)) = some (biVal b) := by cases b <;> decide +kernel
theorem boot_range : bootBuiltins (Str.ofString "range") = some (.type "range") := by decide +kernel
theorem boot_enum : bootBuiltins (Str.ofString "enumerate") = some (.type "enumerate") := by decide +kernel
theorem boot_bool : bootBuiltins (Str.ofString "bool") = some (.type "bool") := by decide +kernel

theorem text_1 : (Str.ofString (toString (1 : Int))).cps.toList = [49] := by decide +kernel
theorem text_5 : (Str.ofString (toString (5 : Int))).cps.toList = [53] := by decide +kernel
theorem text_12 : (Str.ofString (toString (12 : Int))).cps.toList = [49, 50] := by decide +kernel

/-- a text cut at a sign -/
theorem splitC_ne (c : Nat) : ∀ l, splitC c l ≠ []
  | [] => by simp [splitC]
  | x :: r => by
    unfold splitC
    cases Nat.beq x c
    · cases h : splitC c r <;> simp
    · simp
theorem splitC_free {c : Nat} : ∀ {l : List Nat}, c ∉ l → splitC c l = [l]
  | [], _ => rfl
  | x :: r, h => by
    unfold splitC
    rw [beq_false (x := x) (y := c) (fun e => h (by rw [e]; exact .head _)), splitC_free (fun q => h (.tail _ q))]
theorem splitC_cut {c : Nat} : ∀ {a : List Nat} (b : List Nat), c ∉ a → splitC c (a ++ c :: b) = a :: splitC c b
  | [], b, _ => by show (match Nat.beq c c with | true => _ | false => _) = _; rw [beq_true]
  | x :: r, b, h => by
    have ih := splitC_cut (a := r) b (fun q => h (.tail _ q))
    show (match Nat.beq x c with | true => _ | false => match splitC c (r ++ c :: b) with | [] => [[x]] | h :: t => (x :: h) :: t) = _
    rw [beq_false (x := x) (y := c) (fun e => h (by rw [e]; exact .head _)), ih]
theorem splitC_join {c : Nat} : ∀ {ps : List (List Nat)}, ps ≠ [] → (∀ p ∈ ps, c ∉ p) → splitC c (joinL [c] ps) = ps
  | [], h, _ => absurd rfl h
  | [a], _, h => splitC_free (h a (.head _))
  | a :: b :: r, _, h => by
    show splitC c (a ++ ([c] ++ joinL [c] (b :: r))) = _
    rw [show [c] ++ joinL [c] (b :: r) = c :: joinL [c] (b :: r) from rfl, splitC_cut _ (h a (.head _)), splitC_join (by simp) fun p hp => h p (.tail _ hp)]
theorem join_toList (y : Str) : ∀ ps : List Str, (Str.join y ps).cps.toList = joinL y.cps.toList (ps.map (·.cps.toList))
  | [] => rfl
  | [a] => rfl
  | a :: b :: r => by
    show (a ++ y ++ Str.join y (b :: r)).cps.toList = _
    rw [toList_append, toList_append, join_toList y (b :: r), List.append_assoc]
    rfl
theorem split_ne (x : Str) (y : Str) : Txt.split x y ≠ [] := by
  unfold Txt.split
  split
  · simp
  · split
    · simp
    · intro h
      have := congrArg List.length h
      rw [length_partsBetween] at this
      simp at this
theorem split_toList (x : Str) (c : Nat) : (Txt.split x ⟨#[c]⟩).map (·.cps.toList) = splitC c x.cps.toList := by
  have h1 := join_toList ⟨#[c]⟩ (Txt.split x ⟨#[c]⟩)
  rw [StrLaws.join_split] at h1
  rw [h1]
  exact (splitC_join (c := c) (by simpa using split_ne x ⟨#[c]⟩) (fun p hp => by
    obtain ⟨q, hq, rfl⟩ := List.mem_map.mp hp
    exact StrLaws.split_free x c q hq)).symm

theorem sumLen_foldl (sep : Str) : ∀ (ls : List Str) (n : Nat), ls.foldl (fun a p => a + p.length + sep.length) n = n + sumLen sep.cps.toList (ls.map (·.cps.toList))
  | [], n => by simp [sumLen]
  | a :: r, n => by
    rw [List.foldl_cons, sumLen_foldl sep r, List.map_cons, sumLen, length_toList a, length_toList sep]
    omega

theorem str_rv {G : Gl} {N : Led} {ja : Pin} {x : Str} {t : Tok} {l : List Nat} (h : x.cps.toList = l) : RV G.h₀ N ja (.str x t) (.str l) := by subst h; exact .str x t
theorem strs_rv {G : Gl} {N : Led} {ja : Pin} : ∀ (l : List (Str × Tok)) (ls : List (List Nat)), (l.map (·.1)).map (·.cps.toList) = ls → RVs G.h₀ N ja (strValues l) (ls.map .str)
  | [], _, h => by subst h; exact .nil
  | (x, t) :: r, _, h => by
    subst h
    exact .cons (str_rv rfl) (strs_rv r _ rfl)

section
variable {prog : Program} {w : World} {A : Around} {E : Value → Shared → Prop} {s : Shared} {Z : Nms} {G : Gl} {L : Addr} {N P : Led} {ja : Pin} {σ : St}

theorem bi_sound {b : BI} {vs : List V} {r : V} {us : List Value} (e : biV b vs = some r) (hb : b ≠ .isBool) (rs : RVs G.h₀ N ja us vs) (I : Inv Z G L N P ja σ s) (hA : A.handled = none) :
    wpAny (model prog w) A (call (biVal b) us) (Res Z G L N P ja r σ) E s := by
  cases b with
  | len =>
    obtain ⟨a, rfl, e'⟩ := on1_inv e
    clear e
    obtain ⟨_, rfl, q₁⟩ := rs.one_inv
    unfold lenV at e'
    split at e'
    · split at e'
      · rename_i hf
        cases e'
        obtain ⟨_, _, _, _, rfl, i₁, c₁, d₁, r₁⟩ := q₁.tup_inv
        have ht : IsTup s.heap _ _ := isTup_of I i₁ c₁ d₁
        have := fits_le hf
        refine PyProof.Rows.len_tuple ht (by rw [List.size_toArray, r₁.length]; omega) ?_
        rw [List.size_toArray, r₁.length]
        exact ⟨N, fun _ q => q, .int _ _, I.tok _⟩
      · cases e'
    · split at e'
      · rename_i hf
        cases e'
        obtain ⟨_, _, _, _, rfl, i₁, c₁, d₁, r₁⟩ := q₁.lst_inv
        have ht := isList_of I i₁ c₁ d₁
        have := fits_le hf
        refine Calls.call_len_list ht (by rw [List.size_toArray, r₁.length]; omega) ?_
        rw [List.size_toArray, r₁.length]
        exact ⟨N, fun _ q => q, .int _ _, I.tok _⟩
      · cases e'
    · cases e'
  | max2 =>
    obtain ⟨a, b, rfl, e'⟩ := on2_inv e
    clear e
    obtain ⟨_, _, rfl, rfl, e'⟩ := onInts_inv e'
    cases e'
    obtain ⟨_, _, rfl, q₁, q₂⟩ := rs.cons_inv
    obtain ⟨_, rfl, q₃⟩ := q₂.one_inv
    obtain ⟨_, rfl⟩ := q₁.int_inv
    obtain ⟨_, rfl⟩ := q₃.int_inv
    obtain ⟨m, O, J, C⟩ := I.2
    exact max_two_N hA C.fr C.nw fun h' tk F' W' => ⟨N, fun _ q => q, .int _ _, I.at (C.of F' W')⟩
  | tupleOf =>
    obtain ⟨a, rfl, e'⟩ := on1_inv e
    clear e
    obtain ⟨_, rfl, q₁⟩ := rs.one_inv
    unfold tupV at e'
    split at e'
    · split at e'
      · rename_i hf
        cases e'
        obtain ⟨_, _, _, _, rfl, i₁, c₁, d₁, r₁⟩ := q₁.lst_inv
        have ht := isList_of I i₁ c₁ d₁
        have := fits_le hf
        refine call_tuple_list ht (fun h' hk => ?_) (by rw [List.size_toArray, r₁.length, sizeLine_eq]; omega)
        obtain ⟨m, O, J, C⟩ := I.2
        exact ⟨_, mono_cons, .tup (.inl (.head _)) rfl rfl (r₁.mono mono_cons), I.at (tk := s.toks) ((C.keeps hk).push _)⟩
      · cases e'
    · cases e'
  | listOf =>
    obtain ⟨a, rfl, e'⟩ := on1_inv e
    clear e
    obtain ⟨_, rfl, q₁⟩ := rs.one_inv
    unfold lstV at e'
    split at e'
    · split at e'
      · rename_i hf
        cases e'
        obtain ⟨_, _, _, _, rfl, i₁, c₁, d₁, r₁⟩ := q₁.tup_inv
        have ht : IsTup s.heap _ _ := isTup_of I i₁ c₁ d₁
        have := fits_le hf
        obtain ⟨m, O, J, C⟩ := I.2
        refine list_copyKT C.fr C.nw ht (fun D c h' F' W' lt => ?_) (by rw [List.size_toArray, r₁.length, sizeLine_eq]; omega)
        exact ⟨_, mono_cons, .lst (.inl (.head _)) rfl rfl (r₁.mono mono_cons), I.at (tk := s.toks) (C.ofN F' W' lt)⟩
      · cases e'
    · cases e'
  | isBool => exact absurd rfl hb
  | strOf =>
    obtain ⟨a, rfl, e'⟩ := on1_inv e
    clear e
    obtain ⟨_, rfl, q₁⟩ := rs.one_inv
    unfold strV at e'
    split at e'
    · obtain ⟨_, rfl⟩ := q₁.int_inv
      split at e'
      · rename_i hi
        obtain rfl := of_decide_eq_true hi
        cases e'
        exact PySem.P.str_of_int (by decide) ⟨N, fun _ q => q, str_rv text_1, I.tok _⟩
      · split at e'
        · rename_i hi
          obtain rfl := of_decide_eq_true hi
          cases e'
          exact PySem.P.str_of_int (by decide) ⟨N, fun _ q => q, str_rv text_5, I.tok _⟩
        · split at e'
          · rename_i hi
            obtain rfl := of_decide_eq_true hi
            cases e'
            exact PySem.P.str_of_int (by decide) ⟨N, fun _ q => q, str_rv text_12, I.tok _⟩
          · cases e'
    · cases e'
  | intOf =>
    obtain ⟨a, rfl, e'⟩ := on1_inv e
    clear e
    obtain ⟨_, rfl, q₁⟩ := rs.one_inv
    unfold intV at e'
    split at e'
    · cases e'
      obtain rfl := q₁.bool_inv
      rename_i b'
      refine PySem.call_int_bool ⟨N, fun _ q => q, ?_, I.tok _⟩
      cases b' <;> exact .int _ _
    · cases e'

theorem isBool_sound {a : V} {r : V} {u : Value} (e : biV .isBool [a] = some r) (ra : RV G.h₀ N ja u a) (I : Inv Z G L N P ja σ s) :
    wpAny (model prog w) A (call (.builtin "isinstance") [u, .type "bool"]) (Res Z G L N P ja r σ) E s := by
  cases ra <;> first | (cases e; done) | skip
  · cases e; exact IsiPair.bool_bool ⟨N, fun _ q => q, .bool _, I⟩
  · cases e; exact IsiPair.int_bool ⟨N, fun _ q => q, .bool _, I.tok _⟩

theorem join_sound {x : Str} {t : Tok} {v r : V} {u : Value} (e : joinV x.cps.toList v = some r) (ra : RV G.h₀ N ja u v) (I : Inv Z G L N P ja σ s) :
    wpAny (model prog w) A (call (.builtin "str.join") [.str x t, u]) (Res Z G L N P ja r σ) E s := by
  unfold joinV at e
  split at e
  · rename_i vs
    cases q : allStr vs with
    | none => rw [q] at e; cases e
    | some ls =>
      rw [q] at e
      dsimp only at e
      split at e
      · rename_i hf
        cases e
        obtain ⟨_, _, _, _, rfl, i₁, c₁, d₁, r₁⟩ := ra.lst_inv
        obtain ⟨l, rfl, hm⟩ := allStr_rv q r₁
        have hm' : (l.map (·.1)).map (·.cps.toList) = ls := by rw [List.map_map]; exact hm
        have h1 := fits_le (Bool.and_eq_true_iff.mp hf).1
        refine SC.join (isList_of I i₁ c₁ d₁) rfl ?_ fun t' k => ⟨N, fun _ q => q, str_rv ?_, I.tok _⟩
        · unfold JoinOk
          rw [List.foldl_toArray, sumLen_foldl, hm']
          simp only [Builtin.Str.tooLong, Bool.not_eq_true', decide_eq_false_iff_not, sizeLine_eq]
          omega
        · show (Builtin.Str.glued x (l.map (·.1))).cps.toList = _
          rw [StrLaws.glued_eq_join, join_toList, hm']
      · cases e
  · cases e

theorem split_sound {x y : Str} {t t' : Tok} {c : Nat} (hc : y.cps.toList = [c]) (hf : fits x.cps.toList.length = true) (I : Inv Z G L N P ja σ s) :
    wpAny (model prog w) A (call (.builtin "str.split") [.str x t, .str y t']) (Res Z G L N P ja (.lst ((splitC c x.cps.toList).map .str)) σ) E s := by
  have hy : y = ⟨#[c]⟩ := PySem.Str.ext' (by apply Array.toList_inj.mp; rw [hc])
  subst hy
  obtain ⟨m, O, J, C⟩ := I.2
  have := fits_le hf
  refine splitN1 C.fr C.nw rfl (fun l h' k e F' W' => ?_) (by rw [length_toList, sizeLine_eq]; omega)
  refine ⟨_, mono_cons, .lst (.inl (.head _)) rfl rfl ((strs_rv l _ ?_)), I.at (C.ofN F' W' fun p hp => Heap.lt_size (C.nw p hp).1)⟩
  rw [e]; exact split_toList x c
end
end Mine

end DEpart

section DFpart
open PySem PySem.W PyProof.Rows
namespace Mine

structure EnvOk (Z : Nms) (c : Cx) (env : Env) (P : Led) (ja : Pin) : Prop where
  kind : env.scope.kind = .function
  globals : env.globals = mainGlobals
  bi : env.builtins = builtinsNs
  ls : ∀ x, c.ls.elem x = true → x < Z.nb ∧ env.kindOf (Z.nm x) = some .local
  gs : ∀ g, c.gs.elem g = true → env.kindOf (Z.nm g) = some .globalImplicit
  cel : c.cj = true → ∃ cA o a, env.kindOf (Z.nm Z.jar) = some .cell ∧ env.cells.lookup (Z.nm Z.jar) = some cA ∧ (cA, o) ∈ P ∧ o.data = .cell (some (.ref a)) ∧ ja.j = some a

theorem EnvOk.pin {Z : Nms} {c : Cx} {env : Env} {P : Led} {ja ja' : Pin} (V : EnvOk Z c env P ja) (e : ja'.j = ja.j) : EnvOk Z c env P ja' :=
  ⟨V.kind, V.globals, V.bi, V.ls, V.gs, fun h => let ⟨cA, o, a, x1, x2, x3, x4, x5⟩ := V.cel h; ⟨cA, o, a, x1, x2, x3, x4, e.trans x5⟩⟩

/-- what the top says -/
structure Top0 (Z : Nms) (T : Tab) (prog : Program) (w : World) (G : Gl) (mg mb : Str → Option Value) : Prop where
  gns : G.h₀.Ns mainGlobals mg
  bns : G.h₀.Ns builtinsNs mb
  boot : ∀ x : Str, x ≠ Str.ofString "__name__" → mb x = bootBuiltins x
  nl : G.h₀.NoLimit
  bn : ∀ n ∈ ["len", "max", "tuple", "list", "isinstance", "str", "int", "range", "enumerate", "bool"], mg (Str.ofString n) = none ∧ Str.ofString n ≠ Str.ofString "__name__"
  nd : ∀ x, (Z.nm x == ("__debug__" : Str)) = false
  lit : ∀ k, (Z.lit k).cps.toList = T.lit k
  gv : ∀ g v, T.gval g = some v → ∃ u, mg (Z.nm g) = some u ∧ ∀ N ja, RV G.h₀ N ja u v
  lev : ∃ d, mg (Z.nm Z.lev) = some (.ref d) ∧ ∀ l i, T.lev l = some i → ∀ (x : Str) (t : Tok), x.cps.toList = l → ∀ (A : Around) (s : Shared) (Q E : Value → Shared → Prop) (value slice : Expr),
    (∀ b o, G.h₀.get? b = some o → s.heap.get? b = some o) → (∀ o i', subscripted slice false o i' = operate [o, i'] (getItem o i')) → (∀ t' tk, Q (.int i t') { s with toks := tk }) → wpAny (model prog w) A (subscriptTail value slice (.ref d) (.str x t)) Q E s
  jar : T.jar = Z.jar
  jarB : Z.jar < Z.nb

section
variable {Z : Nms} {T : Tab} {prog : Program} {w : World} {G : Gl} {mg mb : Str → Option Value}

/-- the soundness of the interpreter at a depth -/
structure SoundE (Z : Nms) (T : Tab) (prog : Program) (w : World) (G : Gl) (n : Nat) : Prop where
  ev : ∀ {e σ v σ'}, (run T n).ev e σ = some (v, σ') → ∀ {c ex env P ja A N s Er}, TrE Z c e ex → EnvOk Z c env P ja → AOk n A → Inv Z G env.locals N P ja σ s →
    wpAny (model prog w) A (eval ex env) (Res Z G env.locals N P ja v σ') Er s
  tst : ∀ {e σ b σ'}, (run T n).ev e σ = some (.bool b, σ') → ∀ {c ex env P ja A N s Er}, TrE Z c e ex → EnvOk Z c env P ja → AOk n A → Inv Z G env.locals N P ja σ s →
    wpAny (model prog w) A (isTrue ex env (eval ex env)) (fun b' s' => b' = b ∧ ∃ N', (∀ p ∈ N, p ∈ N') ∧ Inv Z G env.locals N' P ja σ' s') Er s
noncomputable def FnOk (Z : Nms) (T : Tab) (G : Gl) (mg : Str → Option Value) : Prop := ∀ f d, T.fdef f = some d → ∃ fa o fd, mg (Z.nm f) = some (.ref fa) ∧ G.h₀.get? fa = some o ∧ o.data = .func fd
noncomputable def SoundC (Z : Nms) (T : Tab) (prog : Program) (w : World) (G : Gl) (mg : Str → Option Value) (n : Nat) : Prop :=
  ∀ {f vs j v j'}, (run T n).call f vs j = some (v, j') → ∀ {fa L P ja A N σ s us Er}, mg (Z.nm f) = some (.ref fa) → AOk n A → Inv Z G L N P ja σ s → σ.j = j → RVs G.h₀ N ja us vs →
    wpAny (model prog w) A (call (.ref fa) us) (Res Z G L N P ja v ⟨σ.ρ, σ.own, j'⟩) Er s
theorem call_def {T : Tab} {n : Nat} {f : Nat} {vs : List V} {j : Int × Int} {r} (h : (run T n).call f vs j = some r) : ∃ d, T.fdef f = some d := by
  cases n with
  | zero => cases h
  | succ n =>
    have h' : callStep T (run T n) f vs j = some r := h
    unfold callStep at h'
    cases q : T.fdef f with
    | none => rw [q] at h'; cases h'
    | some d => exact ⟨d, rfl⟩
/-- what a statement leaves -/
noncomputable def SRes (Z : Nms) (G : Gl) (L : Addr) (N P : Led) (ja : Pin) (fl : Fl) (σ : St) (f : Flow) (s' : Shared) : Prop :=
  ∃ N' ja', (∀ p ∈ N, p ∈ N') ∧ ja'.j = ja.j ∧ (match fl with | .next => f = .next | .ret v => ∃ u, f = .ret u ∧ RV G.h₀ N' ja u v) ∧ Inv Z G L N' P ja' σ s'
noncomputable def SoundS (Z : Nms) (T : Tab) (prog : Program) (w : World) (G : Gl) (n : Nat) : Prop :=
  ∀ {st σ fl σ'}, (run T n).ex st σ = some (fl, σ') → ∀ {c sx env P ja A N s Er}, TrS Z c st sx → EnvOk Z c env P ja → AOk n A → Inv Z G env.locals N P ja σ s →
    wpAny (model prog w) A (exec sx env) (SRes Z G env.locals N P ja fl σ') Er s

theorem star_of {c e x} (h : TrE Z c e x) (he : e ≠ .raw) (xs : List Expr) (env : Env) : starEach (x :: xs) env = (false, eval x env) :: starEach xs env := by
  cases h <;> first | rfl | exact absurd rfl he

theorem run_raw (n : Nat) (σ : St) : (run T n).ev .raw σ = none := by cases n <;> rfl
theorem ev_ne_raw {n e σ r} (h : (run T n).ev e σ = some r) : e ≠ .raw := by rintro rfl; rw [run_raw] at h; cases h

theorem Inv.mono_N {L N P ja σ s} (_I : Inv Z G L N P ja σ s) : True := trivial

section
variable {n : Nat} (S : SoundE Z T prog w G n)
include S
theorem evs_sound : ∀ {es σ vs σ'}, evs (run T n).ev es σ = some (vs, σ') → ∀ {c xs env P ja A N s Er pos}, TrEs Z c es xs → EnvOk Z c env P ja → AOk n A → Inv Z G env.locals N P ja σ s →
    wpAny (model prog w) A (spliced (backTo pos (starEach xs env))) (fun us s' => ∃ N', (∀ p ∈ N, p ∈ N') ∧ RVs G.h₀ N' ja us vs ∧ Inv Z G env.locals N' P ja σ' s') Er s := by
  intro es
  induction es with
  | nil =>
    intro σ vs σ' e c xs env P ja A N s Er pos h _ _ I
    cases e
    cases h
    exact Calls.spliced_nil ⟨N, fun _ q => q, .nil, I⟩
  | cons e es ih =>
    intro σ vs σ' q c xs env P ja A N s Er pos h V a I
    cases h with | cons h1 h2 h3 =>
    unfold evs at q
    cases q1 : (run T n).ev e σ with
    | none => rw [q1] at q; cases q
    | some r =>
      obtain ⟨v, σ₁⟩ := r
      rw [q1] at q
      dsimp only at q
      cases q2 : evs (run T n).ev es σ₁ with
      | none => rw [q2] at q; cases q
      | some r =>
        obtain ⟨vs', σ₂⟩ := r
        rw [q2] at q
        cases q
        rw [h2 _ env]
        show wpAny _ _ (spliced ((false, eval _ env) :: backTo pos (starEach _ env))) _ _ _
        refine Calls.spliced_cons (wpAny_mono (S.ev q1 h1 V a I) (fun u s₁ ⟨N₁, hs₁, r₁, I₁⟩ => wpAny_mono (ih q2 h3 V a I₁) (fun us s₂ ⟨N₂, hs₂, r₂, I₂⟩ => ⟨N₂, fun p hp => hs₂ p (hs₁ p hp), .cons (r₁.mono hs₂) r₂, I₂⟩) fun _ _ x => x) fun _ _ x => x)
end

theorem backTo_any {pos : Pos} : ∀ {es xs c}, TrEs Z c es xs → ∀ env, ((backTo pos (starEach xs env)).any (·.1)) = false := by
  intro es
  induction es with
  | nil => intro xs c h env; cases h; rfl
  | cons e es ih =>
    intro xs c h env
    cases h with | cons h1 h2 h3 =>
    rw [h2 _ env]
    show (false || _) = false
    exact ih h3 env

/-- the method form of a call with one plain argument -/
theorem MethodCall1 {M : Model} {A : Around} {E : Value → Shared → Prop} {s : Shared} {env : Env} {o x : Expr} {name : Str} {apos pos : Pos} {Q : Value → Shared → Prop} (hl : apos.endLine = pos.line)
    (ho : attributeBase o name env (eval o env) = eval o env) (hx : starEach [x] env = [(false, eval x env)])
    (h : wpAny M A (eval o env) (fun ov s₁ => ∀ pl, wpAny M A (getMethod ov name pl) (fun fx s₂ => wpAny M A (callWith pos fx.1 fx.2 (backTo pos (starEach [x] env)) []) Q E s₂) E s₁) E s) :
    wpAny M A (eval (.Call (.Attribute o name apos) [x] [] pos) env) Q E s := by
  rw [arm_eval_Call, ho]
  refine wpAny_bind (wpAny_mono h (fun ov s₁ h₁ => wpAny_bind (wpAny_standAt ?_)) fun _ _ x => x)
  unfold methodCall
  have hf : methodCallForm ([x].length + ([] : List Keyword).length) (backTo pos (starEach [x] env)) (backToKw pos (keywordEach [] env)) = true := by rw [hx]; rfl
  rw [hf]
  refine wpAny_bind (wpAny_holding ?_)
  show wpAny M A (getMethod ov name _) _ _ _
  refine wpAny_mono (h₁ _) (fun fx s₂ h₂ => ?_) fun _ _ x => x
  have hp : methodCallPos true o env apos pos = pure pos := by
    unfold methodCallPos
    rw [hl]
    simp
  dsimp only
  rw [hp]
  exact wpAny_bind (wpAny_pure h₂)
end
end Mine

end DFpart

section DIpart
open PySem PySem.W PyProof.Rows
namespace Mine

section
variable {Z : Nms} {G : Gl} {L : Addr} {N P I I' : Led} {ja : Pin} {σ : St} {h h' : Heap} {m : Str → Option Value} {O J : Led}
/-- the turned part of the protected objects -/
theorem Core.turnP (C : Core Z G L N (I ++ P) ja σ h m O J) (hP : ∀ p ∈ P, p.1 ∉ I.map (·.1)) (hs : ∀ b x, b ∉ I.map (·.1) → h.get? b = some x → h'.get? b = some x)
    (hI : ∀ p ∈ I', p.1 ∈ I.map (·.1) ∧ h'.get? p.1 = some p.2) : Core Z G L N (I' ++ P) ja σ h' m O J := by
  have inI : ∀ b, b ∈ I.map (·.1) → ∃ p ∈ I, p.1 = b := fun b hb => let ⟨p, hp, e⟩ := List.mem_map.mp hb; ⟨p, hp, e⟩
  have ne : ∀ p, p ∈ J ++ (O ++ (P ++ N)) → p.1 ∉ I.map (·.1) := by
    intro p hp hb
    obtain ⟨q, hq, e⟩ := inI _ hb
    simp only [List.mem_append] at hp
    rcases hp with hp | hp | hp | hp
    · exact C.dJ p hp q (by simp [hq]) e.symm
    · exact C.dO p hp q (by simp [hq]) e.symm
    · exact hP p hp hb
    · exact C.dN p hp q (by simp [hq]) e.symm
  have z : ∀ q ∈ I, h.get? q.1 = some q.2 ∧ q.1 ≠ L ∧ G.h₀.get? q.1 = none := fun q hq => C.nw q (by simp [hq])
  obtain ⟨oL, a1, a2, hL, a3⟩ := C.fr.ns
  have hLI : L ∉ I.map (·.1) := fun hb => by obtain ⟨q, hq, e⟩ := inI _ hb; exact (z q hq).2.1 e
  refine { C with fr := ⟨⟨oL, a1, a2, hs _ _ hLI hL, a3⟩, fun b x e => hs _ _ (fun hb => ?_) (C.fr.keep b x e), C.fr.above⟩, nw := ?_, dN := ?_, dO := ?_, dJ := ?_ }
  · obtain ⟨q, hq, e'⟩ := inI _ hb
    rw [← e', (z q hq).2.2] at e; cases e
  · intro p hp
    have hp' : p ∈ I' ∨ p ∈ J ++ (O ++ (P ++ N)) := by
      simp only [List.mem_append] at hp ⊢
      rcases hp with hp | hp | (hp | hp) | hp <;> simp [hp]
    rcases hp' with hp' | hp'
    · obtain ⟨hb, hg⟩ := hI p hp'
      obtain ⟨q, hq, e⟩ := inI _ hb
      exact ⟨hg, e ▸ (z q hq).2⟩
    · have y := C.nw p (by simp only [List.mem_append] at hp' ⊢; rcases hp' with hp' | hp' | hp' | hp' <;> simp [hp'])
      exact ⟨hs _ _ (ne p hp') y.1, y.2⟩
  · intro p hp q hq
    have hq' : q ∈ I' ∨ q ∈ J ++ (O ++ P) := by
      simp only [List.mem_append] at hq ⊢
      rcases hq with hq | hq | hq | hq <;> simp [hq]
    rcases hq' with hq' | hq'
    · intro e; exact ne p (by simp [hp]) (e ▸ (hI q hq').1)
    · exact C.dN p hp q (by simp only [List.mem_append] at hq' ⊢; rcases hq' with hq' | hq' | hq' <;> simp [hq'])
  · intro p hp q hq
    have hq' : q ∈ I' ∨ q ∈ J ++ P := by
      simp only [List.mem_append] at hq ⊢
      rcases hq with hq | hq | hq <;> simp [hq]
    rcases hq' with hq' | hq'
    · intro e; exact ne p (by simp [hp]) (e ▸ (hI q hq').1)
    · exact C.dO p hp q (by simp only [List.mem_append] at hq' ⊢; rcases hq' with hq' | hq' <;> simp [hq'])
  · intro p hp q hq
    rcases List.mem_append.mp hq with hq | hq
    · intro e; exact ne p (by simp [hp]) (e ▸ (hI q hq).1)
    · exact C.dJ p hp q (by simp [hq])
/-- protected objects more -/
theorem Core.protects {I : Led} (C : Core Z G L N P ja σ h m O J) (hk : ∀ b o, h.get? b = some o → h'.get? b = some o) (hI : ∀ p ∈ I, h'.get? p.1 = some p.2 ∧ h.get? p.1 = none) :
    Core Z G L N (I ++ P) ja σ h' m O J ∧ ∀ p ∈ P, p.1 ∉ I.map (·.1) := by
  have C' := C.keeps hk
  have ne : ∀ p, p ∈ J ++ (O ++ (P ++ N)) → ∀ q ∈ I, p.1 ≠ q.1 := fun p hp q hq e => by have := (hI q hq).2; rw [← e, (C.nw p hp).1] at this; cases this
  refine ⟨{ C' with nw := ?_, dN := ?_, dO := ?_, dJ := ?_ }, fun p hp hb => ?_⟩
  · intro p hp
    have hp' : p ∈ I ∨ p ∈ J ++ (O ++ (P ++ N)) := by
      simp only [List.mem_append] at hp ⊢
      rcases hp with hp | hp | (hp | hp) | hp <;> simp [hp]
    rcases hp' with hp' | hp'
    · refine ⟨(hI p hp').1, ?_, ?_⟩
      · intro e
        obtain ⟨oL, _, _, hL, _⟩ := C.fr.ns
        have := (hI p hp').2
        rw [e, hL] at this; cases this
      · cases e : G.h₀.get? p.1 with
        | none => rfl
        | some o' => have := (hI p hp').2; rw [C.fr.keep _ _ e] at this; cases this
    · exact C'.nw p hp'
  · intro p hp q hq
    have hq' : q ∈ I ∨ q ∈ J ++ (O ++ P) := by
      simp only [List.mem_append] at hq ⊢
      rcases hq with hq | hq | hq | hq <;> simp [hq]
    rcases hq' with hq' | hq'
    · exact ne p (by simp [hp]) q hq'
    · exact C.dN p hp q hq'
  · intro p hp q hq
    have hq' : q ∈ I ∨ q ∈ J ++ P := by
      simp only [List.mem_append] at hq ⊢
      rcases hq with hq | hq | hq <;> simp [hq]
    rcases hq' with hq' | hq'
    · exact ne p (by simp [hp]) q hq'
    · exact C.dO p hp q hq'
  · intro p hp q hq
    rcases List.mem_append.mp hq with hq | hq
    · exact ne p (by simp [hp]) q hq
    · exact C.dJ p hp q hq
  · obtain ⟨q, hq, e⟩ := List.mem_map.mp hb
    exact ne p (by simp [hp]) q hq e.symm
end

noncomputable abbrev enumO (it : Addr) (i : Nat) (old : Value) : Obj := { cls := .type "enumerate", dict := none, data := .fields #[.none, .bool false, .ref it, rawInt i, .none, old], slots := #[] }
noncomputable def oneS (c : Nat) : V := .str [c]
noncomputable def oneI (i : Nat) : V := .int (Int.ofNat i)
noncomputable def oneP (p : V × Nat) : V := .tup [.int (Int.ofNat p.2), p.1]

/-- an iterator on its way: its objects, and what is left -/
inductive ItSt (G : Gl) (N : Led) (ja : Pin) : ItK → Addr → List V → Led → Prop
  | list {it l : Addr} {lo o : Obj} {us : List Value} {vs rest : List V} {n i : Nat} : InL G.h₀ N l lo → lo.cls = .type "list" → lo.data = .seq us.toArray n → RVs G.h₀ N ja us vs →
      o.cls = .type "list_iterator" → o.data = .fields #[.ref l, .int i 0] → rest = vs.drop i → ItSt G N ja .plain it rest [(it, o)]
  | tup {it l : Addr} {lo o : Obj} {us : List Value} {vs rest : List V} {n i : Nat} : InL G.h₀ N l lo → lo.cls = .type "tuple" → lo.data = .seq us.toArray n → RVs G.h₀ N ja us vs →
      o.cls = .type "tuple_iterator" → o.data = .fields #[.ref l, .int i 0] → rest = vs.drop i → ItSt G N ja .plain it rest [(it, o)]
  | asc {it : Addr} {o : Obj} {x : Str} {t : Tok} {i : Nat} {rest : List V} :
      o.cls = .type "str_ascii_iterator" → o.data = .fields #[.str x t, .int i 0] → rest = (x.cps.toList.drop i).map oneS → ItSt G N ja .plain it rest [(it, o)]
  | wid {it : Addr} {o : Obj} {x : Str} {t : Tok} {i : Nat} {rest : List V} :
      o.cls = .type "str_iterator" → o.data = .fields #[.str x t, .int i 0] → rest = (x.cps.toList.drop i).map oneS → ItSt G N ja .plain it rest [(it, o)]
  | range {it : Addr} {n i : Nat} {rest : List V} : i ≤ n → rest = ((List.range n).drop i).map oneI →
      ItSt G N ja .range it rest [(it, { cls := .type "range_iterator", dict := none, data := .fields #[rawInt i, rawInt ((n : Int) - i), rawInt 1], slots := #[] })]
  | enum {e it l : Addr} {lo o : Obj} {us : List Value} {vs rest : List V} {n i : Nat} {old : Value} : InL G.h₀ N l lo → lo.cls = .type "list" → lo.data = .seq us.toArray n → RVs G.h₀ N ja us vs →
      o.cls = .type "list_iterator" → o.data = .fields #[.ref l, .int i 0] → rest = (vs.zipIdx.drop i).map oneP → e ≠ it →
      ItSt G N ja .enum e rest [(e, enumO it i old), (it, o)]

theorem ItSt.mono {G : Gl} {N N' : Led} {ja : Pin} {k it rest I} (hs : ∀ p ∈ N, p ∈ N') (h : ItSt G N ja k it rest I) : ItSt G N' ja k it rest I := by
  cases h with
  | list a b c d e f g => exact .list (a.mono hs) b c (d.mono hs) e f g
  | tup a b c d e f g => exact .tup (a.mono hs) b c (d.mono hs) e f g
  | asc a b c => exact .asc a b c
  | wid a b c => exact .wid a b c
  | range a b => exact .range a b
  | enum a b c d e f g h => exact .enum (a.mono hs) b c (d.mono hs) e f g h

theorem drop_some {α : Type} : ∀ {l : List α} {i : Nat} {v : α} {r : List α}, v :: r = l.drop i → l[i]? = some v ∧ r = l.drop (i + 1)
  | [], i, v, r, h => by simp at h
  | a :: l, 0, v, r, h => by cases h; exact ⟨rfl, rfl⟩
  | a :: l, i + 1, v, r, h => by
    have := drop_some (l := l) (i := i) (by simpa using h)
    simpa using this
theorem drop_none {α : Type} {l : List α} {i : Nat} (h : [] = l.drop i) : l[i]? = none := by
  have := List.drop_eq_nil_iff.mp h.symm
  exact List.getElem?_eq_none this
theorem map_cons_inv {α β : Type} {f : α → β} {l : List α} {v : β} {r : List β} (h : v :: r = l.map f) : ∃ a l', l = a :: l' ∧ v = f a ∧ r = l'.map f := by
  cases l with
  | nil => cases h
  | cons a l => cases h; exact ⟨a, l, rfl, rfl, rfl⟩
theorem map_nil_inv {α β : Type} {f : α → β} {l : List α} (h : [] = l.map f) : [] = l := by
  cases l with
  | nil => rfl
  | cons a l => cases h

section
variable {prog : Program} {w : World} {A : Around} {E : Value → Shared → Prop} {s : Shared} {Z : Nms} {G : Gl} {L : Addr} {N P : Led} {ja : Pin} {σ : St}

theorem letGo_plain {es x1 p} {it : Addr} {u : Value} {o : Obj} {n : String} {Q : Unit → Shared → Prop} (ho : s.heap.get? it = some o) (hc : o.cls = .type n)
    (hn : (["enumerate", "zip", "dict_itemiterator", "dict_reverseitemiterator", "odict_iterator", "itertools.zip_longest", "itertools.pairwise"].contains n) = false) (h : Q () s) :
    wpAny (model prog w) A (letOwnedTupleGo (.Tuple es x1 p) (.ref it) u) Q E s := by
  unfold letOwnedTupleGo
  cases u <;> first | exact wpAny_pure h | skip
  refine wpAny_bind (wpAny_load ho ?_)
  obtain ⟨c, d, dt, sl⟩ := o
  simp only at hc
  subst hc
  dsimp only
  cases dt <;> first | exact wpAny_pure h | skip
  simp only [hn, Bool.false_and]
  exact wpAny_pure h

theorem letGo_name {x p} {it u : Value} {Q : Unit → Shared → Prop} (h : Q () s) : wpAny (model prog w) A (letOwnedTupleGo (.Name x p) it u) Q E s := by
  unfold letOwnedTupleGo
  exact wpAny_pure h

noncomputable def TgtOk (k : ItK) (xt : Expr) : Prop := match k with
  | .enum => ∃ es x1 p, xt = .Tuple es x1 p
  | _ => (∃ es x1 p, xt = .Tuple es x1 p) ∨ ∃ x p, xt = .Name x p

/-- what a turn of the iterator leaves -/
noncomputable def Turned (Z : Nms) (G : Gl) (L : Addr) (N P : Led) (ja : Pin) (σ : St) (k : ItK) (it : Addr) (v : V) (rest : List V) (I : Led) (u : Value) (s : Shared) : Prop :=
  ∃ N' I', (∀ p ∈ N, p ∈ N') ∧ RV G.h₀ N' ja u v ∧ ItSt G N' ja k it rest I' ∧ I'.map (·.1) = I.map (·.1) ∧ Inv Z G L N' (I' ++ P) ja σ s

noncomputable def Next (prog : Program) (w : World) (A : Around) (Z : Nms) (G : Gl) (L : Addr) (N P : Led) (ja : Pin) (σ : St) (k : ItK) (it : Addr) (I : Led) (all : List V) (r : Option Value) (s : Shared) : Prop := match all with
  | [] => r = none ∧ Inv Z G L N P ja σ s
  | v :: rest => ∃ u, r = some u ∧ ∀ xt E, TgtOk k xt → wpAny (model prog w) A (letOwnedTupleGo xt (.ref it) u) (fun _ s' => Turned Z G L N P ja σ k it v rest I u s') E s

theorem next_sound {k it rest I} (h : ItSt G N ja k it rest I) (hP : ∀ p ∈ P, p.1 ∉ I.map (·.1)) (W : Inv Z G L N (I ++ P) ja σ s) (hh : A.handled = none) :
    wpAny (model prog w) A (pyNext (.ref it)) (Next prog w A Z G L N P ja σ k it I rest) E s := by
  obtain ⟨m, O, J, C⟩ := W.core
  have gI : ∀ p ∈ I, s.heap.get? p.1 = some p.2 := fun p hp => C.P_get (by simp [hp])
  have ends : ∀ {it : Addr} {h' : Heap}, it ∈ I.map (·.1) → Heap.ExtBut it s.heap h' → Inv Z G L N P ja σ { s with heap := h' } := fun {it h'} hi hs =>
    W.at (tk := s.toks) (C.turnP (I' := []) hP (fun b x hb e => hs b x (fun q => hb (q ▸ hi)) e) (fun p hp => nomatch hp))
  have plain : ∀ {it : Addr} {o o' : Obj} {tk : Nat} {h' : Heap} {k : ItK} {v : V} {rest : List V} {u : Value} {n : String}, I = [(it, o)] → h'.get? it = some o' → Heap.SameBut it s.heap h' → o'.cls = .type n → k ≠ .enum →
      (["enumerate", "zip", "dict_itemiterator", "dict_reverseitemiterator", "odict_iterator", "itertools.zip_longest", "itertools.pairwise"].contains n) = false → RV G.h₀ N ja u v → ItSt G N ja k it rest [(it, o')] →
      Next prog w A Z G L N P ja σ k it I (v :: rest) (some u) { s with heap := h', toks := tk } := by
    intro it o o' tk h' k v rest u n eI ho hs hc hk hn ru hit
    refine ⟨u, rfl, fun xt E' hx => ?_⟩
    have fin : Turned Z G L N P ja σ k it v rest I u { s with heap := h', toks := tk } :=
      ⟨N, [(it, o')], fun _ q => q, ru, hit, by rw [eI]; rfl, W.at (C.turnP hP (fun b x hb e => (hs.2 b (fun q => hb (by rw [eI, q]; exact .head _))).trans e) (fun p hp => by
        have : p = (it, o') := by simpa using hp
        subst this
        exact ⟨by rw [eI]; exact .head _, ho⟩))⟩
    have hx' : (∃ es x1 p, xt = .Tuple es x1 p) ∨ ∃ x p, xt = .Name x p := by cases k <;> first | exact hx | exact absurd rfl hk
    rcases hx' with ⟨es, x1, p, rfl⟩ | ⟨x, p, rfl⟩
    · exact letGo_plain ho hc hn fin
    · exact letGo_name fin
  cases h with
  | @list _ l lo o us vs _ n i a b c d e f g =>
    have hit : s.heap.IsListIter it l i := ⟨o, gI _ (.head _), e, f⟩
    have hl := W.inL a
    have hL : s.heap.IsList l us.toArray := ⟨lo, hl, b, n, c⟩
    cases rest with
    | nil =>
      have hx : us.toArray[i]? = none := by
        have := drop_none g
        rw [List.getElem?_eq_none_iff] at this
        simp only [List.getElem?_toArray, List.getElem?_eq_none_iff]; rw [d.length]; exact this
      exact wpAny_pyNext_list_end hh hit hL hx fun h' hs => ⟨rfl, ends (.head _) hs⟩
    | cons v rest =>
      obtain ⟨g1, g2⟩ := drop_some g
      obtain ⟨u, hu, ru⟩ := d.get g1
      exact wpAny_pyNext_list_item hit hL (by simpa using hu) fun h' ⟨o', ho', hc', hd'⟩ hs => plain (tk := s.toks) rfl ho' hs hc' (by intro q; cases q) (by decide +kernel) ru (.list a b c d hc' hd' g2)
  | @tup _ l lo o us vs _ n i a b c d e f g =>
    have hit : s.heap.IsTupleIter it l i := ⟨o, gI _ (.head _), e, f⟩
    have hl := W.inL a
    have hL : s.heap.IsTuple l us.toArray := ⟨lo, hl, b, n, c⟩
    cases rest with
    | nil =>
      have hx : us.toArray[i]? = none := by
        have := drop_none g
        rw [List.getElem?_eq_none_iff] at this
        simp only [List.getElem?_toArray, List.getElem?_eq_none_iff]; rw [d.length]; exact this
      exact wpAny_pyNext_tuple_end hh hit hL hx fun h' hs => ⟨rfl, ends (.head _) hs⟩
    | cons v rest =>
      obtain ⟨g1, g2⟩ := drop_some g
      obtain ⟨u, hu, ru⟩ := d.get g1
      exact wpAny_pyNext_tuple_item hit hL (by simpa using hu) fun h' ⟨o', ho', hc', hd'⟩ hs => plain (tk := s.toks) rfl ho' hs hc' (by intro q; cases q) (by decide +kernel) ru (.tup a b c d hc' hd' g2)
  | @asc _ o x t i _ e f g =>
    have hit : s.heap.IsStrIter it "str_ascii_iterator" x t i := ⟨o, gI _ (.head _), e, f⟩
    cases rest with
    | nil =>
      have hx : x.cps[i]? = none := by have := drop_none (map_nil_inv g); simpa using this
      exact wpAny_pyNext_ascii_end hh hit hx fun h' hs => ⟨rfl, ends (.head _) hs⟩
    | cons v rest =>
      obtain ⟨c, l', g0, rfl, rfl⟩ := map_cons_inv g
      obtain ⟨g1, rfl⟩ := drop_some g0.symm
      exact wpAny_pyNext_ascii_item hit (by simpa using g1) fun h' ⟨o', ho', hc', hd'⟩ hs => plain rfl ho' hs hc' (by intro q; cases q) (by decide +kernel) (.str ⟨#[c]⟩ _) (.asc hc' hd' rfl)
  | @wid _ o x t i _ e f g =>
    have hit : s.heap.IsStrIter it "str_iterator" x t i := ⟨o, gI _ (.head _), e, f⟩
    cases rest with
    | nil =>
      have hx : x.cps[i]? = none := by have := drop_none (map_nil_inv g); simpa using this
      exact wpAny_pyNext_wide_end hh hit hx fun h' hs => ⟨rfl, ends (.head _) hs⟩
    | cons v rest =>
      obtain ⟨c, l', g0, rfl, rfl⟩ := map_cons_inv g
      obtain ⟨g1, rfl⟩ := drop_some g0.symm
      exact wpAny_pyNext_wide_item hit (by simpa using g1) fun h' ⟨o', ho', hc', hd'⟩ hs => plain rfl ho' hs hc' (by intro q; cases q) (by decide +kernel) (.str ⟨#[c]⟩ _) (.wid hc' hd' rfl)
  | @range _ n i _ hi g =>
    have hit : IsRangeIter s.heap it (i : Int) ((n : Int) - i) 1 := gI _ (.head _)
    cases rest with
    | nil =>
      have := drop_none (map_nil_inv g)
      have hn : n ≤ i := by simpa using this
      exact wpAny_pyNext_range_end hh hit (by omega) fun h' hs => ⟨rfl, ends (.head _) hs⟩
    | cons v rest =>
      obtain ⟨c, l', g0, rfl, rfl⟩ := map_cons_inv g
      obtain ⟨g1, rfl⟩ := drop_some g0.symm
      have hl : i < n ∧ i = c := by
        rw [List.getElem?_eq_some_iff] at g1
        obtain ⟨q1, q2⟩ := g1
        exact ⟨by simpa using q1, by simpa using q2⟩
      obtain ⟨hl, rfl⟩ := hl
      refine wpAny_pyNext_range_item hit (by omega) fun h' ho' hs => ?_
      have e1 : ((i : Int) + 1) = ((i + 1 : Nat) : Int) := by push_cast; rfl
      have e2 : ((n : Int) - i - 1) = (n : Int) - ((i + 1 : Nat) : Int) := by push_cast; omega
      rw [e1, e2] at ho'
      exact plain rfl ho' hs rfl (by intro q; cases q) (by decide +kernel) (.int _ _) (.range hl rfl)
  | @enum _ it' l lo o us vs _ n i old a b c d e f g hne =>
    have hl := W.inL a
    have hL : s.heap.IsList l us.toArray := ⟨lo, hl, b, n, c⟩
    have he : IsEnum s.heap it it' i old := gI _ (.head _)
    have hit : s.heap.IsListIter it' l i := ⟨o, gI _ (.tail _ (.head _)), e, f⟩
    cases rest with
    | nil =>
      have hx : us.toArray[i]? = none := by
        have := drop_none (map_nil_inv g)
        rw [List.getElem?_eq_none_iff] at this
        simp only [List.getElem?_toArray, List.getElem?_eq_none_iff]; rw [d.length]; simpa using this
      exact wpAny_pyNext_enum_end hh he hit hL hx fun h' hs => ⟨rfl, ends (it := it') (by simp) hs⟩
    | cons v rest =>
      obtain ⟨q, l', g0, rfl, rfl⟩ := map_cons_inv g
      obtain ⟨g1, rfl⟩ := drop_some g0.symm
      obtain ⟨v, j⟩ := q
      have hv : vs[i]? = some v ∧ i = j := by
        rw [List.getElem?_zipIdx] at g1
        cases hq : vs[i]? with
        | none => rw [hq] at g1; cases g1
        | some v' => rw [hq] at g1; simp at g1; exact ⟨by rw [g1.1], g1.2⟩
      obtain ⟨hv, rfl⟩ := hv
      obtain ⟨u, hu, ru⟩ := d.get hv
      refine wpAny_pyNext_enum_item he hit hL (by simpa using hu) hne fun h₁ ho hit₁ ht₁ hz₁ hk₁ => ⟨_, rfl, fun xt E' hx => ?_⟩
      obtain ⟨es, x1, p, rfl⟩ := hx
      refine wpAny_letOwnedTupleGo_enum ho fun h₂ he₂ hs₂ => ?_
      replace hs₂ : Heap.SameBut it h₁ h₂ := hs₂
      obtain ⟨o₁, ho₁, hc₁, hd₁⟩ := hit₁
      have e1 : ((i : Int) + 1) = ((i + 1 : Nat) : Int) := by push_cast; rfl
      rw [e1] at he₂
      have hsz : it < s.heap.objs.size := Heap.lt_size he
      have ht₂ : h₂.get? s.heap.objs.size = some (tupO [.int i s.toks, u]) := (hs₂.2 _ (Nat.ne_of_gt hsz)).trans ht₁
      have hi₂ : h₂.get? it' = some o₁ := (hs₂.2 _ (Ne.symm hne)).trans ho₁
      have C₁ := C.turnP (h' := h₂) (I' := [(it, enumO it' (i + 1) u), (it', o₁)]) hP (fun b x hb e => by
        have h1 : b ≠ it := fun q => hb (by simp [q])
        have h2 : b ≠ it' := fun q => hb (by simp [q])
        exact (hs₂.2 _ h1).trans (hk₁ b x h1 h2 e)) (fun p hp => by
          have : p = (it, enumO it' (i + 1) u) ∨ p = (it', o₁) := by simpa using hp
          rcases this with rfl | rfl
          · exact ⟨by simp, he₂⟩
          · exact ⟨by simp, hi₂⟩)
      have nn : ∀ p ∈ J ++ (O ++ (([(it, enumO it' (i + 1) u), (it', o₁)] ++ P) ++ N)), p.1 < s.heap.objs.size := by
        intro p hp
        have : p = (it, enumO it' (i + 1) u) ∨ p = (it', o₁) ∨ p ∈ J ++ (O ++ (P ++ N)) := by
          simp only [List.mem_append, List.mem_cons, List.not_mem_nil, or_false] at hp ⊢
          rcases hp with hp | hp | ((hp | hp) | hp) | hp <;> simp [hp]
        rcases this with rfl | rfl | hp
        · exact hsz
        · exact Heap.lt_size (gI (it', o) (by simp))
        · exact Heap.lt_size (C.nw p (by simp only [List.mem_append, List.mem_cons] at hp ⊢; rcases hp with hp | hp | hp | hp <;> simp [hp])).1
      have C₂ := C₁.ofN (D := s.heap.objs.size) (o := tupO [.int i s.toks, u]) C₁.fr (fun p hp => by
        rcases List.mem_cons.mp hp with rfl | hp
        · refine ⟨ht₂, ?_, ?_⟩
          · intro q
            obtain ⟨oL, _, _, hL', _⟩ := C.fr.ns
            exact Nat.lt_irrefl _ (q ▸ Heap.lt_size hL')
          · cases q : G.h₀.get? s.heap.objs.size with
            | none => rfl
            | some o' => exact absurd (Heap.lt_size (C.fr.keep _ _ q)) (Nat.lt_irrefl _)
        · exact C₁.nw p hp) nn
      refine ⟨_, _, mono_cons, ?_, .enum (a.mono mono_cons) b c (d.mono mono_cons) hc₁ hd₁ rfl hne, rfl, W.at C₂⟩
      exact .tup (.inl (.head _)) rfl rfl (.cons (.int _ _) (.cons (ru.mono mono_cons) .nil))

theorem ItSt.self {k it rest I} (h : ItSt G N ja k it rest I) (W : Inv Z G L N (I ++ P) ja σ s) {Q : Value → Shared → Prop} (q : Q (.ref it) s) : wpAny (model prog w) A (pyIter (.ref it)) Q E s := by
  obtain ⟨m, O, J, C⟩ := W.core
  have gI : ∀ p ∈ I, s.heap.get? p.1 = some p.2 := fun p hp => C.P_get (by simp [hp])
  cases h with
  | @list _ l lo o us vs _ n i a b c d e f g => exact wpAny_pyIter_listiter (l := l) (i := i) ⟨o, gI _ (.head _), e, f⟩ q
  | @tup _ l lo o us vs _ n i a b c d e f g => exact wpAny_pyIter_tupleiter (t := l) (i := i) ⟨o, gI _ (.head _), e, f⟩ q
  | @asc _ o x t i _ e f g => exact wpAny_pyIter_striter_ascii (x := x) (t := t) (i := i) ⟨o, gI _ (.head _), e, f⟩ q
  | @wid _ o x t i _ e f g => exact wpAny_pyIter_striter_wide (x := x) (t := t) (i := i) ⟨o, gI _ (.head _), e, f⟩ q
  | @range _ n i _ hi g => exact wpAny_pyIter_rangeiter (x := i) (left := (n : Int) - i) (step := 1) (gI _ (.head _)) q
  | @enum _ it' l lo o us vs _ n i old a b c d e f g hne => exact wpAny_pyIter_enum (it := it') (i := i) (old := old) (gI _ (.head _)) q
end

/-- an iterator that has just begun -/
noncomputable def Began (Z : Nms) (G : Gl) (L : Addr) (N P : Led) (ja : Pin) (σ : St) (k : ItK) (xs : List V) (u : Value) (s : Shared) : Prop :=
  ∃ it N' I, u = .ref it ∧ (∀ p ∈ N, p ∈ N') ∧ ItSt G N' ja k it xs I ∧ (∀ p ∈ P, p.1 ∉ I.map (·.1)) ∧ Inv Z G L N' (I ++ P) ja σ s

section
variable {prog : Program} {w : World} {A : Around} {E : Value → Shared → Prop} {s : Shared} {Z : Nms} {G : Gl} {L : Addr} {N P : Led} {ja : Pin} {σ : St}

theorem began_one {k : ItK} {xs : List V} {o : Obj} (hf : o.isFreed = false) (W : Inv Z G L N P ja σ s) (hit : ItSt G N ja k s.heap.objs.size xs [(s.heap.objs.size, o)]) :
    Began Z G L N P ja σ k xs (.ref s.heap.objs.size) { s with heap := s.heap.push o } := by
  obtain ⟨m, O, J, C⟩ := W.core
  obtain ⟨C₁, hP⟩ := C.protects (I := [(s.heap.objs.size, o)]) (h' := s.heap.push o) (fun _ _ e => Heap.get?_push_of_some _ e) (fun p hp => by
    have : p = (s.heap.objs.size, o) := by simpa using hp
    subst this
    exact ⟨Heap.get?_push_size _ hf, get_fresh _⟩)
  exact ⟨_, N, _, rfl, fun _ q => q, hit, hP, W.at (tk := s.toks) C₁⟩

theorem iter_plain {v : V} {xs : List V} {u : Value} (e : itemsOf .plain v = some xs) (r : RV G.h₀ N ja u v) (W : Inv Z G L N P ja σ s) :
    wpAny (model prog w) A (pyIter u) (Began Z G L N P ja σ .plain xs) E s := by
  unfold itemsOf at e
  split at e
  · rename_i vs h1
    split at e
    · cases e
      cases r with | tup a b c d =>
      have ht : s.heap.IsTuple _ _ := isTup_of W a b c
      exact wpAny_pyIter_tuple ht (began_one rfl W (.tup (i := 0) a b c d rfl rfl rfl))
    · cases e
  · rename_i vs h1
    split at e
    · cases e
      cases r with | lst a b c d =>
      have ht := isList_of W a b c
      exact wpAny_pyIter_list ht (began_one rfl W (.list (i := 0) a b c d rfl rfl rfl))
    · cases e
  · rename_i l h1
    split at e
    · cases e
      cases r with | str x t =>
      cases ha : x.cps.all (· < 128)
      · exact wpAny_pyIter_wide ha (began_one rfl W (.wid (i := 0) rfl rfl rfl))
      · exact wpAny_pyIter_ascii ha (began_one rfl W (.asc (i := 0) rfl rfl rfl))
    · cases e
  · rename_i h1; cases h1
  · rename_i h1; cases h1
  · cases e

theorem range_iter {E' : Value → Shared → Prop} {v : V} {xs : List V} {u : Value} (e : itemsOf .range v = some xs) (r : RV G.h₀ N ja u v) (W : Inv Z G L N P ja σ s) :
    wpAny (model prog w) A (call (.type "range") [u]) (fun y s' => wpAny (model prog w) A (pyIter y) (Began Z G L N P ja σ .range xs) E' s') E s := by
  unfold itemsOf at e
  split at e
  · rename_i h1; cases h1
  · rename_i h1; cases h1
  · rename_i h1; cases h1
  · rename_i n _
    split at e
    · rename_i hf
      cases e
      have h0 := of_decide_eq_true (Bool.and_eq_true_iff.mp hf).1
      have h1 := of_decide_eq_true (Bool.and_eq_true_iff.mp hf).2
      cases r with | int _ t =>
      refine call_range_1 ?_
      have V₁ : Inv Z G L N P ja σ { s with heap := s.heap.push { cls := .type "range", data := .fields #[.int 0 s.toks, .int n t, .int 1 (s.toks + 1)] }, toks := s.toks + 1 + 1 } := W.keeps _ fun _ _ e => Heap.get?_push_of_some _ e
      refine wpAny_pyIter_range (IsRange.new _ _ _ _ _ _ _) (small_one (by decide) (by decide) (by omega) (by omega)) ?_
      have ez : Builtin.Range.rangeSize 0 n 1 = ((n.toNat : Int) - ((0 : Nat) : Int)) := by rw [rangeSize_one]; split <;> omega
      rw [ez]
      refine began_one rfl V₁ (.range (n := n.toNat) (i := 0) (Nat.zero_le _) rfl)
    · cases e
  · rename_i h1; cases h1
  · cases e

theorem enum_iter {E' : Value → Shared → Prop} {v : V} {xs : List V} {u : Value} (e : itemsOf .enum v = some xs) (r : RV G.h₀ N ja u v) (W : Inv Z G L N P ja σ s) :
    wpAny (model prog w) A (call (.type "enumerate") [u]) (fun y s' => wpAny (model prog w) A (pyIter y) (Began Z G L N P ja σ .enum xs) E' s') E s := by
  unfold itemsOf at e
  split at e
  · rename_i h1; cases h1
  · rename_i h1; cases h1
  · rename_i h1; cases h1
  · rename_i h1; cases h1
  · rename_i vs h1
    split at e
    · cases e
      cases r with | lst a b c d =>
      have ht := isList_of W a b c
      refine call_enumerate_list ht fun h' he hi hz hk => ?_
      obtain ⟨m, O, J, C⟩ := W.core
      obtain ⟨o, ho, hc, hd⟩ := id hi
      obtain ⟨C₁, hP⟩ := C.protects (I := [(s.heap.objs.size + 1, enumO s.heap.objs.size 0 .none), (s.heap.objs.size, o)]) hk (fun p hp => by
        have : p = (s.heap.objs.size + 1, enumO s.heap.objs.size 0 .none) ∨ p = (s.heap.objs.size, o) := by simpa using hp
        rcases this with rfl | rfl
        · exact ⟨he, Heap.get?_none_of_le (Nat.le_succ _)⟩
        · exact ⟨ho, get_fresh _⟩)
      refine wpAny_pyIter_enum he ⟨_, N, _, rfl, fun _ q => q, .enum (i := 0) a b c d hc hd rfl (Nat.succ_ne_self _), hP, W.at (tk := s.toks) C₁⟩
    · cases e
  · cases e
end
end Mine

end DIpart

section DGpart
open PySem PySem.W PyProof.Rows
namespace Mine

section
variable {Z : Nms} {G : Gl} {L : Addr} {N P : Led} {ja : Pin} {σ σ' : St} {h h' h₁ : Heap} {m m' : Str → Option Value} {O J : Led}
theorem Core.sub (C : Core Z G L N P ja σ h m O J) {P' : Led} (hs : ∀ p ∈ P', p ∈ P) : Core Z G L N P' ja σ h m O J := by
  refine { C with nw := fun p hp => C.nw p ?_, dN := fun p hp q hq => C.dN p hp q ?_, dO := fun p hp q hq => C.dO p hp q ?_, dJ := fun p hp q hq => C.dJ p hp q (hs q hq) }
  · simp only [List.mem_append] at hp ⊢
    rcases hp with hp | hp | hp | hp
    · simp [hp]
    · simp [hp]
    · simp [hs p hp]
    · simp [hp]
  · simp only [List.mem_append] at hq ⊢
    rcases hq with hq | hq | hq
    · simp [hq]
    · simp [hq]
    · simp [hs q hq]
  · simp only [List.mem_append] at hq ⊢
    rcases hq with hq | hq
    · simp [hq]
    · simp [hs q hq]
/-- the names of the frame are forgotten -/
theorem Core.forget (C : Core Z G L N P ja σ h m O J) (ho : σ.own = none) : Core Z G L N P ja ⟨[], none, σ.j⟩ h m [] J := by
  have eO : O = [] := by have := C.ow; rw [ho] at this; exact this
  subst eO
  exact { C with jr := C.jr, ow := rfl, vr := fun x v _ _ e => nomatch e }
theorem Core.freeze {D : Addr} {o : Obj} (C : Core Z G L N ((D, o) :: P) ja σ h m O J) (hP : ∀ p ∈ P, p.1 ≠ D) : Core Z G L ((D, o) :: N) P ja σ h m O J := by
  have C' := C.sub (P' := P) fun p hp => List.mem_cons_of_mem _ hp
  refine { C' with nw := ?_, dN := ?_, ow := C.ow.mono mono_cons, vr := C.vr.mono mono_cons }
  · intro p hp
    refine C.nw p ?_
    simp only [List.mem_append, List.mem_cons] at hp ⊢
    rcases hp with hp | hp | hp | hp | hp <;> simp [hp]
  · intro p hp q hq
    rcases List.mem_cons.mp hp with rfl | hp
    · simp only [List.mem_append] at hq
      rcases hq with hq | hq | hq
      · exact Ne.symm (C.dJ q hq _ (.head _))
      · exact Ne.symm (C.dO q hq _ (by simp))
      · exact Ne.symm (hP q hq)
    · exact C'.dN p hp q hq
/-- into a new frame -/
theorem Core.enter (C : Core Z G L N P ja σ h m O J) {oL : Obj} (hL : h.get? L = some oL) {F : Addr} {m₁ : Str → Option Value} {ρ : List (Nat × V)} (hk : ∀ b o, h.get? b = some o → h₁.get? b = some o)
    (hF : h.objs.size ≤ F) (hn : h₁.Ns F m₁) (vr : VarsR Z G N ja m₁ ⟨ρ, none, σ.j⟩) : Core Z G F N ((L, oL) :: (O ++ P)) ja ⟨ρ, none, σ.j⟩ h₁ m₁ [] J := by
  have lt : ∀ {b o}, h.get? b = some o → b < F := fun e => Nat.lt_of_lt_of_le (Heap.lt_size e) hF
  have fr : Fr G.h₀ F h₁ m₁ := ⟨hn, fun b o e => hk _ _ (C.fr.keep b o e), by
    exact Nat.le_of_lt (Nat.lt_of_le_of_lt C.fr.above (lt hL))⟩
  have gL : G.h₀.get? L = none := by
    cases e : G.h₀.get? L with
    | none => rfl
    | some o => exact absurd (Heap.lt_size e) (Nat.not_lt.mpr C.fr.above)
  have neL : ∀ p ∈ J ++ (O ++ (P ++ N)), p.1 ≠ L := fun p hp => (C.nw p hp).2.1
  refine ⟨fr, ?_, ?_, (fun p hp => nomatch hp), ?_, C.jr, rfl, vr⟩
  · intro p hp
    have hp' : p = (L, oL) ∨ p ∈ J ++ (O ++ (P ++ N)) := by
      simp only [List.mem_append, List.mem_cons, List.nil_append] at hp ⊢
      rcases hp with hp | ((hp | hp | hp) | hp) <;> simp [hp]
    rcases hp' with rfl | hp'
    · exact ⟨hk _ _ hL, Nat.ne_of_lt (lt hL), gL⟩
    · exact ⟨hk _ _ (C.nw p hp').1, Nat.ne_of_lt (lt (C.nw p hp').1), (C.nw p hp').2.2⟩
  · intro p hp q hq
    have hq' : q = (L, oL) ∨ q ∈ J ++ (O ++ P) := by
      simp only [List.mem_append, List.mem_cons, List.nil_append] at hq ⊢
      rcases hq with hq | hq | hq | hq <;> simp [hq]
    rcases hq' with rfl | hq'
    · exact neL p (by simp [hp])
    · exact C.dN p hp q hq'
  · intro p hp q hq
    simp only [List.mem_append, List.mem_cons] at hq
    rcases hq with rfl | hq | hq
    · exact neL p (by simp [hp])
    · exact Ne.symm (C.dO q hq p (by simp [hp]))
    · exact C.dJ p hp q hq
/-- and back -/
theorem Core.leave (C : Core Z G L N P ja σ h m O J) {oL : Obj} (hL : h.get? L = some oL) {F : Addr} {N' : Led} {m₁ : Str → Option Value} {O' J' : Led} {σc : St} {ja' : Pin} (e : ja.j = ja'.j) (hs : ∀ p ∈ N, p ∈ N')
    (C' : Core Z G F N' ((L, oL) :: (O ++ P)) ja' σc h₁ m₁ O' J') (hx : ∀ b o, b ≠ F → h₁.get? b = some o → h'.get? b = some o) : Core Z G L N' P ja ⟨σ.ρ, σ.own, σc.j⟩ h' m O J' := by
  have neL : ∀ p ∈ J ++ (O ++ (P ++ N)), p.1 ≠ L := fun p hp => (C.nw p hp).2.1
  have g : ∀ p ∈ J' ++ (O' ++ (((L, oL) :: (O ++ P)) ++ N')), h'.get? p.1 = some p.2 ∧ G.h₀.get? p.1 = none := fun p hp => ⟨hx _ _ (C'.nw p hp).2.1 (C'.nw p hp).1, (C'.nw p hp).2.2⟩
  have hL' : h'.get? L = some oL := (g (L, oL) (by simp)).1
  have hLF : L ≠ F := (C'.nw (L, oL) (by simp)).2.1
  refine ⟨⟨C.fr.ns.at fun o e => ?_, fun b o e => hx _ _ ?_ (C'.fr.keep b o e), C.fr.above⟩, ?_, ?_, ?_, ?_, C'.jr.pin e, C.ow.mono hs, C.vr.mono hs⟩
  · rw [hL] at e; cases e; exact hL'
  · rintro rfl; exact absurd (Heap.lt_size e) (Nat.not_lt.mpr C'.fr.above)
  · intro p hp
    refine ⟨(g p (by simp only [List.mem_append, List.mem_cons] at hp ⊢; rcases hp with hp | hp | hp | hp <;> simp [hp])).1, ?_, (g p (by simp only [List.mem_append, List.mem_cons] at hp ⊢; rcases hp with hp | hp | hp | hp <;> simp [hp])).2⟩
    simp only [List.mem_append] at hp
    rcases hp with hp | hp | hp | hp
    · exact C'.dJ p hp (L, oL) (.head _)
    · exact neL p (by simp [hp])
    · exact neL p (by simp [hp])
    · exact C'.dN p hp (L, oL) (by simp)
  · intro p hp q hq
    exact C'.dN p hp q (by simp only [List.mem_append, List.mem_cons] at hq ⊢; rcases hq with hq | hq | hq <;> simp [hq])
  · intro p hp q hq
    rcases List.mem_append.mp hq with hq | hq
    · exact Ne.symm (C'.dJ q hq p (by simp [hp]))
    · exact C.dO p hp q (by simp [hq])
  · intro p hp q hq
    exact C'.dJ p hp q (by simp [hq])
end

/-- several names are stored -/
noncomputable def Upd (ns : List Str) (us : List Value) (m m' : Str → Option Value) : Prop := (∀ p ∈ ns.zip us, m' p.1 = some p.2) ∧ ∀ y, y ∉ ns → m' y = m y
theorem Upd.cons {n : Str} {u : Value} {ns : List Str} {us : List Value} {m m' : Str → Option Value} (hn : n ∉ ns) (h : Upd ns us (fun y => if y = n then some u else m y) m') : Upd (n :: ns) (u :: us) m m' := by
  refine ⟨fun p hp => ?_, fun y hy => ?_⟩
  · rcases List.mem_cons.mp hp with rfl | hp
    · exact (h.2 n hn).trans (if_pos rfl)
    · exact h.1 p hp
  · exact (h.2 y (fun q => hy (.tail _ q))).trans (if_neg (fun q => hy (by rw [q]; exact .head _)))
theorem mem_zip_reverse {α β : Type} : ∀ {as : List α} {bs : List β}, as.length = bs.length → ∀ p, p ∈ as.zip bs → p ∈ as.reverse.zip bs.reverse := by
  intro as bs h p hp
  obtain ⟨i, hi, e⟩ := List.mem_iff_getElem.mp hp
  have hi' : i < as.length ∧ i < bs.length := by rw [List.length_zip] at hi; omega
  refine List.mem_iff_getElem.mpr ⟨as.length - 1 - i, by simp only [List.length_zip, List.length_reverse]; omega, ?_⟩
  rw [← e]
  simp only [List.getElem_zip, List.getElem_reverse]
  congr 1
  · congr 1; omega
  · congr 1; omega
theorem Upd.rev {ns : List Str} {us : List Value} {m m' : Str → Option Value} (hl : ns.length = us.length) (h : Upd ns.reverse us.reverse m m') : Upd ns us m m' :=
  ⟨fun p hp => h.1 p (mem_zip_reverse hl p hp), fun y hy => h.2 y fun q => hy (List.mem_reverse.mp q)⟩

theorem setAll_spec : ∀ {xs : List Nat} {vs : List V} {σ σ' : St}, σ.setAll xs vs = some σ' →
    xs.length = vs.length ∧ σ'.j = σ.j ∧ (xs.Nodup → ∀ z v, lk σ'.ρ z = some v → (z ∈ xs ∧ (z, v) ∈ xs.zip vs) ∨ (z ∉ xs ∧ lk σ.ρ z = some v)) ∧
    (match σ.own with | none => σ'.own = none | some (y, l) => (y ∈ xs ∧ σ'.own = none) ∨ (y ∉ xs ∧ σ'.own = some (y, l))) := by
  intro xs
  induction xs with
  | nil =>
    intro vs σ σ' e
    cases vs with
    | cons _ _ => cases e
    | nil =>
      cases e
      refine ⟨rfl, rfl, fun _ z v h => .inr ⟨by simp, h⟩, ?_⟩
      cases h : σ.own with
      | none => rfl
      | some p => exact .inr ⟨by simp, rfl⟩
  | cons x xs ih =>
    intro vs σ σ' e
    cases vs with
    | nil => cases e
    | cons v vs =>
      have e' : (σ.set x v).setAll xs vs = some σ' := e
      obtain ⟨h1, h2, h3, h4⟩ := ih e'
      refine ⟨by rw [List.length_cons, List.length_cons, h1], by rw [h2, St.set_j], fun nd z w hz => ?_, ?_⟩
      · obtain ⟨nx, nd⟩ := List.nodup_cons.mp nd
        rcases h3 nd z w hz with ⟨a, b⟩ | ⟨a, b⟩
        · exact .inl ⟨.tail _ a, .tail _ b⟩
        · rw [St.set_ρ, lk_cons] at b
          by_cases q : x = z
          · subst q
            rw [if_pos rfl] at b
            cases b
            exact .inl ⟨.head _, .head _⟩
          · rw [if_neg q] at b
            exact .inr ⟨fun k => by rcases List.mem_cons.mp k with k | k; exact q k.symm; exact a k, b⟩
      · cases ho : σ.own with
        | none => rw [St.set_own_none x v ho] at h4; exact h4
        | some p =>
          obtain ⟨y, l⟩ := p
          dsimp only
          by_cases q : y = x
          · subst q
            rw [St.set_own_same y v ho] at h4
            exact .inl ⟨.head _, h4⟩
          · rw [St.set_own_ne x v ho q] at h4
            rcases h4 with ⟨a, b⟩ | ⟨a, b⟩
            · exact .inl ⟨.tail _ a, b⟩
            · exact .inr ⟨fun k => by rcases List.mem_cons.mp k with k | k; exact q k; exact a k, b⟩

theorem rvs_zip {G : Gl} {N : Led} {ja : Pin} (f : Nat → Str) : ∀ {xs : List Nat} {us : List Value} {vs : List V}, RVs G.h₀ N ja us vs → ∀ {z v}, (z, v) ∈ xs.zip vs → ∃ u, (f z, u) ∈ (xs.map f).zip us ∧ RV G.h₀ N ja u v := by
  intro xs
  induction xs with
  | nil => intro us vs _ z v h; cases h
  | cons x xs ih =>
    intro us vs r z v h
    cases r with
    | nil => cases h
    | cons a b =>
      rcases List.mem_cons.mp h with h | h
      · cases h; exact ⟨_, .head _, a⟩
      · obtain ⟨u, hu, r⟩ := ih b h
        exact ⟨u, .tail _ hu, r⟩

section
variable {Z : Nms} {G : Gl} {L : Addr} {N P : Led} {ja : Pin} {σ σ' σ₂ : St} {h h' : Heap} {m m' : Str → Option Value} {O J : Led}
theorem Core.stores (C : Core Z G L N P ja σ h m O J) {xs : List Nat} {us : List Value} {vs : List V} (hx : ∀ x ∈ xs, x < Z.nb) (nd : xs.Nodup) (e : σ.setAll xs vs = some σ') (rs : RVs G.h₀ N ja us vs)
    (hn : h'.Ns L m') (hs : Heap.SameBut L h h') (U : Upd (xs.map Z.nm) us m m') : ∃ O', Core Z G L N P ja σ' h' m' O' J := by
  obtain ⟨_, ej, hl, ho⟩ := setAll_spec e
  have hl := hl nd
  have F : Fr G.h₀ L h' m' := C.fr.set hn hs
  have W : News G.h₀ L h' (J ++ (O ++ (P ++ N))) := C.nw.set hs
  have nmem : ∀ {z}, z < Z.nb → z ∉ xs → Z.nm z ∉ xs.map Z.nm := fun hz hq k => by
    obtain ⟨x, hx', e⟩ := List.mem_map.mp k
    exact hq (Z.inj _ _ (hx x hx') hz e ▸ hx')
  have jr : JarL ja σ'.j J := by rw [ej]; exact C.jr
  have vr : VarsR Z G N ja m' σ' := by
    intro z v hz hoz ez
    rcases hl z v ez with ⟨a, b⟩ | ⟨a, b⟩
    · obtain ⟨u, hu, r⟩ := rvs_zip Z.nm rs b
      exact ⟨u, U.1 _ hu, r⟩
    · obtain ⟨u, hu, r⟩ := C.vr z v hz (fun y l hy => by
        rw [hy] at ho
        rcases ho with ⟨q, _⟩ | ⟨_, q⟩
        · rintro rfl; exact a q
        · exact hoz y l q) b
      exact ⟨u, (U.2 _ (nmem hz a)).trans hu, r⟩
  cases hσ : σ.own with
  | none =>
    rw [hσ] at ho
    have eO : O = [] := by have := C.ow; rw [hσ] at this; exact this
    exact ⟨O, { C with fr := F, nw := W, jr, vr, ow := by rw [show σ'.own = none from ho]; exact eO }⟩
  | some p =>
    obtain ⟨y, l⟩ := p
    rw [hσ] at ho
    have ow := C.ow
    rw [hσ] at ow
    rcases ho with ⟨_, q⟩ | ⟨q', q⟩
    · refine ⟨[], ⟨F, ?_, ?_, (fun p hp => nomatch hp), C.dJ, jr, by rw [q]; rfl, vr⟩⟩
      · intro p hp
        refine W p ?_
        simp only [List.mem_append, List.nil_append] at hp ⊢
        rcases hp with hp | hp | hp <;> simp [hp]
      · intro p hp q hq
        refine C.dN p hp q ?_
        simp only [List.mem_append, List.nil_append] at hq ⊢
        rcases hq with hq | hq <;> simp [hq]
    · obtain ⟨hy, a, us', n, eO, em, rs'⟩ := ow
      exact ⟨O, { C with fr := F, nw := W, jr, vr, ow := by rw [q]; exact ⟨hy, a, us', n, eO, ⟨(U.2 _ (nmem hy q')).trans em.1, em.2⟩, rs'⟩ }⟩

/-- and an own list among them -/
theorem Core.adopts {D : Addr} {n : Nat} {us₀ : List Value} {vs₀ : List V} (C : Core Z G L N ((D, lstO us₀ n) :: P) ja σ h m O J) (hP : ∀ p ∈ P, p.1 ≠ D) {x : Nat} {ys : List Nat} {us : List Value} {vs : List V} (hx : x < Z.nb)
    (hy : ∀ x ∈ ys, x < Z.nb) (nd : ys.Nodup) (hxy : x ∉ ys) (e₀ : σ.setOwn x vs₀ = some σ₂) (e : σ₂.setAll ys vs = some σ') (rs₀ : RVs G.h₀ N ja us₀ vs₀) (rs : RVs G.h₀ N ja us vs)
    (hn : h'.Ns L m') (hs : Heap.SameBut L h h') (U1 : ∀ p ∈ (ys.map Z.nm).zip us, m' p.1 = some p.2) (U2 : m' (Z.nm x) = some (.ref D)) (U3 : ∀ y, y ∉ ys.map Z.nm → y ≠ Z.nm x → m' y = m y) :
    ∃ O', Core Z G L N P ⟨ja.j, D⟩ σ' h' m' O' J := by
  unfold St.setOwn at e₀
  cases hσ : σ.own with
  | some _ => simp [hσ] at e₀
  | none =>
    simp only [hσ] at e₀
    cases e₀
    have eO : O = [] := by have := C.ow; rw [hσ] at this; exact this
    subst eO
    obtain ⟨_, ej, hl, ho⟩ := setAll_spec e
    have hl := hl nd
    have ho' : σ'.own = some (x, vs₀) := by
      rcases ho with ⟨q, _⟩ | ⟨_, q⟩
      · exact absurd q hxy
      · exact q
    have F : Fr G.h₀ L h' m' := C.fr.set hn hs
    have W := C.nw.set hs
    refine ⟨[(D, lstO us₀ n)], ⟨F, ?_, ?_, ?_, fun p hp q hq => C.dJ p hp q (.tail _ hq), by rw [ej]; exact C.jr, by rw [ho']; exact ⟨hx, D, us₀, n, rfl, ⟨U2, rfl⟩, rs₀.pinD⟩, ?_⟩⟩
    · intro p hp
      refine W p ?_
      simp only [List.mem_append, List.nil_append, List.mem_cons] at hp ⊢
      rcases hp with hp | (hp | hp) | hp | hp <;> simp_all
    · intro p hp q hq
      refine C.dN p hp q ?_
      simp only [List.mem_append, List.nil_append, List.mem_cons] at hq ⊢
      rcases hq with hq | (hq | hq) | hq <;> simp_all
    · intro p hp q hq
      have : p = (D, lstO us₀ n) := by simpa using hp
      subst this
      rcases List.mem_append.mp hq with hq | hq
      · exact Ne.symm (C.dJ q hq _ (.head _))
      · exact Ne.symm (hP q hq)
    · intro z v hz hoz ez
      have q : x ≠ z := hoz x vs₀ ho'
      rcases hl z v ez with ⟨a, b⟩ | ⟨a, b⟩
      · obtain ⟨u, hu, r⟩ := rvs_zip Z.nm rs b
        exact ⟨u, U1 _ hu, r.pinD⟩
      · obtain ⟨u, hu, r⟩ := C.vr z v hz (by rw [hσ]; intro _ _ k; cases k) b
        refine ⟨u, (U3 _ (fun k => ?_) (fun k => q (Z.inj _ _ hx hz k.symm))).trans hu, r.pinD⟩
        obtain ⟨y, hy', e'⟩ := List.mem_map.mp k
        exact a (Z.inj _ _ (hy y hy') hz e' ▸ hy')
end

noncomputable def StoreF (env : Env) (n : Str) (st : Value → Sem Unit) : Prop := ∀ {M A E s u Q}, wpAny M A (storeName env n u) Q E s → wpAny M A (st u) Q E s
inductive StoreFs (env : Env) : List Str → List (Value → Sem Unit) → Prop
  | nil : StoreFs env [] []
  | cons {n st ns sts} : StoreF env n st → StoreFs env ns sts → StoreFs env (n :: ns) (st :: sts)

theorem StoreFs.append {env ns sts ns' sts'} (h : StoreFs env ns sts) (h' : StoreFs env ns' sts') : StoreFs env (ns ++ ns') (sts ++ sts') := by
  induction h with
  | nil => exact h'
  | cons a _ ih => exact .cons a ih
theorem bindNames_stores (env : Env) : ∀ ns : List Str, StoreFs env ns (ns.map fun n => bindName env n)
  | [] => .nil
  | n :: ns => .cons (fun h => bindName_ h) (bindNames_stores env ns)

theorem stores_wp {M : Model} {A : Around} {E : Value → Shared → Prop} {env : Env} (hk : env.scope.kind = .function) : ∀ {ns : List Str} {sts : List (Value → Sem Unit)} {us : List Value} {s : Shared} {m : Str → Option Value} {Q : Unit → Shared → Prop},
    StoreFs env ns sts → (∀ n ∈ ns, env.kindOf n = some .local) → us.length = ns.length → ns.Nodup → s.heap.Ns env.locals m →
    (∀ h' tk m', h'.Ns env.locals m' → Heap.SameBut env.locals s.heap h' → Upd ns us m m' → Q () { s with heap := h', toks := tk }) → wpAny M A (assignInOrder sts us) Q E s := by
  intro ns
  induction ns with
  | nil =>
    intro sts us s m Q h _ hl _ hn hQ
    cases h
    have : us = [] := List.length_eq_zero_iff.mp hl
    subst this
    exact wpAny_pure (hQ s.heap s.toks m hn (.refl ..) ⟨fun p hp => (nomatch hp), fun _ _ => rfl⟩)
  | cons n ns ih =>
    intro sts us s m Q h hl hlen nd hn hQ
    cases h with | @cons _ st _ sts a b =>
    cases us with
    | nil => cases hlen
    | cons u us =>
      obtain ⟨nn, nd⟩ := List.nodup_cons.mp nd
      show wpAny M A (do holding us (st u); assignInOrder sts us) Q E s
      refine wpAny_bind (wpAny_holding (a (wpAny_storeName_local (hl n (.head _)) hn (fun h₁ hn₁ hs₁ => ?_) (by rw [hk]; rfl))))
      exact ih b (fun x hx => hl x (.tail _ hx)) (by simpa using hlen) nd hn₁ fun h₂ tk m₂ hn₂ hs₂ U => hQ h₂ tk m₂ hn₂ (hs₁.trans hs₂) (U.cons nn)

section
variable {Z : Nms} {c : Cx} {env : Env} {P : Led} {ja : Pin}
theorem TrNs.stores : ∀ {xs es}, TrNs Z c xs es → StoreFs env (xs.map Z.nm) ((assignEach es env).map (·.2))
  | [], _, h => by cases h; exact .nil
  | x :: xs, _, h => by
    cases h with | @cons _ _ _ es p a b =>
    exact .cons (fun h => assign_Name h) (TrNs.stores b)
theorem TrNs.ls : ∀ {xs es}, TrNs Z c xs es → ∀ x ∈ xs, c.ls.elem x = true
  | [], _, h => fun x hx => nomatch hx
  | x :: xs, _, h => by
    cases h with | cons a b =>
    intro y hy
    rcases List.mem_cons.mp hy with rfl | hy
    · exact a
    · exact TrNs.ls b y hy
theorem TrNs.length : ∀ {xs es}, TrNs Z c xs es → es.length = xs.length
  | [], _, h => by cases h; rfl
  | x :: xs, _, h => by
    cases h with | cons a b => rw [List.length_cons, List.length_cons, TrNs.length b]
theorem TrNs.noStar : ∀ {xs es}, TrNs Z c xs es → (assignEach es env).findIdx? (·.1) = none
  | [], _, h => by cases h; rfl
  | x :: xs, _, h => by
    cases h with | @cons _ _ _ es p a b =>
    show List.findIdx? _ ((false, _) :: assignEach es env) = none
    rw [List.findIdx?_cons]
    simp [TrNs.noStar b]
theorem TrNs.eachLength : ∀ {xs es}, TrNs Z c xs es → (assignEach es env).length = xs.length
  | [], _, h => by cases h; rfl
  | x :: xs, _, h => by
    cases h with | @cons _ _ _ es p a b =>
    show List.length ((false, _) :: assignEach es env) = _
    rw [List.length_cons, TrNs.eachLength b]; rfl
theorem names_nodup {xs : List Nat} (hx : ∀ x ∈ xs, x < Z.nb) (nd : xs.Nodup) : (xs.map Z.nm).Nodup := by
  induction xs with
  | nil => exact .nil
  | cons x xs ih =>
    obtain ⟨nx, nd⟩ := List.nodup_cons.mp nd
    rw [List.map_cons]
    refine List.nodup_cons.mpr ⟨fun k => ?_, ih (fun y hy => hx y (.tail _ hy)) nd⟩
    obtain ⟨y, hy, e⟩ := List.mem_map.mp k
    exact nx (Z.inj _ _ (hx y (.tail _ hy)) (hx x (.head _)) e ▸ hy)
theorem EnvOk.names (V : EnvOk Z c env P ja) {xs es} (h : TrNs Z c xs es) : (∀ x ∈ xs, x < Z.nb) ∧ ∀ n ∈ xs.map Z.nm, env.kindOf n = some .local := by
  refine ⟨fun x hx => (V.ls x (h.ls x hx)).1, fun n hn => ?_⟩
  obtain ⟨x, hx, rfl⟩ := List.mem_map.mp hn
  exact (V.ls x (h.ls x hx)).2
theorem EnvOk.noClass (V : EnvOk Z c env P ja) : (env.scope.kind == .class || (env.scope.kind == .module && env.locals != env.globals)) = false := by rw [V.kind]; rfl
end

section
variable {prog : Program} {w : World} {A : Around} {E : Value → Shared → Prop} {s : Shared} {Z : Nms} {G : Gl} {N P P' : Led} {ja : Pin} {σ σ' : St} {c : Cx} {env : Env}

/-- a target takes its value -/
theorem assign_sound {t : Tgt} {xt : Expr} {u : Value} {v : V} (hT : TrT Z c t xt) (e : σ.bindT t v = some σ') (V : EnvOk Z c env P' ja) (r : RV G.h₀ N ja u v) (I : Inv Z G env.locals N P ja σ s) (hh : A.handled = none) :
    wpAny (model prog w) A (assign xt env u) (fun _ s' => Inv Z G env.locals N P ja σ' s') E s := by
  cases hT with
  | @one _ x p hx =>
    obtain ⟨m, O, J, C⟩ := I.core
    cases e
    refine wpAny_assign_Name (wpAny_storeName_local (V.ls x hx).2 C.fr.ns (fun h' hn' hs' => ?_) V.noClass)
    obtain ⟨O', C'⟩ := C.store (V.ls x hx).1 r hn' hs'
    exact I.at C'
  | @tup _ xs es k p hN nd =>
    cases v <;> try (cases e; done)
    rename_i vs
    have e' : σ.setAll xs vs = some σ' := e
    have hlen := (setAll_spec e').1
    cases r with | @tup a₁ o₁ us₁ _ n₁ i₁ c₁ d₁ r₁ =>
    have ht : IsTup s.heap _ _ := isTup_of I i₁ c₁ d₁
    rw [PyProof.Rows.assign_Tuple]
    refine wpAny_bind (wpAny_standAt ?_)
    unfold unpack
    rw [hN.noStar, hN.eachLength]
    have hsz : xs.length = us₁.toArray.size := by rw [List.size_toArray, r₁.length]; exact hlen
    rw [hsz]
    refine wpAny_bind (wpAny_holding (unpackItems_tuple hh ht fun h₁ he₁ => ?_))
    have I₁ : Inv Z G env.locals N P ja σ { s with heap := h₁ } := I.keeps s.toks fun b o e => he₁ b o (Nat.ne_of_lt (Heap.lt_size e)) e
    obtain ⟨m, O, J, C⟩ := I₁.core
    obtain ⟨hb, hl⟩ := V.names hN
    refine stores_wp V.kind hN.stores hl (by rw [List.length_map, r₁.length]; exact hlen.symm) (names_nodup hb nd) C.fr.ns fun h₂ tk m₂ hn₂ hs₂ U => ?_
    obtain ⟨O', C'⟩ := C.stores hb nd e' r₁ hn₂ hs₂ U
    exact I₁.at C'
end
end Mine

end DGpart

section DHpart
open PySem PySem.W PyProof.Rows
namespace Mine

section
variable {Z : Nms} {G : Gl} {L : Addr} {N P : Led} {ja : Pin} {σ σ' : St} {h h' h₁ : Heap} {m m' : Str → Option Value} {O J : Led}
/-- back, and the frame that was left is kept -/
theorem Core.leaveK (C : Core Z G L N P ja σ h m O J) {oL : Obj} (hL : h.get? L = some oL) {F : Addr} {N' : Led} {m₁ : Str → Option Value} {O' J' Q : Led} {σc : St} (hs : ∀ p ∈ N, p ∈ N') {oF : Obj} (hF : h₁.get? F = some oF)
    (C' : Core Z G F N' (Q ++ ((L, oL) :: (O ++ P))) ja σc h₁ m₁ O' J') (hQ : ∀ p ∈ Q, ∀ q ∈ ((L, oL) :: (O ++ P)), p.1 ≠ q.1) : Core Z G L N' ((F, oF) :: (Q ++ P)) ja ⟨σ.ρ, σ.own, σc.j⟩ h₁ m O J' := by
  have B := C.leave hL (h' := h₁) rfl hs (C'.sub fun p hp => List.mem_append_right _ hp) fun _ _ _ e => e
  have hLF : L ≠ F := (C'.nw (L, oL) (by simp)).2.1
  have gF : G.h₀.get? F = none := by
    cases e : G.h₀.get? F with
    | none => rfl
    | some o' => exact absurd (Heap.lt_size e) (Nat.not_lt.mpr C'.fr.above)
  have neF : ∀ p ∈ J' ++ (O' ++ ((Q ++ ((L, oL) :: (O ++ P))) ++ N')), p.1 ≠ F := fun p hp => (C'.nw p hp).2.1
  refine { B with nw := ?_, dN := ?_, dO := ?_, dJ := ?_ }
  · intro p hp
    have hp' : p = (F, oF) ∨ p ∈ Q ∨ p ∈ J' ++ (O ++ (P ++ N')) := by
      simp only [List.mem_append, List.mem_cons] at hp ⊢
      rcases hp with hp | hp | (hp | hp | hp) | hp <;> simp [hp]
    rcases hp' with rfl | hp' | hp'
    · exact ⟨hF, Ne.symm hLF, gF⟩
    · have y := C'.nw p (by simp [hp'])
      exact ⟨y.1, hQ p hp' (L, oL) (.head _), y.2.2⟩
    · exact B.nw p hp'
  · intro p hp q hq
    have hq' : q = (F, oF) ∨ q ∈ Q ∨ q ∈ J' ++ (O ++ P) := by
      simp only [List.mem_append, List.mem_cons] at hq ⊢
      rcases hq with hq | hq | hq | hq | hq <;> simp [hq]
    rcases hq' with rfl | hq' | hq'
    · exact neF p (by simp [hp])
    · exact C'.dN p hp q (by simp [hq'])
    · exact B.dN p hp q hq'
  · intro p hp q hq
    have hq' : q = (F, oF) ∨ q ∈ Q ∨ q ∈ J' ++ P := by
      simp only [List.mem_append, List.mem_cons] at hq ⊢
      rcases hq with hq | hq | hq | hq <;> simp [hq]
    rcases hq' with rfl | hq' | hq'
    · exact neF p (by simp [hp])
    · exact Ne.symm (hQ q hq' p (by simp [hp]))
    · exact B.dO p hp q hq'
  · intro p hp q hq
    have hq' : q = (F, oF) ∨ q ∈ Q ∨ q ∈ P := by
      simp only [List.mem_append, List.mem_cons] at hq ⊢
      rcases hq with hq | hq | hq <;> simp [hq]
    rcases hq' with rfl | hq' | hq'
    · exact neF p (by simp [hp])
    · exact C'.dJ p hp q (by simp [hq'])
    · exact B.dJ p hp q hq'
end

section
variable {Z : Nms} {c c' : Cx} {env : Env} {P P' : Led} {ja : Pin} {sc : Scope}
theorem EnvOk.mono (V : EnvOk Z c env P ja) (hs : ∀ p ∈ P, p ∈ P') : EnvOk Z c env P' ja :=
  { V with cel := fun h => let ⟨cA, o, a, x1, x2, x3, x4, x5⟩ := V.cel h; ⟨cA, o, a, x1, x2, hs _ x3, x4, x5⟩ }

theorem lookup_relabel : ∀ {names : List (Str × NameKind)} {x : Str} {k : NameKind}, names.lookup x = some k → k ≠ .free →
    (names.map fun (n, k) => if (k == NameKind.free && env.scope.kind == .function && env.kindOf n == some .cell) then (n, NameKind.cell) else (n, k)).lookup x = some k
  | [], _, _, h, _ => by simp at h
  | (n, k') :: r, x, k, h, hk => by
    have ih := @lookup_relabel r x k
    show List.lookup x ((if (k' == NameKind.free && env.scope.kind == .function && env.kindOf n == some .cell) = true then (n, NameKind.cell) else (n, k')) :: _) = _
    cases hx : x == n with
    | true =>
      simp only [List.lookup_cons, hx] at h
      cases h
      rw [if_neg (by cases k' <;> simp_all)]
      simp [List.lookup_cons, hx]
    | false =>
      simp only [List.lookup_cons, hx] at h
      by_cases hc : (k' == NameKind.free && env.scope.kind == .function && env.kindOf n == some .cell) = true
      · rw [if_pos hc]; simp only [List.lookup_cons, hx]; exact ih h hk
      · rw [if_neg hc]; simp only [List.lookup_cons, hx]; exact ih h hk
theorem lookup_relabel_free (he : env.scope.kind = .function) {x : Str} (hc : env.kindOf x = some .cell) {post : List (Str × NameKind)} : ∀ {pre : List (Str × NameKind)}, pre.lookup x = none →
    ((pre ++ (x, .free) :: post).map fun (n, k) => if (k == NameKind.free && env.scope.kind == .function && env.kindOf n == some .cell) then (n, NameKind.cell) else (n, k)).lookup x = some .cell
  | [], _ => by
    show List.lookup x ((if (NameKind.free == NameKind.free && env.scope.kind == .function && env.kindOf x == some .cell) = true then (x, NameKind.cell) else (x, .free)) :: _) = _
    rw [if_pos (by rw [he, hc]; rfl)]
    simp [List.lookup_cons]
  | (n, k') :: r, h => by
    have ih := @lookup_relabel_free he x hc post r
    show List.lookup x ((if (k' == NameKind.free && env.scope.kind == .function && env.kindOf n == some .cell) = true then (n, NameKind.cell) else (n, k')) :: _) = _
    cases hx : x == n with
    | true => simp only [List.lookup_cons, hx] at h; cases h
    | false =>
      simp only [List.lookup_cons, hx] at h
      by_cases hc : (k' == NameKind.free && env.scope.kind == .function && env.kindOf n == some .cell) = true
      · rw [if_pos hc]; simp only [List.lookup_cons, hx]; exact ih h
      · rw [if_neg hc]; simp only [List.lookup_cons, hx]; exact ih h

theorem closure_skip (env : Env) : ∀ (l : List (Str × NameKind)), (∀ y ∈ l, y.2 ≠ .free) → ∀ cs : List (Str × Addr),
    (forIn l cs fun x r => if (x.2 == NameKind.free) = true then (do let c ← cellOf env x.1; pure (ForInStep.yield ((x.1, c) :: r))) else pure (ForInStep.yield r) : Sem (List (Str × Addr))) = pure cs
  | [], _, cs => rfl
  | (n, k) :: r, h, cs => by
    have hk : (k == NameKind.free) = false := by simpa using h (n, k) (.head _)
    simp only [List.forIn_cons, hk, Bool.false_eq_true, if_false]
    exact closure_skip env r (fun y hy => h y (.tail _ hy)) cs
theorem closure_one {x : Str} {cA : Addr} (hc : env.cells.lookup x = some cA) {post : List (Str × NameKind)} (hpost : ∀ y ∈ post, y.2 ≠ .free) : ∀ (pre : List (Str × NameKind)), (∀ y ∈ pre, y.2 ≠ .free) →
    (forIn (pre ++ (x, NameKind.free) :: post) ([] : List (Str × Addr)) fun x r => if (x.2 == NameKind.free) = true then (do let c ← cellOf env x.1; pure (ForInStep.yield ((x.1, c) :: r))) else pure (ForInStep.yield r) : Sem (List (Str × Addr))) = pure [(x, cA)]
  | [], _ => by
    simp only [List.nil_append, List.forIn_cons, beq_self_eq_true, if_true]
    unfold cellOf
    rw [hc]
    exact closure_skip env post hpost _
  | (n, k) :: r, h => by
    have hk : (k == NameKind.free) = false := by simpa using h (n, k) (.head _)
    simp only [List.cons_append, List.forIn_cons, hk, Bool.false_eq_true, if_false]
    exact closure_one hc hpost r fun y hy => h y (.tail _ hy)
theorem closureFor_eq (sc : Scope) (env : Env) : closureFor sc env = (forIn sc.names ([] : List (Str × Addr)) fun x r => if (x.2 == NameKind.free) = true then (do let c ← cellOf env x.1; pure (ForInStep.yield ((x.1, c) :: r))) else pure (ForInStep.yield r) : Sem (List (Str × Addr))) >>= pure := by
  unfold closureFor
  rfl

theorem EnvOk.comp (V : EnvOk Z c env P ja) (hc : CompOk Z c c' sc) : ∃ cl, closureFor sc env = pure cl ∧ ∀ F, EnvOk Z c' (compEnvC sc cl F env) P ja := by
  cases hc with | mk h1 h2 h3 h4 h5 h6 =>
  have base : ∀ cl F, (c'.cj = true → ∃ cA o a, (compEnvC sc cl F env).kindOf (Z.nm Z.jar) = some .cell ∧ (compEnvC sc cl F env).cells.lookup (Z.nm Z.jar) = some cA ∧ (cA, o) ∈ P ∧ o.data = .cell (some (.ref a)) ∧ ja.j = some a) → EnvOk Z c' (compEnvC sc cl F env) P ja := by
    intro cl F hcel
    refine ⟨h1, V.globals, V.bi, fun x hx => ⟨(h4 x hx).1, lookup_relabel (h4 x hx).2 (by decide)⟩, fun g hg => lookup_relabel (h5 g hg) (by decide), hcel⟩
  cases hj : c'.cj with
  | false =>
    rw [hj] at h6
    exact ⟨[], closureFor_none h6, fun F => base _ F fun q => by rw [hj] at q; cases q⟩
  | true =>
    rw [hj] at h6
    obtain ⟨q, pre, post, e, nf, nl⟩ := h6
    obtain ⟨cA, o, a, x1, x2, x3, x4, x5⟩ := V.cel q
    refine ⟨[(Z.nm Z.jar, cA)], ?_, fun F => base _ F fun _ => ⟨cA, o, a, ?_, ?_, x3, x4, x5⟩⟩
    · rw [closureFor_eq, e]
      refine Eq.trans (congrArg (· >>= pure) ?_) (rfl : (pure [(Z.nm Z.jar, cA)] : Sem _) >>= pure = pure [(Z.nm Z.jar, cA)])
      exact closure_one x2 (fun y hy => nf y (List.mem_append_right _ hy)) pre fun y hy => nf y (List.mem_append_left _ hy)
    · show (relabel sc env).names.lookup _ = _
      unfold relabel
      rw [e]
      exact lookup_relabel_free V.kind x1 nl
    · show List.lookup _ [(_, cA)] = _
      simp
end

section
variable {prog : Program} {w : World} {A : Around} {E : Value → Shared → Prop} {R : Result → Shared → Prop} {s : Shared}
theorem compLoop_any {elt target iter : Expr} {scope : Scope} {pos : Pos} {it acc : Value} {env : Env} (I : Nat → Shared → Prop)
    (turn : ∀ n s, I n s → wpAny (model prog w) A (pyNext it) (fun r s₁ => match r with
      | none => R (.ok .next) s₁
      | some v => wpAny (model prog w) A (letOwnedTupleGo target it v) (fun _ s₁' => wpAny (model prog w) A (assign target env v) (fun _ s₂ => wpAny (model prog w) A (eval elt env) (fun x s₃ =>
          wpAny (model prog w) A (call (.builtin "list.append") [acc, x]) (fun _ s₄ => ∃ m, m < n ∧ I m s₄) (notedBy (model prog w) A env fun e s' => R (.error e) s') s₃)
          (notedBy (model prog w) A env fun e s' => R (.error e) s') s₂) (notedBy (model prog w) A env fun e s' => R (.error e) s') s₁') (notedBy (model prog w) A env fun e s' => R (.error e) s') s₁) (notedBy (model prog w) A env fun e s' => R (.error e) s') s)
    (n : Nat) (h : I n s) : codeAny (model prog w) A (.compLoop (.ListComp elt [⟨target, iter, [], 0⟩] scope pos) 0 it acc env) R s := by
  refine codeAny_loop rfl I (fun n s hI => ?_) n h
  show wpAny _ _ ((compTurn (.ListComp elt [⟨target, iter, [], 0⟩] scope pos) 0 it acc env).onRaise (fun x => do noteFrame x env; theTreesLotGoes x)) _ _ s
  refine wpAny_noted ?_
  rw [compTurn_list1]
  refine wpAny_bind (wpAny_standAt (wpAny_bind (wpAny_mono (turn n s hI) (fun r s₁ h₁ => ?_) fun _ _ h' => h')))
  cases r with
  | none => exact wpAny_pure h₁
  | some v =>
    refine wpAny_bind (wpAny_mono h₁ (fun _ s₁' h₁' => ?_) fun _ _ h' => h')
    exact wpAny_bind (wpAny_mono h₁' (fun _ s₂ h₂ => wpAny_bind (wpAny_bind (wpAny_mono h₂ (fun x s₃ h₃ => wpAny_bind (wpAny_mono h₃
      (fun _ s₄ h₄ => wpAny_pure (wpAny_pure ⟨rfl, h₄⟩)) fun _ _ h' => h')) fun _ _ h' => h'))) fun _ _ h' => h')
end

section
variable {Z : Nms} {T : Tab} {prog : Program} {w : World} {G : Gl} {mg mb : Str → Option Value} {A : Around} {Er : Value → Shared → Prop} {s : Shared} {env : Env} {c c' : Cx} {P N : Led} {ja : Pin} {σ σ' : St} {n : Nat}
  (T0 : Top0 Z T prog w G mg mb)
include T0
theorem bi_name {name : String} {v : Value} {g : Nat} {p : Pos} {Q : Value → Shared → Prop} (V : EnvOk Z c env P ja) (I : Inv Z G env.locals N P ja σ s) (hg : c.gs.elem g = true) (hn : Z.nm g = Str.ofString name)
    (hm : name ∈ ["len", "max", "tuple", "list", "isinstance", "str", "int", "range", "enumerate", "bool"]) (hb : bootBuiltins (Str.ofString name) = some v) (h : Q v s) :
    wpAny (model prog w) A (eval (.Name (Z.nm g) p) env) Q Er s := by
  obtain ⟨m, O, J, C⟩ := I.core
  obtain ⟨b1, b2⟩ := T0.bn name hm
  refine Calls.Name_function_global V.kind (V.gs g hg) ?_ (T0.nd g)
  refine Calls.loadGlobal_builtin (mg := mg) (mb := mb) ?_ ?_ ?_ ?_ h
  · rw [V.globals]; exact T0.gns.at fun o e => C.fr.keep _ _ e
  · rw [hn]; exact b1
  · rw [V.bi]; exact T0.bns.at fun o e => C.fr.keep _ _ e
  · rw [hn, T0.boot _ b2]; exact hb

theorem iter_sound (S : SoundE Z T prog w G n) {k : ItK} {it : E} {xi : Expr} {v : V} {xs : List V} (q : (run T n).ev it σ = some (v, σ')) (qi : itemsOf k v = some xs) (hIt : TrIt Z c k it xi) (V : EnvOk Z c env P ja) (a : AOk n A)
    (I : Inv Z G env.locals N P ja σ s) {E₁ E₂ : Value → Shared → Prop} :
    wpAny (model prog w) A (eval xi env) (fun xv s₁ => wpAny (model prog w) A (pyIter xv) (fun y s' => ∃ N', (∀ p ∈ N, p ∈ N') ∧ Began Z G env.locals N' P ja σ' k xs y s') E₂ s₁) E₁ s := by
  cases hIt with
  | plain h1 h2 =>
    exact wpAny_mono (S.ev q h1 V a I) (fun u s₁ ⟨N₁, hs₁, r₁, I₁⟩ => wpAny_mono (iter_plain qi r₁ I₁) (fun y s' b => ⟨N₁, hs₁, b⟩) fun _ _ x => x) fun _ _ x => x
  | @range _ _ x g p q' hg hn h1 h2 =>
    refine Call_Name rfl (bi_name T0 V I hg hn (by decide) boot_range ?_)
    refine PyProof.Rows.callWith_type1 ?_ (h2 env) rfl
    rw [h2 env]
    refine Calls.spliced_cons (wpAny_mono (S.ev q h1 V a I) (fun u s₁ ⟨N₁, hs₁, r₁, I₁⟩ => Calls.spliced_nil ?_) fun _ _ x => x)
    exact wpAny_mono (range_iter qi r₁ I₁) (fun y s' b => wpAny_mono b (fun y' s'' b' => ⟨N₁, hs₁, b'⟩) fun _ _ x => x) fun _ _ x => x
  | @enum _ _ x g p q' hg hn h1 h2 =>
    refine Call_Name rfl (bi_name T0 V I hg hn (by decide) boot_enum ?_)
    refine PyProof.Rows.callWith_type1 ?_ (h2 env) rfl
    rw [h2 env]
    refine Calls.spliced_cons (wpAny_mono (S.ev q h1 V a I) (fun u s₁ ⟨N₁, hs₁, r₁, I₁⟩ => Calls.spliced_nil ?_) fun _ _ x => x)
    exact wpAny_mono (enum_iter qi r₁ I₁) (fun y s' b => wpAny_mono b (fun y' s'' b' => ⟨N₁, hs₁, b'⟩) fun _ _ x => x) fun _ _ x => x
end

theorem compL_cons {f : V → Int × Int → Option (V × (Int × Int))} {v : V} {r : List V} {j : Int × Int} {ys : List V} {jf : Int × Int} (h : compL f (v :: r) j = some (ys, jf)) :
    ∃ y j₁ ys', f v j = some (y, j₁) ∧ compL f r j₁ = some (ys', jf) ∧ ys = y :: ys' := by
  unfold compL at h
  cases h1 : f v j with
  | none => rw [h1] at h; cases h
  | some p =>
    obtain ⟨y, j₁⟩ := p
    rw [h1] at h
    dsimp only at h
    cases h2 : compL f r j₁ with
    | none => rw [h2] at h; cases h
    | some q =>
      obtain ⟨ys', j₂⟩ := q
      rw [h2] at h
      cases h
      exact ⟨y, j₁, ys', rfl, h2, rfl⟩
theorem items_small {k : ItK} {v : V} {xs : List V} (h : itemsOf k v = some xs) : xs.length ≤ 1048576 := by
  unfold itemsOf at h
  split at h
  · split at h
    · rename_i hf; cases h; exact fits_le hf
    · cases h
  · split at h
    · rename_i hf; cases h; exact fits_le hf
    · cases h
  · split at h
    · rename_i hf; cases h; rw [List.length_map]; exact fits_le hf
    · cases h
  · split at h
    · rename_i hf
      cases h
      have := of_decide_eq_true (Bool.and_eq_true_iff.mp hf).2
      rw [List.length_map, List.length_range]; omega
    · cases h
  · split at h
    · rename_i hf; cases h; rw [List.length_map, List.length_zipIdx]; exact fits_le hf
    · cases h
  · cases h
end Mine

end DHpart

section DJpart
open PySem PySem.W PyProof.Rows
namespace Mine

theorem tgt_ok {Z : Nms} {c : Cx} {k : ItK} {t : Tgt} {xt : Expr} (hk : EnumTup k t) (hT : TrT Z c t xt) : TgtOk k xt := by
  cases hT with
  | one hx => cases k <;> first | exact hk.elim | exact .inr ⟨_, _, rfl⟩
  | tup hN nd => cases k <;> first | exact ⟨_, _, _, rfl⟩ | exact .inl ⟨_, _, _, rfl⟩
theorem it_folded {Z : Nms} {c : Cx} {k : ItK} {it : E} {xi : Expr} (h : TrIt Z c k it xi) (env : Env) (x : Value) : foldedSetIterable xi env x = pure x := by
  cases h with
  | plain h1 h2 => exact h2 env x
  | range => rfl
  | enum => rfl

theorem compE_some {ih : Ih} {elt : E} {t : Tgt} {v y : V} {j j₁ : Int × Int} (h : compE ih elt t v j = some (y, j₁)) :
    ∃ σa σb, (⟨[], none, j⟩ : St).bindT t v = some σa ∧ ih.ev elt σa = some (y, σb) ∧ σb.own = none ∧ j₁ = σb.j := by
  unfold compE at h
  cases h1 : (⟨[], none, j⟩ : St).bindT t v with
  | none => rw [h1] at h; cases h
  | some σa =>
    rw [h1] at h
    dsimp only at h
    cases h2 : ih.ev elt σa with
    | none => rw [h2] at h; cases h
    | some p =>
      obtain ⟨y', σb⟩ := p
      rw [h2] at h
      dsimp only at h
      cases h3 : σb.own with
      | none => rw [h3] at h; cases h; exact ⟨σa, σb, rfl, h2, h3, rfl⟩
      | some _ => rw [h3] at h; cases h

section
variable {Z : Nms} {T : Tab} {prog : Program} {w : World} {G : Gl} {mg mb : Str → Option Value} {A : Around} {Er : Value → Shared → Prop} {s : Shared} {env : Env} {c c' : Cx} {P N : Led} {ja : Pin} {σ σ' : St} {n : Nat}

/-- the loop of a comprehension -/
theorem comp_loop (S : SoundE Z T prog w G n) {elt : E} {t : Tgt} {k : ItK} {xe xt xi : Expr} {sc : Scope} {pos : Pos} (hk : EnumTup k t) (hT : TrT Z c' t xt) (hE : TrE Z c' elt xe) {B I₀ N₂ : Led} {it D : Addr} {cenv : Env}
    (Vc : EnvOk Z c' cenv B ja) (a : AOk n A) (hIB : ∀ p ∈ B, p.1 ∉ I₀.map (·.1)) (hID : D ∉ I₀.map (·.1)) (hDB : ∀ p ∈ B, p.1 ≠ D) {ys : List V} {jf : Int × Int} {R : Result → Shared → Prop}
    (hR : ∀ us nn N' s', (∀ p ∈ N₂, p ∈ N') → RVs G.h₀ N' ja us ys → Inv Z G cenv.locals N' ((D, lstO us nn) :: B) ja ⟨[], none, jf⟩ s' → R (.ok .next) s')
    {xs : List V} {j : Int × Int} (q : compL (compE (run T n) elt t) xs j = some (ys, jf)) (hsz : xs.length ≤ 1048576) (hit : ItSt G N₂ ja k it xs I₀) {nn : Nat} (I : Inv Z G cenv.locals N₂ (I₀ ++ ((D, lstO [] nn) :: B)) ja ⟨[], none, j⟩ s) :
    codeAny (model prog w) A (.compLoop (.ListComp xe [⟨xt, xi, [], 0⟩] sc pos) 0 (.ref it) (.ref D) cenv) R s := by
  refine compLoop_any (fun kk s' => ∃ rest j N' Ig us yd zs nn, kk = rest.length ∧ compL (compE (run T n) elt t) rest j = some (zs, jf) ∧ yd ++ zs = ys ∧ yd.length + rest.length ≤ 1048576 ∧ ItSt G N' ja k it rest Ig ∧
    Ig.map (·.1) = I₀.map (·.1) ∧ RVs G.h₀ N' ja us yd ∧ (∀ p ∈ N₂, p ∈ N') ∧ Inv Z G cenv.locals N' (Ig ++ ((D, lstO us nn) :: B)) ja ⟨[], none, j⟩ s') ?_ xs.length
    ⟨xs, j, N₂, I₀, [], [], ys, nn, rfl, q, rfl, by simpa using hsz, hit, rfl, .nil, fun _ q => q, I⟩
  rintro kk s' ⟨rest, j', N', Ig, us, yd, zs, nn', rfl, q', hy, hz, hit', hm, rs, hs, I'⟩
  have hP' : ∀ p ∈ (D, lstO us nn') :: B, p.1 ∉ Ig.map (·.1) := by
    rw [hm]
    intro p hp
    rcases List.mem_cons.mp hp with rfl | hp
    · exact hID
    · exact hIB p hp
  refine wpAny_mono (next_sound hit' hP' I' a.hd) (fun r s₁ hN => ?_) fun _ _ x => x
  cases rest with
  | nil =>
    obtain ⟨rfl, I₁⟩ := hN
    cases q'
    rw [List.append_nil] at hy
    subst hy
    exact hR us nn' N' s₁ hs rs I₁
  | cons v rest =>
    obtain ⟨u, rfl, hgo⟩ := hN
    obtain ⟨y, j₁, zs', qe, ql, rfl⟩ := compL_cons q'
    obtain ⟨σa, σb, qa, qb, qo, rfl⟩ := compE_some qe
    refine wpAny_mono (hgo xt _ (tgt_ok hk hT)) (fun _ s₂ ⟨N'', I'', hs₂, ru, hit₂, hm₂, V₂⟩ => ?_) fun _ _ x => x
    refine wpAny_mono (assign_sound hT qa Vc ru V₂ a.hd) (fun _ s₃ V₃ => ?_) fun _ _ x => x
    refine wpAny_mono (S.ev qb hE (Vc.mono fun p hp => List.mem_append_right _ (.tail _ hp)) a V₃) (fun x s₄ ⟨N₃, hs₄, rx, V₄⟩ => ?_) fun _ _ x => x
    obtain ⟨m₄, O₄, J₄, C₄⟩ := V₄.core
    have hD : s₄.heap.PlainList D us.toArray := ⟨nn', C₄.P_get (p := (D, lstO us nn')) (by simp)⟩
    refine wpAny_list_append_plain hD (fun h₅ hD₅ hs₅ => ?_) (by rw [List.size_toArray, rs.length, sizeLine_eq]; simp only [List.length_cons] at hz; omega)
    obtain ⟨n₅, hD₅⟩ := hD₅
    have e₅ : us.toArray.push x = (us ++ [x]).toArray := by simp
    rw [e₅] at hD₅
    have C₅ := (C₄.sub (P' := [(D, lstO us nn')] ++ (I'' ++ B)) (fun p hp => by
      simp only [List.mem_append, List.mem_cons, List.not_mem_nil, or_false] at hp ⊢
      rcases hp with hp | hp | hp <;> simp [hp])).turnP (h' := h₅) (I' := [(D, lstO (us ++ [x]) n₅)]) (fun p hp hb => by
        have e : p.1 = D := by simpa using hb
        rcases List.mem_append.mp hp with hp | hp
        · refine hID ?_
          rw [← hm, ← hm₂, ← e]
          exact List.mem_map_of_mem hp
        · exact hDB p hp e) (fun b o hb e => (hs₅.2 b (fun q => hb (by simp [q]))).trans e) (fun p hp => by
        have : p = (D, lstO (us ++ [x]) n₅) := by simpa using hp
        subst this
        exact ⟨.head _, hD₅⟩)
    have C₆ := (C₅.sub (P' := I'' ++ ((D, lstO (us ++ [x]) n₅) :: B)) (fun p hp => by
      simp only [List.mem_append, List.mem_cons, List.not_mem_nil, or_false] at hp ⊢
      rcases hp with hp | hp | hp <;> simp [hp])).forget qo
    refine ⟨rest.length, Nat.lt_succ_self _, rest, σb.j, N₃, I'', us ++ [x], yd ++ [y], zs', n₅, rfl, ql, by rw [← hy]; simp, by simp only [List.length_append, List.length_cons, List.length_nil] at hz ⊢; omega, hit₂.mono hs₄, by rw [hm₂, hm], ?_, ?_, V₄.at (tk := s₄.toks) C₆⟩
    · exact (rs.mono fun p hp => hs₄ p (hs₂ p hp)).append (.unit rx)
    · exact fun p hp => hs₄ p (hs₂ p (hs p hp))

theorem comp_sound (T0 : Top0 Z T prog w G mg mb) (S : SoundE Z T prog w G n) {elt : E} {t : Tgt} {k : ItK} {it : E} {ys : List V} (q : compV (run T n) elt t k it σ = some (ys, σ')) {xe xt xi : Expr} {sc : Scope} {pos pos' : Pos} (hk : EnumTup k t)
    (hIt : TrIt Z c k it xi) (hT : TrT Z c' t xt) (hE : TrE Z c' elt xe) (hc : CompOk Z c c' sc) (V : EnvOk Z c env P ja) (a : AOk n A) (I : Inv Z G env.locals N P ja σ s) {use : Option (Value → Sem Unit)} {Q : Value → Shared → Prop}
    (hfin : ∀ F oF m D us n' N' s', s'.heap.get? F = some oF → s'.heap.Ns F m → F ≠ D → (∀ p ∈ P, p.1 ≠ F) → (∀ p ∈ P, p.1 ≠ D) → (∀ p ∈ N, p ∈ N') → RVs G.h₀ N' ja us ys →
      F ≠ env.locals → Inv Z G env.locals N' ((F, oF) :: (D, lstO us n') :: P) ja σ' s' → compPost (model prog w) A Er use Q (.ref D) F (.ok .next) s') :
    wpAny (model prog w) A (comprehension (.ListComp xe [⟨xt, xi, [], 0⟩] sc pos) sc env pos' (newList []) false (eval xi env) use) Q Er s := by
  unfold compV at q
  cases q1 : (run T n).ev it σ with
  | none => rw [q1] at q; cases q
  | some r =>
    obtain ⟨v, σ₁⟩ := r
    rw [q1] at q
    dsimp only at q
    cases q2 : itemsOf k v with
    | none => rw [q2] at q; cases q
    | some xs =>
      rw [q2] at q
      dsimp only at q
      cases q3 : compL (compE (run T n) elt t) xs σ₁.j with
      | none => rw [q3] at q; cases q
      | some r =>
        obtain ⟨ys', jf⟩ := r
        rw [q3] at q
        cases q
        obtain ⟨cl, hcl, Vc⟩ := V.comp hc
        have hkind : sc.kind = .function := by cases hc; assumption
        have hnames : ∀ y ∈ sc.names, y.2 = .local → sc.names.lookup y.1 = some .local := by cases hc; assumption
        have hcell : ∀ y ∈ sc.names, y.2 ≠ .cell := by cases hc; assumption
        refine wpAny_comprehension_free (g := ⟨xt, xi, [], 0⟩) (gs := []) rfl (it_folded hIt env) hcl hkind hnames
          (wpAny_mono (iter_sound T0 S q1 q2 hIt V a I) (fun xv s₁ h => wpAny_mono h (fun y s₂ hB => ?_) fun _ _ x => x) fun _ _ x => x)
        obtain ⟨N₁, hs₁, it', N₂, I₀, rfl, hs₂, hit, hPI, I₂⟩ := hB
        obtain ⟨m₂, O, J, C₂⟩ := I₂.core
        have hs : ∀ p ∈ N, p ∈ N₂ := fun p hp => hs₂ p (hs₁ p hp)
        obtain ⟨C₃, hD⟩ := C₂.protects (I := [(s₂.heap.objs.size, lstO [] 0)]) (h' := s₂.heap.push (lstO [] 0)) (fun _ _ e => Heap.get?_push_of_some _ e) (fun p hp => by
          have : p = (s₂.heap.objs.size, lstO [] 0) := by simpa using hp
          subst this
          exact ⟨Heap.get?_push_size _ rfl, get_fresh _⟩)
        refine wpAny_newObj_type ?_
        show wpAny _ _ _ _ _ { s₂ with heap := s₂.heap.push (lstO [] 0) }
        generalize hH : s₂.heap.push (lstO [] 0) = H₃ at C₃
        generalize s₂.heap.objs.size = D at C₃ hD
        obtain ⟨oL, _, _, hL₃, _⟩ := id C₃.fr.ns
        have hL₂ : s₂.heap.get? env.locals = some oL := by
          obtain ⟨oL', _, _, hL', _⟩ := id C₂.fr.ns
          rw [← hH, Heap.get?_push_of_some _ hL'] at hL₃
          cases hL₃; exact hL'
        refine wpAny_newFunctionEnv hcell (fun x hx => nomatch hx) (fun h₄ hn₄ hs₄ => ?_) hkind
        have hk₄ : ∀ b o, H₃.get? b = some o → h₄.get? b = some o := fun b o e => (hs₄.2 b (Nat.ne_of_lt (Heap.lt_size e))).trans (Heap.get?_push_of_some _ e)
        have C₄ := C₃.enter hL₃ (ρ := []) hk₄ (Nat.le_refl _) hn₄ (fun x v _ _ e => nomatch e)
        have hIL : ∀ p ∈ I₀, p.1 ≠ env.locals := fun p hp => (C₃.nw p (by simp [hp])).2.1
        have hDL : D ≠ env.locals := (C₃.nw (D, lstO [] 0) (by simp)).2.1
        have hDI : D ∉ I₀.map (·.1) := fun h => by
          obtain ⟨p, hp, e⟩ := List.mem_map.mp h
          exact hD p (by simp [hp]) (by simp [e])
        have hIB : ∀ p ∈ (env.locals, oL) :: (O ++ P), p.1 ∉ I₀.map (·.1) := by
          intro p hp hb
          obtain ⟨p', hp', e⟩ := List.mem_map.mp hb
          rcases List.mem_cons.mp hp with rfl | hp
          · exact hIL p' hp' e
          · rcases List.mem_append.mp hp with hp | hp
            · exact C₂.dO p hp p' (by simp [hp']) e.symm
            · exact hPI p hp hb
        have hDP : ∀ p ∈ P, p.1 ≠ D := fun p hp e => hD p (by simp [hp]) (by simp [e])
        have hDB : ∀ p ∈ (env.locals, oL) :: (O ++ P), p.1 ≠ D := by
          intro p hp
          rcases List.mem_cons.mp hp with rfl | hp
          · exact Ne.symm hDL
          · rcases List.mem_append.mp hp with hp | hp
            · exact C₃.dO p hp (D, lstO [] 0) (by simp)
            · exact hDP p hp
        have I₅ : Inv Z G H₃.objs.size N₂ (I₀ ++ ((D, lstO [] 0) :: ((env.locals, oL) :: (O ++ P)))) ja ⟨[], none, σ₁.j⟩ { s₂ with heap := h₄, toks := s₂.toks + ([] : List (Str × Value)).length } :=
          I₂.at (C₄.sub fun p hp => by
            simp only [List.mem_append, List.mem_cons, List.not_mem_nil, or_false] at hp ⊢
            rcases hp with hp | hp | hp | hp | hp <;> simp [hp])
        have loop : codeAny (model prog w) A (.compLoop (.ListComp xe [⟨xt, xi, [], 0⟩] sc pos) 0 (.ref it') (.ref D) (compEnvC sc cl H₃.objs.size env)) (compPost (model prog w) A Er use Q (.ref D) H₃.objs.size)
            { s₂ with heap := h₄, toks := s₂.toks + ([] : List (Str × Value)).length } := by
          refine comp_loop S hk hT hE (cenv := compEnvC sc cl H₃.objs.size env) (B := (env.locals, oL) :: (O ++ P)) (I₀ := I₀) (N₂ := N₂) ((Vc H₃.objs.size).mono fun p hp => by simp [hp]) a hIB hDI hDB (jf := jf) ?_ q3 (items_small q2) hit I₅
          intro us nn N' s' hs' rs I₆
          obtain ⟨m₆, O₆, J₆, C₆⟩ := I₆.core
          obtain ⟨oF, _, _, hF, _⟩ := id C₆.fr.ns
          have C₇ := (C₂.sub (P' := P) fun p hp => List.mem_append_right _ hp).leaveK hL₂ (F := H₃.objs.size) (Q := [(D, lstO us nn)]) hs' hF C₆ (fun p hp q hq => by
            have : p = (D, lstO us nn) := by simpa using hp
            subst this
            exact Ne.symm (hDB q hq))
          have hFD : D ≠ H₃.objs.size := (C₆.nw (D, lstO us nn) (by simp)).2.1
          refine hfin _ oF m₆ D us nn N' s' hF C₆.fr.ns (Ne.symm hFD) (fun p hp => (C₆.nw p (by simp [hp])).2.1) hDP (fun p hp => hs' p (hs p hp)) rs ?_ (I₆.at (tk := s'.toks) C₇)
          exact Ne.symm (C₆.nw (env.locals, oL) (by simp)).2.1
        exact codeAny_compStart_list loop (hit.self I₅ loop)

/-- a frame that was left goes -/
theorem Inv.drop {L F : Addr} {oF : Obj} {s' : Shared} {h' : Heap} (I : Inv Z G L N ((F, oF) :: P) ja σ s') (hP : ∀ p ∈ P, p.1 ≠ F) (hs : Heap.SameBut F s'.heap h') : Inv Z G L N P ja σ { s' with heap := h' } := by
  obtain ⟨m, O, J, C⟩ := I.core
  exact I.at (tk := s'.toks) (Core.turnP (I := [(F, oF)]) (I' := []) C (fun p hp hb => hP p hp (by simpa using hb)) (fun b x hb e => (hs.2 b (fun q => hb (by simp [q]))).trans e) fun p hp => nomatch hp)
theorem Inv.freeze {L D : Addr} {o : Obj} {s' : Shared} (I : Inv Z G L N ((D, o) :: P) ja σ s') (hP : ∀ p ∈ P, p.1 ≠ D) : Inv Z G L ((D, o) :: N) P ja σ s' := by
  obtain ⟨m, O, J, C⟩ := I.core
  exact I.at (tk := s'.toks) (C.freeze hP)

/-- a comprehension as a value -/
theorem comp_value (T0 : Top0 Z T prog w G mg mb) (S : SoundE Z T prog w G n) {elt : E} {t : Tgt} {k : ItK} {it : E} {ys : List V} (q : compV (run T n) elt t k it σ = some (ys, σ')) {xe xt xi : Expr} {sc : Scope} {pos : Pos} (hk : EnumTup k t)
    (hIt : TrIt Z c k it xi) (hT : TrT Z c' t xt) (hE : TrE Z c' elt xe) (hc : CompOk Z c c' sc) (V : EnvOk Z c env P ja) (a : AOk n A) (I : Inv Z G env.locals N P ja σ s) :
    wpAny (model prog w) A (eval (.ListComp xe [⟨xt, xi, [], 0⟩] sc pos) env) (Res Z G env.locals N P ja (.lst ys) σ') Er s := by
  rw [eval_ListComp]
  refine comp_sound T0 S q hk hIt hT hE hc V a I (use := none) ?_
  intro F oF m D us n' N' s' hF hn hFD hPF hPD hs rs hFL I'
  refine ⟨m, hn, fun h' hs' => ?_⟩
  have I₁ := (I'.drop (fun p hp => by rcases List.mem_cons.mp hp with rfl | hp; exact Ne.symm hFD; exact hPF p hp) hs').freeze hPD
  exact ⟨(D, lstO us n') :: N', fun p hp => .tail _ (hs p hp), .lst (.inl (.head _)) rfl rfl (rs.mono mono_cons), I₁⟩

/-- a comprehension handed to a name -/
theorem comp_named (T0 : Top0 Z T prog w G mg mb) (S : SoundE Z T prog w G n) {elt : E} {t : Tgt} {k : ItK} {it : E} {ys : List V} (q : compV (run T n) elt t k it σ = some (ys, σ')) {xe xt xi : Expr} {sc : Scope} {pos pos' px : Pos} (hk : EnumTup k t)
    (hIt : TrIt Z c k it xi) (hT : TrT Z c' t xt) (hE : TrE Z c' elt xe) (hc : CompOk Z c c' sc) (V : EnvOk Z c env P ja) (a : AOk n A) (I : Inv Z G env.locals N P ja σ s) {x : Nat} (hx : c.ls.elem x = true) {σ'' : St} (qo : σ'.setOwn x ys = some σ'') :
    wpAny (model prog w) A (comprehension (.ListComp xe [⟨xt, xi, [], 0⟩] sc pos) sc env pos' (newList []) false (eval xi env) (some (assign (.Name (Z.nm x) px) env)))
      (fun _ s' => ∃ N' D, (∀ p ∈ N, p ∈ N') ∧ Inv Z G env.locals N' P ⟨ja.j, D⟩ σ'' s') Er s := by
  refine comp_sound T0 S q hk hIt hT hE hc V a I (use := some (assign (.Name (Z.nm x) px) env)) ?_
  intro F oF m D us n' N' s' hF hn hFD hPF hPD hs rs hFL I'
  obtain ⟨m', O, J, C⟩ := I'.core
  show wpAny _ A (assign (.Name (Z.nm x) px) env (.ref D)) _ _ _
  refine wpAny_assign_Name (wpAny_storeName_local (V.ls x hx).2 C.fr.ns (fun h₂ hn₂ hs₂ => ?_) V.noClass)
  have C₁ := C.sub (P' := (D, lstO us n') :: ((F, oF) :: P)) (fun p hp => by
    simp only [List.mem_cons] at hp ⊢
    rcases hp with hp | hp | hp <;> simp [hp])
  obtain ⟨O', C₂⟩ := C₁.adopts (us := []) (vs := []) (ys := []) (σ' := σ'') (fun p hp => by rcases List.mem_cons.mp hp with rfl | hp; exact hFD; exact hPD p hp) (V.ls x hx).1 (fun _ h => nomatch h) .nil (fun h => nomatch h) qo rfl rs .nil hn₂ hs₂ (fun p hp => nomatch hp) (if_pos rfl)
    (fun y _ hy => if_neg hy)
  refine ⟨m, hn.sameBut hs₂ hFL, fun h₃ hs₃ => ⟨N', D, hs, ?_⟩⟩
  exact Inv.drop (s' := { s' with heap := h₂, toks := _ }) (I'.at (tk := s'.toks + 1) C₂) hPF hs₃
end
end Mine

end DJpart

section DKpart
open PySem PySem.W PyProof.Rows
namespace Mine

theorem evs_length {ev : E → St → Option (V × St)} : ∀ {es : List E} {σ σ' : St} {vs : List V}, evs ev es σ = some (vs, σ') → vs.length = es.length
  | [], _, _, _, h => by cases h; rfl
  | e :: es, σ, σ', vs, h => by
    unfold evs at h
    split at h
    · cases h
    rename_i v σa _
    split at h
    · cases h
    rename_i vs' σb h2
    cases h
    rw [List.length_cons, List.length_cons, evs_length h2]

section
variable {Z : Nms} {T : Tab} {prog : Program} {w : World} {G : Gl} {mg mb : Str → Option Value} {A : Around} {Er : Value → Shared → Prop} {s : Shared} {env : Env} {c : Cx} {P N : Led} {ja : Pin} {σ σ' : St} {n : Nat}
  (T0 : Top0 Z T prog w G mg mb)

theorem Res.trans {L : Addr} {N N₁ : Led} {v : V} {σ : St} {u : Value} {s : Shared} (hs : ∀ p ∈ N, p ∈ N₁) (h : Res Z G L N₁ P ja v σ u s) : Res Z G L N P ja v σ u s :=
  let ⟨N₂, h2, r, I⟩ := h; ⟨N₂, fun p hp => h2 p (hs p hp), r, I⟩
theorem Res.mk {L : Addr} {N : Led} {v : V} {σ : St} {u : Value} {s : Shared} (r : RV G.h₀ N ja u v) (I : Inv Z G L N P ja σ s) : Res Z G L N P ja v σ u s := ⟨N, fun _ q => q, r, I⟩

include T0 in
theorem glob_name {g : Nat} {p : Pos} {u : Value} {Q : Value → Shared → Prop} (V : EnvOk Z c env P ja) (I : Inv Z G env.locals N P ja σ s) (hg : c.gs.elem g = true) (hm : mg (Z.nm g) = some u) (h : Q u s) :
    wpAny (model prog w) A (eval (.Name (Z.nm g) p) env) Q Er s := by
  obtain ⟨m, O, J, C⟩ := I.core
  refine Calls.Name_function_global V.kind (V.gs g hg) ?_ (T0.nd g)
  refine Calls.loadGlobal_global (mg := mg) ?_ hm h
  rw [V.globals]; exact T0.gns.at fun o e => C.fr.keep _ _ e

theorem andL_nil {ev : E → St → Option (V × St)} {σ : St} : andL ev [] σ = none := rfl
theorem and_ev (S : SoundE Z T prog w G n) : ∀ {es : List E} {σ σ' : St} {v : V}, andL (run T n).ev es σ = some (v, σ') → ∀ {xs p A N s Er}, TrEs Z c es xs → EnvOk Z c env P ja → AOk n A → Inv Z G env.locals N P ja σ s →
    wpAny (model prog w) A (eval (.BoolOp .And xs p) env) (Res Z G env.locals N P ja v σ') Er s := by
  intro es
  induction es with
  | nil => intro σ σ' v q; cases q
  | cons e es ih =>
    intro σ σ' v q xs p A N s Er h V a I
    cases h with | cons h1 h2 h3 =>
    cases es with
    | nil =>
      cases h3
      unfold andL at q
      refine BoolOp_one ?_
      split at q
      · rename_i b σ₁ hb
        cases q
        exact S.ev hb h1 V a I
      · cases q
    | cons e₂ es =>
      cases h3 with | cons g1 g2 g3 =>
      unfold andL at q
      split at q
      · rename_i σ₁ hb
        refine BoolOp_and (wpAny_mono (S.ev hb h1 V a I) (fun u s₁ ⟨N₁, hs₁, r₁, I₁⟩ => ?_) fun _ _ x => x)
        cases r₁
        refine wpAny_truthy_bool ?_
        rw [if_pos rfl]
        exact wpAny_mono (ih q (.cons g1 g2 g3) V a I₁) (fun _ _ r => r.trans hs₁) fun _ _ x => x
      · rename_i σ₁ hb
        cases q
        refine BoolOp_and (wpAny_mono (S.ev hb h1 V a I) (fun u s₁ ⟨N₁, hs₁, r₁, I₁⟩ => ?_) fun _ _ x => x)
        cases r₁
        refine wpAny_truthy_bool ?_
        rw [if_neg (by decide)]
        exact ⟨N₁, hs₁, .bool _, I₁⟩
      · cases q
theorem or_ev (S : SoundE Z T prog w G n) : ∀ {es : List E} {σ σ' : St} {v : V}, orL (run T n).ev es σ = some (v, σ') → ∀ {xs p A N s Er}, TrEs Z c es xs → EnvOk Z c env P ja → AOk n A → Inv Z G env.locals N P ja σ s →
    wpAny (model prog w) A (eval (.BoolOp .Or xs p) env) (Res Z G env.locals N P ja v σ') Er s := by
  intro es
  induction es with
  | nil => intro σ σ' v q; cases q
  | cons e es ih =>
    intro σ σ' v q xs p A N s Er h V a I
    cases h with | cons h1 h2 h3 =>
    cases es with
    | nil =>
      cases h3
      unfold orL at q
      refine BoolOp_one ?_
      split at q
      · rename_i b σ₁ hb
        cases q
        exact S.ev hb h1 V a I
      · cases q
    | cons e₂ es =>
      cases h3 with | cons g1 g2 g3 =>
      unfold orL at q
      split at q
      · rename_i σ₁ hb
        refine BoolOp_or (wpAny_mono (S.ev hb h1 V a I) (fun u s₁ ⟨N₁, hs₁, r₁, I₁⟩ => ?_) fun _ _ x => x)
        cases r₁
        refine wpAny_truthy_bool ?_
        rw [if_neg (by decide)]
        exact wpAny_mono (ih q (.cons g1 g2 g3) V a I₁) (fun _ _ r => r.trans hs₁) fun _ _ x => x
      · rename_i σ₁ hb
        cases q
        refine BoolOp_or (wpAny_mono (S.ev hb h1 V a I) (fun u s₁ ⟨N₁, hs₁, r₁, I₁⟩ => ?_) fun _ _ x => x)
        cases r₁
        refine wpAny_truthy_bool ?_
        rw [if_pos rfl]
        exact ⟨N₁, hs₁, .bool _, I₁⟩
      · cases q

noncomputable abbrev TRes (Z : Nms) (G : Gl) (L : Addr) (N P : Led) (ja : Pin) (b : Bool) (σ : St) (b' : Bool) (s' : Shared) : Prop := b' = b ∧ ∃ N', (∀ p ∈ N, p ∈ N') ∧ Inv Z G L N' P ja σ s'

theorem and_tst (S : SoundE Z T prog w G n) : ∀ {es : List E} {σ σ' : St} {b : Bool}, andL (run T n).ev es σ = some (.bool b, σ') → ∀ {xs A N s Er}, TrEs Z c es xs → EnvOk Z c env P ja → AOk n A → Inv Z G env.locals N P ja σ s →
    wpAny (model prog w) A (allTrue .And xs env) (TRes Z G env.locals N P ja b σ') Er s := by
  intro es
  induction es with
  | nil => intro σ σ' v q; cases q
  | cons e es ih =>
    intro σ σ' b q xs A N s Er h V a I
    cases h with | cons h1 h2 h3 =>
    cases es with
    | nil =>
      cases h3
      unfold andL at q
      split at q
      · rename_i b' σ₁ hb
        cases q
        refine wpAny_allTrue_And_cons (wpAny_mono (S.tst hb h1 V a I) (fun u s₁ ⟨e₁, N₁, hs₁, I₁⟩ => ?_) fun _ _ x => x)
        subst e₁
        cases u
        · exact ⟨rfl, N₁, hs₁, I₁⟩
        · exact wpAny_allTrue_And_nil ⟨rfl, N₁, hs₁, I₁⟩
      · cases q
    | cons e₂ es =>
      unfold andL at q
      split at q
      · rename_i σ₁ hb
        refine wpAny_allTrue_And_cons (wpAny_mono (S.tst hb h1 V a I) (fun u s₁ ⟨e₁, N₁, hs₁, I₁⟩ => ?_) fun _ _ x => x)
        subst e₁
        rw [if_pos rfl]
        exact wpAny_mono (ih q h3 V a I₁) (fun _ _ ⟨r, N₂, hs₂, I₂⟩ => ⟨r, N₂, fun p hp => hs₂ p (hs₁ p hp), I₂⟩) fun _ _ x => x
      · rename_i σ₁ hb
        cases q
        refine wpAny_allTrue_And_cons (wpAny_mono (S.tst hb h1 V a I) (fun u s₁ ⟨e₁, N₁, hs₁, I₁⟩ => ?_) fun _ _ x => x)
        subst e₁
        rw [if_neg (by decide)]
        exact ⟨rfl, N₁, hs₁, I₁⟩
      · cases q
theorem or_tst (S : SoundE Z T prog w G n) : ∀ {es : List E} {σ σ' : St} {b : Bool}, orL (run T n).ev es σ = some (.bool b, σ') → ∀ {xs A N s Er}, TrEs Z c es xs → EnvOk Z c env P ja → AOk n A → Inv Z G env.locals N P ja σ s →
    wpAny (model prog w) A (allTrue .Or xs env) (TRes Z G env.locals N P ja b σ') Er s := by
  intro es
  induction es with
  | nil => intro σ σ' v q; cases q
  | cons e es ih =>
    intro σ σ' b q xs A N s Er h V a I
    cases h with | cons h1 h2 h3 =>
    cases es with
    | nil =>
      cases h3
      unfold orL at q
      split at q
      · rename_i b' σ₁ hb
        cases q
        refine wpAny_allTrue_Or_cons (wpAny_mono (S.tst hb h1 V a I) (fun u s₁ ⟨e₁, N₁, hs₁, I₁⟩ => ?_) fun _ _ x => x)
        subst e₁
        cases u
        · exact wpAny_allTrue_Or_nil ⟨rfl, N₁, hs₁, I₁⟩
        · exact ⟨rfl, N₁, hs₁, I₁⟩
      · cases q
    | cons e₂ es =>
      unfold orL at q
      split at q
      · rename_i σ₁ hb
        refine wpAny_allTrue_Or_cons (wpAny_mono (S.tst hb h1 V a I) (fun u s₁ ⟨e₁, N₁, hs₁, I₁⟩ => ?_) fun _ _ x => x)
        subst e₁
        rw [if_neg (by decide)]
        exact wpAny_mono (ih q h3 V a I₁) (fun _ _ ⟨r, N₂, hs₂, I₂⟩ => ⟨r, N₂, fun p hp => hs₂ p (hs₁ p hp), I₂⟩) fun _ _ x => x
      · rename_i σ₁ hb
        cases q
        refine wpAny_allTrue_Or_cons (wpAny_mono (S.tst hb h1 V a I) (fun u s₁ ⟨e₁, N₁, hs₁, I₁⟩ => ?_) fun _ _ x => x)
        subst e₁
        rw [if_pos rfl]
        exact ⟨rfl, N₁, hs₁, I₁⟩
      · cases q

theorem none_is {u : Value} {v : V} {p : Bool} {r : V × St} (ru : RV G.h₀ N ja u v) {σ : St} (h : (match (some (v, σ) : Option (V × St)) with | none => none | some (.none, σ₁) => some (V.bool p, σ₁) | some (_, σ₁) => some (.bool (!p), σ₁)) = some r) :
    r = (.bool (if p then (u == .none) else !(u == .none)), σ) ∧ plainIs u .none = true := by
  cases ru <;> cases h <;> cases p <;> exact ⟨rfl, rfl⟩

theorem bi_call {b : BI} {x : Sem Value} {rest : List (Bool × Sem Value)} {pos : Pos} {Q : Value → Shared → Prop} (hp : ((false, x) :: rest).any (·.1) = false)
    (h : wpAny (model prog w) A (spliced ((false, x) :: rest)) (fun us s₁ => wpAny (model prog w) A (call (biVal b) us) Q Er s₁) Er s) :
    wpAny (model prog w) A (callWith pos (biVal b) [] ((false, x) :: rest) []) Q Er s := by
  cases b
  · exact Calls.callWith_builtin hp (Calls.evalArgs_plain h)
  · exact Calls.callWith_builtin hp (Calls.evalArgs_plain h)
  · exact PyProof.Rows.callWith_type hp (Calls.evalArgs_plain h)
  · exact PyProof.Rows.callWith_type hp (Calls.evalArgs_plain h)
  · exact Calls.callWith_builtin hp (Calls.evalArgs_plain h)
  · exact PyProof.Rows.callWith_type hp (Calls.evalArgs_plain h)
  · exact PyProof.Rows.callWith_type hp (Calls.evalArgs_plain h)

include T0 in
theorem step_ev (S : SoundE Z T prog w G n) (FK : FnOk Z T G mg) (CK : SoundC Z T prog w G mg n) {e : E} {v : V} (q : (run T (n + 1)).ev e σ = some (v, σ')) {ex : Expr} (h : TrE Z c e ex) (V : EnvOk Z c env P ja) (a : AOk n A) (I : Inv Z G env.locals N P ja σ s) :
    wpAny (model prog w) A (eval ex env) (Res Z G env.locals N P ja v σ') Er s := by
  replace q : evStep T (run T n) e σ = some (v, σ') := q
  induction h using TrE.casesOn with
  | raw => cases q
  | none => cases q; exact wpAny_Constant_none (Res.mk .none I)
  | bool => cases q; exact wpAny_Constant_bool (Res.mk (.bool _) I)
  | int => cases q; exact wpAny_Constant_int (Res.mk (.int _ _) (I.tok _))
  | @str _ i => cases q; exact wpAny_Constant_str (Res.mk (str_rv (T0.lit i)) (I.tok _))
  | @loc _ x p hx =>
    obtain ⟨m, O, J, C⟩ := I.core
    obtain ⟨u, N', O', em, hs, r, C'⟩ := C.read (V.ls x hx).1 q
    exact wpAny_Name (wpAny_loadName_local V.kind (V.ls x hx).2 C.fr.ns em ⟨N', hs, r, I.at (tk := s.toks) C'⟩) (T0.nd x)
  | @cel _ p hc =>
    cases q
    obtain ⟨cA, o, ad, x1, x2, x3, x4, x5⟩ := V.cel hc
    obtain ⟨m, O, J, C⟩ := I.core
    exact wpAny_Name (wpAny_loadName_cell V.kind x1 x2 ⟨o, C.P_get x3, x4⟩ (Res.mk (.jar x5) I)) (T0.nd _)
  | @glob _ g p hg =>
    dsimp only [evStep] at q
    cases h1 : T.gval g with
    | none => rw [h1] at q; cases q
    | some v' =>
      rw [h1] at q
      cases q
      obtain ⟨u, hu, r⟩ := T0.gv g v h1
      exact glob_name T0 V I hg hu (Res.mk (r _ _) I)
  | bin ha hb =>
    dsimp only [evStep] at q
    split at q
    · cases q
    rename_i u₁ σ₁ q1
    split at q
    · cases q
    rename_i u₂ σ₂ q2
    split at q
    · cases q
    rename_i r q3
    cases q
    exact wpAny_BinOp (wpAny_mono (S.ev q1 ha V a I) (fun x s₁ ⟨N₁, hs₁, r₁, I₁⟩ => wpAny_mono (S.ev q2 hb V a I₁) (fun y s₂ ⟨N₂, hs₂, r₂, I₂⟩ =>
      wpAny_mono (bin_sound q3 (r₁.mono hs₂) r₂ I₂) (fun _ _ r => (r.trans hs₂).trans hs₁) fun _ _ x => x) fun _ _ x => x) fun _ _ x => x)
  | neg =>
    cases q
    exact wpAny_UnaryOp (wpAny_Constant_int (PyProof.Rows.neg_int (Res.mk (.int _ _) ((I.tok _).tok _))))
  | cmp ha hb hm =>
    dsimp only [evStep] at q
    split at q
    · cases q
    rename_i u₁ σ₁ q1
    split at q
    · cases q
    rename_i u₂ σ₂ q2
    split at q
    · cases q
    rename_i r q3
    cases q
    exact wpAny_Compare1 (wpAny_mono (S.ev q1 ha V a I) (fun x s₁ ⟨N₁, hs₁, r₁, I₁⟩ => wpAny_mono (S.ev q2 hb V a I₁) (fun y s₂ ⟨N₂, hs₂, r₂, I₂⟩ =>
      wpAny_mono (cmp_sound q3 (r₁.mono hs₂) r₂ I₂ a.room) (fun u s₃ ⟨e, I₃⟩ => by subst e; exact ⟨N₂, fun p hp => hs₂ p (hs₁ p hp), .bool _, I₃⟩) fun _ _ x => x) fun _ _ x => x) fun _ _ x => x) hm
  | isN ha =>
    dsimp only [evStep] at q
    cases h1 : (run T n).ev _ σ with
    | none => rw [h1] at q; cases q
    | some p =>
      obtain ⟨v₁, σ₁⟩ := p
      rw [h1] at q
      refine wpAny_Compare1 (wpAny_mono (S.ev h1 ha V a I) (fun x s₁ ⟨N₁, hs₁, r₁, I₁⟩ => wpAny_Constant_none ?_) fun _ _ x => x) (by with_unfolding_all rfl)
      obtain ⟨e, hp⟩ := none_is r₁ q
      cases e
      exact wpAny_is_plain hp ⟨N₁, hs₁, .bool _, I₁⟩
  | isNN ha =>
    dsimp only [evStep] at q
    cases h1 : (run T n).ev _ σ with
    | none => rw [h1] at q; cases q
    | some p =>
      obtain ⟨v₁, σ₁⟩ := p
      rw [h1] at q
      refine wpAny_Compare1 (wpAny_mono (S.ev h1 ha V a I) (fun x s₁ ⟨N₁, hs₁, r₁, I₁⟩ => wpAny_Constant_none ?_) fun _ _ x => x) (by with_unfolding_all rfl)
      obtain ⟨e, hp⟩ := none_is r₁ q
      cases e
      exact wpAny_isNot_plain hp ⟨N₁, hs₁, .bool _, I₁⟩
  | and he => exact and_ev S q he V a I
  | or he => exact or_ev S q he V a I
  | not ha =>
    dsimp only [evStep] at q
    split at q
    · rename_i b σ₁ hb
      cases q
      refine wpAny_UnaryOp (wpAny_mono (S.ev hb ha V a I) (fun x s₁ ⟨N₁, hs₁, r₁, I₁⟩ => ?_) fun _ _ x => x)
      cases r₁
      exact not_value (wpAny_truthy_bool ⟨N₁, hs₁, .bool _, I₁⟩)
    · cases q
  | ite ht ha hb =>
    dsimp only [evStep] at q
    split at q
    · rename_i σ₁ hb'
      refine wpAny_IfExp (wpAny_mono (S.tst hb' ht V a I) (fun x s₁ ⟨e₁, N₁, hs₁, I₁⟩ => ?_) fun _ _ x => x)
      subst e₁
      rw [if_pos rfl]
      exact wpAny_mono (S.ev q ha V a I₁) (fun _ _ r => r.trans hs₁) fun _ _ x => x
    · rename_i σ₁ hb'
      refine wpAny_IfExp (wpAny_mono (S.tst hb' ht V a I) (fun x s₁ ⟨e₁, N₁, hs₁, I₁⟩ => ?_) fun _ _ x => x)
      subst e₁
      rw [if_neg (by decide)]
      exact wpAny_mono (S.ev q hb V a I₁) (fun _ _ r => r.trans hs₁) fun _ _ x => x
    · cases q
  | sub ha hi hsub =>
    dsimp only [evStep] at q
    split at q
    · cases q
    rename_i u₁ σ₁ q1
    split at q
    · cases q
    rename_i u₂ σ₂ q2
    split at q
    · cases q
    rename_i r q3
    cases q
    exact Subscript_ (wpAny_mono (S.ev q1 ha V a I) (fun x s₁ ⟨N₁, hs₁, r₁, I₁⟩ => wpAny_mono (S.ev q2 hi V a I₁) (fun y s₂ ⟨N₂, hs₂, r₂, I₂⟩ =>
      wpAny_mono (sub_sound q3 (r₁.mono hs₂) r₂ I₂ hsub) (fun _ _ r => (r.trans hs₂).trans hs₁) fun _ _ x => x) fun _ _ x => x) fun _ _ x => x)
  | lev hg hi hsub =>
    dsimp only [evStep] at q
    split at q
    · rename_i l σ₁ hb
      cases h1 : T.lev l with
      | none => rw [h1] at q; cases q
      | some i =>
        rw [h1] at q
        cases q
        obtain ⟨d, hd, hl⟩ := T0.lev
        refine Subscript_ (glob_name T0 V I hg hd (wpAny_mono (S.ev hb hi V a I) (fun x s₁ ⟨N₁, hs₁, r₁, I₁⟩ => ?_) fun _ _ x => x))
        obtain ⟨m, O, J, C⟩ := I₁.core
        generalize hl' : Mine.V.str l = vv at r₁
        cases r₁ <;> cases hl'
        exact hl _ i h1 _ _ rfl A s₁ _ _ _ _ C.fr.keep hsub fun t' tk => ⟨N₁, hs₁, .int _ _, I₁.tok tk⟩
    · cases q
  | @tup _ es xs k p he =>
    dsimp only [evStep] at q
    split at q
    · rename_i vs σ₁ hf hv
      cases q
      refine Tuple_ (wpAny_mono (evs_sound S hv he V a I) (fun us s₁ ⟨N₁, hs₁, r₁, I₁⟩ => ?_) fun _ _ x => x)
      obtain ⟨m, O, J, C⟩ := I₁.core
      have := fits_le hf
      have hl := evs_length hv
      exact wpAny_newObj_type ⟨_, fun p hp => .tail _ (hs₁ p hp), .tup (.inl (.head _)) rfl rfl (r₁.mono mono_cons), I₁.at (tk := s₁.toks) (C.push (tupO us))⟩ (by show us.toArray.size ≤ sizeLine; rw [List.size_toArray, r₁.length, sizeLine_eq]; omega)
    · cases q
  | @lst _ es xs p he =>
    dsimp only [evStep] at q
    split at q
    · rename_i vs σ₁ hf hv
      cases q
      refine List_ (wpAny_mono (evs_sound S hv he V a I) (fun us s₁ ⟨N₁, hs₁, r₁, I₁⟩ => ?_) fun _ _ x => x)
      obtain ⟨m, O, J, C⟩ := I₁.core
      have := fits_le hf
      have hl := evs_length hv
      exact wpAny_newObj_type ⟨_, fun p hp => .tail _ (hs₁ p hp), .lst (.inl (.head _)) rfl rfl (r₁.mono mono_cons), I₁.at (tk := s₁.toks) (C.push (lstO us 0))⟩ (by show us.toArray.size ≤ sizeLine; rw [List.size_toArray, r₁.length, sizeLine_eq]; omega)
    · cases q
  | comp hk hIt hT hE hc =>
    dsimp only [evStep] at q
    split at q
    · rename_i ys σ₁ hv
      cases q
      exact comp_value T0 S hv hk hIt hT hE hc V a I
    · cases q
  | @call _ f es xs p qp hg he hne =>
    dsimp only [evStep] at q
    split at q
    · cases q
    rename_i vs σ₁ q1
    split at q
    · cases q
    rename_i r j q2
    cases q
    obtain ⟨d, hd⟩ := call_def q2
    obtain ⟨fa, o, fd, hm, ho, hfd⟩ := FK f d hd
    refine Call_Name rfl (glob_name T0 V I hg hm (Calls.callWith_function (o := o) (fd := fd) ?_))
    have hev := evs_sound S q1 he V a I (pos := qp) (Er := Er)
    cases he with
    | nil => exact absurd rfl hne
    | cons g1 g2 g3 =>
      rw [g2] at hev ⊢
      refine Calls.evalArgs_plain (wpAny_mono hev (fun us s₁ ⟨N₁, hs₁, r₁, I₁⟩ => ?_) fun _ _ x => x)
      obtain ⟨m, O, J, C⟩ := I₁.core
      exact ⟨⟨C.fr.keep _ _ ho, hfd⟩, wpAny_mono (CK q2 hm a I₁ rfl r₁) (fun _ _ r => r.trans hs₁) fun _ _ x => x⟩
  | @bi _ b es xs g p qp hg hn hb he hne =>
    dsimp only [evStep] at q
    split at q
    · cases q
    rename_i vs σ₁ q1
    split at q
    · cases q
    rename_i r q2
    cases q
    have hmem : biName b ∈ ["len", "max", "tuple", "list", "isinstance", "str", "int", "range", "enumerate", "bool"] := by cases b <;> decide
    refine Call_Name rfl (bi_name T0 V I hg hn hmem (boot_bi b) ?_)
    have hev := evs_sound S q1 he V a I (pos := qp) (Er := Er)
    have hany := backTo_any (pos := qp) he env
    cases he with
    | nil => exact absurd rfl hne
    | cons g1 g2 g3 =>
      rw [g2] at hev hany ⊢
      exact bi_call hany (wpAny_mono hev (fun us s₁ ⟨N₁, hs₁, r₁, I₁⟩ => wpAny_mono (bi_sound q2 hb r₁ I₁ a.hd) (fun _ _ r => Res.trans hs₁ r) fun _ _ x => x) fun _ _ x => x)
  | @isBool _ x xa g g' p p' qp hg hn hg' hn' ha =>
    dsimp only [evStep] at q
    split at q
    · cases q
    rename_i vs σ₁ q1
    split at q
    · cases q
    rename_i r q2
    cases q
    unfold evs at q1
    split at q1
    · cases q1
    rename_i v₁ σ₂ q3
    cases q1
    refine Call_Name rfl (bi_name T0 V I hg hn (by decide) (boot_bi .isBool) ?_)
    have hst : ∀ ys, starEach (xa :: ys) env = (false, eval xa env) :: starEach ys env := fun ys => star_of ha (ev_ne_raw q3) ys env
    rw [hst]
    refine Calls.callWith_builtin rfl (Calls.evalArgs_plain (Calls.spliced_cons (wpAny_mono (S.ev q3 ha V a I) (fun u s₁ ⟨N₁, hs₁, r₁, I₁⟩ => Calls.spliced_cons ?_) fun _ _ x => x)))
    refine bi_name T0 V I₁ hg' hn' (by decide) boot_bool (Calls.spliced_nil ?_)
    exact wpAny_mono (isBool_sound q2 r₁ I₁) (fun _ _ r => r.trans hs₁) fun _ _ x => x
  | @join _ i x xa k p ap qp hl ha =>
    dsimp only [evStep] at q
    cases n with
    | zero => cases q
    | succ n =>
      have e1 : (run T (n + 1)).ev (.str i) σ = some (.str (T.lit i), σ) := rfl
      rw [e1] at q
      dsimp only at q
      split at q
      · cases q
      rename_i v₁ σ₂ q3
      split at q
      · cases q
      rename_i r q4
      cases q
      have hst : starEach [xa] env = [(false, eval xa env)] := star_of ha (ev_ne_raw q3) [] env
      refine MethodCall1 hl rfl hst (wpAny_Constant_str fun pl => GM.join ?_)
      rw [hst]
      refine Calls.callWith_builtin rfl (Calls.evalArgs_plain (Calls.spliced_cons (wpAny_mono (S.ev q3 ha V a (I.tok _)) (fun u s₁ ⟨N₁, hs₁, r₁, I₁⟩ => Calls.spliced_nil ?_) fun _ _ x => x)))
      exact wpAny_mono (join_sound (by rw [T0.lit i]; exact q4) r₁ I₁) (fun _ _ r => r.trans hs₁) fun _ _ x => x
  | @split _ x i k p r ap qp hl hx =>
    dsimp only [evStep] at q
    cases n with
    | zero => cases q
    | succ n =>
      split at q
      · rename_i l σ₁ hb
        have e1 : (run T (n + 1)).ev (.str i) σ₁ = some (.str (T.lit i), σ₁) := rfl
        rw [e1] at q
        split at q
        · rename_i cc σ₂ hb2
          split at q
          · rename_i hf
            simp only [Option.some.injEq, Prod.mk.injEq, Mine.V.str.injEq] at hb2
            obtain ⟨hcc, rfl⟩ := hb2
            cases q
            obtain ⟨m, O, J, C⟩ := I.core
            obtain ⟨u, N', O', em, hs, ru, C'⟩ := C.read (V.ls x hx).1 hb
            refine MethodCall1 hl rfl rfl (wpAny_Name (wpAny_loadName_local V.kind (V.ls x hx).2 C.fr.ns em ?_) (T0.nd x))
            generalize hl' : Mine.V.str l = vv at ru
            cases ru <;> cases hl'
            have I₁ := I.at (tk := s.toks) C'
            refine fun pl => GM.split ?_
            refine Calls.callWith_builtin rfl (Calls.evalArgs_plain (Calls.spliced_cons (wpAny_Constant_str (k := k) (pos := r) (Calls.spliced_nil ?_))))
            exact wpAny_mono (split_sound (by rw [T0.lit i]; exact hcc.symm ▸ rfl) hf (I₁.tok _)) (fun _ _ r => r.trans hs) fun _ _ x => x
          · cases q
        · cases q
      · cases q
end
end Mine

end DKpart

section DLpart
open PySem PySem.W PyProof.Rows
namespace Mine

section
variable {Z : Nms} {T : Tab} {prog : Program} {w : World} {G : Gl} {mg mb : Str → Option Value} {A : Around} {Er : Value → Shared → Prop} {s : Shared} {env : Env} {c : Cx} {P N : Led} {ja : Pin} {σ σ' : St} {n : Nat}
  (T0 : Top0 Z T prog w G mg mb)

theorem tst_plain {ex : Expr} {b : Bool} (h : wpAny (model prog w) A (eval ex env) (Res Z G env.locals N P ja (.bool b) σ') Er s)
    (he : isTrue ex env (eval ex env) = (do let v ← eval ex env; standAt ex.pos; holding [v] (truthy v))) : wpAny (model prog w) A (isTrue ex env (eval ex env)) (TRes Z G env.locals N P ja b σ') Er s := by
  refine isTrue_plain (wpAny_mono h (fun u s₁ ⟨N₁, hs₁, r₁, I₁⟩ => ?_) fun _ _ x => x) he
  cases r₁
  exact wpAny_truthy_bool ⟨rfl, N₁, hs₁, I₁⟩

include T0 in
theorem step_tst (S : SoundE Z T prog w G n) (FK : FnOk Z T G mg) (CK : SoundC Z T prog w G mg n) {e : E} {b : Bool} (q : (run T (n + 1)).ev e σ = some (.bool b, σ')) {ex : Expr} (h : TrE Z c e ex) (V : EnvOk Z c env P ja) (a : AOk n A) (I : Inv Z G env.locals N P ja σ s) :
    wpAny (model prog w) A (isTrue ex env (eval ex env)) (TRes Z G env.locals N P ja b σ') Er s := by
  have hv : ∀ {Er}, wpAny (model prog w) A (eval ex env) (Res Z G env.locals N P ja (.bool b) σ') Er s := step_ev T0 S FK CK q h V a I
  replace q : evStep T (run T n) e σ = some (.bool b, σ') := q
  induction h using TrE.casesOn with
  | cmp ha hb hm =>
    dsimp only [evStep] at q
    split at q
    · cases q
    rename_i u₁ σ₁ q1
    split at q
    · cases q
    rename_i u₂ σ₂ q2
    split at q
    · cases q
    rename_i r q3
    cases q
    exact wpAny_isTrue_Compare1 (wpAny_mono (S.ev q1 ha V a I) (fun x s₁ ⟨N₁, hs₁, r₁, I₁⟩ => wpAny_mono (S.ev q2 hb V a I₁) (fun y s₂ ⟨N₂, hs₂, r₂, I₂⟩ =>
      wpAny_mono (cmp_sound q3 (r₁.mono hs₂) r₂ I₂ a.room) (fun u s₃ ⟨e, I₃⟩ => by subst e; exact wpAny_truthy_bool ⟨rfl, N₂, fun p hp => hs₂ p (hs₁ p hp), I₃⟩) fun _ _ x => x) fun _ _ x => x) fun _ _ x => x) hm
  | isN ha =>
    dsimp only [evStep] at q
    cases h1 : (run T n).ev _ σ with
    | none => rw [h1] at q; cases q
    | some p =>
      obtain ⟨v₁, σ₁⟩ := p
      rw [h1] at q
      refine wpAny_isTrue_Compare1 (wpAny_mono (S.ev h1 ha V a I) (fun x s₁ ⟨N₁, hs₁, r₁, I₁⟩ => wpAny_Constant_none ?_) fun _ _ x => x) (by with_unfolding_all rfl)
      obtain ⟨e, hp⟩ := none_is r₁ q
      cases e
      exact wpAny_is_plain hp (wpAny_truthy_bool ⟨rfl, N₁, hs₁, I₁⟩)
  | isNN ha =>
    dsimp only [evStep] at q
    cases h1 : (run T n).ev _ σ with
    | none => rw [h1] at q; cases q
    | some p =>
      obtain ⟨v₁, σ₁⟩ := p
      rw [h1] at q
      refine wpAny_isTrue_Compare1 (wpAny_mono (S.ev h1 ha V a I) (fun x s₁ ⟨N₁, hs₁, r₁, I₁⟩ => wpAny_Constant_none ?_) fun _ _ x => x) (by with_unfolding_all rfl)
      obtain ⟨e, hp⟩ := none_is r₁ q
      cases e
      exact wpAny_isNot_plain hp (wpAny_truthy_bool ⟨rfl, N₁, hs₁, I₁⟩)
  | and he => exact wpAny_isTrue_BoolOp (and_tst S q he V a I)
  | or he => exact wpAny_isTrue_BoolOp (or_tst S q he V a I)
  | not ha =>
    dsimp only [evStep] at q
    split at q
    · rename_i b' σ₁ hb
      cases q
      refine wpAny_isTrue_Not (wpAny_mono (S.tst hb ha V a I) (fun x s₁ ⟨e₁, N₁, hs₁, I₁⟩ => ?_) fun _ _ x => x)
      subst e₁
      exact ⟨rfl, N₁, hs₁, I₁⟩
    · cases q
  | ite ht ha hb =>
    dsimp only [evStep] at q
    split at q
    · rename_i σ₁ hb'
      refine isTrue_IfExp (wpAny_mono (S.tst hb' ht V a I) (fun x s₁ ⟨e₁, N₁, hs₁, I₁⟩ => ?_) fun _ _ x => x)
      subst e₁
      rw [if_pos rfl]
      exact wpAny_mono (S.tst q ha V a I₁) (fun _ _ ⟨e, N₂, hs₂, I₂⟩ => ⟨e, N₂, fun p hp => hs₂ p (hs₁ p hp), I₂⟩) fun _ _ x => x
    · rename_i σ₁ hb'
      refine isTrue_IfExp (wpAny_mono (S.tst hb' ht V a I) (fun x s₁ ⟨e₁, N₁, hs₁, I₁⟩ => ?_) fun _ _ x => x)
      subst e₁
      rw [if_neg (by decide)]
      exact wpAny_mono (S.tst q hb V a I₁) (fun _ _ ⟨e, N₂, hs₂, I₂⟩ => ⟨e, N₂, fun p hp => hs₂ p (hs₁ p hp), I₂⟩) fun _ _ x => x
    · cases q
  | raw => cases q
  | none => exact tst_plain hv rfl
  | bool => exact tst_plain hv rfl
  | int => exact tst_plain hv rfl
  | str => exact tst_plain hv rfl
  | loc => exact tst_plain hv rfl
  | cel => exact tst_plain hv rfl
  | glob => exact tst_plain hv rfl
  | bin => exact tst_plain hv rfl
  | neg => exact tst_plain hv rfl
  | sub => exact tst_plain hv rfl
  | lev => exact tst_plain hv rfl
  | tup => exact tst_plain hv rfl
  | lst => exact tst_plain hv rfl
  | comp => exact tst_plain hv rfl
  | call => exact tst_plain hv rfl
  | bi => exact tst_plain hv rfl
  | isBool => exact tst_plain hv rfl
  | join => exact tst_plain hv rfl
  | split => exact tst_plain hv rfl

include T0 in
theorem step_E (S : SoundE Z T prog w G n) (FK : FnOk Z T G mg) (CK : SoundC Z T prog w G mg n) : SoundE Z T prog w G (n + 1) :=
  ⟨fun q _ _ _ _ _ _ _ _ _ h V a I => step_ev T0 S FK CK q h V (a.le (Nat.le_succ _)) I, fun q _ _ _ _ _ _ _ _ _ h V a I => step_tst T0 S FK CK q h V (a.le (Nat.le_succ _)) I⟩
theorem zero_E : SoundE Z T prog w G 0 := { ev := fun q => (by cases q), tst := fun q => (by cases q) }
theorem zero_C : SoundC Z T prog w G mg 0 := fun q => by cases q
theorem zero_S : SoundS Z T prog w G 0 := fun q => by cases q
end
end Mine

end DLpart

section DMpart
open PySem PySem.W PyProof.Rows
namespace Mine

section
variable {Z : Nms} {T : Tab} {prog : Program} {w : World} {G : Gl} {mg mb : Str → Option Value} {A : Around} {Er : Value → Shared → Prop} {s : Shared} {env : Env} {c : Cx} {P N : Led} {ja : Pin} {σ σ' : St} {n : Nat}

theorem SRes.trans {L : Addr} {N N₁ : Led} {ja₁ : Pin} {fl : Fl} {σ : St} {f : Flow} {s : Shared} (hs : ∀ p ∈ N, p ∈ N₁) (hj : ja₁.j = ja.j) (h : SRes Z G L N₁ P ja₁ fl σ f s) : SRes Z G L N P ja fl σ f s := by
  obtain ⟨N₂, ja₂, h2, e2, hf, I⟩ := h
  refine ⟨N₂, ja₂, fun p hp => h2 p (hs p hp), e2.trans hj, ?_, I⟩
  cases fl with
  | next => exact hf
  | ret v => obtain ⟨u, e, r⟩ := hf; exact ⟨u, e, r.pin hj.symm⟩
theorem SRes.next {L : Addr} {σ : St} {s : Shared} (I : Inv Z G L N P ja σ s) : SRes Z G L N P ja .next σ .next s := ⟨N, ja, fun _ q => q, rfl, rfl, I⟩

theorem exs_sound (HS : SoundS Z T prog w G n) : ∀ {b : List S} {σ σ' : St} {fl : Fl}, exsL (run T n).ex b σ = some (fl, σ') → ∀ {c xb P ja A N s Er}, TrSs Z c b xb → EnvOk Z c env P ja → AOk n A → Inv Z G env.locals N P ja σ s →
    wpAny (model prog w) A (execs xb env) (SRes Z G env.locals N P ja fl σ') Er s := by
  intro b
  induction b with
  | nil =>
    intro σ σ' fl q c xb P ja A N s Er h V a I
    cases q
    cases h
    exact wpAny_execs_nil (SRes.next I)
  | cons st b ih =>
    intro σ σ' fl q c xb P ja A N s Er h V a I
    cases h with | cons h1 h2 =>
    unfold exsL at q
    refine wpAny_execs_cons ?_
    split at q
    · rename_i σ₁ q1
      refine wpAny_mono (HS q1 h1 V a I) (fun f s₁ ⟨N₁, ja₁, hs₁, e₁, hf, I₁⟩ => ?_) fun _ _ x => x
      subst hf
      exact wpAny_mono (ih q h2 (V.pin e₁) a I₁) (fun _ _ r => r.trans hs₁ e₁) fun _ _ x => x
    · rename_i v σ₁ q1
      cases q
      refine wpAny_mono (HS q1 h1 V a I) (fun f s₁ ⟨N₁, ja₁, hs₁, e₁, ⟨u, hf, r⟩, I₁⟩ => ?_) fun _ _ x => x
      subst hf
      exact ⟨N₁, ja₁, hs₁, e₁, ⟨u, rfl, r⟩, I₁⟩
    · cases q

theorem names_filter (V : EnvOk Z c env P ja) (line : Nat) : ∀ {xs ts}, TrNs Z c xs ts →
    (ts.filterMap fun | .Name id pos => if env.kindOf id == some .local && pos.line == line then some id else none | _ => none).length ≤ ts.length ∧
    ((ts.filterMap fun | .Name id pos => if env.kindOf id == some .local && pos.line == line then some id else none | _ => none).length = ts.length →
      (ts.filterMap fun | .Name id pos => if env.kindOf id == some .local && pos.line == line then some id else none | _ => none) = xs.map Z.nm)
  | [], _, h => by cases h; exact ⟨Nat.le_refl _, fun _ => rfl⟩
  | x :: xs, _, h => by
    cases h with | @cons _ _ _ es p a b =>
    obtain ⟨i1, i2⟩ := names_filter V line b
    rw [List.filterMap_cons]
    dsimp only
    cases hc : (env.kindOf (Z.nm x) == some .local && p.line == line) with
    | true =>
      simp only [if_true, List.length_cons, List.map_cons]
      exact ⟨by omega, fun q => by rw [i2 (by omega)]⟩
    | false =>
      simp only [Bool.false_eq_true, if_false, List.length_cons]
      exact ⟨by omega, fun q => by omega⟩

theorem swapped_cases (V : EnvOk Z c env P ja) {xs : List Nat} {ts vs : List Expr} (h : TrNs Z c xs ts) (k : Nat) (p : Pos) (k' : Nat) (q : Pos) (hv : (vs.all (foldedForSure 8) || !vs.all (constantsAlone 8)) = true) :
    swappedStores [.Tuple ts k p] (.Tuple vs k' q) env = pure none ∨ swappedStores [.Tuple ts k p] (.Tuple vs k' q) env = pure (some (xs.map Z.nm)) := by
  obtain ⟨_, h2⟩ := names_filter V ((ts.head?.map (·.pos.line)).getD 0) h
  unfold swappedStores
  dsimp only
  split
  · exact .inl rfl
  split
  · exact .inl rfl
  split
  · exact .inl rfl
  rename_i hx
  split
  · exact .inl rfl
  rename_i hf
  split
  · rename_i hc
    rw [hc] at hv
    simp only [Bool.not_true, Bool.or_false] at hv
    exact absurd hv hf
  · refine .inr ?_
    have e : (ts.filterMap fun | .Name id pos => if env.kindOf id == some .local && pos.line == (ts.head?.map (·.pos.line)).getD 0 then some id else none | _ => none) = xs.map Z.nm := h2 (by
      simp only [Bool.or_eq_true, not_or, bne_iff_ne, ne_eq, Decidable.not_not] at hx
      exact hx.1)
    exact congrArg (fun z => (pure (some z) : Sem (Option (List Str)))) e
end
end Mine

end DMpart

section DNpart
open PySem PySem.W PyProof.Rows
namespace Mine

section
variable {Z : Nms} {T : Tab} {prog : Program} {w : World} {G : Gl} {mg mb : Str → Option Value} {A : Around} {Er : Value → Shared → Prop} {s : Shared} {env : Env} {c : Cx} {P N : Led} {ja : Pin} {σ σ' : St} {n : Nat}

theorem EnvOk.block (V : EnvOk Z c env P ja) : env.blockKind = .function := by
  unfold Env.blockKind
  rw [V.kind]; rfl
theorem EnvOk.quiet (V : EnvOk Z c env P ja) : interactive env = false := by
  unfold interactive
  rw [V.kind]; rfl

/-- `x = [..]`, an own list begins -/
theorem own_sound {x : Nat} {p q r : Pos} (hx : c.ls.elem x = true) (V : EnvOk Z c env P ja) (I : Inv Z G env.locals N P ja σ s) (e : σ.setOwn x [] = some σ') :
    wpAny (model prog w) A (exec (.Assign [.Name (Z.nm x) p] (.List [] q) r) env) (SRes Z G env.locals N P ja .next σ') Er s := by
  refine wpAny_Assign_Name (List_ (Calls.spliced_nil (wpAny_newObj_type ?_))) rfl
  obtain ⟨m, O, J, C⟩ := I.core
  have C₁ := C.keeps (h' := s.heap.push (lstO [] 0)) fun _ _ e => Heap.get?_push_of_some _ e
  refine wpAny_storeName_local (V.ls x hx).2 C₁.fr.ns (fun h' hn' hs' => ?_) V.noClass
  obtain ⟨O', C₂⟩ := C.begin (h₁ := s.heap.push (lstO [] 0)) (n := 0) (V.ls x hx).1 e .nil (fun _ _ e => Heap.get?_push_of_some _ e) (Heap.get?_push_size _ rfl) (get_fresh _) hn' hs'
  exact ⟨N, ⟨ja.j, s.heap.objs.size⟩, fun _ q => q, rfl, rfl, I.at (tk := s.toks + 1) C₂⟩

theorem swaps_comp {x : Nat} {xe xt xi : Expr} {sc : Scope} {p q : Pos} {l : Nat} (V : EnvOk Z c env P ja) (hx : c.ls.elem x = true) (hl : p.line = q.line) (hn : (sc.names.any fun (n, k) => n == Z.nm x && (k == .local || k == .cell)) = false) :
    swapsWith (.ListComp xe [⟨xt, xi, [], 0⟩] sc q) (some (.Name (Z.nm x) p)) l env = pure true := by
  have e : swapsWith (.ListComp xe [⟨xt, xi, [], 0⟩] sc q) (some (.Name (Z.nm x) p)) l env =
      pure (env.blockKind == .function && env.kindOf (Z.nm x) == some .local && p.line == q.line && !(sc.names.any fun (n, k) => n == Z.nm x && (k == .local || k == .cell))) := rfl
  rw [e, V.block, (V.ls x hx).2, hl, hn]
  simp

theorem ownC_sound (T0 : Top0 Z T prog w G mg mb) (S : SoundE Z T prog w G n) {elt : E} {t : Tgt} {k : ItK} {it : E} {c' : Cx} {ys : List V} {σ₁ : St} (q : compV (run T n) elt t k it σ = some (ys, σ₁)) {xe xt xi : Expr} {sc : Scope} {p pq r : Pos} (hk : EnumTup k t)
    (hIt : TrIt Z c k it xi) (hT : TrT Z c' t xt) (hE : TrE Z c' elt xe) (hc : CompOk Z c c' sc) (V : EnvOk Z c env P ja) (a : AOk n A) (I : Inv Z G env.locals N P ja σ s) {x : Nat} (hx : c.ls.elem x = true) (qo : σ₁.setOwn x ys = some σ')
    (hl : p.line = pq.line) (hn : (sc.names.any fun (n, k) => n == Z.nm x && (k == .local || k == .cell)) = false) :
    wpAny (model prog w) A (exec (.Assign [.Name (Z.nm x) p] (.ListComp xe [⟨xt, xi, [], 0⟩] sc pq) r) env) (SRes Z G env.locals N P ja .next σ') Er s := by
  rw [exec_Assign_Name_used _ _ _ _ (swaps_comp V hx hl hn)]
  refine wpAny_bind (wpAny_standAt (wpAny_bind ?_))
  show wpAny _ A (do let _ ← comprehension (.ListComp xe [⟨xt, xi, [], 0⟩] sc pq) sc env _ (newList []) false (eval xi env) (some (assign (.Name (Z.nm x) p) env))) _ _ s
  refine wpAny_bind (wpAny_mono (comp_named T0 S q hk hIt hT hE hc V a I hx qo) (fun _ s' ⟨N', D, hs, I'⟩ => wpAny_pure (wpAny_pure ?_)) fun _ _ x => x)
  exact ⟨N', ⟨ja.j, D⟩, hs, rfl, rfl, I'⟩

theorem evs_value (S : SoundE Z T prog w G n) {es : List E} {vs : List V} (q : evs (run T n).ev es σ = some (vs, σ')) {xs : List Expr} {k : Nat} {p : Pos} (h : TrEs Z c es xs) (V : EnvOk Z c env P ja) (a : AOk n A) (I : Inv Z G env.locals N P ja σ s) (hf : vs.length ≤ 1048576) :
    wpAny (model prog w) A (eval (.Tuple xs k p) env) (Res Z G env.locals N P ja (.tup vs) σ') Er s := by
  refine Tuple_ (wpAny_mono (evs_sound S q h V a I) (fun us s₁ ⟨N₁, hs₁, r₁, I₁⟩ => ?_) fun _ _ x => x)
  obtain ⟨m, O, J, C⟩ := I₁.core
  exact wpAny_newObj_type ⟨_, fun p hp => .tail _ (hs₁ p hp), .tup (.inl (.head _)) rfl rfl (r₁.mono mono_cons), I₁.at (tk := s₁.toks) (C.push (tupO us))⟩ (by show us.toArray.size ≤ sizeLine; rw [List.size_toArray, r₁.length, sizeLine_eq]; omega)

theorem nodup_rev {α : Type} {l : List α} (h : l.Nodup) : l.reverse.Nodup := by
  unfold List.Nodup at h ⊢
  rw [List.pairwise_reverse]
  exact h.imp Ne.symm

/-- names that take a tuple's items, last first -/
theorem swap_sound {xs : List Nat} {ts : List Expr} {u : Value} {vs : List V} (hN : TrNs Z c xs ts) (nd : xs.Nodup) (e : σ.setAll xs vs = some σ') (V : EnvOk Z c env P ja) (r : RV G.h₀ N ja u (.tup vs)) (I : Inv Z G env.locals N P ja σ s) (hh : A.handled = none) :
    wpAny (model prog w) A (unpackItems u (xs.map Z.nm).length none) (fun items s₂ => wpAny (model prog w) A (assignInOrder ((xs.map Z.nm).reverse.map fun n => bindName env n) items.reverse) (fun _ s' => Inv Z G env.locals N P ja σ' s') Er s₂) Er s := by
  have hlen := (setAll_spec e).1
  cases r with | @tup a₁ o₁ us₁ _ n₁ i₁ c₁ d₁ r₁ =>
  have ht : IsTup s.heap _ _ := isTup_of I i₁ c₁ d₁
  have hsz : (xs.map Z.nm).length = us₁.toArray.size := by rw [List.size_toArray, List.length_map, r₁.length]; exact hlen
  rw [hsz]
  refine unpackItems_tuple hh ht fun h₁ he₁ => ?_
  have I₁ : Inv Z G env.locals N P ja σ { s with heap := h₁ } := I.keeps s.toks fun b o e => he₁ b o (Nat.ne_of_lt (Heap.lt_size e)) e
  obtain ⟨m, O, J, C⟩ := I₁.core
  obtain ⟨hb, hl⟩ := V.names hN
  refine stores_wp V.kind (bindNames_stores env _) (fun n hn => hl n (List.mem_reverse.mp hn)) (by simp only [List.length_reverse, List.length_map]; rw [r₁.length]; exact hlen.symm) (nodup_rev (names_nodup hb nd)) C.fr.ns fun h₂ tk m₂ hn₂ hs₂ U => ?_
  obtain ⟨O', C'⟩ := C.stores hb nd e r₁ hn₂ hs₂ (U.rev (by rw [List.length_map, r₁.length]; exact hlen))
  exact I₁.at C'

theorem tasg_sound (S : SoundE Z T prog w G n) {xs : List Nat} {es : List E} {vs : List V} {σ₁ : St} (q : evs (run T n).ev es σ = some (vs, σ₁)) (e : σ₁.setAll xs vs = some σ') {ts vx : List Expr} {k k' : Nat} {p pq r : Pos} (hN : TrNs Z c xs ts) (hE : TrEs Z c es vx) (nd : xs.Nodup)
    (hv : (vx.all (foldedForSure 8) || !vx.all (constantsAlone 8)) = true) (hlen : vs.length ≤ 1048576) (V : EnvOk Z c env P ja) (a : AOk n A) (I : Inv Z G env.locals N P ja σ s) :
    wpAny (model prog w) A (exec (.Assign [.Tuple ts k p] (.Tuple vx k' pq) r) env) (SRes Z G env.locals N P ja .next σ') Er s := by
  rcases swapped_cases V hN k p k' pq hv with hw | hw
  · refine Assign_Tuple (wpAny_mono (evs_value S q hE V a I hlen) (fun u s₁ ⟨N₁, hs₁, r₁, I₁⟩ => ?_) fun _ _ x => x) rfl hw
    exact wpAny_mono (assign_sound (.tup hN nd) (show σ₁.bindT (.tup xs) (.tup vs) = some σ' from e) V r₁ I₁ a.hd) (fun _ s₂ I₂ => ⟨N₁, ja, hs₁, rfl, rfl, I₂⟩) fun _ _ x => x
  · refine Assign_Tuple_swapped (wpAny_mono (evs_value S q hE V a I hlen) (fun u s₁ ⟨N₁, hs₁, r₁, I₁⟩ => ?_) fun _ _ x => x) rfl hw
    exact wpAny_mono (swap_sound hN nd e V r₁ I₁ a.hd) (fun items s₂ h => wpAny_mono h (fun _ s₃ I₃ => ⟨N₁, ja, hs₁, rfl, rfl, I₃⟩) fun _ _ x => x) fun _ _ x => x

theorem unp_sound (S : SoundE Z T prog w G n) {xs : List Nat} {e : E} {vs : List V} {σ₁ : St} (q : (run T n).ev e σ = some (.tup vs, σ₁)) (qs : σ₁.setAll xs vs = some σ') {ts : List Expr} {xe : Expr} {k : Nat} {p pq : Pos} (hN : TrNs Z c xs ts) (nd : xs.Nodup) (hE : TrE Z c e xe)
    (h1 : ∀ vs k' q', xe ≠ .Tuple vs k' q') (h3 : ∀ env l, swapsWith xe (some (.Tuple ts k p)) l env = pure false) (V : EnvOk Z c env P ja) (a : AOk n A) (I : Inv Z G env.locals N P ja σ s) :
    wpAny (model prog w) A (exec (.Assign [.Tuple ts k p] xe pq) env) (SRes Z G env.locals N P ja .next σ') Er s := by
  refine Assign_Tuple (wpAny_mono (S.ev q hE V a I) (fun u s₁ ⟨N₁, hs₁, r₁, I₁⟩ => ?_) fun _ _ x => x) (h3 env pq.line) (by cases xe <;> first | rfl | exact absurd rfl (h1 _ _ _))
  exact wpAny_mono (assign_sound (.tup hN nd) (show σ₁.bindT (.tup xs) (.tup vs) = some σ' from qs) V r₁ I₁ a.hd) (fun _ s₂ I₂ => ⟨N₁, ja, hs₁, rfl, rfl, I₂⟩) fun _ _ x => x

/-- one item of the jar -/
theorem setJ_sound (T0 : Top0 Z T prog w G mg mb) (S : SoundE Z T prog w G n) {i v : Int} {e : E} {σ₁ σ₂ : St} (q : (run T n).ev e σ = some (.int v, σ₁)) (qg : σ₁.get Z.jar = some (.jar, σ₂)) {xe : Expr} {k : Nat} {p pq r sq : Pos} (hE : TrE Z c e xe)
    (hx : c.ls.elem Z.jar = true) (hsw : ∀ env l t, swapsWith xe (some t) l env = pure false) {j' : Int × Int} (hj : (i = 0 ∧ j' = (v, σ₂.j.2)) ∨ (i = 1 ∧ j' = (σ₂.j.1, v))) (V : EnvOk Z c env P ja) (a : AOk n A) (I : Inv Z G env.locals N P ja σ s) :
    wpAny (model prog w) A (exec (.Assign [.Subscript (.Name (Z.nm Z.jar) p) (.Constant (.int i) k pq) r] xe sq) env) (SRes Z G env.locals N P ja .next ⟨σ₂.ρ, σ₂.own, j'⟩) Er s := by
  rw [exec_Assign]
  refine wpAny_bind (wpAny_standAt ?_)
  have hsw' : swapsWithSole [.Subscript (.Name (Z.nm Z.jar) p) (.Constant (.int i) k pq) r] xe sq.line env = pure false := by
    unfold swapsWithSole
    exact hsw env sq.line _
  rw [hsw']
  refine wpAny_bind (wpAny_pure ?_)
  rw [if_neg (by decide)]
  refine wpAny_bind (wpAny_mono (S.ev q hE V a I) (fun u s₁ ⟨N₁, hs₁, r₁, I₁⟩ => ?_) fun _ _ x => x)
  rw [show swappedStores [.Subscript (.Name (Z.nm Z.jar) p) (.Constant (.int i) k pq) r] xe env = pure none from rfl]
  refine wpAny_bind (wpAny_pure ?_)
  show wpAny _ A (do assignAll u [assign (.Subscript (.Name (Z.nm Z.jar) p) (.Constant (.int i) k pq) r) env]; pure Flow.next) _ _ s₁
  refine wpAny_bind ?_
  show wpAny _ A (do
    let ov ← holding [u] (eval (.Name (Z.nm Z.jar) p) env)
    let iv ← holding [u, ov] (eval (.Constant (.int i) k pq) env)
    standAt r
    holding [u, ov, iv] (setItem ov iv u)
    release [u, ov, iv] []) _ _ s₁
  obtain ⟨m, O, J, C⟩ := I₁.core
  obtain ⟨y, N₂, O₂, em, hs₂, ry, C₂⟩ := C.read (V.ls _ hx).1 qg
  refine wpAny_bind (wpAny_holding (wpAny_Name (wpAny_loadName_local V.kind (V.ls _ hx).2 C.fr.ns em ?_) (T0.nd _)))
  refine wpAny_bind (wpAny_holding (wpAny_Constant_int ?_))
  refine wpAny_bind (wpAny_standAt (wpAny_bind (wpAny_holding ?_)))
  cases ry with | @jar ad hja =>
  cases r₁ with | int _ t =>
  have jr := C₂.jr
  unfold JarL at jr
  rw [hja] at jr
  obtain ⟨t₀, t₁, nn, eJ⟩ := jr
  have hJ : s₁.heap.get? ad = some (lstO [.int σ₂.j.1 t₀, .int σ₂.j.2 t₁] nn) := (C₂.nw (ad, _) (by rw [eJ]; simp)).1
  have hi : 0 ≤ i ∧ i < 2 := by rcases hj with ⟨h, _⟩ | ⟨h, _⟩ <;> omega
  refine ki_setAt (n := nn) (items := [Value.int σ₂.j.1 t₀, .int σ₂.j.2 t₁].toArray) hJ hi.1 (by omega) (by show i < (2 : Nat); omega) ?_
  refine PySem.wpAny_release (wpAny_pure ?_)
  have up := PySem.IsL.update (n := nn) hJ (·.setIfInBounds i.toNat (.int v t))
  have hsame : Heap.SameBut ad s₁.heap (s₁.heap.update ad (Obj.mapSeq (·.setIfInBounds i.toNat (.int v t)))) := Heap.SameBut.update ..
  rcases hj with ⟨rfl, rfl⟩ | ⟨rfl, rfl⟩
  · have C₃ := C₂.pour hja (j' := (v, σ₂.j.2)) (t₀ := t) (t₁ := t₁) up hsame
    exact ⟨N₂, ja, fun p hp => hs₂ p (hs₁ p hp), rfl, rfl, I₁.at (tk := s₁.toks + 1) C₃⟩
  · have C₃ := C₂.pour hja (j' := (σ₂.j.1, v)) (t₀ := t₀) (t₁ := t) up hsame
    exact ⟨N₂, ja, fun p hp => hs₂ p (hs₁ p hp), rfl, rfl, I₁.at (tk := s₁.toks + 1) C₃⟩

/-- an own list grows -/
theorem app_sound (T0 : Top0 Z T prog w G mg mb) (S : SoundE Z T prog w G n) {x : Nat} {e : E} {v : V} {vs₀ vs : List V} {σ₁ : St} (ho : σ.own = some (x, vs₀)) (q : (run T n).ev e σ = some (v, σ₁)) (ho₁ : σ₁.own = some (x, vs)) (hf : vs.length ≤ 1048576) {xe : Expr} {p ap pq r : Pos}
    (hl : ap.endLine = pq.line) (hx : c.ls.elem x = true) (hE : TrE Z c e xe) (V : EnvOk Z c env P ja) (a : AOk n A) (I : Inv Z G env.locals N P ja σ s) :
    wpAny (model prog w) A (exec (.Expr (.Call (.Attribute (.Name (Z.nm x) p) (Str.ofString "append") ap) [xe] [] pq) r) env) (SRes Z G env.locals N P ja .next ⟨σ₁.ρ, some (x, vs ++ [v]), σ₁.j⟩) Er s := by
  have hst : starEach [xe] env = [(false, eval xe env)] := star_of hE (ev_ne_raw q) [] env
  refine wpAny_Expr ?_ V.quiet rfl
  obtain ⟨m, O, J, C⟩ := I.core
  have ow := C.ow
  rw [ho] at ow
  obtain ⟨hb, ad, us, nn, eO, ⟨em, ea⟩, rs⟩ := ow
  have hO : s.heap.get? ad = some (lstO us nn) := (C.nw (ad, lstO us nn) (by rw [eO]; simp)).1
  refine MethodCall1 hl rfl hst (wpAny_Name (wpAny_loadName_local V.kind (V.ls x hx).2 C.fr.ns em fun pl => Calls.getMethod_list_append hO rfl rfl ?_) (T0.nd x))
  rw [hst]
  refine Calls.callWith_builtin rfl (Calls.evalArgs_plain (Calls.spliced_cons (wpAny_mono (S.ev q hE V a I) (fun u s₁ ⟨N₁, hs₁, r₁, I₁⟩ => Calls.spliced_nil ?_) fun _ _ x => x)))
  obtain ⟨ρ₁, own₁, j₁⟩ := σ₁
  simp only at ho₁
  subst ho₁
  obtain ⟨m₁, O₁, J₁, C₁⟩ := I₁.core
  obtain ⟨hb₁, ad₁, us₁, nn₁, eO₁, ⟨em₁, ea₁⟩, rs₁⟩ := id C₁.ow
  have : ad₁ = ad := ea₁.trans ea.symm
  subst this
  have hO₁ : s₁.heap.get? ad₁ = some (lstO us₁ nn₁) := (C₁.nw (ad₁, lstO us₁ nn₁) (by rw [eO₁]; simp)).1
  show wpAny (model prog w) A (call (.builtin "list.append") [.ref ad₁, u]) _ _ s₁
  refine wpAny_list_append_plain (items := us₁.toArray) ⟨nn₁, hO₁⟩ (fun h₂ ⟨n₂, hg₂⟩ hs₂ => ?_) (by rw [List.size_toArray, rs₁.length, sizeLine_eq]; omega)
  have e₅ : us₁.toArray.push u = (us₁ ++ [u]).toArray := by simp
  rw [e₅] at hg₂
  exact ⟨N₁, ja, hs₁, rfl, rfl, I₁.at (tk := s₁.toks) (C₁.grow eO₁ rs₁ r₁ hg₂ hs₂)⟩
end
end Mine

end DNpart

section DOpart
open PySem PySem.W PyProof.Rows
namespace Mine

section
variable {Z : Nms} {T : Tab} {prog : Program} {w : World} {G : Gl} {mg mb : Str → Option Value} {A : Around} {Er : Value → Shared → Prop} {s : Shared} {env : Env} {c : Cx} {P N : Led} {ja : Pin} {σ σ' : St} {n : Nat}

theorem evs_app (S : SoundE Z T prog w G n) : ∀ {es : List E} {σ σ' : St} {vs : List V}, evs (run T n).ev es σ = some (vs, σ') → ∀ {c xs ys env P ja A N s Er pos} {Q : List Value → Shared → Prop}, TrEs Z c es xs → EnvOk Z c env P ja → AOk n A → Inv Z G env.locals N P ja σ s →
    (∀ us s' N', (∀ p ∈ N, p ∈ N') → RVs G.h₀ N' ja us vs → Inv Z G env.locals N' P ja σ' s' → wpAny (model prog w) A (spliced (backTo pos (starEach ys env))) (fun ws s'' => Q (us ++ ws) s'') Er s') →
    wpAny (model prog w) A (spliced (backTo pos (starEach (xs ++ ys) env))) Q Er s := by
  intro es
  induction es with
  | nil =>
    intro σ σ' vs q c xs ys env P ja A N s Er pos Q h V a I K
    cases q
    cases h
    exact K [] s N (fun _ q => q) .nil I
  | cons e es ih =>
    intro σ σ' vs q c xs ys env P ja A N s Er pos Q h V a I K
    cases h with | @cons _ _ _ x xs h1 h2 h3 =>
    unfold evs at q
    split at q
    · cases q
    rename_i v σ₁ q1
    split at q
    · cases q
    rename_i vs' σ₂ q2
    cases q
    rw [List.cons_append, h2 _ env]
    show wpAny _ _ (spliced ((false, eval _ env) :: backTo pos (starEach _ env))) _ _ _
    refine Calls.spliced_cons (wpAny_mono (S.ev q1 h1 V a I) (fun u s₁ ⟨N₁, hs₁, r₁, I₁⟩ => ?_) fun _ _ x => x)
    exact ih q2 h3 V a I₁ fun us s' N' hs' rs I' => K (u :: us) s' N' (fun p hp => hs' p (hs₁ p hp)) (.cons (r₁.mono hs') rs) I'

theorem TrNs.append {xs ys : List Nat} {ts us : List Expr} (h : TrNs Z c xs ts) (h' : TrNs Z c ys us) : TrNs Z c (xs ++ ys) (ts ++ us) := by
  induction xs generalizing ts with
  | nil => cases h; exact h'
  | cons x xs ih => cases h with | cons a b => exact .cons a (ih b)

theorem zip_mid {α β : Type} {as : List α} {bs : List β} {a a' : α} {b b' : β} (hl : as.length = bs.length) : (∀ p ∈ (as ++ [a']).zip (bs ++ [b']), p ∈ (as ++ [a, a']).zip (bs ++ [b, b'])) ∧ (a, b) ∈ (as ++ [a, a']).zip (bs ++ [b, b']) := by
  rw [List.zip_append hl, List.zip_append hl]
  refine ⟨fun p hp => ?_, ?_⟩
  · rcases List.mem_append.mp hp with h | h
    · exact List.mem_append_left _ h
    · have : p = (a', b') := by simpa using h
      subst this
      exact List.mem_append_right _ (by simp)
  · exact List.mem_append_right _ (by simp)

theorem tasgO_sound (T0 : Top0 Z T prog w G mg mb) (S : SoundE Z T prog w G n) {pre : List (Nat × E)} {x y i : Nat} {vs : List V} {σ₁ σ₂ : St} (q : evs (run T n).ev (pre.map (·.2)) σ = some (vs, σ₁)) (qo : σ₁.setOwn x [] = some σ₂)
    (e : σ₂.setAll (pre.map (·.1) ++ [y]) (vs ++ [.str (T.lit i)]) = some σ') {ts vx : List Expr} {k k' kk : Nat} {p ps ps' pq pr pt r : Pos} (hN : TrNs Z c (pre.map (·.1)) ts) (hE : TrEs Z c (pre.map (·.2)) vx) (nd : (pre.map (·.1) ++ [x, y]).Nodup)
    (hx : c.ls.elem x = true) (hy : c.ls.elem y = true) (hlen : vs.length ≤ 1000000) (V : EnvOk Z c env P ja) (a : AOk n A) (I : Inv Z G env.locals N P ja σ s) :
    wpAny (model prog w) A (exec (.Assign [.Tuple (ts ++ [.Name (Z.nm x) ps, .Name (Z.nm y) ps']) k p] (.Tuple (vx ++ [.List [] pq, .Constant (.str (Z.lit i)) kk pr]) k' pt) r) env) (SRes Z G env.locals N P ja .next σ') Er s := by
  have hN' : TrNs Z c (pre.map (·.1) ++ [x, y]) (ts ++ [.Name (Z.nm x) ps, .Name (Z.nm y) ps']) := hN.append (.cons hx (.cons hy .nil))
  have hv : ((vx ++ [Expr.List [] pq, .Constant (.str (Z.lit i)) kk pr]).all (foldedForSure 8) || !(vx ++ [Expr.List [] pq, .Constant (.str (Z.lit i)) kk pr]).all (constantsAlone 8)) = true := by
    have : (vx ++ [Expr.List [] pq, .Constant (.str (Z.lit i)) kk pr]).all (constantsAlone 8) = false := by
      rw [List.all_append]
      show (_ && (false && _)) = false
      simp
    rw [this]; simp
  have hl0 : vs.length = pre.length := by rw [evs_length q, List.length_map]
  -- the tuple's own place is found in the evaluation: so the two orders are walked by hand
  obtain ⟨hb, hl⟩ := V.names hN'
  have fin : ∀ {E : Value → Shared → Prop} {F : Value → Shared → Prop} , (∀ (u D : Addr) (us : List Value) (tk : Tok) (N₁ : Led) (m : Str → Option Value) (s' : Shared), (∀ p ∈ N, p ∈ N₁) → us.length = vs.length → IsTup s'.heap u (us ++ [Value.ref D, .str (Z.lit i) tk]).toArray → s'.heap.Ns env.locals m →
      (∀ h₁, Heap.ExtBut s'.heap.objs.size s'.heap h₁ → ∀ h₂ tk' m₂, h₂.Ns env.locals m₂ → Heap.SameBut env.locals h₁ h₂ → Upd ((pre.map (·.1) ++ [x, y]).map Z.nm) (us ++ [Value.ref D, .str (Z.lit i) tk]) m m₂ → SRes Z G env.locals N P ja .next σ' .next { s' with heap := h₂, toks := tk' }) → F (.ref u) s') →
      wpAny (model prog w) A (eval (.Tuple (vx ++ [.List [] pq, .Constant (.str (Z.lit i)) kk pr]) k' pt) env) F E s := by
    intro E F K
    refine Tuple_ (evs_app S q hE V a I fun us s₁ N₁ hs₁ rs I₁ => ?_)
    show wpAny _ _ (spliced ((false, eval (.List [] pq) env) :: backTo pt (starEach [.Constant (.str (Z.lit i)) kk pr] env))) _ _ _
    refine Calls.spliced_cons (List_ (Calls.spliced_nil (wpAny_newObj_type ?_)))
    show wpAny _ _ (spliced ((false, eval (.Constant (.str (Z.lit i)) kk pr) env) :: [])) _ _ _
    refine Calls.spliced_cons (wpAny_Constant_str (k := kk) (pos := pr) (Calls.spliced_nil ?_))
    obtain ⟨m, O, J, C⟩ := I₁.core
    obtain ⟨C₁, hD⟩ := C.protects (I := [(s₁.heap.objs.size, lstO [] 0)]) (h' := s₁.heap.push (lstO [] 0)) (fun _ _ e => Heap.get?_push_of_some _ e) (fun p hp => by
      have : p = (s₁.heap.objs.size, lstO [] 0) := by simpa using hp
      subst this
      exact ⟨Heap.get?_push_size _ rfl, get_fresh _⟩)
    have hDP : ∀ p ∈ P, p.1 ≠ s₁.heap.objs.size := fun p hp e => hD p hp (by simp [e])
    have C₂ := C₁.keeps (h' := (s₁.heap.push (lstO [] 0)).push (tupO (us ++ [Value.ref s₁.heap.objs.size, .str (Z.lit i) s₁.toks]))) fun _ _ e => Heap.get?_push_of_some _ e
    refine wpAny_newObj_type ?_ (by show (us ++ _).toArray.size ≤ sizeLine; rw [List.size_toArray, List.length_append, rs.length, sizeLine_eq]; simp; omega)
    refine K _ s₁.heap.objs.size us s₁.toks N₁ m _ hs₁ rs.length ⟨_, Heap.get?_push_size _ rfl, rfl, 0, rfl⟩ C₂.fr.ns fun h₁ he₁ h₂ tk' m₂ hn₂ hsb₂ U => ?_
    have C₃ := C₂.keeps (h' := h₁) fun b o e => he₁ b o (Nat.ne_of_lt (Heap.lt_size e)) e
    have hpre : (pre.map (·.1)).length = us.length := by rw [List.length_map, rs.length]; exact hl0.symm
    have hmap : (pre.map (·.1) ++ [x, y]).map Z.nm = (pre.map (·.1)).map Z.nm ++ [Z.nm x, Z.nm y] := by simp
    have hmap' : (pre.map (·.1) ++ [y]).map Z.nm = (pre.map (·.1)).map Z.nm ++ [Z.nm y] := by simp
    have zm := zip_mid (as := (pre.map (·.1)).map Z.nm) (bs := us) (a := Z.nm x) (a' := Z.nm y) (b := Value.ref s₁.heap.objs.size) (b' := Value.str (Z.lit i) s₁.toks) (by rw [List.length_map]; exact hpre)
    rw [hmap] at U
    have nd' := List.nodup_append.mp nd
    obtain ⟨O', C₄⟩ := C₃.adopts (us := us ++ [Value.str (Z.lit i) s₁.toks]) (vs := vs ++ [.str (T.lit i)]) (ys := pre.map (·.1) ++ [y]) hDP (V.ls x hx).1 (fun z hz => by
        rcases List.mem_append.mp hz with hz | hz
        · exact (V.ls z (hN.ls z hz)).1
        · have : z = y := by simpa using hz
          subst this; exact (V.ls z hy).1) (by
        rw [List.nodup_append]
        refine ⟨nd'.1, by simp, fun a ha b hb => ?_⟩
        have : b = y := by simpa using hb
        subst this
        exact nd'.2.2 a ha b (by simp)) (fun hz => by
        rcases List.mem_append.mp hz with hz | hz
        · exact nd'.2.2 x hz x (by simp) rfl
        · have : x = y := by simpa using hz
          subst this
          simp at nd') qo e .nil (rs.append (.unit (str_rv (T0.lit i)))) hn₂ hsb₂ (by rw [hmap']; exact fun p hp => U.1 p (zm.1 p hp)) (U.1 _ zm.2) (fun z hz hzx => U.2 z fun h => by
        rw [hmap'] at hz
        rcases List.mem_append.mp h with h | h
        · exact hz (List.mem_append_left _ h)
        · have : z = Z.nm x ∨ z = Z.nm y := by simpa using h
          rcases this with h | h
          · exact hzx h
          · exact hz (List.mem_append_right _ (by simp [h])))
    exact ⟨N₁, ⟨ja.j, s₁.heap.objs.size⟩, hs₁, rfl, rfl, I₁.at (tk := tk') C₄⟩
  have hb' := hb
  rcases swapped_cases V hN' k p k' pt hv with hw | hw
  · refine Assign_Tuple (fin fun u D us tk N₁ m s₁ hs₁ hlu ht hn K => ?_) rfl hw
    rw [PyProof.Rows.assign_Tuple]
    refine wpAny_bind (wpAny_standAt ?_)
    unfold unpack
    rw [hN'.noStar, hN'.eachLength]
    have hsz : (pre.map (·.1) ++ [x, y]).length = (us ++ [Value.ref D, .str (Z.lit i) tk]).toArray.size := by rw [List.size_toArray, List.length_append, List.length_append, List.length_map, hlu, hl0]; rfl
    rw [hsz]
    refine wpAny_bind (wpAny_holding (unpackItems_tuple a.hd ht fun h₁ he₁ => ?_))
    exact stores_wp V.kind hN'.stores hl (by rw [List.length_map, hsz, List.size_toArray]) (names_nodup hb nd) (hn.at fun o e => he₁ _ o (Nat.ne_of_lt (Heap.lt_size e)) e) fun h₂ tk' m₂ hn₂ hs₂ U => K h₁ he₁ h₂ tk' m₂ hn₂ hs₂ U
  · refine Assign_Tuple_swapped (fin fun u D us tk N₁ m s₁ hs₁ hlu ht hn K => ?_) rfl hw
    have hsz : ((pre.map (·.1) ++ [x, y]).map Z.nm).length = (us ++ [Value.ref D, .str (Z.lit i) tk]).toArray.size := by rw [List.size_toArray, List.length_map, List.length_append, List.length_append, List.length_map, hlu, hl0]; rfl
    rw [hsz]
    refine unpackItems_tuple a.hd ht fun h₁ he₁ => ?_
    exact stores_wp V.kind (bindNames_stores env _) (fun n hn => hl n (List.mem_reverse.mp hn)) (by simp only [List.length_reverse]; rw [hsz, List.size_toArray]) (nodup_rev (names_nodup hb nd)) (hn.at fun o e => he₁ _ o (Nat.ne_of_lt (Heap.lt_size e)) e)
      fun h₂ tk' m₂ hn₂ hs₂ U => K h₁ he₁ h₂ tk' m₂ hn₂ hs₂ (U.rev (by rw [hsz, List.size_toArray]))
end
end Mine

end DOpart

section DPpart
open PySem PySem.W PyProof.Rows
namespace Mine

section
variable {Z : Nms} {T : Tab} {prog : Program} {w : World} {G : Gl} {mg mb : Str → Option Value} {A : Around} {Er : Value → Shared → Prop} {s : Shared} {env : Env} {c : Cx} {P N : Led} {ja : Pin} {σ σ' : St} {n : Nat}

theorem Inv.sub {L : Addr} (I : Inv Z G L N P ja σ s) {P' : Led} (h : ∀ p ∈ P', p ∈ P) : Inv Z G L N P' ja σ s := by
  obtain ⟨m, O, J, C⟩ := I.core
  exact I.at (tk := s.toks) (C.sub h)

theorem whl_sound (HE : ∀ k ≤ n, SoundE Z T prog w G k) (HS : ∀ k ≤ n, SoundS Z T prog w G k) {t : E} {b : List S} {fl : Fl} (q : (run T (n + 1)).ex (.whl t b) σ = some (fl, σ')) {xt : Expr} {xb : List Stmt} {p : Pos} (hT : TrE Z c t xt) (hB : TrSs Z c b xb)
    (V : EnvOk Z c env P ja) (a : AOk n A) (I : Inv Z G env.locals N P ja σ s) : wpAny (model prog w) A (exec (.While xt xb [] p) env) (SRes Z G env.locals N P ja fl σ') Er s := by
  refine wpAny_While (codeAny_whileLoop (fun k s' => ∃ σ₁ N₁ ja₁, k ≤ n + 1 ∧ (run T k).ex (.whl t b) σ₁ = some (fl, σ') ∧ (∀ p ∈ N, p ∈ N₁) ∧ ja₁.j = ja.j ∧ Inv Z G env.locals N₁ P ja₁ σ₁ s') ?_ (n + 1) ⟨σ, N, ja, Nat.le_refl _, q, fun _ q => q, rfl, I⟩)
  rintro k s' ⟨σ₁, N₁, ja₁, hk, q, hs₁, e₁, I₁⟩
  cases k with
  | zero => cases q
  | succ k =>
    have hk' : k ≤ n := Nat.le_of_succ_le_succ hk
    have q : exStep T (run T k) (.whl t b) σ₁ = some (fl, σ') := q
    dsimp only [exStep] at q
    split at q
    · rename_i σ₂ q1
      refine wpAny_mono ((HE k hk').tst q1 hT (V.pin e₁) (a.le hk') I₁) (fun b' s₂ ⟨eb, N₂, hs₂, I₂⟩ => ?_) fun _ _ x => x
      subst eb
      rw [if_pos rfl]
      split at q
      · rename_i σ₃ q2
        refine wpAny_mono (exs_sound (HS k hk') q2 hB (V.pin e₁) (a.le hk') I₂) (fun f s₃ ⟨N₃, ja₃, hs₃, e₃, hf, I₃⟩ => ?_) fun _ _ x => x
        subst hf
        exact ⟨k, Nat.lt_succ_self _, σ₃, N₃, ja₃, Nat.le_trans hk' (Nat.le_succ _), q, fun p hp => hs₃ p (hs₂ p (hs₁ p hp)), e₃.trans e₁, I₃⟩
      · rename_i v σ₃ q2
        cases q
        refine wpAny_mono (exs_sound (HS k hk') q2 hB (V.pin e₁) (a.le hk') I₂) (fun f s₃ ⟨N₃, ja₃, hs₃, e₃, ⟨u, hf, r⟩, I₃⟩ => ?_) fun _ _ x => x
        subst hf
        exact ⟨N₃, ja₃, fun p hp => hs₃ p (hs₂ p (hs₁ p hp)), e₃.trans e₁, ⟨u, rfl, r.pin e₁.symm⟩, I₃⟩
      · cases q
    · rename_i σ₂ q1
      cases q
      refine wpAny_mono ((HE k hk').tst q1 hT (V.pin e₁) (a.le hk') I₁) (fun b' s₂ ⟨eb, N₂, hs₂, I₂⟩ => ?_) fun _ _ x => x
      subst eb
      rw [if_neg (by decide)]
      exact wpAny_execs_nil ⟨N₂, ja₁, fun p hp => hs₂ p (hs₁ p hp), e₁, rfl, I₂⟩
    · cases q

theorem ItSt.pin {k : ItK} {it : Addr} {rest : List V} {I : Led} {ja' : Pin} (e : ja'.j = ja.j) (h : ItSt G N ja k it rest I) : ItSt G N ja' k it rest I := by
  induction h using ItSt.casesOn with
  | list a b c d e' f g => exact .list a b c (d.pin e) e' f g
  | tup a b c d e' f g => exact .tup a b c (d.pin e) e' f g
  | asc a b c => exact .asc a b c
  | wid a b c => exact .wid a b c
  | range a b => exact .range a b
  | enum a b c d e' f g h => exact .enum a b c (d.pin e) e' f g h

theorem for_sound (T0 : Top0 Z T prog w G mg mb) (HE : SoundE Z T prog w G n) (HS : SoundS Z T prog w G n) {t : Tgt} {k : ItK} {it : E} {b : List S} {fl : Fl} {v : V} {xs : List V} {σ₁ : St} (q1 : (run T n).ev it σ = some (v, σ₁)) (q2 : itemsOf k v = some xs)
    (q3 : forL t (exsL (run T n).ex b) xs σ₁ = some (fl, σ')) {xt xi : Expr} {xb : List Stmt} {p : Pos} (hk : EnumTup k t) (hIt : TrIt Z c k it xi) (hT : TrT Z c t xt) (hB : TrSs Z c b xb)
    (V : EnvOk Z c env P ja) (a : AOk n A) (I : Inv Z G env.locals N P ja σ s) : wpAny (model prog w) A (exec (.For xt xi xb [] p) env) (SRes Z G env.locals N P ja fl σ') Er s := by
  refine wpAny_For (wpAny_mono (iter_sound T0 HE q1 q2 hIt V a I) (fun xv s₁ h => wpAny_mono h (fun y s₂ hB' => ?_) fun _ _ x => x) fun _ _ x => x) (it_folded hIt env)
  obtain ⟨N₁, hs₁, it', N₂, I₀, rfl, hs₂, hit, hPI, I₂⟩ := hB'
  refine codeAny_forLoop_any (fun kk s' => ∃ rest σ₃ N₃ ja₃ Ig, kk = rest.length ∧ forL t (exsL (run T n).ex b) rest σ₃ = some (fl, σ') ∧ ItSt G N₃ ja₃ k it' rest Ig ∧ Ig.map (·.1) = I₀.map (·.1) ∧ (∀ p ∈ N, p ∈ N₃) ∧ ja₃.j = ja.j ∧
    Inv Z G env.locals N₃ (Ig ++ P) ja₃ σ₃ s') ?_ xs.length ⟨xs, σ₁, N₂, ja, I₀, rfl, q3, hit, rfl, fun p hp => hs₂ p (hs₁ p hp), rfl, I₂⟩
  rintro kk s' ⟨rest, σ₃, N₃, ja₃, Ig, rfl, q, hit₃, hm, hs₃, e₃, I₃⟩
  have hP' : ∀ p ∈ P, p.1 ∉ Ig.map (·.1) := by rw [hm]; exact hPI
  refine wpAny_mono (next_sound hit₃ hP' I₃ a.hd) (fun r s₄ hN => ?_) fun _ _ x => x
  cases rest with
  | nil =>
    obtain ⟨rfl, I₄⟩ := hN
    cases q
    exact wpAny_execs_nil ⟨N₃, ja₃, hs₃, e₃, rfl, I₄⟩
  | cons v' rest =>
    obtain ⟨u, rfl, hgo⟩ := hN
    unfold forL at q
    split at q
    · cases q
    rename_i σa qa
    refine wpAny_mono (hgo xt _ (tgt_ok hk hT)) (fun _ s₅ ⟨N₅, I₅', hs₅, ru, hit₅, hm₅, V₅⟩ => ?_) fun _ _ x => x
    refine wpAny_mono (assign_sound hT qa (V.pin e₃) ru V₅ a.hd) (fun _ s₆ V₆ => ?_) fun _ _ x => x
    split at q
    · rename_i σb qb
      refine wpAny_mono (exs_sound HS qb hB ((V.pin e₃).mono fun p hp => List.mem_append_right _ hp) a V₆) (fun f s₇ ⟨N₇, ja₇, hs₇, e₇, hf, I₇⟩ => ?_) fun _ _ x => x
      subst hf
      exact ⟨rest.length, Nat.lt_succ_self _, rest, σb, N₇, ja₇, I₅', rfl, q, (hit₅.mono hs₇).pin e₇, hm₅.trans hm, fun p hp => hs₇ p (hs₅ p (hs₃ p hp)), e₇.trans e₃, I₇⟩
    · rename_i u' σb qb
      cases q
      refine wpAny_mono (exs_sound HS qb hB ((V.pin e₃).mono fun p hp => List.mem_append_right _ hp) a V₆) (fun f s₇ ⟨N₇, ja₇, hs₇, e₇, ⟨y, hf, ry⟩, I₇⟩ => ?_) fun _ _ x => x
      subst hf
      exact ⟨N₇, ja₇, fun p hp => hs₇ p (hs₅ p (hs₃ p hp)), e₇.trans e₃, ⟨y, rfl, ry.pin e₃.symm⟩, I₇.sub fun p hp => List.mem_append_right _ hp⟩
    · cases q

theorem step_S (T0 : Top0 Z T prog w G mg mb) (HE : ∀ k ≤ n, SoundE Z T prog w G k) (HS : ∀ k ≤ n, SoundS Z T prog w G k) :
    SoundS Z T prog w G (n + 1) := by
  intro st σ fl σ' q c sx env P ja A N s Er h V a I
  have hq := q
  have SE := HE n (Nat.le_refl _)
  have SS : SoundS Z T prog w G n := fun q => HS n (Nat.le_refl _) q
  have a' := a.le (Nat.le_succ n)
  replace q : exStep T (run T n) st σ = some (fl, σ') := q
  induction h using TrS.casesOn with
  | raw => cases q
  | ret hE =>
    dsimp only [exStep] at q
    split at q
    · rename_i v σ₁ q1
      cases q
      exact wpAny_Return_some (wpAny_mono (SE.ev q1 hE V a' I) (fun u s₁ ⟨N₁, hs₁, r₁, I₁⟩ => ⟨N₁, ja, hs₁, rfl, ⟨u, rfl, r₁⟩, I₁⟩) fun _ _ x => x)
    · cases q
  | @asg _ x e xe p pq hx hE hsw =>
    dsimp only [exStep] at q
    split at q
    · rename_i v σ₁ q1
      cases q
      refine wpAny_Assign_Name (wpAny_mono (SE.ev q1 hE V a' I) (fun u s₁ ⟨N₁, hs₁, r₁, I₁⟩ => ?_) fun _ _ x => x) (hsw env pq.line)
      obtain ⟨m, O, J, C⟩ := I₁.core
      refine wpAny_storeName_local (V.ls x hx).2 C.fr.ns (fun h' hn' hs' => ?_) V.noClass
      obtain ⟨O', C'⟩ := C.store (V.ls x hx).1 r₁ hn' hs'
      exact ⟨N₁, ja, hs₁, rfl, rfl, I₁.at C'⟩
    · cases q
  | own hx =>
    dsimp only [exStep] at q
    split at q
    · rename_i σ₁ q1
      cases q
      exact own_sound hx V I q1
    · cases q
  | ownC hk hx hIt hT hE hc hl hn =>
    dsimp only [exStep] at q
    split at q
    · rename_i ys σ₁ q1
      split at q
      · rename_i σ₂ q2
        cases q
        exact ownC_sound T0 SE q1 hk hIt hT hE hc V a' I hx q2 hl hn
      · cases q
    · cases q
  | tasg hN hE nd hsm hv =>
    dsimp only [exStep] at q
    split at q
    · rename_i vs σ₁ q1
      split at q
      · rename_i σ₂ q2
        cases q
        exact tasg_sound SE q1 q2 hN hE nd hv (by rw [evs_length q1]; exact Nat.le_trans hsm (by decide)) V a' I
      · cases q
    · cases q
  | tasgO hN hE nd hsm hx hy =>
    dsimp only [exStep] at q
    split at q
    · rename_i vs σ₁ q1
      split at q
      · rename_i σ₂ q2
        split at q
        · rename_i σ₃ q3
          cases q
          exact tasgO_sound T0 SE q1 q2 q3 hN hE nd hx hy (by rw [evs_length q1, List.length_map]; exact Nat.le_trans hsm (by decide)) V a' I
        · cases q
      · cases q
    · cases q
  | unp hN nd hE h1 h2 h3 =>
    dsimp only [exStep] at q
    split at q
    · rename_i vs σ₁ q1
      split at q
      · rename_i σ₂ q2
        cases q
        exact unp_sound SE q1 q2 hN nd hE h1 h3 V a' I
      · cases q
    · cases q
  | @setJ sq _ i e xe xj k p pq r hE hc hj hx hsw =>
    subst hj
    dsimp only [exStep] at q
    split at q
    · rename_i v σ₁ q1
      split at q
      · rename_i σ₂ q2
        rw [T0.jar] at q2
        cases d0 : decide (i = 0) with
        | true =>
          rw [d0] at q
          dsimp only at q
          cases q
          exact setJ_sound T0 SE q1 q2 hE hx hsw (.inl ⟨of_decide_eq_true d0, rfl⟩) V a' I
        | false =>
          rw [d0] at q
          cases d1 : decide (i = 1) with
          | true =>
            rw [d1] at q
            dsimp only at q
            cases q
            exact setJ_sound T0 SE q1 q2 hE hx hsw (.inr ⟨of_decide_eq_true d1, rfl⟩) V a' I
          | false =>
            rw [d1] at q
            cases q
      · cases q
    · cases q
  | ite hT hA hB =>
    dsimp only [exStep] at q
    split at q
    · rename_i σ₁ q1
      refine wpAny_If (wpAny_mono (SE.tst q1 hT V a' I) (fun b s₁ ⟨eb, N₁, hs₁, I₁⟩ => ?_) fun _ _ x => x)
      subst eb
      rw [if_pos rfl]
      exact wpAny_mono (exs_sound SS q hA V a' I₁) (fun _ _ r => r.trans hs₁ rfl) fun _ _ x => x
    · rename_i σ₁ q1
      refine wpAny_If (wpAny_mono (SE.tst q1 hT V a' I) (fun b s₁ ⟨eb, N₁, hs₁, I₁⟩ => ?_) fun _ _ x => x)
      subst eb
      rw [if_neg (by decide)]
      exact wpAny_mono (exs_sound SS q hB V a' I₁) (fun _ _ r => r.trans hs₁ rfl) fun _ _ x => x
    · cases q
  | app hl hx hE hst =>
    clear hq
    dsimp only [exStep] at q
    cases ho : σ.own with
    | none => rw [ho] at q; cases q
    | some zz =>
      obtain ⟨z, vs₀⟩ := zz
      rw [ho] at q
      dsimp only at q
      split at q
      · rename_i hz
        have hz := Nat.eq_of_beq_eq_true hz
        split at q
        · rename_i v σ₁ q1
          cases ho₁ : σ₁.own with
          | none => rw [ho₁] at q; cases q
          | some yy =>
            obtain ⟨y, vs⟩ := yy
            rw [ho₁] at q
            dsimp only at q
            split at q
            · rename_i hy
              have hf := fits_le (Bool.and_eq_true_iff.mp hy).2
              have hy := Nat.eq_of_beq_eq_true (Bool.and_eq_true_iff.mp hy).1
              cases q
              rw [hz] at ho
              rw [hy] at ho₁ ⊢
              exact app_sound T0 SE ho q1 ho₁ hf hl hx hE V a' I
            · cases q
        · cases q
      · cases q
  | whl hT hB => exact whl_sound HE HS hq hT hB V a' I
  | «for» hk hIt hT hB =>
    dsimp only [exStep] at q
    split at q
    · rename_i v σ₁ q1
      split at q
      · rename_i xs q2
        exact for_sound T0 SE SS q1 q2 q hk hIt hT hB V a' I
      · cases q
    · cases q
end
end Mine

end DPpart

section DQpart
open PySem PySem.W PyProof.Rows
namespace Mine

section
variable {Z : Nms} {G : Gl} {F L : Addr} {N P : Led} {ja : Pin} {σ : St} {h : Heap} {m : Str → Option Value} {O J : Led}
theorem Core.protectAt (C : Core Z G F N P ja σ h m O J) {D : Addr} {o : Obj} (hD : h.get? D = some o) (ne : ∀ p ∈ J ++ (O ++ (P ++ N)), p.1 ≠ D) (hF : D ≠ F) (hg : G.h₀.get? D = none) : Core Z G F N ((D, o) :: P) ja σ h m O J := by
  refine { C with nw := ?_, dN := ?_, dO := ?_, dJ := ?_ }
  · intro p hp
    have hp' : p = (D, o) ∨ p ∈ J ++ (O ++ (P ++ N)) := by
      simp only [List.mem_append, List.mem_cons] at hp ⊢
      rcases hp with hp | hp | (hp | hp) | hp <;> simp [hp]
    rcases hp' with rfl | hp'
    · exact ⟨hD, hF, hg⟩
    · exact C.nw p hp'
  · intro p hp q hq
    have hq' : q = (D, o) ∨ q ∈ J ++ (O ++ P) := by
      simp only [List.mem_append, List.mem_cons] at hq ⊢
      rcases hq with hq | hq | hq | hq <;> simp [hq]
    rcases hq' with rfl | hq'
    · exact ne p (by simp [hp])
    · exact C.dN p hp q hq'
  · intro p hp q hq
    have hq' : q = (D, o) ∨ q ∈ J ++ P := by
      simp only [List.mem_append, List.mem_cons] at hq ⊢
      rcases hq with hq | hq | hq <;> simp [hq]
    rcases hq' with rfl | hq'
    · exact ne p (by simp [hp])
    · exact C.dO p hp q hq'
  · intro p hp q hq
    rcases List.mem_cons.mp hq with rfl | hq
    · exact ne p (by simp [hp])
    · exact C.dJ p hp q hq
end

/-- what is known of a function: its object, its code, its frame, its arguments -/
structure FnHas (Z : Nms) (G : Gl) (mg : Str → Option Value) (f : Nat) (d : FDef) (c : Cx) (fa : Addr) (o : Obj) (fd : FuncData) (body : List Stmt) : Prop where
  named : mg (Z.nm f) = some (.ref fa)
  obj : G.h₀.get? fa = some o
  data : o.data = .func fd
  code : G.h₀.CodeRec fd.code fd.qualname
  bodyIs : fd.body = .stmts body
  clo : fd.closure = []
  glo : fd.globals = mainGlobals
  blt : fd.builtins = builtinsNs
  noCo : fd.scope.isCoroutine = false
  noGen : fd.scope.isGenerator = false
  kind : fd.scope.kind = .function
  tr : TrSs Z c d.body body
  ls : ∀ x, c.ls.elem x = true → x < Z.nb ∧ fd.scope.names.lookup (Z.nm x) = some .local
  gs : ∀ g, c.gs.elem g = true → fd.scope.names.lookup (Z.nm g) = some .globalImplicit
  rest : match d.cel with
      | false => c.cj = false ∧ (∀ y ∈ fd.scope.names, y.2 ≠ .cell) ∧ (∀ x ∈ d.params, c.ls.elem x = true) ∧
          ∀ (us : List Value) (s : Shared), (∀ b o, G.h₀.get? b = some o → s.heap.get? b = some o) → us.length ≤ d.params.length → d.params.length ≤ us.length + d.dflt.length →
            ∃ ws, (∀ N ja, RVs G.h₀ N ja ws (d.dflt.drop (us.length + d.dflt.length - d.params.length))) ∧ BindsTo s fd ⟨us, []⟩ ((d.params.map Z.nm).zip (us ++ ws))
      | true => c.cj = true ∧ fd.scope.names.lookup (Z.nm Z.jar) = some .cell ∧ (∀ k, cellsFrom k fd.scope.names [] = [(Z.nm Z.jar, k)]) ∧ ∀ u, bindArgs fd ⟨[u], []⟩ = pure [(Z.nm Z.jar, u)]
noncomputable def FnFull (Z : Nms) (G : Gl) (mg : Str → Option Value) (f : Nat) (d : FDef) : Prop := ∃ (c : Cx) (fa : Addr) (o : Obj) (fd : FuncData) (body : List Stmt), FnHas Z G mg f d c fa o fd body

inductive Rel (Z : Nms) (G : Gl) (N : Led) (ja : Pin) : List (Nat × V) → List (Str × Value) → Prop
  | nil : Rel Z G N ja [] []
  | cons {x v u l l'} : x < Z.nb → RV G.h₀ N ja u v → Rel Z G N ja l l' → Rel Z G N ja ((x, v) :: l) ((Z.nm x, u) :: l')

section
variable {Z : Nms} {G : Gl} {N : Led} {ja : Pin}
theorem Rel.append {l l' k k'} (h : Rel Z G N ja l l') (h' : Rel Z G N ja k k') : Rel Z G N ja (l ++ k) (l' ++ k') := by
  induction h with
  | nil => exact h'
  | cons a b _ ih => exact .cons a b ih
theorem Rel.reverse {l l'} (h : Rel Z G N ja l l') : Rel Z G N ja l.reverse l'.reverse := by
  induction h with
  | nil => exact .nil
  | cons a b _ ih => rw [List.reverse_cons, List.reverse_cons]; exact ih.append (.cons a b .nil)
theorem Rel.lk {l l'} (h : Rel Z G N ja l l') {x : Nat} {v : V} (hx : x < Z.nb) (e : Mine.lk l x = some v) : ∃ u, l'.lookup (Z.nm x) = some u ∧ RV G.h₀ N ja u v := by
  induction h with
  | nil => cases e
  | @cons y w u l l' a b _ ih =>
    rw [lk_cons] at e
    by_cases q : y = x
    · subst q
      rw [if_pos rfl] at e
      cases e
      exact ⟨u, by simp [List.lookup_cons], b⟩
    · rw [if_neg q] at e
      obtain ⟨u', hu, r⟩ := ih e
      refine ⟨u', ?_, r⟩
      have : (Z.nm x == Z.nm y) = false := by
        cases k : (Z.nm x == Z.nm y) with
        | false => rfl
        | true => exact absurd (Z.inj _ _ a hx (beq_iff_eq.mp k).symm) q
      rw [List.lookup_cons, this]
      exact hu
theorem Rel.zip : ∀ {xs : List Nat} {us : List Value} {vs : List V}, (∀ x ∈ xs, x < Z.nb) → RVs G.h₀ N ja us vs → Rel Z G N ja (xs.zip vs) ((xs.map Z.nm).zip us)
  | [], _, _, _, _ => by simp; exact .nil
  | x :: xs, _, _, h, .nil => by simp; exact .nil
  | x :: xs, _, _, h, .cons a b => .cons (h x (.head _)) a (Rel.zip (fun y hy => h y (.tail _ hy)) b)
end

section
variable {Z : Nms} {T : Tab} {prog : Program} {w : World} {G : Gl} {mg mb : Str → Option Value} {n : Nat}
theorem AOk.deeper {A : Around} (a : AOk (n + 1) A) (env : Env) : AOk n (A.deeper env) := ⟨a.hd, by have := a.dep; show A.depth + 1 + n < _; omega, by have := a.uni; show A.units + 3 + 8 * n + 200 < _; omega⟩

theorem step_C (T0 : Top0 Z T prog w G mg mb) (FF : ∀ f d, T.fdef f = some d → FnFull Z G mg f d) (HS : SoundS Z T prog w G n) : SoundC Z T prog w G mg (n + 1) := by
  intro f vs j v j' q fa L P ja A N σ s us Er hm a I hj rs
  subst hj
  have q : callStep T (run T n) f vs σ.j = some (v, j') := q
  unfold callStep at q
  split at q
  · cases q
  rename_i d hd
  split at q
  · cases q
  rename_i ρ hb
  split at q
  case h_2 => cases q
  rename_i v' σc hx
  cases q
  refine Classical.byContradiction fun hn0 => ?_
  obtain ⟨c, fa', o, fd, body, hm', ho, hdata, hcd, hbody, hclo, hglo, hbi, hco, hgen, hkind, hTr, hls, hgs, hrest⟩ := FF f d hd
  rw [hm] at hm'
  cases hm'
  obtain ⟨m, O, J, C⟩ := I.core
  have keep := C.fr.keep
  obtain ⟨oL, _, _, hL, _⟩ := id C.fr.ns
  have ltS : ∀ {b o}, s.heap.get? b = some o → b < s.heap.objs.size := fun e => Heap.lt_size e
  have hroom : A.depth < recursionLimit := by have := a.dep; omega
  unfold FDef.binds at hb
  split at hb
  case h_2 => cases hb
  rename_i hle
  have hle1 := Nat.le_of_ble_eq_true (Bool.and_eq_true_iff.mp hle).1
  have hle2 := Nat.le_of_ble_eq_true (Bool.and_eq_true_iff.mp hle).2
  refine hn0 (wpAny_call ?_)
  cases hcel : d.cel with
  | false =>
    rw [hcel] at hb hrest
    obtain ⟨hcj, hnc, hpar, hbind⟩ := hrest
    cases hb
    obtain ⟨ws, rws, hB⟩ := hbind us s keep (by rw [rs.length]; exact hle1) (by rw [rs.length]; exact hle2)
    refine codeAny_call_def hroom (keep _ _ ho) hdata (T0.nl.keeps keep) (hcd.keeps keep) hbody hB hnc ?_ ?_ hco hgen hkind
    · intro x hx
      obtain ⟨x1, x2⟩ := x
      have : x1 ∈ d.params.map Z.nm := (List.of_mem_zip hx).1
      obtain ⟨y, hy, rfl⟩ := List.mem_map.mp this
      exact (hls y (hpar y hy)).2
    · intro h₀' hn' hk'
      rw [rs.length] at rws
      have R := (Rel.zip (Z := Z) (xs := d.params) (fun x hx => (hls x (hpar x hx)).1) (rs.append (rws N ja))).reverse
      have C₁ := C.enter hL (F := s.heap.objs.size) (m₁ := fun x => (((d.params.map Z.nm).zip (us ++ ws)).reverse.lookup x)) (ρ := (d.params.zip (vs ++ d.dflt.drop (vs.length + d.dflt.length - d.params.length))).reverse) hk' (Nat.le_refl _) hn'
        (fun x v hx _ e => R.lk hx e)
      have V : EnvOk Z c (callEnv fd s.heap.objs.size fa) ((L, oL) :: (O ++ P)) ja :=
        ⟨hkind, hglo, hbi, fun x hx => hls x hx, fun g hg => hgs g hg, fun h => by rw [hcj] at h; cases h⟩
      have I₁ : Inv Z G s.heap.objs.size N ((L, oL) :: (O ++ P)) ja ⟨_, none, σ.j⟩ { s with heap := h₀', toks := s.toks + ((d.params.map Z.nm).zip (us ++ ws)).length } := I.at C₁
      refine wpAny_mono (E := fun _ _ => False) (exs_sound HS hx hTr V (a.deeper _) I₁) (fun f' s' ⟨N', ja', hs', e', ⟨u, hf, r⟩, I'⟩ => ?_) (fun _ _ h => h.elim)
      · subst hf
        obtain ⟨m', O', J', C'⟩ := I'.core
        exact ⟨N', hs', r, I'.at (tk := s'.toks) (C.leave hL (h' := s'.heap) e'.symm hs' C' fun _ _ _ e => e)⟩
  | true =>
    rw [hcel] at hb hrest
    obtain ⟨hcj, hlk, hcells, hbind⟩ := hrest
    dsimp only at hb
    split at hb
    case h_2 => cases hb
    cases hb
    obtain ⟨u, rfl, r₁⟩ := rs.one_inv
    have hce : callEnvC fd s.heap.objs.size fa = callEnvC fd s.heap.objs.size fa := rfl
    have hcl : (callEnvC fd s.heap.objs.size fa).cells = [(Z.nm Z.jar, s.heap.objs.size + 1)] := hcells _
    have hlu : (callEnvC fd s.heap.objs.size fa).cells.lookup (Z.nm Z.jar) = some (s.heap.objs.size + 1) := by rw [hcl]; simp [List.lookup_cons]
    have hko : (callEnvC fd s.heap.objs.size fa).kindOf (Z.nm Z.jar) = some .cell := hlk
    refine codeAny_call_cells hroom (keep _ _ ho) hdata (T0.nl.keeps keep) (hcd.keeps keep) hbody (hbind u) hclo ?_ ?_ hco hgen hkind
    · intro x hx
      have : x = (Z.nm Z.jar, u) := by simpa using hx
      subst this
      exact .inr ⟨hlk, by rw [hcells]; simp [List.lookup_cons]⟩
    · intro s₁ X
      obtain ⟨⟨⟨h₁, tk₁, rfl⟩, hn₁, hk₁, _⟩, hcell, _, _⟩ := X
      obtain ⟨oc, hoc, hdc⟩ := hcell _ _ hlu
      have hcm : bindC (callEnvC fd s.heap.objs.size fa).kindOf [(Z.nm Z.jar, u)] (fun _ => none) (Z.nm Z.jar) = some u := by
        unfold bindC
        rw [hko]
        simp [bindC]
      rw [hcm] at hdc
      have C₁ := C.enter hL (F := s.heap.objs.size) (ρ := []) hk₁ (Nat.le_refl _) hn₁ (fun x v _ _ e => nomatch e)
      obtain ⟨ad, rfl, hja⟩ := r₁.jar_inv
      have C₂ := C₁.protectAt (D := s.heap.objs.size + 1) hoc (fun p hp => by
        have : p = (L, oL) ∨ p ∈ J ++ (O ++ (P ++ N)) := by
          simp only [List.mem_append, List.mem_cons, List.nil_append] at hp ⊢
          rcases hp with hp | ((hp | hp | hp) | hp) <;> simp [hp]
        rcases this with rfl | hp
        · exact Nat.ne_of_lt (Nat.lt_succ_of_lt (ltS hL))
        · exact Nat.ne_of_lt (Nat.lt_succ_of_lt (ltS (C.nw p hp).1))) (Nat.succ_ne_self _) (by
        cases e : G.h₀.get? (s.heap.objs.size + 1) with
        | none => rfl
        | some o' => exact absurd (ltS (keep _ _ e)) (Nat.not_lt.mpr (Nat.le_succ _)))
      have V : EnvOk Z c (callEnvC fd s.heap.objs.size fa) ((s.heap.objs.size + 1, oc) :: (L, oL) :: (O ++ P)) ja :=
        ⟨hkind, hglo, hbi, fun x hx => hls x hx, fun g hg => hgs g hg, fun _ => ⟨s.heap.objs.size + 1, oc, ad, hko, hlu, .head _, hdc, hja⟩⟩
      have I₁ : Inv Z G s.heap.objs.size N ((s.heap.objs.size + 1, oc) :: (L, oL) :: (O ++ P)) ja ⟨[], none, σ.j⟩ { s with heap := h₁, toks := tk₁ } := I.at C₂
      refine wpAny_mono (E := fun _ _ => False) (exs_sound HS hx hTr V (a.deeper _) I₁) (fun f' s' ⟨N', ja', hs', e', ⟨u, hf, r⟩, I'⟩ => ?_) (fun _ _ h => h.elim)
      · subst hf
        obtain ⟨m', O', J', C'⟩ := I'.core
        exact ⟨N', hs', r, I'.at (tk := s'.toks) (C.leave hL (h' := s'.heap) e'.symm hs' (C'.sub fun p hp => .tail _ hp) fun _ _ _ e => e)⟩

theorem all_sound (T0 : Top0 Z T prog w G mg mb) (FF : ∀ f d, T.fdef f = some d → FnFull Z G mg f d) : ∀ n, (∀ k ≤ n, SoundE Z T prog w G k) ∧ (∀ k ≤ n, SoundS Z T prog w G k) ∧ SoundC Z T prog w G mg n := by
  have FK : FnOk Z T G mg := fun f d h => by
    obtain ⟨c, fa, o, fd, body, hm, ho, hdata, _⟩ := FF f d h
    exact ⟨fa, o, fd, hm, ho, hdata⟩
  intro n
  induction n with
  | zero =>
    refine ⟨fun k hk => ?_, fun k hk => ?_, by intro f vs j v j' q; exact zero_C q⟩
    · have : k = 0 := Nat.le_zero.mp hk
      subst this; exact zero_E
    · have : k = 0 := Nat.le_zero.mp hk
      subst this; intro st σ fl σ' q; exact zero_S q
  | succ n ih =>
    obtain ⟨HE, HS, HC⟩ := ih
    have SE : SoundE Z T prog w G (n + 1) := step_E T0 (HE n (Nat.le_refl _)) FK HC
    have SS : SoundS Z T prog w G (n + 1) := by intro st σ fl σ' q; exact step_S T0 HE HS q
    refine ⟨fun k hk => ?_, fun k hk => ?_, by intro f vs j v j' q; exact step_C T0 FF (by intro st σ fl σ' q; exact HS n (Nat.le_refl _) q) q⟩
    · rcases Nat.lt_or_ge k (n + 1) with h | h
      · exact HE k (Nat.le_of_lt_succ h)
      · have : k = n + 1 := Nat.le_antisymm hk h
        subst this; exact SE
    · rcases Nat.lt_or_ge k (n + 1) with h | h
      · exact HS k (Nat.le_of_lt_succ h)
      · have : k = n + 1 := Nat.le_antisymm hk h
        subst this; intro st σ fl σ' q; exact SS q
end
end Mine

end DQpart

section DSpart
open PySem PySem.W PyProof.Rows
namespace Mine

noncomputable def compOkB (Z : Nms) (c c' : Cx) (sc : Scope) : Bool :=
  decide (sc.kind = .function) && (sc.names.all fun y => decide (y.2 ≠ .cell)) && (sc.names.all fun y => !decide (y.2 = .local) || decide (sc.names.lookup y.1 = some .local)) &&
  (c'.ls.all fun x => decide (x < Z.nb) && decide (sc.names.lookup (Z.nm x) = some .local)) && (c'.gs.all fun x => decide (sc.names.lookup (Z.nm x) = some .globalImplicit)) &&
  (match c'.cj with
    | true => c.cj && (match sc.names.dropWhile fun y => decide (y.2 ≠ .free) with
      | (n, .free) :: post => decide (n = Z.nm Z.jar) && (post.all fun y => decide (y.2 ≠ .free)) && decide ((sc.names.takeWhile fun y => decide (y.2 ≠ .free)).lookup (Z.nm Z.jar) = none)
      | _ => false)
    | false => sc.names.all fun y => decide (y.2 ≠ .free))

theorem compOk_of {Z : Nms} {c c' : Cx} {sc : Scope} (h : compOkB Z c c' sc = true) : CompOk Z c c' sc := by
  unfold compOkB at h
  simp only [Bool.and_eq_true] at h
  obtain ⟨⟨⟨⟨⟨h1, h2⟩, h3⟩, h4⟩, h5⟩, h6⟩ := h
  refine ⟨of_decide_eq_true h1, fun y hy => of_decide_eq_true (List.all_eq_true.mp h2 y hy), fun y hy hl => ?_, fun x hx => ?_, fun x hx => ?_, ?_⟩
  · have := List.all_eq_true.mp h3 y hy
    rw [decide_eq_true hl] at this
    exact of_decide_eq_true (by simpa using this)
  · have := List.all_eq_true.mp h4 x (List.elem_iff.mp hx)
    simp only [Bool.and_eq_true] at this
    exact ⟨of_decide_eq_true this.1, of_decide_eq_true this.2⟩
  · exact of_decide_eq_true (List.all_eq_true.mp h5 x (List.elem_iff.mp hx))
  · cases hc : c'.cj with
    | false =>
      rw [hc] at h6
      exact fun y hy => of_decide_eq_true (List.all_eq_true.mp h6 y hy)
    | true =>
      rw [hc] at h6
      dsimp only at h6 ⊢
      simp only [Bool.and_eq_true] at h6
      obtain ⟨h6, h7⟩ := h6
      split at h7
      · rename_i n post hd
        simp only [Bool.and_eq_true] at h7
        obtain ⟨⟨q1, q2⟩, q3⟩ := h7
        have q1 := of_decide_eq_true q1
        subst q1
        refine ⟨h6, sc.names.takeWhile fun y => decide (y.2 ≠ .free), post, ?_, fun y hy => ?_, of_decide_eq_true q3⟩
        · rw [← hd, List.takeWhile_append_dropWhile]
        · rcases List.mem_append.mp hy with hy | hy
          · exact of_decide_eq_true (List.all_eq_true.mp List.all_takeWhile y hy)
          · exact of_decide_eq_true (List.all_eq_true.mp q2 y hy)
      · cases h7

/-- what a frame's scope says, looked up -/
noncomputable def frameB (Z : Nms) (c : Cx) (sc : Scope) : Bool :=
  decide (sc.kind = .function) && (c.ls.all fun x => decide (x < Z.nb) && decide (sc.names.lookup (Z.nm x) = some .local)) && (c.gs.all fun x => decide (sc.names.lookup (Z.nm x) = some .globalImplicit)) &&
  !sc.isCoroutine && !sc.isGenerator
theorem frame_of {Z : Nms} {c : Cx} {sc : Scope} (h : frameB Z c sc = true) : sc.kind = .function ∧ (∀ x, c.ls.elem x = true → x < Z.nb ∧ sc.names.lookup (Z.nm x) = some .local) ∧
    (∀ g, c.gs.elem g = true → sc.names.lookup (Z.nm g) = some .globalImplicit) ∧ sc.isCoroutine = false ∧ sc.isGenerator = false := by
  unfold frameB at h
  simp only [Bool.and_eq_true, Bool.not_eq_true'] at h
  obtain ⟨⟨⟨⟨h1, h2⟩, h3⟩, h4⟩, h5⟩ := h
  refine ⟨of_decide_eq_true h1, fun x hx => ?_, fun g hg => ?_, h4, h5⟩
  · have := List.all_eq_true.mp h2 x (List.elem_iff.mp hx)
    simp only [Bool.and_eq_true] at this
    exact ⟨of_decide_eq_true this.1, of_decide_eq_true this.2⟩
  · exact of_decide_eq_true (List.all_eq_true.mp h3 g (List.elem_iff.mp hg))
end Mine

end DSpart

section DATpart
namespace Mine
noncomputable def litC (n : Nat) : List Nat := (cond (Nat.blt n 59) (cond (Nat.blt n 29) (cond (Nat.blt n 14) (cond (Nat.blt n 7) (cond (Nat.blt n 3) (cond (Nat.blt n 1) [114, 101, 116, 117, 114, 110] (cond (Nat.blt n 2) [98, 108, 111, 99, 107] [114, 101, 116, 117, 114, 110, 32, 40, 123, 125, 41])) (cond (Nat.blt n 5) (cond (Nat.blt n 4) [98, 105, 110, 97, 114, 121] [124, 124]) (cond (Nat.blt n 6) [98, 111, 111, 108] [116, 114, 117, 101, 32, 124, 124, 32, 102, 97, 108, 115, 101]))) (cond (Nat.blt n 10) (cond (Nat.blt n 8) [97] (cond (Nat.blt n 9) [10] [32, 32, 98])) (cond (Nat.blt n 12) (cond (Nat.blt n 11) [] [112, 97, 116, 104]) (cond (Nat.blt n 13) [120] [105, 110, 116])))) (cond (Nat.blt n 21) (cond (Nat.blt n 17) (cond (Nat.blt n 15) [117, 56] (cond (Nat.blt n 16) [53, 117, 56] [102, 97, 108, 115, 101])) (cond (Nat.blt n 19) (cond (Nat.blt n 18) [43] [120, 32, 43, 32, 49]) (cond (Nat.blt n 20) [98, 111, 114, 114, 111, 119] [38, 109, 117, 116, 32, 120]))) (cond (Nat.blt n 25) (cond (Nat.blt n 23) (cond (Nat.blt n 22) [115, 116, 114, 117, 99, 116] [83]) (cond (Nat.blt n 24) [83, 32, 123, 125] [40, 83, 32, 123, 125, 41])) (cond (Nat.blt n 27) (cond (Nat.blt n 26) [83, 32, 123, 32, 97, 58, 32, 49, 32, 125] [40, 83, 32, 123, 32, 97, 58, 32, 49, 32, 125, 41]) (cond (Nat.blt n 28) [123, 125] [40, 123, 125, 41]))))) (cond (Nat.blt n 44) (cond (Nat.blt n 36) (cond (Nat.blt n 32) (cond (Nat.blt n 30) [123, 10, 32, 32, 32, 32, 49, 10, 125] (cond (Nat.blt n 31) [40, 123, 10, 32, 32, 32, 32, 49, 10, 125, 41] [97, 115, 115, 105, 103, 110])) (cond (Nat.blt n 34) (cond (Nat.blt n 33) [120, 32, 61, 32, 49] [40, 120, 32, 61, 32, 49, 41]) (cond (Nat.blt n 35) [99, 97, 115, 116] [120, 32, 97, 115, 32, 117, 56]))) (cond (Nat.blt n 40) (cond (Nat.blt n 38) (cond (Nat.blt n 37) [40, 120, 32, 97, 115, 32, 117, 56, 41] [40, 114, 101, 116, 117, 114, 110, 41]) (cond (Nat.blt n 39) [32, 32, 32, 32] [123, 10])) (cond (Nat.blt n 42) (cond (Nat.blt n 41) [125] [32, 101, 108, 115, 101, 32]) (cond (Nat.blt n 43) [105, 102, 32] [32])))) (cond (Nat.blt n 51) (cond (Nat.blt n 47) (cond (Nat.blt n 45) [105, 102] (cond (Nat.blt n 46) [119, 105, 108, 100] [95])) (cond (Nat.blt n 49) (cond (Nat.blt n 48) [108, 105, 116] [53]) (cond (Nat.blt n 50) [111, 114] [116, 114, 117, 101, 32, 124, 32, 95]))) (cond (Nat.blt n 55) (cond (Nat.blt n 53) (cond (Nat.blt n 52) [110, 97, 109, 101] [121]) (cond (Nat.blt n 54) [114, 101, 102, 32, 121] [32, 105, 102, 32])) (cond (Nat.blt n 57) (cond (Nat.blt n 56) [32, 61, 62, 32] [44]) (cond (Nat.blt n 58) [109, 97, 116, 99, 104, 32] [109, 97, 116, 99, 104])))))) (cond (Nat.blt n 89) (cond (Nat.blt n 74) (cond (Nat.blt n 66) (cond (Nat.blt n 62) (cond (Nat.blt n 60) [39, 97] (cond (Nat.blt n 61) [99, 111, 110, 116, 105, 110, 117, 101] [98, 114, 101, 97, 107])) (cond (Nat.blt n 64) (cond (Nat.blt n 63) [44, 32] [116, 117, 112, 108, 101]) (cond (Nat.blt n 65) [40] [41]))) (cond (Nat.blt n 70) (cond (Nat.blt n 68) (cond (Nat.blt n 67) [97, 114, 114, 97, 121] [91]) (cond (Nat.blt n 69) [93] [109, 97, 99, 114, 111])) (cond (Nat.blt n 72) (cond (Nat.blt n 71) [112, 114, 105, 110, 116] [112, 114, 105, 110, 116, 33, 40]) (cond (Nat.blt n 73) [114, 101, 112, 101, 97, 116] [59, 32, 49, 50, 93])))) (cond (Nat.blt n 81) (cond (Nat.blt n 77) (cond (Nat.blt n 75) [98] (cond (Nat.blt n 76) [48] [58, 32])) (cond (Nat.blt n 79) (cond (Nat.blt n 78) [109] [109, 58, 58, 83, 58, 58, 60, 117, 56, 62]) (cond (Nat.blt n 80) [32, 123, 32] [32, 125]))) (cond (Nat.blt n 85) (cond (Nat.blt n 83) (cond (Nat.blt n 82) [32, 123, 125] [59, 32]) (cond (Nat.blt n 84) [33, 40] [58, 58])) (cond (Nat.blt n 87) (cond (Nat.blt n 86) [117, 112, 100, 97, 116, 101] [117, 110, 97, 114, 121]) (cond (Nat.blt n 88) [99, 97, 108, 108] [109, 101, 116, 104, 111, 100]))))) (cond (Nat.blt n 104) (cond (Nat.blt n 96) (cond (Nat.blt n 92) (cond (Nat.blt n 90) [102, 105, 101, 108, 100] (cond (Nat.blt n 91) [105, 110, 100, 101, 120] [116, 114, 117, 101])) (cond (Nat.blt n 94) (cond (Nat.blt n 93) [60] [62]) (cond (Nat.blt n 95) [114, 101, 102] [38]))) (cond (Nat.blt n 100) (cond (Nat.blt n 98) (cond (Nat.blt n 97) [109, 117, 116, 32] [110, 101, 118, 101, 114]) (cond (Nat.blt n 99) [33] [32, 124, 32])) (cond (Nat.blt n 102) (cond (Nat.blt n 101) [114, 101, 102, 32] [32, 64, 32]) (cond (Nat.blt n 103) [114, 97, 110, 103, 101] [46, 46, 61])))) (cond (Nat.blt n 111) (cond (Nat.blt n 107) (cond (Nat.blt n 105) [118, 97, 114, 105, 97, 110, 116] (cond (Nat.blt n 106) [32, 97, 115, 32] [32, 61, 32])) (cond (Nat.blt n 109) (cond (Nat.blt n 108) [61, 32] [108, 111, 111, 112]) (cond (Nat.blt n 110) [108, 111, 111, 112, 32] [119, 104, 105, 108, 101]))) (cond (Nat.blt n 115) (cond (Nat.blt n 113) (cond (Nat.blt n 112) [119, 104, 105, 108, 101, 32] [102, 111, 114, 32]) (cond (Nat.blt n 114) [32, 105, 110, 32] [32, 46, 46, 61, 32])) (cond (Nat.blt n 117) (cond (Nat.blt n 116) [32, 46, 46, 32] [100, 111]) (cond (Nat.blt n 118) [59] [108, 101, 116, 32])))))))
noncomputable def gvalF (n : Nat) : Option V := match n with
  | 96 => some (.int 0)
  | 99 => some (.int 10)
  | 100 => some (.int 11)
  | 101 => some (.int 12)
  | 109 => some (.int 3)
  | 95 => some (.tup [(.str [98, 108, 111, 99, 107]), (.str [105, 102]), (.str [109, 97, 116, 99, 104]), (.str [108, 111, 111, 112]), (.str [119, 104, 105, 108, 101]), (.str [102, 111, 114])])
  | 98 => some (.tup [(.str [98, 114, 101, 97, 107]), (.str [99, 111, 110, 116, 105, 110, 117, 101]), (.str [114, 101, 116, 117, 114, 110])])
  | 94 => some (.str [32, 32, 32, 32])
  | _ => none
noncomputable def levT : List (List Nat × Int) := [([124, 124], 1), ([38, 38], 2), ([61, 61], 3), ([33, 61], 3), ([60], 3), ([60, 61], 3), ([62], 3), ([62, 61], 3), ([124], 4), ([94], 5), ([38], 6), ([60, 60], 7), ([62, 62], 7), ([43], 8), ([45], 8), ([42], 9), ([47], 9), ([37], 9)]
noncomputable def lkL : List (List Nat × Int) → List Nat → Option Int
  | [], _ => none
  | (k, v) :: r, x => match beqL k x with
    | true => some v
    | false => lkL r x
noncomputable def law1 : List S := [(.ite (.cmp .ne (.call 69 [(.tup [(.str 0), (.int 0), (.tup [(.str 1), (.int 0), (.tup []), .none])])]) (.str 2)) [(.ret (.bool false))] []), (.ite (.cmp .ne (.call 66 [(.tup [(.str 3), (.int 0), (.str 4), (.tup [(.str 5), (.int 0), (.bool true)]), (.tup [(.str 5), (.int 0), (.bool false)])])]) (.str 6)) [(.ret (.bool false))] [])]
noncomputable def law2 : List S := [(.asg 2 (.join (.str 10) (.comp (.call 56 [.cel, (.lst [(.str 7), (.str 8), (.str 9), (.str 10)])]) (.one 4) .range (.call 55 [.cel, (.int 5)])))), (.asg 3 (.call 58 [.cel])), (.ite (.or [(.cmp .ne (.call 65 [(.loc 2)]) (.call 59 [(.loc 2)])), (.cmp .ne (.call 66 [(.sub (.loc 3) (.int 0))]) (.sub (.loc 3) (.int 3)))]) [(.ret (.bool false))] []), (.ite (.or [(.not (.call 61 [.cel])), (.not (.call 62 [.cel]))]) [(.ret (.bool false))] []), (.ret (.and [(.call 63 [.cel]), (.call 64 [.cel])]))]
noncomputable def d_law_jar : FDef := ⟨[0], [], false, [(.asg 3 (.ite (.cmp .gt (.bi .len [(.loc 0)]) (.int 0)) (.sub (.loc 0) (.int 0)) (.int 0))), (.asg 5 (.bi .max2 [(.loc 3), (.bin .sub (.neg 1) (.loc 3))])), (.ret (.lst [(.ite (.cmp .ge (.loc 5) (.bin .pow (.int 10) (.int 18))) (.loc 5) (.int 0)), (.bin .mod (.bin .mul (.bin .add (.bin .mod (.loc 5) (.int 2147483629)) (.int 17)) (.int 48271)) (.int 2147483647))]))]⟩
noncomputable def d_law_dip : FDef := ⟨[1, 6], [], false, [(.ite (.cmp .gt (.sub (.loc 1) (.int 0)) (.int 0)) [(.asg 7 (.bin .mod (.sub (.loc 1) (.int 0)) (.loc 6))), (.setJ 0 (.bin .fdiv (.sub (.loc 1) (.int 0)) (.loc 6))), (.ret (.loc 7))] []), (.setJ 1 (.bin .mod (.bin .add (.bin .mul (.sub (.loc 1) (.int 1)) (.int 39373)) (.int 7)) (.int 2147483647))), (.ret (.bin .mod (.bin .fdiv (.bin .mod (.bin .mul (.sub (.loc 1) (.int 1)) (.sub (.loc 1) (.int 1))) (.int 2147483629)) (.int 32)) (.loc 6)))]⟩
noncomputable def d_law_one : FDef := ⟨[1, 8], [], false, [(.ret (.sub (.loc 8) (.call 55 [(.loc 1), (.bi .len [(.loc 8)])])))]⟩
noncomputable def d_law_path : FDef := ⟨[9], [], false, [(.ret (.tup [(.tup [(.loc 9), (.tup []), (.tup [])])]))]⟩
noncomputable def d_law_expr : FDef := ⟨[1], [], false, [(.tasg [10, 11] [(.tup [(.str 11), (.int 0), (.call 57 [(.str 12)])]), (.tup [(.str 13), (.int 0), (.int 1), .none])]), (.tasg [12, 13] [(.tup [(.str 1), (.int 0), (.tup []), .none]), (.tup [(.str 1), (.int 0), (.tup []), (.loc 11)])]), (.ret (.call 56 [(.loc 1), (.lst [(.tup [(.loc 10), (.str 12), (.str 12), (.str 12), (.str 12)]), (.tup [(.tup [(.str 13), (.int 0), (.int 5), (.str 14)]), (.str 15), (.str 15), (.str 15), (.str 15)]), (.tup [(.tup [(.str 5), (.int 0), (.bool false)]), (.str 16), (.str 16), (.str 16), (.str 16)]), (.tup [(.tup [(.str 3), (.int 0), (.str 17), (.loc 10), (.loc 11)]), (.str 18), (.str 18), (.str 18), (.str 18)]), (.bin .add (.tup [(.tup [(.str 19), (.int 0), (.bool true), (.loc 10)])]) (.bin .mul (.tup [(.str 20)]) (.int 4))), (.tup [(.tup [(.str 21), (.int 0), (.call 57 [(.str 22)]), (.tup [])]), (.str 23), (.str 24), (.str 24), (.str 23)]), (.tup [(.tup [(.str 21), (.int 0), (.call 57 [(.str 22)]), (.tup [(.tup [(.str 7), (.loc 11)])])]), (.str 25), (.str 26), (.str 26), (.str 25)]), (.tup [(.loc 12), (.str 27), (.str 28), (.str 28), (.str 28)]), (.tup [(.loc 13), (.str 29), (.str 30), (.str 30), (.str 30)]), (.tup [(.tup [(.str 31), (.int 0), (.loc 10), (.loc 11)]), (.str 32), (.str 32), (.str 33), (.str 32)]), (.tup [(.tup [(.str 34), (.int 0), (.loc 10), (.tup [(.str 11), (.int 0), (.call 57 [(.str 14)])])]), (.str 35), (.str 35), (.str 36), (.str 35)]), (.tup [(.tup [(.str 0), (.int 0), .none]), (.str 0), (.str 37), (.str 37), (.str 0)])])]))]⟩
noncomputable def d_law_rows : FDef := ⟨[2], [], false, [(.tasg [14, 15] [(.str 10), (.str 38)]), (.for (.one 16) .plain (.bin .add (.loc 2) (.str 8)) [(.asg 15 (.bin .add (.loc 15) (.loc 16))), (.ite (.cmp .eq (.loc 16) (.str 8)) [(.tasg [14, 15] [(.bin .add (.loc 14) (.loc 15)), (.str 38)])] [])]), (.ret (.loc 14))]⟩
noncomputable def d_law_block : FDef := ⟨[1], [], false, [(.ite (.cmp .eq (.call 55 [(.loc 1), (.int 2)]) (.int 0)) [(.ret (.tup [(.tup [(.str 1), (.int 0), (.tup []), .none]), (.str 27)]))] []), (.asg 3 (.call 58 [(.loc 1)])), (.ret (.tup [(.tup [(.str 1), (.int 0), (.tup []), (.sub (.loc 3) (.int 0))]), (.bin .add (.bin .add (.str 39) (.call 59 [(.sub (.loc 3) (.int 1))])) (.str 40))]))]⟩
noncomputable def d_law_if_right : FDef := ⟨[1], [], false, [(.tasg [14, 2] [.none, (.str 10)]), (.ite (.cmp .eq (.call 55 [(.loc 1), (.int 2)]) (.int 0)) [(.unp [14, 2] (.call 60 [(.loc 1)])), (.asg 2 (.bin .add (.str 41) (.loc 2)))] []), (.for (.one 4) .range (.bin .add (.int 1) (.call 55 [(.loc 1), (.int 3)])) [(.tasg [3, 17] [(.call 58 [(.loc 1)]), (.call 60 [(.loc 1)])]), (.asg 2 (.bin .add (.bin .add (.bin .add (.bin .add (.bin .add (.str 42) (.sub (.loc 3) (.int 2))) (.str 43)) (.sub (.loc 17) (.int 1))) (.ite (.cmp .gt (.loc 4) (.int 0)) (.str 41) (.str 10))) (.loc 2))), (.asg 14 (.tup [(.str 44), (.int 0), (.sub (.loc 3) (.int 0)), (.sub (.loc 17) (.int 0)), (.loc 14)]))]), (.ret (.cmp .eq (.call 67 [(.loc 14)]) (.loc 2)))]⟩
noncomputable def d_law_match_right : FDef := ⟨[1], [], false, [(.tasgO [(3, (.call 58 [(.loc 1)]))] 18 2 10), (.for (.one 4) .range (.call 55 [(.loc 1), (.int 4)]) [(.unp [19, 20] (.call 56 [(.loc 1), (.lst [(.tup [(.tup [(.str 45), (.int 0)]), (.str 46)]), (.tup [(.tup [(.str 47), (.int 0), (.int 5)]), (.str 48)]), (.tup [(.tup [(.str 49), (.int 0), (.tup [(.tup [(.str 47), (.int 0), (.bool true)]), (.tup [(.str 45), (.int 0)])])]), (.str 50)]), (.tup [(.tup [(.str 51), (.int 0), (.str 52), (.bool true), (.bool false), .none]), (.str 53)])])])), (.tasg [21, 22] [(.call 56 [(.loc 1), (.lst [.none, (.call 58 [(.loc 1)])])]), (.call 58 [(.loc 1)])]), (.app 18 (.tup [(.loc 19), (.ite (.isNone true (.loc 21)) .none (.sub (.loc 21) (.int 0))), (.sub (.loc 22) (.int 0))])), (.asg 2 (.bin .add (.loc 2) (.call 59 [(.bin .add (.bin .add (.bin .add (.bin .add (.loc 20) (.ite (.isNone true (.loc 21)) (.str 10) (.bin .add (.str 54) (.sub (.loc 21) (.int 1))))) (.str 55)) (.sub (.loc 22) (.int 1))) (.str 56))])))]), (.asg 23 (.bin .add (.bin .add (.bin .add (.str 57) (.sub (.loc 3) (.int 2))) (.str 43)) (.ite (.cmp .eq (.loc 18) (.lst [])) (.str 27) (.bin .add (.bin .add (.str 39) (.loc 2)) (.str 40))))), (.ret (.cmp .eq (.call 68 [(.tup [(.str 58), (.int 0), (.sub (.loc 3) (.int 0)), (.bi .tupleOf [(.loc 18)])])]) (.loc 23)))]⟩
noncomputable def d_law_jump_right : FDef := ⟨[1], [], false, [(.tasg [24, 25] [(.call 56 [(.loc 1), (.lst [.none, (.str 59)])]), (.call 55 [(.loc 1), (.int 4)])]), (.asg 26 (.ite (.isNone true (.loc 24)) (.str 10) (.bin .add (.str 43) (.loc 24)))), (.asg 3 (.call 56 [(.loc 1), (.lst [.none, (.call 58 [(.loc 1)]), (.call 58 [(.loc 1)])])])), (.unp [27, 28] (.ite (.isNone true (.loc 3)) (.tup [.none, (.str 10)]) (.tup [(.sub (.loc 3) (.int 0)), (.bin .add (.str 43) (.sub (.loc 3) (.int 4)))]))), (.ite (.cmp .eq (.loc 25) (.int 0)) [(.ret (.cmp .eq (.call 69 [(.tup [(.str 60), (.int 0), (.loc 24)])]) (.bin .add (.str 60) (.loc 26))))] []), (.ite (.cmp .eq (.loc 25) (.int 1)) [(.ret (.cmp .eq (.call 69 [(.tup [(.str 0), (.int 0), (.loc 27)])]) (.bin .add (.str 0) (.loc 28))))] []), (.ret (.cmp .eq (.call 69 [(.tup [(.str 61), (.int 0), (.loc 24), (.loc 27)])]) (.bin .add (.bin .add (.str 61) (.loc 26)) (.loc 28))))]⟩
noncomputable def d_law_gathered_right : FDef := ⟨[1], [], true, [(.tasg [29, 25] [(.comp (.call 58 [.cel]) (.one 4) .range (.call 55 [.cel, (.int 4)])), (.call 55 [.cel, (.int 5)])]), (.tasg [30, 17] [(.bi .tupleOf [(.comp (.sub (.loc 3) (.int 0)) (.one 3) .plain (.loc 29))]), (.str 10)]), (.for (.tup [31, 3]) .enum (.loc 29) [(.asg 17 (.bin .add (.bin .add (.loc 17) (.ite (.cmp .eq (.loc 31) (.int 0)) (.str 10) (.str 62))) (.sub (.loc 3) (.int 1))))]), (.ite (.cmp .eq (.loc 25) (.int 0)) [(.ret (.cmp .eq (.call 70 [(.tup [(.str 63), (.int 0), (.loc 30)])]) (.bin .add (.bin .add (.bin .add (.str 64) (.loc 17)) (.ite (.cmp .eq (.bi .len [(.loc 29)]) (.int 1)) (.str 56) (.str 10))) (.str 65))))] []), (.ite (.cmp .eq (.loc 25) (.int 1)) [(.ret (.cmp .eq (.call 70 [(.tup [(.str 66), (.int 0), (.loc 30)])]) (.bin .add (.bin .add (.str 67) (.loc 17)) (.str 68))))] []), (.ite (.cmp .eq (.loc 25) (.int 2)) [(.ret (.cmp .eq (.call 70 [(.tup [(.str 69), (.int 0), (.str 70), (.loc 30)])]) (.bin .add (.bin .add (.str 71) (.loc 17)) (.str 65))))] []), (.ite (.cmp .eq (.loc 25) (.int 3)) [(.asg 11 (.call 58 [.cel])), (.ret (.cmp .eq (.call 70 [(.tup [(.str 72), (.int 0), (.sub (.loc 11) (.int 0)), (.int 12)])]) (.bin .add (.bin .add (.str 67) (.sub (.loc 11) (.int 1))) (.str 73))))] []), (.tasgO [] 32 17 10), (.for (.tup [31, 3]) .enum (.loc 29) [(.asg 9 (.sub (.lst [(.str 7), (.str 74), (.str 75)]) (.loc 31))), (.app 32 (.tup [(.loc 9), (.sub (.loc 3) (.int 0))])), (.asg 17 (.bin .add (.bin .add (.bin .add (.bin .add (.loc 17) (.ite (.cmp .eq (.loc 31) (.int 0)) (.str 10) (.str 62))) (.loc 9)) (.str 76)) (.sub (.loc 3) (.int 1))))]), (.asg 33 (.tup [(.tup [(.str 77), (.tup []), (.tup [])]), (.tup [(.str 22), (.tup []), (.tup [(.tup [(.str 11), (.int 0), (.call 57 [(.str 14)])])])])])), (.asg 23 (.bin .add (.str 78) (.ite (.cmp .ne (.loc 32) (.lst [])) (.bin .add (.bin .add (.str 79) (.loc 17)) (.str 80)) (.str 81)))), (.ret (.cmp .eq (.call 70 [(.tup [(.str 21), (.int 0), (.loc 33), (.bi .tupleOf [(.loc 32)])])]) (.loc 23)))]⟩
noncomputable def d_indented : FDef := ⟨[2], [], false, [(.ret (.join (.str 10) (.comp (.bin .add (.bin .add (.glob 94) (.loc 15)) (.str 8)) (.one 15) .plain (.split (.loc 2) (.str 8)))))]⟩
noncomputable def d_write_bound : FDef := ⟨[34], [], false, [(.ret (.call 81 [(.loc 34), (.int 1), (.bool true)]))]⟩
noncomputable def d_write_if : FDef := ⟨[34], [], false, [(.own 14), (.whl (.and [(.isNone false (.loc 34)), (.cmp .eq (.sub (.loc 34) (.int 0)) (.str 44))]) [(.app 14 (.bin .add (.bin .add (.bin .add (.str 42) (.call 84 [(.sub (.loc 34) (.int 2))])) (.str 43)) (.call 86 [(.sub (.loc 34) (.int 3))]))), (.asg 34 (.sub (.loc 34) (.int 4)))]), (.ite (.isNone false (.loc 34)) [(.app 14 (.call 86 [(.loc 34)]))] []), (.ret (.join (.str 41) (.loc 14)))]⟩
noncomputable def d_write_match : FDef := ⟨[34], [], false, [(.own 14), (.for (.tup [19, 21, 22]) .plain (.sub (.loc 34) (.int 3)) [(.asg 3 (.bin .add (.call 78 [(.loc 19)]) (.ite (.isNone true (.loc 21)) (.str 10) (.bin .add (.str 54) (.call 71 [(.loc 21)]))))), (.app 14 (.bin .add (.bin .add (.bin .add (.loc 3) (.str 55)) (.call 71 [(.loc 22)])) (.str 56)))]), (.ret (.bin .add (.bin .add (.bin .add (.str 57) (.call 84 [(.sub (.loc 34) (.int 2))])) (.str 43)) (.call 87 [(.loc 14)])))]⟩
noncomputable def d_write_jump : FDef := ⟨[34], [], false, [(.asg 35 (.sub (.loc 34) (.int 0))), (.ite (.cmp .eq (.loc 35) (.str 60)) [(.ret (.bin .add (.str 60) (.ite (.isNone true (.sub (.loc 34) (.int 2))) (.str 10) (.bin .add (.str 43) (.sub (.loc 34) (.int 2))))))] []), (.asg 27 (.ite (.cmp .eq (.loc 35) (.str 0)) (.sub (.loc 34) (.int 2)) (.sub (.loc 34) (.int 3)))), (.asg 14 (.loc 35)), (.ite (.and [(.cmp .eq (.loc 35) (.str 61)), (.isNone false (.sub (.loc 34) (.int 2)))]) [(.asg 14 (.bin .add (.bin .add (.loc 14) (.str 43)) (.sub (.loc 34) (.int 2))))] []), (.ite (.isNone true (.loc 27)) [(.ret (.loc 14))] []), (.ret (.bin .add (.bin .add (.loc 14) (.str 43)) (.call 71 [(.loc 27), (.ite (.cmp .isin (.sub (.loc 27) (.int 0)) (.glob 95)) (.int 1) (.glob 96))])))]⟩
noncomputable def d_write_gathered : FDef := ⟨[34], [], false, [(.asg 35 (.sub (.loc 34) (.int 0))), (.ite (.cmp .eq (.loc 35) (.str 63)) [(.ret (.call 77 [(.comp (.call 71 [(.loc 11)]) (.one 11) .plain (.sub (.loc 34) (.int 2)))]))] []), (.ite (.cmp .eq (.loc 35) (.str 66)) [(.ret (.bin .add (.bin .add (.str 67) (.call 83 [(.sub (.loc 34) (.int 2))])) (.str 68)))] []), (.ite (.cmp .eq (.loc 35) (.str 72)) [(.ret (.bin .add (.bin .add (.bin .add (.bin .add (.str 67) (.call 71 [(.sub (.loc 34) (.int 2))])) (.str 82)) (.bi .strOf [(.sub (.loc 34) (.int 3))])) (.str 68)))] []), (.ite (.cmp .eq (.loc 35) (.str 69)) [(.ret (.bin .add (.bin .add (.bin .add (.sub (.loc 34) (.int 2)) (.str 83)) (.call 83 [(.sub (.loc 34) (.int 3))])) (.str 65)))] []), (.asg 32 (.join (.str 62) (.comp (.bin .add (.bin .add (.loc 9) (.str 76)) (.call 71 [(.loc 11)])) (.tup [9, 11]) .plain (.sub (.loc 34) (.int 3))))), (.ret (.bin .add (.call 74 [(.sub (.loc 34) (.int 2)), (.str 84)]) (.ite (.cmp .ne (.loc 32) (.str 10)) (.bin .add (.bin .add (.str 79) (.loc 32)) (.str 80)) (.str 81))))]⟩
noncomputable def d_write_expr : FDef := ⟨[34, 36, 37], [(.int 0), (.bool false)], false, [(.asg 35 (.sub (.loc 34) (.int 0))), (.asg 38 (.and [(.loc 37), (.or [(.cmp .eq (.loc 35) (.str 21)), (.cmp .isin (.loc 35) (.glob 98)), (.cmp .isin (.loc 35) (.glob 95))])])), (.ite (.or [(.cmp .lt (.call 72 [(.loc 34)]) (.loc 36)), (.loc 38)]) [(.ret (.bin .add (.bin .add (.str 64) (.call 44 [(.loc 34), (.bool false)])) (.str 65)))] []), (.ret (.call 44 [(.loc 34), (.loc 37)]))]⟩
noncomputable def d_level_of : FDef := ⟨[34], [], false, [(.asg 35 (.sub (.loc 34) (.int 0))), (.ite (.or [(.cmp .isin (.loc 35) (.tup [(.str 31), (.str 85)])), (.cmp .isin (.loc 35) (.glob 95)), (.cmp .isin (.loc 35) (.glob 98))]) [(.ret (.glob 96))] []), (.ite (.cmp .eq (.loc 35) (.str 3)) [(.ret (.lev (.sub (.loc 34) (.int 2))))] []), (.ite (.cmp .eq (.loc 35) (.str 34)) [(.ret (.glob 99))] []), (.ret (.ite (.cmp .isin (.loc 35) (.tup [(.str 86), (.str 19)])) (.glob 100) (.glob 101)))]⟩
noncomputable def d_written : FDef := ⟨[34, 37], [], false, [(.asg 35 (.sub (.loc 34) (.int 0))), (.ite (.cmp .eq (.loc 35) (.str 13)) [(.ret (.bin .add (.bi .strOf [(.sub (.loc 34) (.int 2))]) (.ite (.isNone false (.sub (.loc 34) (.int 3))) (.sub (.loc 34) (.int 3)) (.str 10))))] []), (.ite (.cmp .eq (.loc 35) (.str 5)) [(.ret (.call 73 [(.sub (.loc 34) (.int 2))]))] []), (.ite (.cmp .eq (.loc 35) (.str 11)) [(.ret (.call 74 [(.sub (.loc 34) (.int 2)), (.str 84)]))] []), (.ite (.cmp .isin (.loc 35) (.tup [(.str 86), (.str 19)])) [(.ret (.call 80 [(.loc 34), (.loc 37)]))] []), (.ite (.cmp .isin (.loc 35) (.tup [(.str 3), (.str 31), (.str 85), (.str 34)])) [(.ret (.call 82 [(.loc 34), (.loc 37)]))] []), (.ite (.cmp .isin (.loc 35) (.tup [(.str 87), (.str 88), (.str 89), (.str 90)])) [(.ret (.call 102 [(.loc 34), (.loc 37)]))] []), (.ite (.cmp .isin (.loc 35) (.glob 95)) [(.ret (.call 85 [(.loc 34)]))] []), (.ite (.cmp .isin (.loc 35) (.glob 98)) [(.ret (.call 69 [(.loc 34)]))] []), (.ret (.call 70 [(.loc 34)]))]⟩
noncomputable def d_write_literal : FDef := ⟨[27], [], false, [(.ite (.bi .isBool [(.loc 27)]) [(.ret (.ite (.loc 27) (.str 91) (.str 16)))] []), (.ret (.bi .strOf [(.loc 27)]))]⟩
noncomputable def d_write_path : FDef := ⟨[33, 39], [(.str [])], false, [(.own 14), (.for (.tup [9, 40, 41]) .plain (.loc 33) [(.asg 42 (.call 75 [(.bin .add (.bi .listOf [(.loc 40)]) (.comp (.call 76 [(.loc 11)]) (.one 11) .plain (.loc 41)))])), (.app 14 (.bin .add (.loc 9) (.ite (.cmp .ne (.loc 42) (.str 10)) (.bin .add (.loc 39) (.loc 42)) (.str 10))))]), (.ret (.join (.str 84) (.loc 14)))]⟩
noncomputable def d_write_angles : FDef := ⟨[43], [], false, [(.ret (.ite (.cmp .eq (.loc 43) (.lst [])) (.str 10) (.bin .add (.bin .add (.str 92) (.join (.str 62) (.loc 43))) (.str 93))))]⟩
noncomputable def d_write_type : FDef := ⟨[44], [], false, [(.asg 35 (.sub (.loc 44) (.int 0))), (.ite (.cmp .eq (.loc 35) (.str 11)) [(.ret (.call 74 [(.sub (.loc 44) (.int 2))]))] []), (.ite (.cmp .eq (.loc 35) (.str 94)) [(.asg 45 (.ite (.isNone true (.sub (.loc 44) (.int 2))) (.str 10) (.bin .add (.sub (.loc 44) (.int 2)) (.str 43)))), (.ret (.bin .add (.bin .add (.bin .add (.str 95) (.loc 45)) (.ite (.sub (.loc 44) (.int 3)) (.str 96) (.str 10))) (.call 76 [(.sub (.loc 44) (.int 4))])))] []), (.ite (.cmp .eq (.loc 35) (.str 63)) [(.ret (.call 77 [(.comp (.call 76 [(.loc 11)]) (.one 11) .plain (.sub (.loc 44) (.int 2)))]))] []), (.ite (.cmp .eq (.loc 35) (.str 66)) [(.ret (.bin .add (.bin .add (.bin .add (.bin .add (.str 67) (.call 76 [(.sub (.loc 44) (.int 2))])) (.str 82)) (.bi .strOf [(.sub (.loc 44) (.int 3))])) (.str 68)))] []), (.ret (.ite (.cmp .eq (.loc 35) (.str 97)) (.str 98) (.str 46)))]⟩
noncomputable def d_write_row : FDef := ⟨[43], [], false, [(.ret (.bin .add (.bin .add (.bin .add (.str 64) (.join (.str 62) (.loc 43))) (.ite (.cmp .eq (.bi .len [(.loc 43)]) (.int 1)) (.str 56) (.str 10))) (.str 65)))]⟩
noncomputable def d_write_pattern : FDef := ⟨[19], [], false, [(.ite (.cmp .eq (.sub (.loc 19) (.int 0)) (.str 49)) [(.ret (.join (.str 99) (.comp (.call 79 [(.loc 11)]) (.one 11) .plain (.sub (.loc 19) (.int 2)))))] []), (.ret (.call 79 [(.loc 19)]))]⟩
noncomputable def d_write_part : FDef := ⟨[19], [], false, [(.asg 35 (.sub (.loc 19) (.int 0))), (.ite (.cmp .eq (.loc 35) (.str 49)) [(.ret (.bin .add (.bin .add (.str 64) (.call 78 [(.loc 19)])) (.str 65)))] []), (.ite (.cmp .eq (.loc 35) (.str 45)) [(.ret (.str 46))] []), (.ite (.cmp .eq (.loc 35) (.str 51)) [(.asg 26 (.bin .add (.ite (.sub (.loc 19) (.int 3)) (.str 100) (.str 10)) (.ite (.sub (.loc 19) (.int 4)) (.str 96) (.str 10)))), (.ret (.bin .add (.bin .add (.loc 26) (.sub (.loc 19) (.int 2))) (.ite (.isNone true (.sub (.loc 19) (.int 5))) (.str 10) (.bin .add (.str 101) (.call 79 [(.sub (.loc 19) (.int 5))])))))] []), (.ite (.cmp .eq (.loc 35) (.str 47)) [(.ret (.call 73 [(.sub (.loc 19) (.int 2))]))] []), (.ite (.cmp .eq (.loc 35) (.str 102)) [(.ret (.bin .add (.bin .add (.bi .strOf [(.sub (.loc 19) (.int 2))]) (.str 103)) (.bi .strOf [(.sub (.loc 19) (.int 3))])))] []), (.ite (.cmp .eq (.loc 35) (.str 94)) [(.ret (.bin .add (.bin .add (.str 95) (.ite (.sub (.loc 19) (.int 2)) (.str 96) (.str 10))) (.call 106 [(.loc 19)])))] []), (.ite (.cmp .eq (.loc 35) (.str 63)) [(.ret (.call 77 [(.comp (.call 78 [(.loc 11)]) (.one 11) .plain (.sub (.loc 19) (.int 2)))]))] []), (.ite (.cmp .eq (.loc 35) (.str 104)) [(.ret (.call 107 [(.loc 19)]))] []), (.ret (.call 108 [(.loc 19)]))]⟩
noncomputable def d_write_ahead : FDef := ⟨[34, 37], [], false, [(.ite (.cmp .eq (.sub (.loc 34) (.int 0)) (.str 86)) [(.ret (.bin .add (.sub (.loc 34) (.int 2)) (.call 71 [(.sub (.loc 34) (.int 3)), (.glob 100), (.loc 37)])))] []), (.ret (.bin .add (.bin .add (.str 95) (.ite (.sub (.loc 34) (.int 2)) (.str 96) (.str 10))) (.call 71 [(.sub (.loc 34) (.int 3)), (.glob 100), (.loc 37)])))]⟩
noncomputable def d_write_side : FDef := ⟨[34, 36, 37], [], false, [(.ret (.call 71 [(.loc 34), (.ite (.cmp .eq (.sub (.loc 34) (.int 0)) (.str 34)) (.glob 100) (.loc 36)), (.loc 37)]))]⟩
noncomputable def d_write_operated : FDef := ⟨[34, 37], [], false, [(.asg 35 (.sub (.loc 34) (.int 0))), (.ite (.cmp .eq (.loc 35) (.str 34)) [(.ret (.bin .add (.bin .add (.call 71 [(.sub (.loc 34) (.int 2)), (.glob 99), (.loc 37)]) (.str 105)) (.call 76 [(.sub (.loc 34) (.int 3))])))] []), (.ite (.cmp .eq (.loc 35) (.str 3)) [(.asg 46 (.lev (.sub (.loc 34) (.int 2)))), (.asg 47 (.call 81 [(.sub (.loc 34) (.int 3)), (.bin .add (.loc 46) (.bi .intOf [(.cmp .eq (.loc 46) (.glob 109))])), (.loc 37)])), (.ret (.bin .add (.bin .add (.bin .add (.bin .add (.loc 47) (.str 43)) (.sub (.loc 34) (.int 2))) (.str 43)) (.call 81 [(.sub (.loc 34) (.int 4)), (.bin .add (.loc 46) (.int 1)), (.loc 37)])))] []), (.ite (.cmp .eq (.loc 35) (.str 31)) [(.ret (.bin .add (.bin .add (.call 81 [(.sub (.loc 34) (.int 2)), (.int 1), (.loc 37)]) (.str 106)) (.call 71 [(.sub (.loc 34) (.int 3)), (.glob 96), (.loc 37)])))] []), (.ret (.bin .add (.bin .add (.bin .add (.bin .add (.call 81 [(.sub (.loc 34) (.int 3)), (.int 1), (.loc 37)]) (.str 43)) (.sub (.loc 34) (.int 2))) (.str 107)) (.call 71 [(.sub (.loc 34) (.int 4)), (.glob 96), (.loc 37)])))]⟩
noncomputable def d_write_list : FDef := ⟨[43], [], false, [(.ret (.join (.str 62) (.comp (.call 71 [(.loc 11)]) (.one 11) .plain (.loc 43))))]⟩
noncomputable def d_write_condition : FDef := ⟨[34], [], false, [(.ret (.call 71 [(.loc 34), (.glob 96), (.bool true)]))]⟩
noncomputable def d_write_block_like : FDef := ⟨[34], [], false, [(.asg 35 (.sub (.loc 34) (.int 0))), (.ite (.cmp .eq (.loc 35) (.str 1)) [(.ret (.call 86 [(.loc 34)]))] []), (.ite (.cmp .eq (.loc 35) (.str 44)) [(.ret (.call 67 [(.loc 34)]))] []), (.ite (.cmp .eq (.loc 35) (.str 58)) [(.ret (.call 68 [(.loc 34)]))] []), (.asg 24 (.ite (.isNone true (.sub (.loc 34) (.int 2))) (.str 10) (.bin .add (.sub (.loc 34) (.int 2)) (.str 76)))), (.ite (.cmp .eq (.loc 35) (.str 108)) [(.ret (.bin .add (.bin .add (.loc 24) (.str 109)) (.call 86 [(.sub (.loc 34) (.int 3))])))] []), (.ite (.cmp .eq (.loc 35) (.str 110)) [(.ret (.bin .add (.bin .add (.bin .add (.bin .add (.loc 24) (.str 111)) (.call 84 [(.sub (.loc 34) (.int 3))])) (.str 43)) (.call 86 [(.sub (.loc 34) (.int 4))])))] []), (.tasg [48, 49] [(.call 66 [(.sub (.loc 34) (.int 4))]), (.call 66 [(.sub (.loc 34) (.int 5))])]), (.asg 3 (.bin .add (.bin .add (.bin .add (.bin .add (.bin .add (.str 112) (.call 78 [(.sub (.loc 34) (.int 3))])) (.str 113)) (.loc 48)) (.ite (.sub (.loc 34) (.int 6)) (.str 114) (.str 115))) (.loc 49))), (.ret (.bin .add (.bin .add (.bin .add (.loc 24) (.loc 3)) (.str 43)) (.call 86 [(.sub (.loc 34) (.int 7))])))]⟩
noncomputable def d_write_block : FDef := ⟨[12], [], false, [(.ownC 43 (.call 88 [(.loc 11)]) (.one 11) .plain (.sub (.loc 12) (.int 2))), (.ite (.isNone false (.sub (.loc 12) (.int 3))) [(.app 43 (.call 71 [(.sub (.loc 12) (.int 3))]))] []), (.ret (.call 87 [(.loc 43)]))]⟩
noncomputable def d_write_rows : FDef := ⟨[43], [], false, [(.ite (.cmp .eq (.loc 43) (.lst [])) [(.ret (.str 27))] []), (.ret (.bin .add (.bin .add (.str 39) (.join (.str 10) (.comp (.call 65 [(.loc 50)]) (.one 50) .plain (.loc 43)))) (.str 40)))]⟩
noncomputable def d_write_statement : FDef := ⟨[51], [], false, [(.ite (.cmp .eq (.sub (.loc 51) (.int 0)) (.str 116)) [(.ret (.bin .add (.call 71 [(.sub (.loc 51) (.int 2))]) (.str 117)))] []), (.asg 3 (.ite (.isNone true (.sub (.loc 51) (.int 3))) (.str 10) (.bin .add (.str 76) (.call 76 [(.sub (.loc 51) (.int 3))])))), (.asg 27 (.ite (.isNone true (.sub (.loc 51) (.int 4))) (.str 10) (.bin .add (.str 106) (.call 71 [(.sub (.loc 51) (.int 4))])))), (.ret (.bin .add (.bin .add (.bin .add (.bin .add (.str 118) (.call 79 [(.sub (.loc 51) (.int 2))])) (.loc 3)) (.loc 27)) (.str 117)))]⟩
noncomputable def fdefF (n : Nat) : Option FDef := match n with
  | 54 => some d_law_jar
  | 55 => some d_law_dip
  | 56 => some d_law_one
  | 57 => some d_law_path
  | 58 => some d_law_expr
  | 59 => some d_law_rows
  | 60 => some d_law_block
  | 61 => some d_law_if_right
  | 62 => some d_law_match_right
  | 63 => some d_law_jump_right
  | 64 => some d_law_gathered_right
  | 65 => some d_indented
  | 66 => some d_write_bound
  | 67 => some d_write_if
  | 68 => some d_write_match
  | 69 => some d_write_jump
  | 70 => some d_write_gathered
  | 71 => some d_write_expr
  | 72 => some d_level_of
  | 44 => some d_written
  | 73 => some d_write_literal
  | 74 => some d_write_path
  | 75 => some d_write_angles
  | 76 => some d_write_type
  | 77 => some d_write_row
  | 78 => some d_write_pattern
  | 79 => some d_write_part
  | 80 => some d_write_ahead
  | 81 => some d_write_side
  | 82 => some d_write_operated
  | 83 => some d_write_list
  | 84 => some d_write_condition
  | 85 => some d_write_block_like
  | 86 => some d_write_block
  | 87 => some d_write_rows
  | 88 => some d_write_statement
  | _ => none
noncomputable def TT : Tab := ⟨gvalF, litC, lkL levT, 1, fdefF⟩
noncomputable abbrev f_law : Nat := 53
noncomputable abbrev f_law_jar : Nat := 54
noncomputable abbrev f_law_dip : Nat := 55
noncomputable abbrev f_law_one : Nat := 56
noncomputable abbrev f_law_path : Nat := 57
noncomputable abbrev f_law_expr : Nat := 58
noncomputable abbrev f_law_rows : Nat := 59
noncomputable abbrev f_law_block : Nat := 60
noncomputable abbrev f_law_if_right : Nat := 61
noncomputable abbrev f_law_match_right : Nat := 62
noncomputable abbrev f_law_jump_right : Nat := 63
noncomputable abbrev f_law_gathered_right : Nat := 64
noncomputable abbrev f_indented : Nat := 65
noncomputable abbrev f_write_bound : Nat := 66
noncomputable abbrev f_write_if : Nat := 67
noncomputable abbrev f_write_match : Nat := 68
noncomputable abbrev f_write_jump : Nat := 69
noncomputable abbrev f_write_gathered : Nat := 70
noncomputable abbrev f_write_expr : Nat := 71
noncomputable abbrev f_level_of : Nat := 72
noncomputable abbrev f_written : Nat := 44
noncomputable abbrev f_write_literal : Nat := 73
noncomputable abbrev f_write_path : Nat := 74
noncomputable abbrev f_write_angles : Nat := 75
noncomputable abbrev f_write_type : Nat := 76
noncomputable abbrev f_write_row : Nat := 77
noncomputable abbrev f_write_pattern : Nat := 78
noncomputable abbrev f_write_part : Nat := 79
noncomputable abbrev f_write_ahead : Nat := 80
noncomputable abbrev f_write_side : Nat := 81
noncomputable abbrev f_write_operated : Nat := 82
noncomputable abbrev f_write_list : Nat := 83
noncomputable abbrev f_write_condition : Nat := 84
noncomputable abbrev f_write_block_like : Nat := 85
noncomputable abbrev f_write_block : Nat := 86
noncomputable abbrev f_write_rows : Nat := 87
noncomputable abbrev f_write_statement : Nat := 88
end Mine

end DATpart

section DTpart
open PySem PySem.W PyProof.Rows
namespace Mine
noncomputable def nmF (n : Nat) : Str := (cond (Nat.blt n 55) (cond (Nat.blt n 27) (cond (Nat.blt n 13) (cond (Nat.blt n 6) (cond (Nat.blt n 3) (cond (Nat.blt n 1) (Str.ofString "script") (cond (Nat.blt n 2) (Str.ofString "jar") (Str.ofString "text"))) (cond (Nat.blt n 4) (Str.ofString "told") (cond (Nat.blt n 5) (Str.ofString "turn") (Str.ofString "wide")))) (cond (Nat.blt n 9) (cond (Nat.blt n 7) (Str.ofString "top") (cond (Nat.blt n 8) (Str.ofString "drawn") (Str.ofString "things"))) (cond (Nat.blt n 11) (cond (Nat.blt n 10) (Str.ofString "name") (Str.ofString "x")) (cond (Nat.blt n 12) (Str.ofString "one") (Str.ofString "block"))))) (cond (Nat.blt n 20) (cond (Nat.blt n 16) (cond (Nat.blt n 14) (Str.ofString "whole") (cond (Nat.blt n 15) (Str.ofString "found") (Str.ofString "row"))) (cond (Nat.blt n 18) (cond (Nat.blt n 17) (Str.ofString "sign") (Str.ofString "inner")) (cond (Nat.blt n 19) (Str.ofString "arms") (Str.ofString "pattern")))) (cond (Nat.blt n 23) (cond (Nat.blt n 21) (Str.ofString "written_here") (cond (Nat.blt n 22) (Str.ofString "guard") (Str.ofString "body"))) (cond (Nat.blt n 25) (cond (Nat.blt n 24) (Str.ofString "due") (Str.ofString "label")) (cond (Nat.blt n 26) (Str.ofString "way") (Str.ofString "ahead")))))) (cond (Nat.blt n 41) (cond (Nat.blt n 34) (cond (Nat.blt n 30) (cond (Nat.blt n 28) (Str.ofString "value") (cond (Nat.blt n 29) (Str.ofString "behind") (Str.ofString "some"))) (cond (Nat.blt n 32) (cond (Nat.blt n 31) (Str.ofString "nodes") (Str.ofString "at")) (cond (Nat.blt n 33) (Str.ofString "fields") (Str.ofString "path")))) (cond (Nat.blt n 37) (cond (Nat.blt n 35) (Str.ofString "expr") (cond (Nat.blt n 36) (Str.ofString "kind") (Str.ofString "least"))) (cond (Nat.blt n 39) (cond (Nat.blt n 38) (Str.ofString "is_bare") (Str.ofString "is_open")) (cond (Nat.blt n 40) (Str.ofString "between") (Str.ofString "regions"))))) (cond (Nat.blt n 48) (cond (Nat.blt n 44) (cond (Nat.blt n 42) (Str.ofString "types") (cond (Nat.blt n 43) (Str.ofString "angles") (Str.ofString "parts"))) (cond (Nat.blt n 46) (cond (Nat.blt n 45) (Str.ofString "written") (Str.ofString "region")) (cond (Nat.blt n 47) (Str.ofString "level") (Str.ofString "left")))) (cond (Nat.blt n 51) (cond (Nat.blt n 49) (Str.ofString "low") (cond (Nat.blt n 50) (Str.ofString "high") (Str.ofString "part"))) (cond (Nat.blt n 53) (cond (Nat.blt n 52) (Str.ofString "statement") (Str.ofString "LEVELS")) (cond (Nat.blt n 54) (Str.ofString "law") (Str.ofString "_law_jar"))))))) (cond (Nat.blt n 83) (cond (Nat.blt n 69) (cond (Nat.blt n 62) (cond (Nat.blt n 58) (cond (Nat.blt n 56) (Str.ofString "_law_dip") (cond (Nat.blt n 57) (Str.ofString "_law_one") (Str.ofString "_law_path"))) (cond (Nat.blt n 60) (cond (Nat.blt n 59) (Str.ofString "_law_expr") (Str.ofString "_law_rows")) (cond (Nat.blt n 61) (Str.ofString "_law_block") (Str.ofString "_law_if_right")))) (cond (Nat.blt n 65) (cond (Nat.blt n 63) (Str.ofString "_law_match_right") (cond (Nat.blt n 64) (Str.ofString "_law_jump_right") (Str.ofString "_law_gathered_right"))) (cond (Nat.blt n 67) (cond (Nat.blt n 66) (Str.ofString "indented") (Str.ofString "write_bound")) (cond (Nat.blt n 68) (Str.ofString "write_if") (Str.ofString "write_match"))))) (cond (Nat.blt n 76) (cond (Nat.blt n 72) (cond (Nat.blt n 70) (Str.ofString "write_jump") (cond (Nat.blt n 71) (Str.ofString "write_gathered") (Str.ofString "write_expr"))) (cond (Nat.blt n 74) (cond (Nat.blt n 73) (Str.ofString "level_of") (Str.ofString "write_literal")) (cond (Nat.blt n 75) (Str.ofString "write_path") (Str.ofString "write_angles")))) (cond (Nat.blt n 79) (cond (Nat.blt n 77) (Str.ofString "write_type") (cond (Nat.blt n 78) (Str.ofString "write_row") (Str.ofString "write_pattern"))) (cond (Nat.blt n 81) (cond (Nat.blt n 80) (Str.ofString "write_part") (Str.ofString "write_ahead")) (cond (Nat.blt n 82) (Str.ofString "write_side") (Str.ofString "write_operated")))))) (cond (Nat.blt n 97) (cond (Nat.blt n 90) (cond (Nat.blt n 86) (cond (Nat.blt n 84) (Str.ofString "write_list") (cond (Nat.blt n 85) (Str.ofString "write_condition") (Str.ofString "write_block_like"))) (cond (Nat.blt n 88) (cond (Nat.blt n 87) (Str.ofString "write_block") (Str.ofString "write_rows")) (cond (Nat.blt n 89) (Str.ofString "write_statement") (Str.ofString "range")))) (cond (Nat.blt n 93) (cond (Nat.blt n 91) (Str.ofString "len") (cond (Nat.blt n 92) (Str.ofString "max") (Str.ofString "tuple"))) (cond (Nat.blt n 95) (cond (Nat.blt n 94) (Str.ofString "enumerate") (Str.ofString "INDENT")) (cond (Nat.blt n 96) (Str.ofString "BLOCKS") (Str.ofString "WHOLE"))))) (cond (Nat.blt n 104) (cond (Nat.blt n 100) (cond (Nat.blt n 98) (Str.ofString "str") (cond (Nat.blt n 99) (Str.ofString "JUMPS") (Str.ofString "CAST"))) (cond (Nat.blt n 102) (cond (Nat.blt n 101) (Str.ofString "UNARY") (Str.ofString "POSTFIX")) (cond (Nat.blt n 103) (Str.ofString "write_behind") (Str.ofString "isinstance")))) (cond (Nat.blt n 107) (cond (Nat.blt n 105) (Str.ofString "bool") (cond (Nat.blt n 106) (Str.ofString "list") (Str.ofString "write_referred"))) (cond (Nat.blt n 109) (cond (Nat.blt n 108) (Str.ofString "write_variant") (Str.ofString "write_fields")) (cond (Nat.blt n 110) (Str.ofString "COMPARED") (Str.ofString "int"))))))))
noncomputable def litF (n : Nat) : Str := (cond (Nat.blt n 59) (cond (Nat.blt n 29) (cond (Nat.blt n 14) (cond (Nat.blt n 7) (cond (Nat.blt n 3) (cond (Nat.blt n 1) (Str.ofString "return") (cond (Nat.blt n 2) (Str.ofString "block") (Str.ofString "return ({})"))) (cond (Nat.blt n 5) (cond (Nat.blt n 4) (Str.ofString "binary") (Str.ofString "||")) (cond (Nat.blt n 6) (Str.ofString "bool") (Str.ofString "true || false")))) (cond (Nat.blt n 10) (cond (Nat.blt n 8) (Str.ofString "a") (cond (Nat.blt n 9) (Str.ofString "\n") (Str.ofString "  b"))) (cond (Nat.blt n 12) (cond (Nat.blt n 11) (Str.ofString "") (Str.ofString "path")) (cond (Nat.blt n 13) (Str.ofString "x") (Str.ofString "int"))))) (cond (Nat.blt n 21) (cond (Nat.blt n 17) (cond (Nat.blt n 15) (Str.ofString "u8") (cond (Nat.blt n 16) (Str.ofString "5u8") (Str.ofString "false"))) (cond (Nat.blt n 19) (cond (Nat.blt n 18) (Str.ofString "+") (Str.ofString "x + 1")) (cond (Nat.blt n 20) (Str.ofString "borrow") (Str.ofString "&mut x")))) (cond (Nat.blt n 25) (cond (Nat.blt n 23) (cond (Nat.blt n 22) (Str.ofString "struct") (Str.ofString "S")) (cond (Nat.blt n 24) (Str.ofString "S {}") (Str.ofString "(S {})"))) (cond (Nat.blt n 27) (cond (Nat.blt n 26) (Str.ofString "S { a: 1 }") (Str.ofString "(S { a: 1 })")) (cond (Nat.blt n 28) (Str.ofString "{}") (Str.ofString "({})")))))) (cond (Nat.blt n 44) (cond (Nat.blt n 36) (cond (Nat.blt n 32) (cond (Nat.blt n 30) (Str.ofString "{\n    1\n}") (cond (Nat.blt n 31) (Str.ofString "({\n    1\n})") (Str.ofString "assign"))) (cond (Nat.blt n 34) (cond (Nat.blt n 33) (Str.ofString "x = 1") (Str.ofString "(x = 1)")) (cond (Nat.blt n 35) (Str.ofString "cast") (Str.ofString "x as u8")))) (cond (Nat.blt n 40) (cond (Nat.blt n 38) (cond (Nat.blt n 37) (Str.ofString "(x as u8)") (Str.ofString "(return)")) (cond (Nat.blt n 39) (Str.ofString "    ") (Str.ofString "{\n"))) (cond (Nat.blt n 42) (cond (Nat.blt n 41) (Str.ofString "}") (Str.ofString " else ")) (cond (Nat.blt n 43) (Str.ofString "if ") (Str.ofString " "))))) (cond (Nat.blt n 51) (cond (Nat.blt n 47) (cond (Nat.blt n 45) (Str.ofString "if") (cond (Nat.blt n 46) (Str.ofString "wild") (Str.ofString "_"))) (cond (Nat.blt n 49) (cond (Nat.blt n 48) (Str.ofString "lit") (Str.ofString "5")) (cond (Nat.blt n 50) (Str.ofString "or") (Str.ofString "true | _")))) (cond (Nat.blt n 55) (cond (Nat.blt n 53) (cond (Nat.blt n 52) (Str.ofString "name") (Str.ofString "y")) (cond (Nat.blt n 54) (Str.ofString "ref y") (Str.ofString " if "))) (cond (Nat.blt n 57) (cond (Nat.blt n 56) (Str.ofString " => ") (Str.ofString ",")) (cond (Nat.blt n 58) (Str.ofString "match ") (Str.ofString "match"))))))) (cond (Nat.blt n 89) (cond (Nat.blt n 74) (cond (Nat.blt n 66) (cond (Nat.blt n 62) (cond (Nat.blt n 60) (Str.ofString "'a") (cond (Nat.blt n 61) (Str.ofString "continue") (Str.ofString "break"))) (cond (Nat.blt n 64) (cond (Nat.blt n 63) (Str.ofString ", ") (Str.ofString "tuple")) (cond (Nat.blt n 65) (Str.ofString "(") (Str.ofString ")")))) (cond (Nat.blt n 70) (cond (Nat.blt n 68) (cond (Nat.blt n 67) (Str.ofString "array") (Str.ofString "[")) (cond (Nat.blt n 69) (Str.ofString "]") (Str.ofString "m\x61cro"))) (cond (Nat.blt n 72) (cond (Nat.blt n 71) (Str.ofString "print") (Str.ofString "print!(")) (cond (Nat.blt n 73) (Str.ofString "repeat") (Str.ofString "; 12]"))))) (cond (Nat.blt n 81) (cond (Nat.blt n 77) (cond (Nat.blt n 75) (Str.ofString "b") (cond (Nat.blt n 76) (Str.ofString "0") (Str.ofString ": "))) (cond (Nat.blt n 79) (cond (Nat.blt n 78) (Str.ofString "m") (Str.ofString "m::S::<u8>")) (cond (Nat.blt n 80) (Str.ofString " { ") (Str.ofString " }")))) (cond (Nat.blt n 85) (cond (Nat.blt n 83) (cond (Nat.blt n 82) (Str.ofString " {}") (Str.ofString "; ")) (cond (Nat.blt n 84) (Str.ofString "!(") (Str.ofString "::"))) (cond (Nat.blt n 87) (cond (Nat.blt n 86) (Str.ofString "update") (Str.ofString "unary")) (cond (Nat.blt n 88) (Str.ofString "call") (Str.ofString "method")))))) (cond (Nat.blt n 104) (cond (Nat.blt n 96) (cond (Nat.blt n 92) (cond (Nat.blt n 90) (Str.ofString "field") (cond (Nat.blt n 91) (Str.ofString "index") (Str.ofString "true"))) (cond (Nat.blt n 94) (cond (Nat.blt n 93) (Str.ofString "<") (Str.ofString ">")) (cond (Nat.blt n 95) (Str.ofString "ref") (Str.ofString "&")))) (cond (Nat.blt n 100) (cond (Nat.blt n 98) (cond (Nat.blt n 97) (Str.ofString "mut ") (Str.ofString "never")) (cond (Nat.blt n 99) (Str.ofString "!") (Str.ofString " | "))) (cond (Nat.blt n 102) (cond (Nat.blt n 101) (Str.ofString "ref ") (Str.ofString " @ ")) (cond (Nat.blt n 103) (Str.ofString "range") (Str.ofString "..="))))) (cond (Nat.blt n 111) (cond (Nat.blt n 107) (cond (Nat.blt n 105) (Str.ofString "variant") (cond (Nat.blt n 106) (Str.ofString " as ") (Str.ofString " = "))) (cond (Nat.blt n 109) (cond (Nat.blt n 108) (Str.ofString "= ") (Str.ofString "loop")) (cond (Nat.blt n 110) (Str.ofString "loop ") (Str.ofString "while")))) (cond (Nat.blt n 115) (cond (Nat.blt n 113) (cond (Nat.blt n 112) (Str.ofString "while ") (Str.ofString "for ")) (cond (Nat.blt n 114) (Str.ofString " in ") (Str.ofString " ..= "))) (cond (Nat.blt n 117) (cond (Nat.blt n 116) (Str.ofString " .. ") (Str.ofString "do")) (cond (Nat.blt n 118) (Str.ofString ";") (Str.ofString "let "))))))))
noncomputable def kOf (s : Str) : Nat := s.cps.toList.foldl (fun a c => a * 1114112 + c) 1
noncomputable def keyT : List Nat := [1912572637289355416600561283821994100, 1383018132715667570, 1540850926746688611156084, 1540850926759101053272164, 1540850926766548533248110, 1540855075411335309426789, 1383030545186750576, 1716655856669395753963847352430, 1912574353798846317282026032914169971, 1540842629422360139989093, 1114232, 1383024338957893733, 1716652775280074891386864992363, 1716685129775290731349228126309, 1716658938046270679697930977380, 1383028062695653495, 1540849543865092994957422, 1716663560116423125335004217458, 1540824651918173781426291, 2130814388946567047599360920885204205305966, 3657569685592187305778961491738624601991370707605057737332873987871604837, 1716660478745079754531961700452, 1540826034801010614206585, 1383010685264658533, 1716668182169980926038906306668, 1383034268907798649, 1716651234584031552436628947044, 1716683589075098741405984817253, 1912543456762049954130142385568350308, 1540849543872540474933349, 1716671263570364900960430784627, 1241353617524, 1912550322775362554302752052545323123, 1540845395195481306693736, 1540830183471863575871602, 1540838480772608367132772, 1716668182175512471039994167412, 2130801002350788028536595190958547912491109, 2130801002350788028536613168502454114123886, 2130787615700081016984146695234548328104046, 2130818213703911897258077137068163978887283, 1716680507727264463233935016051, 1912541740274128706784746097073258611, 1716674344932028067080693874803, 2130827775602423579921125280661846560669806, 1912570920790649321843833597581000814, 1716668182175512497106135089260, 1540839863654203955478644, 1383020615222362231, 1540834332112926620975208, 1540845395195481304465524, 2644870996275670422306561126594152710892765244847685748]
theorem keys_ok : (List.range 52).map (fun n => kOf (nmF n)) = keyT := by decide +kernel
theorem keys_nodup : keyT.Nodup := by decide +kernel
theorem nm_inj (x y : Nat) (hx : x < 52) (hy : y < 52) (e : nmF x = nmF y) : x = y := by
  have g : ∀ z, z < 52 → keyT[z]? = some (kOf (nmF z)) := fun z hz => by
    rw [← keys_ok, List.getElem?_map, List.getElem?_range hz]; rfl
  have h1 := g x hx
  have h2 := g y hy
  rw [e, ← h2] at h1
  exact (List.getElem?_inj (by rw [← keys_ok, List.length_map, List.length_range]; exact hx) keys_nodup).mp h1
noncomputable def ZZ : Nms := ⟨nmF, 52, litF, 1, 52, nm_inj⟩
noncomputable def cc0 : Cx := ⟨[4], [56], true⟩
noncomputable def cx_law : Cx := ⟨[0, 2, 3], [69, 66, 89, 55, 58, 65, 59, 61, 62, 63, 64, 54], true⟩
--COMP cc0 of law
noncomputable def cx_law0 : Cx := ⟨[0, 2, 3], [69, 66, 89, 55, 58, 65, 59, 61, 62, 63, 64, 54], false⟩
theorem tr_law1 : TrSs ZZ cx_law0 law1 ((bodyAt 52).take 2) := (.cons (.ite (.cmp (.call rfl (.cons (.tup (.cons .str (fun _ _ => rfl) (.cons .int (fun _ _ => rfl) (.cons (.tup (.cons .str (fun _ _ => rfl) (.cons .int (fun _ _ => rfl) (.cons (.tup .nil) (fun _ _ => rfl) (.cons .none (fun _ _ => rfl) .nil))))) (fun _ _ => rfl) .nil)))) (fun _ _ => rfl) .nil) (by simp)) .str rfl) (.cons (.ret .bool) .nil) .nil) (.cons (.ite (.cmp (.call rfl (.cons (.tup (.cons .str (fun _ _ => rfl) (.cons .int (fun _ _ => rfl) (.cons .str (fun _ _ => rfl) (.cons (.tup (.cons .str (fun _ _ => rfl) (.cons .int (fun _ _ => rfl) (.cons .bool (fun _ _ => rfl) .nil)))) (fun _ _ => rfl) (.cons (.tup (.cons .str (fun _ _ => rfl) (.cons .int (fun _ _ => rfl) (.cons .bool (fun _ _ => rfl) .nil)))) (fun _ _ => rfl) .nil)))))) (fun _ _ => rfl) .nil) (by simp)) .str rfl) (.cons (.ret .bool) .nil) .nil) .nil))
theorem tr_law2 : TrSs ZZ cx_law law2 ((bodyAt 52).drop 3) := (.cons (.asg rfl (.join rfl (.comp (c' := cc0) trivial (.range (g := 89) rfl rfl (.call rfl (.cons (.cel rfl) (fun _ _ => rfl) (.cons .int (fun _ _ => rfl) .nil)) (by simp)) (fun _ => rfl)) (.one rfl) (.call rfl (.cons (.cel rfl) (fun _ _ => rfl) (.cons (.lst (.cons .str (fun _ _ => rfl) (.cons .str (fun _ _ => rfl) (.cons .str (fun _ _ => rfl) (.cons .str (fun _ _ => rfl) .nil))))) (fun _ _ => rfl) .nil)) (by simp)) (compOk_of (by decide +kernel)))) (fun _ _ => rfl)) (.cons (.asg rfl (.call rfl (.cons (.cel rfl) (fun _ _ => rfl) .nil) (by simp)) (fun _ _ => rfl)) (.cons (.ite (.or (.cons (.cmp (.call rfl (.cons (.loc rfl) (fun _ _ => rfl) .nil) (by simp)) (.call rfl (.cons (.loc rfl) (fun _ _ => rfl) .nil) (by simp)) rfl) (fun _ _ => rfl) (.cons (.cmp (.call rfl (.cons (.sub (.loc rfl) .int (fun _ _ => rfl)) (fun _ _ => rfl) .nil) (by simp)) (.sub (.loc rfl) .int (fun _ _ => rfl)) rfl) (fun _ _ => rfl) .nil))) (.cons (.ret .bool) .nil) .nil) (.cons (.ite (.or (.cons (.not (.call rfl (.cons (.cel rfl) (fun _ _ => rfl) .nil) (by simp))) (fun _ _ => rfl) (.cons (.not (.call rfl (.cons (.cel rfl) (fun _ _ => rfl) .nil) (by simp))) (fun _ _ => rfl) .nil))) (.cons (.ret .bool) .nil) .nil) (.cons (.ret (.and (.cons (.call rfl (.cons (.cel rfl) (fun _ _ => rfl) .nil) (by simp)) (fun _ _ => rfl) (.cons (.call rfl (.cons (.cel rfl) (fun _ _ => rfl) .nil) (by simp)) (fun _ _ => rfl) .nil)))) .nil)))))
noncomputable def cx_law_jar : Cx := ⟨[0, 3, 5], [90, 91], false⟩
theorem tr_law_jar : TrSs ZZ cx_law_jar d_law_jar.body (bodyAt 41) := (.cons (.asg rfl (.ite (.cmp (.bi (g := 90) rfl rfl (fun h => nomatch h) (.cons (.loc rfl) (fun _ _ => rfl) .nil) (by simp)) .int rfl) (.sub (.loc rfl) .int (fun _ _ => rfl)) .int) (fun _ _ => rfl)) (.cons (.asg rfl (.bi (g := 91) rfl rfl (fun h => nomatch h) (.cons (.loc rfl) (fun _ _ => rfl) (.cons (.bin .neg (.loc rfl)) (fun _ _ => rfl) .nil)) (by simp)) (fun _ _ => rfl)) (.cons (.ret (.lst (.cons (.ite (.cmp (.loc rfl) (.bin .int .int) rfl) (.loc rfl) .int) (fun _ _ => rfl) (.cons (.bin (.bin (.bin (.bin (.loc rfl) .int) .int) .int) .int) (fun _ _ => rfl) .nil)))) .nil)))
noncomputable def cx_law_dip : Cx := ⟨[1, 6, 7], [], false⟩
theorem tr_law_dip : TrSs ZZ cx_law_dip d_law_dip.body (bodyAt 42) := (.cons (.ite (.cmp (.sub (.loc rfl) .int (fun _ _ => rfl)) .int rfl) (.cons (.asg rfl (.bin (.sub (.loc rfl) .int (fun _ _ => rfl)) (.loc rfl)) (fun _ _ => rfl)) (.cons (.setJ (.bin (.sub (.loc rfl) .int (fun _ _ => rfl)) (.loc rfl)) rfl rfl rfl (fun _ _ _ => rfl)) (.cons (.ret (.loc rfl)) .nil))) .nil) (.cons (.setJ (.bin (.bin (.bin (.sub (.loc rfl) .int (fun _ _ => rfl)) .int) .int) .int) rfl rfl rfl (fun _ _ _ => rfl)) (.cons (.ret (.bin (.bin (.bin (.bin (.sub (.loc rfl) .int (fun _ _ => rfl)) (.sub (.loc rfl) .int (fun _ _ => rfl))) .int) .int) (.loc rfl))) .nil)))
noncomputable def cx_law_one : Cx := ⟨[1, 8], [90, 55], false⟩
theorem tr_law_one : TrSs ZZ cx_law_one d_law_one.body (bodyAt 43) := (.cons (.ret (.sub (.loc rfl) (.call rfl (.cons (.loc rfl) (fun _ _ => rfl) (.cons (.bi (g := 90) rfl rfl (fun h => nomatch h) (.cons (.loc rfl) (fun _ _ => rfl) .nil) (by simp)) (fun _ _ => rfl) .nil)) (by simp)) (fun _ _ => rfl))) .nil)
noncomputable def cx_law_path : Cx := ⟨[9], [], false⟩
theorem tr_law_path : TrSs ZZ cx_law_path d_law_path.body (bodyAt 44) := (.cons (.ret (.tup (.cons (.tup (.cons (.loc rfl) (fun _ _ => rfl) (.cons (.tup .nil) (fun _ _ => rfl) (.cons (.tup .nil) (fun _ _ => rfl) .nil)))) (fun _ _ => rfl) .nil))) .nil)
noncomputable def cx_law_expr : Cx := ⟨[1, 10, 11, 12, 13], [57, 56], false⟩
theorem tr_law_expr : TrSs ZZ cx_law_expr d_law_expr.body (bodyAt 45) := (.cons (.tasg (.cons rfl (.cons rfl .nil)) (.cons (.tup (.cons .str (fun _ _ => rfl) (.cons .int (fun _ _ => rfl) (.cons (.call rfl (.cons .str (fun _ _ => rfl) .nil) (by simp)) (fun _ _ => rfl) .nil)))) (fun _ _ => rfl) (.cons (.tup (.cons .str (fun _ _ => rfl) (.cons .int (fun _ _ => rfl) (.cons .int (fun _ _ => rfl) (.cons .none (fun _ _ => rfl) .nil))))) (fun _ _ => rfl) .nil)) (by decide) (by decide) (by decide +kernel)) (.cons (.tasg (.cons rfl (.cons rfl .nil)) (.cons (.tup (.cons .str (fun _ _ => rfl) (.cons .int (fun _ _ => rfl) (.cons (.tup .nil) (fun _ _ => rfl) (.cons .none (fun _ _ => rfl) .nil))))) (fun _ _ => rfl) (.cons (.tup (.cons .str (fun _ _ => rfl) (.cons .int (fun _ _ => rfl) (.cons (.tup .nil) (fun _ _ => rfl) (.cons (.loc rfl) (fun _ _ => rfl) .nil))))) (fun _ _ => rfl) .nil)) (by decide) (by decide) (by decide +kernel)) (.cons (.ret (.call rfl (.cons (.loc rfl) (fun _ _ => rfl) (.cons (.lst (.cons (.tup (.cons (.loc rfl) (fun _ _ => rfl) (.cons .str (fun _ _ => rfl) (.cons .str (fun _ _ => rfl) (.cons .str (fun _ _ => rfl) (.cons .str (fun _ _ => rfl) .nil)))))) (fun _ _ => rfl) (.cons (.tup (.cons (.tup (.cons .str (fun _ _ => rfl) (.cons .int (fun _ _ => rfl) (.cons .int (fun _ _ => rfl) (.cons .str (fun _ _ => rfl) .nil))))) (fun _ _ => rfl) (.cons .str (fun _ _ => rfl) (.cons .str (fun _ _ => rfl) (.cons .str (fun _ _ => rfl) (.cons .str (fun _ _ => rfl) .nil)))))) (fun _ _ => rfl) (.cons (.tup (.cons (.tup (.cons .str (fun _ _ => rfl) (.cons .int (fun _ _ => rfl) (.cons .bool (fun _ _ => rfl) .nil)))) (fun _ _ => rfl) (.cons .str (fun _ _ => rfl) (.cons .str (fun _ _ => rfl) (.cons .str (fun _ _ => rfl) (.cons .str (fun _ _ => rfl) .nil)))))) (fun _ _ => rfl) (.cons (.tup (.cons (.tup (.cons .str (fun _ _ => rfl) (.cons .int (fun _ _ => rfl) (.cons .str (fun _ _ => rfl) (.cons (.loc rfl) (fun _ _ => rfl) (.cons (.loc rfl) (fun _ _ => rfl) .nil)))))) (fun _ _ => rfl) (.cons .str (fun _ _ => rfl) (.cons .str (fun _ _ => rfl) (.cons .str (fun _ _ => rfl) (.cons .str (fun _ _ => rfl) .nil)))))) (fun _ _ => rfl) (.cons (.bin (.tup (.cons (.tup (.cons .str (fun _ _ => rfl) (.cons .int (fun _ _ => rfl) (.cons .bool (fun _ _ => rfl) (.cons (.loc rfl) (fun _ _ => rfl) .nil))))) (fun _ _ => rfl) .nil)) (.bin (.tup (.cons .str (fun _ _ => rfl) .nil)) .int)) (fun _ _ => rfl) (.cons (.tup (.cons (.tup (.cons .str (fun _ _ => rfl) (.cons .int (fun _ _ => rfl) (.cons (.call rfl (.cons .str (fun _ _ => rfl) .nil) (by simp)) (fun _ _ => rfl) (.cons (.tup .nil) (fun _ _ => rfl) .nil))))) (fun _ _ => rfl) (.cons .str (fun _ _ => rfl) (.cons .str (fun _ _ => rfl) (.cons .str (fun _ _ => rfl) (.cons .str (fun _ _ => rfl) .nil)))))) (fun _ _ => rfl) (.cons (.tup (.cons (.tup (.cons .str (fun _ _ => rfl) (.cons .int (fun _ _ => rfl) (.cons (.call rfl (.cons .str (fun _ _ => rfl) .nil) (by simp)) (fun _ _ => rfl) (.cons (.tup (.cons (.tup (.cons .str (fun _ _ => rfl) (.cons (.loc rfl) (fun _ _ => rfl) .nil))) (fun _ _ => rfl) .nil)) (fun _ _ => rfl) .nil))))) (fun _ _ => rfl) (.cons .str (fun _ _ => rfl) (.cons .str (fun _ _ => rfl) (.cons .str (fun _ _ => rfl) (.cons .str (fun _ _ => rfl) .nil)))))) (fun _ _ => rfl) (.cons (.tup (.cons (.loc rfl) (fun _ _ => rfl) (.cons .str (fun _ _ => rfl) (.cons .str (fun _ _ => rfl) (.cons .str (fun _ _ => rfl) (.cons .str (fun _ _ => rfl) .nil)))))) (fun _ _ => rfl) (.cons (.tup (.cons (.loc rfl) (fun _ _ => rfl) (.cons .str (fun _ _ => rfl) (.cons .str (fun _ _ => rfl) (.cons .str (fun _ _ => rfl) (.cons .str (fun _ _ => rfl) .nil)))))) (fun _ _ => rfl) (.cons (.tup (.cons (.tup (.cons .str (fun _ _ => rfl) (.cons .int (fun _ _ => rfl) (.cons (.loc rfl) (fun _ _ => rfl) (.cons (.loc rfl) (fun _ _ => rfl) .nil))))) (fun _ _ => rfl) (.cons .str (fun _ _ => rfl) (.cons .str (fun _ _ => rfl) (.cons .str (fun _ _ => rfl) (.cons .str (fun _ _ => rfl) .nil)))))) (fun _ _ => rfl) (.cons (.tup (.cons (.tup (.cons .str (fun _ _ => rfl) (.cons .int (fun _ _ => rfl) (.cons (.loc rfl) (fun _ _ => rfl) (.cons (.tup (.cons .str (fun _ _ => rfl) (.cons .int (fun _ _ => rfl) (.cons (.call rfl (.cons .str (fun _ _ => rfl) .nil) (by simp)) (fun _ _ => rfl) .nil)))) (fun _ _ => rfl) .nil))))) (fun _ _ => rfl) (.cons .str (fun _ _ => rfl) (.cons .str (fun _ _ => rfl) (.cons .str (fun _ _ => rfl) (.cons .str (fun _ _ => rfl) .nil)))))) (fun _ _ => rfl) (.cons (.tup (.cons (.tup (.cons .str (fun _ _ => rfl) (.cons .int (fun _ _ => rfl) (.cons .none (fun _ _ => rfl) .nil)))) (fun _ _ => rfl) (.cons .str (fun _ _ => rfl) (.cons .str (fun _ _ => rfl) (.cons .str (fun _ _ => rfl) (.cons .str (fun _ _ => rfl) .nil)))))) (fun _ _ => rfl) .nil))))))))))))) (fun _ _ => rfl) .nil)) (by simp))) .nil)))
noncomputable def cx_law_rows : Cx := ⟨[2, 14, 15, 16], [], false⟩
theorem tr_law_rows : TrSs ZZ cx_law_rows d_law_rows.body (bodyAt 46) := (.cons (.tasg (.cons rfl (.cons rfl .nil)) (.cons .str (fun _ _ => rfl) (.cons .str (fun _ _ => rfl) .nil)) (by decide) (by decide) (by decide +kernel)) (.cons (.for trivial (.plain (.bin (.loc rfl) .str) (fun _ _ => rfl)) (.one rfl) (.cons (.asg rfl (.bin (.loc rfl) (.loc rfl)) (fun _ _ => rfl)) (.cons (.ite (.cmp (.loc rfl) .str rfl) (.cons (.tasg (.cons rfl (.cons rfl .nil)) (.cons (.bin (.loc rfl) (.loc rfl)) (fun _ _ => rfl) (.cons .str (fun _ _ => rfl) .nil)) (by decide) (by decide) (by decide +kernel)) .nil) .nil) .nil))) (.cons (.ret (.loc rfl)) .nil)))
noncomputable def cx_law_block : Cx := ⟨[1, 3], [55, 58, 59], false⟩
theorem tr_law_block : TrSs ZZ cx_law_block d_law_block.body (bodyAt 47) := (.cons (.ite (.cmp (.call rfl (.cons (.loc rfl) (fun _ _ => rfl) (.cons .int (fun _ _ => rfl) .nil)) (by simp)) .int rfl) (.cons (.ret (.tup (.cons (.tup (.cons .str (fun _ _ => rfl) (.cons .int (fun _ _ => rfl) (.cons (.tup .nil) (fun _ _ => rfl) (.cons .none (fun _ _ => rfl) .nil))))) (fun _ _ => rfl) (.cons .str (fun _ _ => rfl) .nil)))) .nil) .nil) (.cons (.asg rfl (.call rfl (.cons (.loc rfl) (fun _ _ => rfl) .nil) (by simp)) (fun _ _ => rfl)) (.cons (.ret (.tup (.cons (.tup (.cons .str (fun _ _ => rfl) (.cons .int (fun _ _ => rfl) (.cons (.tup .nil) (fun _ _ => rfl) (.cons (.sub (.loc rfl) .int (fun _ _ => rfl)) (fun _ _ => rfl) .nil))))) (fun _ _ => rfl) (.cons (.bin (.bin .str (.call rfl (.cons (.sub (.loc rfl) .int (fun _ _ => rfl)) (fun _ _ => rfl) .nil) (by simp))) .str) (fun _ _ => rfl) .nil)))) .nil)))
noncomputable def cx_law_if_right : Cx := ⟨[1, 14, 2, 4, 3, 17], [55, 60, 89, 58, 67], false⟩
theorem tr_law_if_right : TrSs ZZ cx_law_if_right d_law_if_right.body (bodyAt 48) := (.cons (.tasg (.cons rfl (.cons rfl .nil)) (.cons .none (fun _ _ => rfl) (.cons .str (fun _ _ => rfl) .nil)) (by decide) (by decide) (by decide +kernel)) (.cons (.ite (.cmp (.call rfl (.cons (.loc rfl) (fun _ _ => rfl) (.cons .int (fun _ _ => rfl) .nil)) (by simp)) .int rfl) (.cons (.unp (.cons rfl (.cons rfl .nil)) (by decide) (.call rfl (.cons (.loc rfl) (fun _ _ => rfl) .nil) (by simp)) (fun _ _ _ h => nomatch h) (fun _ _ h => nomatch h) (fun _ _ => rfl)) (.cons (.asg rfl (.bin .str (.loc rfl)) (fun _ _ => rfl)) .nil)) .nil) (.cons (.for trivial (.range (g := 89) rfl rfl (.bin .int (.call rfl (.cons (.loc rfl) (fun _ _ => rfl) (.cons .int (fun _ _ => rfl) .nil)) (by simp))) (fun _ => rfl)) (.one rfl) (.cons (.tasg (.cons rfl (.cons rfl .nil)) (.cons (.call rfl (.cons (.loc rfl) (fun _ _ => rfl) .nil) (by simp)) (fun _ _ => rfl) (.cons (.call rfl (.cons (.loc rfl) (fun _ _ => rfl) .nil) (by simp)) (fun _ _ => rfl) .nil)) (by decide) (by decide) (by decide +kernel)) (.cons (.asg rfl (.bin (.bin (.bin (.bin (.bin .str (.sub (.loc rfl) .int (fun _ _ => rfl))) .str) (.sub (.loc rfl) .int (fun _ _ => rfl))) (.ite (.cmp (.loc rfl) .int rfl) .str .str)) (.loc rfl)) (fun _ _ => rfl)) (.cons (.asg rfl (.tup (.cons .str (fun _ _ => rfl) (.cons .int (fun _ _ => rfl) (.cons (.sub (.loc rfl) .int (fun _ _ => rfl)) (fun _ _ => rfl) (.cons (.sub (.loc rfl) .int (fun _ _ => rfl)) (fun _ _ => rfl) (.cons (.loc rfl) (fun _ _ => rfl) .nil)))))) (fun _ _ => rfl)) .nil)))) (.cons (.ret (.cmp (.call rfl (.cons (.loc rfl) (fun _ _ => rfl) .nil) (by simp)) (.loc rfl) rfl)) .nil))))
noncomputable def cx_law_match_right : Cx := ⟨[1, 3, 18, 2, 4, 19, 20, 21, 22, 23], [58, 89, 55, 56, 59, 92, 68], false⟩
theorem tr_law_match_right : TrSs ZZ cx_law_match_right d_law_match_right.body (bodyAt 49) := (.cons (.tasgO (pre := [(3, (.call 58 [(.loc 1)]))]) (ts := [_]) (es := [_]) (.cons rfl .nil) (.cons (.call rfl (.cons (.loc rfl) (fun _ _ => rfl) .nil) (by simp)) (fun _ _ => rfl) .nil) (by decide) (by decide) rfl rfl) (.cons (.for trivial (.range (g := 89) rfl rfl (.call rfl (.cons (.loc rfl) (fun _ _ => rfl) (.cons .int (fun _ _ => rfl) .nil)) (by simp)) (fun _ => rfl)) (.one rfl) (.cons (.unp (.cons rfl (.cons rfl .nil)) (by decide) (.call rfl (.cons (.loc rfl) (fun _ _ => rfl) (.cons (.lst (.cons (.tup (.cons (.tup (.cons .str (fun _ _ => rfl) (.cons .int (fun _ _ => rfl) .nil))) (fun _ _ => rfl) (.cons .str (fun _ _ => rfl) .nil))) (fun _ _ => rfl) (.cons (.tup (.cons (.tup (.cons .str (fun _ _ => rfl) (.cons .int (fun _ _ => rfl) (.cons .int (fun _ _ => rfl) .nil)))) (fun _ _ => rfl) (.cons .str (fun _ _ => rfl) .nil))) (fun _ _ => rfl) (.cons (.tup (.cons (.tup (.cons .str (fun _ _ => rfl) (.cons .int (fun _ _ => rfl) (.cons (.tup (.cons (.tup (.cons .str (fun _ _ => rfl) (.cons .int (fun _ _ => rfl) (.cons .bool (fun _ _ => rfl) .nil)))) (fun _ _ => rfl) (.cons (.tup (.cons .str (fun _ _ => rfl) (.cons .int (fun _ _ => rfl) .nil))) (fun _ _ => rfl) .nil))) (fun _ _ => rfl) .nil)))) (fun _ _ => rfl) (.cons .str (fun _ _ => rfl) .nil))) (fun _ _ => rfl) (.cons (.tup (.cons (.tup (.cons .str (fun _ _ => rfl) (.cons .int (fun _ _ => rfl) (.cons .str (fun _ _ => rfl) (.cons .bool (fun _ _ => rfl) (.cons .bool (fun _ _ => rfl) (.cons .none (fun _ _ => rfl) .nil))))))) (fun _ _ => rfl) (.cons .str (fun _ _ => rfl) .nil))) (fun _ _ => rfl) .nil))))) (fun _ _ => rfl) .nil)) (by simp)) (fun _ _ _ h => nomatch h) (fun _ _ h => nomatch h) (fun _ _ => rfl)) (.cons (.tasg (.cons rfl (.cons rfl .nil)) (.cons (.call rfl (.cons (.loc rfl) (fun _ _ => rfl) (.cons (.lst (.cons .none (fun _ _ => rfl) (.cons (.call rfl (.cons (.loc rfl) (fun _ _ => rfl) .nil) (by simp)) (fun _ _ => rfl) .nil))) (fun _ _ => rfl) .nil)) (by simp)) (fun _ _ => rfl) (.cons (.call rfl (.cons (.loc rfl) (fun _ _ => rfl) .nil) (by simp)) (fun _ _ => rfl) .nil)) (by decide) (by decide) (by decide +kernel)) (.cons (.app rfl rfl (.tup (.cons (.loc rfl) (fun _ _ => rfl) (.cons (.ite (.isN (.loc rfl)) .none (.sub (.loc rfl) .int (fun _ _ => rfl))) (fun _ _ => rfl) (.cons (.sub (.loc rfl) .int (fun _ _ => rfl)) (fun _ _ => rfl) .nil)))) (fun _ => rfl)) (.cons (.asg rfl (.bin (.loc rfl) (.call rfl (.cons (.bin (.bin (.bin (.bin (.loc rfl) (.ite (.isN (.loc rfl)) .str (.bin .str (.sub (.loc rfl) .int (fun _ _ => rfl))))) .str) (.sub (.loc rfl) .int (fun _ _ => rfl))) .str) (fun _ _ => rfl) .nil) (by simp))) (fun _ _ => rfl)) .nil))))) (.cons (.asg rfl (.bin (.bin (.bin .str (.sub (.loc rfl) .int (fun _ _ => rfl))) .str) (.ite (.cmp (.loc rfl) (.lst .nil) rfl) .str (.bin (.bin .str (.loc rfl)) .str))) (fun _ _ => rfl)) (.cons (.ret (.cmp (.call rfl (.cons (.tup (.cons .str (fun _ _ => rfl) (.cons .int (fun _ _ => rfl) (.cons (.sub (.loc rfl) .int (fun _ _ => rfl)) (fun _ _ => rfl) (.cons (.bi (g := 92) rfl rfl (fun h => nomatch h) (.cons (.loc rfl) (fun _ _ => rfl) .nil) (by simp)) (fun _ _ => rfl) .nil))))) (fun _ _ => rfl) .nil) (by simp)) (.loc rfl) rfl)) .nil))))
noncomputable def cx_law_jump_right : Cx := ⟨[1, 24, 25, 26, 3, 27, 28], [56, 55, 58, 69], false⟩
theorem tr_law_jump_right : TrSs ZZ cx_law_jump_right d_law_jump_right.body (bodyAt 50) := (.cons (.tasg (.cons rfl (.cons rfl .nil)) (.cons (.call rfl (.cons (.loc rfl) (fun _ _ => rfl) (.cons (.lst (.cons .none (fun _ _ => rfl) (.cons .str (fun _ _ => rfl) .nil))) (fun _ _ => rfl) .nil)) (by simp)) (fun _ _ => rfl) (.cons (.call rfl (.cons (.loc rfl) (fun _ _ => rfl) (.cons .int (fun _ _ => rfl) .nil)) (by simp)) (fun _ _ => rfl) .nil)) (by decide) (by decide) (by decide +kernel)) (.cons (.asg rfl (.ite (.isN (.loc rfl)) .str (.bin .str (.loc rfl))) (fun _ _ => rfl)) (.cons (.asg rfl (.call rfl (.cons (.loc rfl) (fun _ _ => rfl) (.cons (.lst (.cons .none (fun _ _ => rfl) (.cons (.call rfl (.cons (.loc rfl) (fun _ _ => rfl) .nil) (by simp)) (fun _ _ => rfl) (.cons (.call rfl (.cons (.loc rfl) (fun _ _ => rfl) .nil) (by simp)) (fun _ _ => rfl) .nil)))) (fun _ _ => rfl) .nil)) (by simp)) (fun _ _ => rfl)) (.cons (.unp (.cons rfl (.cons rfl .nil)) (by decide) (.ite (.isN (.loc rfl)) (.tup (.cons .none (fun _ _ => rfl) (.cons .str (fun _ _ => rfl) .nil))) (.tup (.cons (.sub (.loc rfl) .int (fun _ _ => rfl)) (fun _ _ => rfl) (.cons (.bin .str (.sub (.loc rfl) .int (fun _ _ => rfl))) (fun _ _ => rfl) .nil)))) (fun _ _ _ h => nomatch h) (fun _ _ h => nomatch h) (fun _ _ => rfl)) (.cons (.ite (.cmp (.loc rfl) .int rfl) (.cons (.ret (.cmp (.call rfl (.cons (.tup (.cons .str (fun _ _ => rfl) (.cons .int (fun _ _ => rfl) (.cons (.loc rfl) (fun _ _ => rfl) .nil)))) (fun _ _ => rfl) .nil) (by simp)) (.bin .str (.loc rfl)) rfl)) .nil) .nil) (.cons (.ite (.cmp (.loc rfl) .int rfl) (.cons (.ret (.cmp (.call rfl (.cons (.tup (.cons .str (fun _ _ => rfl) (.cons .int (fun _ _ => rfl) (.cons (.loc rfl) (fun _ _ => rfl) .nil)))) (fun _ _ => rfl) .nil) (by simp)) (.bin .str (.loc rfl)) rfl)) .nil) .nil) (.cons (.ret (.cmp (.call rfl (.cons (.tup (.cons .str (fun _ _ => rfl) (.cons .int (fun _ _ => rfl) (.cons (.loc rfl) (fun _ _ => rfl) (.cons (.loc rfl) (fun _ _ => rfl) .nil))))) (fun _ _ => rfl) .nil) (by simp)) (.bin (.bin .str (.loc rfl)) (.loc rfl)) rfl)) .nil)))))))
noncomputable def cc1 : Cx := ⟨[4], [58], true⟩
noncomputable def cc2 : Cx := ⟨[3], [], false⟩
noncomputable def cx_law_gathered_right : Cx := ⟨[29, 25, 30, 17, 31, 3, 11, 32, 9, 33, 23], [89, 55, 92, 93, 70, 90, 58, 57], true⟩
--COMP cc1 of law_gathered_right
--COMP cc2 of law_gathered_right
theorem tr_law_gathered_right : TrSs ZZ cx_law_gathered_right d_law_gathered_right.body (bodyAt 51) := (.cons (.tasg (.cons rfl (.cons rfl .nil)) (.cons (.comp (c' := cc1) trivial (.range (g := 89) rfl rfl (.call rfl (.cons (.cel rfl) (fun _ _ => rfl) (.cons .int (fun _ _ => rfl) .nil)) (by simp)) (fun _ => rfl)) (.one rfl) (.call rfl (.cons (.cel rfl) (fun _ _ => rfl) .nil) (by simp)) (compOk_of (by decide +kernel))) (fun _ _ => rfl) (.cons (.call rfl (.cons (.cel rfl) (fun _ _ => rfl) (.cons .int (fun _ _ => rfl) .nil)) (by simp)) (fun _ _ => rfl) .nil)) (by decide) (by decide) (by decide +kernel)) (.cons (.tasg (.cons rfl (.cons rfl .nil)) (.cons (.bi (g := 92) rfl rfl (fun h => nomatch h) (.cons (.comp (c' := cc2) trivial (.plain (.loc rfl) (fun _ _ => rfl)) (.one rfl) (.sub (.loc rfl) .int (fun _ _ => rfl)) (compOk_of (by decide +kernel))) (fun _ _ => rfl) .nil) (by simp)) (fun _ _ => rfl) (.cons .str (fun _ _ => rfl) .nil)) (by decide) (by decide) (by decide +kernel)) (.cons (.for trivial (.enum (g := 93) rfl rfl (.loc rfl) (fun _ => rfl)) (.tup (.cons rfl (.cons rfl .nil)) (by decide)) (.cons (.asg rfl (.bin (.bin (.loc rfl) (.ite (.cmp (.loc rfl) .int rfl) .str .str)) (.sub (.loc rfl) .int (fun _ _ => rfl))) (fun _ _ => rfl)) .nil)) (.cons (.ite (.cmp (.loc rfl) .int rfl) (.cons (.ret (.cmp (.call rfl (.cons (.tup (.cons .str (fun _ _ => rfl) (.cons .int (fun _ _ => rfl) (.cons (.loc rfl) (fun _ _ => rfl) .nil)))) (fun _ _ => rfl) .nil) (by simp)) (.bin (.bin (.bin .str (.loc rfl)) (.ite (.cmp (.bi (g := 90) rfl rfl (fun h => nomatch h) (.cons (.loc rfl) (fun _ _ => rfl) .nil) (by simp)) .int rfl) .str .str)) .str) rfl)) .nil) .nil) (.cons (.ite (.cmp (.loc rfl) .int rfl) (.cons (.ret (.cmp (.call rfl (.cons (.tup (.cons .str (fun _ _ => rfl) (.cons .int (fun _ _ => rfl) (.cons (.loc rfl) (fun _ _ => rfl) .nil)))) (fun _ _ => rfl) .nil) (by simp)) (.bin (.bin .str (.loc rfl)) .str) rfl)) .nil) .nil) (.cons (.ite (.cmp (.loc rfl) .int rfl) (.cons (.ret (.cmp (.call rfl (.cons (.tup (.cons .str (fun _ _ => rfl) (.cons .int (fun _ _ => rfl) (.cons .str (fun _ _ => rfl) (.cons (.loc rfl) (fun _ _ => rfl) .nil))))) (fun _ _ => rfl) .nil) (by simp)) (.bin (.bin .str (.loc rfl)) .str) rfl)) .nil) .nil) (.cons (.ite (.cmp (.loc rfl) .int rfl) (.cons (.asg rfl (.call rfl (.cons (.cel rfl) (fun _ _ => rfl) .nil) (by simp)) (fun _ _ => rfl)) (.cons (.ret (.cmp (.call rfl (.cons (.tup (.cons .str (fun _ _ => rfl) (.cons .int (fun _ _ => rfl) (.cons (.sub (.loc rfl) .int (fun _ _ => rfl)) (fun _ _ => rfl) (.cons .int (fun _ _ => rfl) .nil))))) (fun _ _ => rfl) .nil) (by simp)) (.bin (.bin .str (.sub (.loc rfl) .int (fun _ _ => rfl))) .str) rfl)) .nil)) .nil) (.cons (.tasgO (pre := []) (ts := []) (es := []) .nil .nil (by decide) (by decide) rfl rfl) (.cons (.for trivial (.enum (g := 93) rfl rfl (.loc rfl) (fun _ => rfl)) (.tup (.cons rfl (.cons rfl .nil)) (by decide)) (.cons (.asg rfl (.sub (.lst (.cons .str (fun _ _ => rfl) (.cons .str (fun _ _ => rfl) (.cons .str (fun _ _ => rfl) .nil)))) (.loc rfl) (fun _ _ => rfl)) (fun _ _ => rfl)) (.cons (.app rfl rfl (.tup (.cons (.loc rfl) (fun _ _ => rfl) (.cons (.sub (.loc rfl) .int (fun _ _ => rfl)) (fun _ _ => rfl) .nil))) (fun _ => rfl)) (.cons (.asg rfl (.bin (.bin (.bin (.bin (.loc rfl) (.ite (.cmp (.loc rfl) .int rfl) .str .str)) (.loc rfl)) .str) (.sub (.loc rfl) .int (fun _ _ => rfl))) (fun _ _ => rfl)) .nil)))) (.cons (.asg rfl (.tup (.cons (.tup (.cons .str (fun _ _ => rfl) (.cons (.tup .nil) (fun _ _ => rfl) (.cons (.tup .nil) (fun _ _ => rfl) .nil)))) (fun _ _ => rfl) (.cons (.tup (.cons .str (fun _ _ => rfl) (.cons (.tup .nil) (fun _ _ => rfl) (.cons (.tup (.cons (.tup (.cons .str (fun _ _ => rfl) (.cons .int (fun _ _ => rfl) (.cons (.call rfl (.cons .str (fun _ _ => rfl) .nil) (by simp)) (fun _ _ => rfl) .nil)))) (fun _ _ => rfl) .nil)) (fun _ _ => rfl) .nil)))) (fun _ _ => rfl) .nil))) (fun _ _ => rfl)) (.cons (.asg rfl (.bin .str (.ite (.cmp (.loc rfl) (.lst .nil) rfl) (.bin (.bin .str (.loc rfl)) .str) .str)) (fun _ _ => rfl)) (.cons (.ret (.cmp (.call rfl (.cons (.tup (.cons .str (fun _ _ => rfl) (.cons .int (fun _ _ => rfl) (.cons (.loc rfl) (fun _ _ => rfl) (.cons (.bi (g := 92) rfl rfl (fun h => nomatch h) (.cons (.loc rfl) (fun _ _ => rfl) .nil) (by simp)) (fun _ _ => rfl) .nil))))) (fun _ _ => rfl) .nil) (by simp)) (.loc rfl) rfl)) .nil))))))))))))
noncomputable def cc3 : Cx := ⟨[15], [94], false⟩
noncomputable def cx_indented : Cx := ⟨[2], [], false⟩
--COMP cc3 of indented
theorem tr_indented : TrSs ZZ cx_indented d_indented.body (bodyAt 37) := (.cons (.ret (.join rfl (.comp (c' := cc3) trivial (.plain (.split rfl rfl) (fun _ _ => rfl)) (.one rfl) (.bin (.bin (.glob rfl) (.loc rfl)) .str) (compOk_of (by decide +kernel))))) .nil)
noncomputable def cx_write_bound : Cx := ⟨[34], [81], false⟩
theorem tr_write_bound : TrSs ZZ cx_write_bound d_write_bound.body (bodyAt 33) := (.cons (.ret (.call rfl (.cons (.loc rfl) (fun _ _ => rfl) (.cons .int (fun _ _ => rfl) (.cons .bool (fun _ _ => rfl) .nil))) (by simp))) .nil)
noncomputable def cx_write_if : Cx := ⟨[34, 14], [84, 86], false⟩
theorem tr_write_if : TrSs ZZ cx_write_if d_write_if.body (bodyAt 34) := (.cons (.own rfl) (.cons (.whl (.and (.cons (.isNN (.loc rfl)) (fun _ _ => rfl) (.cons (.cmp (.sub (.loc rfl) .int (fun _ _ => rfl)) .str rfl) (fun _ _ => rfl) .nil))) (.cons (.app rfl rfl (.bin (.bin (.bin .str (.call rfl (.cons (.sub (.loc rfl) .int (fun _ _ => rfl)) (fun _ _ => rfl) .nil) (by simp))) .str) (.call rfl (.cons (.sub (.loc rfl) .int (fun _ _ => rfl)) (fun _ _ => rfl) .nil) (by simp))) (fun _ => rfl)) (.cons (.asg rfl (.sub (.loc rfl) .int (fun _ _ => rfl)) (fun _ _ => rfl)) .nil))) (.cons (.ite (.isNN (.loc rfl)) (.cons (.app rfl rfl (.call rfl (.cons (.loc rfl) (fun _ _ => rfl) .nil) (by simp)) (fun _ => rfl)) .nil) .nil) (.cons (.ret (.join rfl (.loc rfl))) .nil))))
noncomputable def cx_write_match : Cx := ⟨[34, 14, 19, 21, 22, 3], [78, 71, 84, 87], false⟩
theorem tr_write_match : TrSs ZZ cx_write_match d_write_match.body (bodyAt 35) := (.cons (.own rfl) (.cons (.for trivial (.plain (.sub (.loc rfl) .int (fun _ _ => rfl)) (fun _ _ => rfl)) (.tup (.cons rfl (.cons rfl (.cons rfl .nil))) (by decide)) (.cons (.asg rfl (.bin (.call rfl (.cons (.loc rfl) (fun _ _ => rfl) .nil) (by simp)) (.ite (.isN (.loc rfl)) .str (.bin .str (.call rfl (.cons (.loc rfl) (fun _ _ => rfl) .nil) (by simp))))) (fun _ _ => rfl)) (.cons (.app rfl rfl (.bin (.bin (.bin (.loc rfl) .str) (.call rfl (.cons (.loc rfl) (fun _ _ => rfl) .nil) (by simp))) .str) (fun _ => rfl)) .nil))) (.cons (.ret (.bin (.bin (.bin .str (.call rfl (.cons (.sub (.loc rfl) .int (fun _ _ => rfl)) (fun _ _ => rfl) .nil) (by simp))) .str) (.call rfl (.cons (.loc rfl) (fun _ _ => rfl) .nil) (by simp)))) .nil)))
noncomputable def cx_write_jump : Cx := ⟨[34, 35, 27, 14], [95, 96, 71], false⟩
theorem tr_write_jump : TrSs ZZ cx_write_jump d_write_jump.body (bodyAt 30) := (.cons (.asg rfl (.sub (.loc rfl) .int (fun _ _ => rfl)) (fun _ _ => rfl)) (.cons (.ite (.cmp (.loc rfl) .str rfl) (.cons (.ret (.bin .str (.ite (.isN (.sub (.loc rfl) .int (fun _ _ => rfl))) .str (.bin .str (.sub (.loc rfl) .int (fun _ _ => rfl)))))) .nil) .nil) (.cons (.asg rfl (.ite (.cmp (.loc rfl) .str rfl) (.sub (.loc rfl) .int (fun _ _ => rfl)) (.sub (.loc rfl) .int (fun _ _ => rfl))) (fun _ _ => rfl)) (.cons (.asg rfl (.loc rfl) (fun _ _ => rfl)) (.cons (.ite (.and (.cons (.cmp (.loc rfl) .str rfl) (fun _ _ => rfl) (.cons (.isNN (.sub (.loc rfl) .int (fun _ _ => rfl))) (fun _ _ => rfl) .nil))) (.cons (.asg rfl (.bin (.bin (.loc rfl) .str) (.sub (.loc rfl) .int (fun _ _ => rfl))) (fun _ _ => rfl)) .nil) .nil) (.cons (.ite (.isN (.loc rfl)) (.cons (.ret (.loc rfl)) .nil) .nil) (.cons (.ret (.bin (.bin (.loc rfl) .str) (.call rfl (.cons (.loc rfl) (fun _ _ => rfl) (.cons (.ite (.cmp (.sub (.loc rfl) .int (fun _ _ => rfl)) (.glob rfl) rfl) .int (.glob rfl)) (fun _ _ => rfl) .nil)) (by simp)))) .nil)))))))
noncomputable def cc4 : Cx := ⟨[11], [71], false⟩
noncomputable def cc5 : Cx := ⟨[9, 11], [71], false⟩
noncomputable def cx_write_gathered : Cx := ⟨[34, 35, 32], [77, 83, 71, 97, 74], false⟩
--COMP cc4 of write_gathered
--COMP cc5 of write_gathered
theorem tr_write_gathered : TrSs ZZ cx_write_gathered d_write_gathered.body (bodyAt 29) := (.cons (.asg rfl (.sub (.loc rfl) .int (fun _ _ => rfl)) (fun _ _ => rfl)) (.cons (.ite (.cmp (.loc rfl) .str rfl) (.cons (.ret (.call rfl (.cons (.comp (c' := cc4) trivial (.plain (.sub (.loc rfl) .int (fun _ _ => rfl)) (fun _ _ => rfl)) (.one rfl) (.call rfl (.cons (.loc rfl) (fun _ _ => rfl) .nil) (by simp)) (compOk_of (by decide +kernel))) (fun _ _ => rfl) .nil) (by simp))) .nil) .nil) (.cons (.ite (.cmp (.loc rfl) .str rfl) (.cons (.ret (.bin (.bin .str (.call rfl (.cons (.sub (.loc rfl) .int (fun _ _ => rfl)) (fun _ _ => rfl) .nil) (by simp))) .str)) .nil) .nil) (.cons (.ite (.cmp (.loc rfl) .str rfl) (.cons (.ret (.bin (.bin (.bin (.bin .str (.call rfl (.cons (.sub (.loc rfl) .int (fun _ _ => rfl)) (fun _ _ => rfl) .nil) (by simp))) .str) (.bi (g := 97) rfl rfl (fun h => nomatch h) (.cons (.sub (.loc rfl) .int (fun _ _ => rfl)) (fun _ _ => rfl) .nil) (by simp))) .str)) .nil) .nil) (.cons (.ite (.cmp (.loc rfl) .str rfl) (.cons (.ret (.bin (.bin (.bin (.sub (.loc rfl) .int (fun _ _ => rfl)) .str) (.call rfl (.cons (.sub (.loc rfl) .int (fun _ _ => rfl)) (fun _ _ => rfl) .nil) (by simp))) .str)) .nil) .nil) (.cons (.asg rfl (.join rfl (.comp (c' := cc5) trivial (.plain (.sub (.loc rfl) .int (fun _ _ => rfl)) (fun _ _ => rfl)) (.tup (.cons rfl (.cons rfl .nil)) (by decide)) (.bin (.bin (.loc rfl) .str) (.call rfl (.cons (.loc rfl) (fun _ _ => rfl) .nil) (by simp))) (compOk_of (by decide +kernel)))) (fun _ _ => rfl)) (.cons (.ret (.bin (.call rfl (.cons (.sub (.loc rfl) .int (fun _ _ => rfl)) (fun _ _ => rfl) (.cons .str (fun _ _ => rfl) .nil)) (by simp)) (.ite (.cmp (.loc rfl) .str rfl) (.bin (.bin .str (.loc rfl)) .str) .str))) .nil)))))))
noncomputable def cx_write_expr : Cx := ⟨[34, 36, 37, 35, 38], [98, 95, 72, 44], false⟩
theorem tr_write_expr : TrSs ZZ cx_write_expr d_write_expr.body (bodyAt 22) := (.cons (.asg rfl (.sub (.loc rfl) .int (fun _ _ => rfl)) (fun _ _ => rfl)) (.cons (.asg rfl (.and (.cons (.loc rfl) (fun _ _ => rfl) (.cons (.or (.cons (.cmp (.loc rfl) .str rfl) (fun _ _ => rfl) (.cons (.cmp (.loc rfl) (.glob rfl) rfl) (fun _ _ => rfl) (.cons (.cmp (.loc rfl) (.glob rfl) rfl) (fun _ _ => rfl) .nil)))) (fun _ _ => rfl) .nil))) (fun _ _ => rfl)) (.cons (.ite (.or (.cons (.cmp (.call rfl (.cons (.loc rfl) (fun _ _ => rfl) .nil) (by simp)) (.loc rfl) rfl) (fun _ _ => rfl) (.cons (.loc rfl) (fun _ _ => rfl) .nil))) (.cons (.ret (.bin (.bin .str (.call rfl (.cons (.loc rfl) (fun _ _ => rfl) (.cons .bool (fun _ _ => rfl) .nil)) (by simp))) .str)) .nil) .nil) (.cons (.ret (.call rfl (.cons (.loc rfl) (fun _ _ => rfl) (.cons (.loc rfl) (fun _ _ => rfl) .nil)) (by simp))) .nil))))
noncomputable def cx_level_of : Cx := ⟨[34, 35], [95, 98, 96, 52, 99, 100, 101], false⟩
theorem tr_level_of : TrSs ZZ cx_level_of d_level_of.body (bodyAt 21) := (.cons (.asg rfl (.sub (.loc rfl) .int (fun _ _ => rfl)) (fun _ _ => rfl)) (.cons (.ite (.or (.cons (.cmp (.loc rfl) (.tup (.cons .str (fun _ _ => rfl) (.cons .str (fun _ _ => rfl) .nil))) rfl) (fun _ _ => rfl) (.cons (.cmp (.loc rfl) (.glob rfl) rfl) (fun _ _ => rfl) (.cons (.cmp (.loc rfl) (.glob rfl) rfl) (fun _ _ => rfl) .nil)))) (.cons (.ret (.glob rfl)) .nil) .nil) (.cons (.ite (.cmp (.loc rfl) .str rfl) (.cons (.ret (.lev rfl (.sub (.loc rfl) .int (fun _ _ => rfl)) (fun _ _ => rfl))) .nil) .nil) (.cons (.ite (.cmp (.loc rfl) .str rfl) (.cons (.ret (.glob rfl)) .nil) .nil) (.cons (.ret (.ite (.cmp (.loc rfl) (.tup (.cons .str (fun _ _ => rfl) (.cons .str (fun _ _ => rfl) .nil))) rfl) (.glob rfl) (.glob rfl))) .nil)))))
noncomputable def cx_written : Cx := ⟨[34, 37, 35], [97, 73, 74, 80, 82, 102, 95, 85, 98, 69, 70], false⟩
theorem tr_written : TrSs ZZ cx_written d_written.body (bodyAt 23) := (.cons (.asg rfl (.sub (.loc rfl) .int (fun _ _ => rfl)) (fun _ _ => rfl)) (.cons (.ite (.cmp (.loc rfl) .str rfl) (.cons (.ret (.bin (.bi (g := 97) rfl rfl (fun h => nomatch h) (.cons (.sub (.loc rfl) .int (fun _ _ => rfl)) (fun _ _ => rfl) .nil) (by simp)) (.ite (.isNN (.sub (.loc rfl) .int (fun _ _ => rfl))) (.sub (.loc rfl) .int (fun _ _ => rfl)) .str))) .nil) .nil) (.cons (.ite (.cmp (.loc rfl) .str rfl) (.cons (.ret (.call rfl (.cons (.sub (.loc rfl) .int (fun _ _ => rfl)) (fun _ _ => rfl) .nil) (by simp))) .nil) .nil) (.cons (.ite (.cmp (.loc rfl) .str rfl) (.cons (.ret (.call rfl (.cons (.sub (.loc rfl) .int (fun _ _ => rfl)) (fun _ _ => rfl) (.cons .str (fun _ _ => rfl) .nil)) (by simp))) .nil) .nil) (.cons (.ite (.cmp (.loc rfl) (.tup (.cons .str (fun _ _ => rfl) (.cons .str (fun _ _ => rfl) .nil))) rfl) (.cons (.ret (.call rfl (.cons (.loc rfl) (fun _ _ => rfl) (.cons (.loc rfl) (fun _ _ => rfl) .nil)) (by simp))) .nil) .nil) (.cons (.ite (.cmp (.loc rfl) (.tup (.cons .str (fun _ _ => rfl) (.cons .str (fun _ _ => rfl) (.cons .str (fun _ _ => rfl) (.cons .str (fun _ _ => rfl) .nil))))) rfl) (.cons (.ret (.call rfl (.cons (.loc rfl) (fun _ _ => rfl) (.cons (.loc rfl) (fun _ _ => rfl) .nil)) (by simp))) .nil) .nil) (.cons (.ite (.cmp (.loc rfl) (.tup (.cons .str (fun _ _ => rfl) (.cons .str (fun _ _ => rfl) (.cons .str (fun _ _ => rfl) (.cons .str (fun _ _ => rfl) .nil))))) rfl) (.cons (.ret (.call rfl (.cons (.loc rfl) (fun _ _ => rfl) (.cons (.loc rfl) (fun _ _ => rfl) .nil)) (by simp))) .nil) .nil) (.cons (.ite (.cmp (.loc rfl) (.glob rfl) rfl) (.cons (.ret (.call rfl (.cons (.loc rfl) (fun _ _ => rfl) .nil) (by simp))) .nil) .nil) (.cons (.ite (.cmp (.loc rfl) (.glob rfl) rfl) (.cons (.ret (.call rfl (.cons (.loc rfl) (fun _ _ => rfl) .nil) (by simp))) .nil) .nil) (.cons (.ret (.call rfl (.cons (.loc rfl) (fun _ _ => rfl) .nil) (by simp))) .nil))))))))))
noncomputable def cx_write_literal : Cx := ⟨[27], [103, 104, 97], false⟩
theorem tr_write_literal : TrSs ZZ cx_write_literal d_write_literal.body (bodyAt 17) := (.cons (.ite (.isBool (g := 103) (g' := 104) rfl rfl rfl rfl (.loc rfl)) (.cons (.ret (.ite (.loc rfl) .str .str)) .nil) .nil) (.cons (.ret (.bi (g := 97) rfl rfl (fun h => nomatch h) (.cons (.loc rfl) (fun _ _ => rfl) .nil) (by simp))) .nil))
noncomputable def cc6 : Cx := ⟨[11], [76], false⟩
noncomputable def cx_write_path : Cx := ⟨[33, 39, 14, 9, 40, 41, 42], [105, 75], false⟩
--COMP cc6 of write_path
theorem tr_write_path : TrSs ZZ cx_write_path d_write_path.body (bodyAt 11) := (.cons (.own rfl) (.cons (.for trivial (.plain (.loc rfl) (fun _ _ => rfl)) (.tup (.cons rfl (.cons rfl (.cons rfl .nil))) (by decide)) (.cons (.asg rfl (.call rfl (.cons (.bin (.bi (g := 105) rfl rfl (fun h => nomatch h) (.cons (.loc rfl) (fun _ _ => rfl) .nil) (by simp)) (.comp (c' := cc6) trivial (.plain (.loc rfl) (fun _ _ => rfl)) (.one rfl) (.call rfl (.cons (.loc rfl) (fun _ _ => rfl) .nil) (by simp)) (compOk_of (by decide +kernel)))) (fun _ _ => rfl) .nil) (by simp)) (fun _ _ => rfl)) (.cons (.app rfl rfl (.bin (.loc rfl) (.ite (.cmp (.loc rfl) .str rfl) (.bin (.loc rfl) (.loc rfl)) .str)) (fun _ => rfl)) .nil))) (.cons (.ret (.join rfl (.loc rfl))) .nil)))
noncomputable def cx_write_angles : Cx := ⟨[43], [], false⟩
theorem tr_write_angles : TrSs ZZ cx_write_angles d_write_angles.body (bodyAt 10) := (.cons (.ret (.ite (.cmp (.loc rfl) (.lst .nil) rfl) .str (.bin (.bin .str (.join rfl (.loc rfl))) .str))) .nil)
noncomputable def cc7 : Cx := ⟨[11], [76], false⟩
noncomputable def cx_write_type : Cx := ⟨[44, 35, 45], [74, 76, 77, 97], false⟩
--COMP cc7 of write_type
theorem tr_write_type : TrSs ZZ cx_write_type d_write_type.body (bodyAt 12) := (.cons (.asg rfl (.sub (.loc rfl) .int (fun _ _ => rfl)) (fun _ _ => rfl)) (.cons (.ite (.cmp (.loc rfl) .str rfl) (.cons (.ret (.call rfl (.cons (.sub (.loc rfl) .int (fun _ _ => rfl)) (fun _ _ => rfl) .nil) (by simp))) .nil) .nil) (.cons (.ite (.cmp (.loc rfl) .str rfl) (.cons (.asg rfl (.ite (.isN (.sub (.loc rfl) .int (fun _ _ => rfl))) .str (.bin (.sub (.loc rfl) .int (fun _ _ => rfl)) .str)) (fun _ _ => rfl)) (.cons (.ret (.bin (.bin (.bin .str (.loc rfl)) (.ite (.sub (.loc rfl) .int (fun _ _ => rfl)) .str .str)) (.call rfl (.cons (.sub (.loc rfl) .int (fun _ _ => rfl)) (fun _ _ => rfl) .nil) (by simp)))) .nil)) .nil) (.cons (.ite (.cmp (.loc rfl) .str rfl) (.cons (.ret (.call rfl (.cons (.comp (c' := cc7) trivial (.plain (.sub (.loc rfl) .int (fun _ _ => rfl)) (fun _ _ => rfl)) (.one rfl) (.call rfl (.cons (.loc rfl) (fun _ _ => rfl) .nil) (by simp)) (compOk_of (by decide +kernel))) (fun _ _ => rfl) .nil) (by simp))) .nil) .nil) (.cons (.ite (.cmp (.loc rfl) .str rfl) (.cons (.ret (.bin (.bin (.bin (.bin .str (.call rfl (.cons (.sub (.loc rfl) .int (fun _ _ => rfl)) (fun _ _ => rfl) .nil) (by simp))) .str) (.bi (g := 97) rfl rfl (fun h => nomatch h) (.cons (.sub (.loc rfl) .int (fun _ _ => rfl)) (fun _ _ => rfl) .nil) (by simp))) .str)) .nil) .nil) (.cons (.ret (.ite (.cmp (.loc rfl) .str rfl) .str .str)) .nil))))))
noncomputable def cx_write_row : Cx := ⟨[43], [90], false⟩
theorem tr_write_row : TrSs ZZ cx_write_row d_write_row.body (bodyAt 13) := (.cons (.ret (.bin (.bin (.bin .str (.join rfl (.loc rfl))) (.ite (.cmp (.bi (g := 90) rfl rfl (fun h => nomatch h) (.cons (.loc rfl) (fun _ _ => rfl) .nil) (by simp)) .int rfl) .str .str)) .str)) .nil)
noncomputable def cc8 : Cx := ⟨[11], [79], false⟩
noncomputable def cx_write_pattern : Cx := ⟨[19], [79], false⟩
--COMP cc8 of write_pattern
theorem tr_write_pattern : TrSs ZZ cx_write_pattern d_write_pattern.body (bodyAt 14) := (.cons (.ite (.cmp (.sub (.loc rfl) .int (fun _ _ => rfl)) .str rfl) (.cons (.ret (.join rfl (.comp (c' := cc8) trivial (.plain (.sub (.loc rfl) .int (fun _ _ => rfl)) (fun _ _ => rfl)) (.one rfl) (.call rfl (.cons (.loc rfl) (fun _ _ => rfl) .nil) (by simp)) (compOk_of (by decide +kernel))))) .nil) .nil) (.cons (.ret (.call rfl (.cons (.loc rfl) (fun _ _ => rfl) .nil) (by simp))) .nil))
noncomputable def cc9 : Cx := ⟨[11], [78], false⟩
noncomputable def cx_write_part : Cx := ⟨[19, 35, 26], [78, 79, 73, 97, 106, 77, 107, 108], false⟩
--COMP cc9 of write_part
theorem tr_write_part : TrSs ZZ cx_write_part d_write_part.body (bodyAt 15) := (.cons (.asg rfl (.sub (.loc rfl) .int (fun _ _ => rfl)) (fun _ _ => rfl)) (.cons (.ite (.cmp (.loc rfl) .str rfl) (.cons (.ret (.bin (.bin .str (.call rfl (.cons (.loc rfl) (fun _ _ => rfl) .nil) (by simp))) .str)) .nil) .nil) (.cons (.ite (.cmp (.loc rfl) .str rfl) (.cons (.ret .str) .nil) .nil) (.cons (.ite (.cmp (.loc rfl) .str rfl) (.cons (.asg rfl (.bin (.ite (.sub (.loc rfl) .int (fun _ _ => rfl)) .str .str) (.ite (.sub (.loc rfl) .int (fun _ _ => rfl)) .str .str)) (fun _ _ => rfl)) (.cons (.ret (.bin (.bin (.loc rfl) (.sub (.loc rfl) .int (fun _ _ => rfl))) (.ite (.isN (.sub (.loc rfl) .int (fun _ _ => rfl))) .str (.bin .str (.call rfl (.cons (.sub (.loc rfl) .int (fun _ _ => rfl)) (fun _ _ => rfl) .nil) (by simp)))))) .nil)) .nil) (.cons (.ite (.cmp (.loc rfl) .str rfl) (.cons (.ret (.call rfl (.cons (.sub (.loc rfl) .int (fun _ _ => rfl)) (fun _ _ => rfl) .nil) (by simp))) .nil) .nil) (.cons (.ite (.cmp (.loc rfl) .str rfl) (.cons (.ret (.bin (.bin (.bi (g := 97) rfl rfl (fun h => nomatch h) (.cons (.sub (.loc rfl) .int (fun _ _ => rfl)) (fun _ _ => rfl) .nil) (by simp)) .str) (.bi (g := 97) rfl rfl (fun h => nomatch h) (.cons (.sub (.loc rfl) .int (fun _ _ => rfl)) (fun _ _ => rfl) .nil) (by simp)))) .nil) .nil) (.cons (.ite (.cmp (.loc rfl) .str rfl) (.cons (.ret (.bin (.bin .str (.ite (.sub (.loc rfl) .int (fun _ _ => rfl)) .str .str)) (.call rfl (.cons (.loc rfl) (fun _ _ => rfl) .nil) (by simp)))) .nil) .nil) (.cons (.ite (.cmp (.loc rfl) .str rfl) (.cons (.ret (.call rfl (.cons (.comp (c' := cc9) trivial (.plain (.sub (.loc rfl) .int (fun _ _ => rfl)) (fun _ _ => rfl)) (.one rfl) (.call rfl (.cons (.loc rfl) (fun _ _ => rfl) .nil) (by simp)) (compOk_of (by decide +kernel))) (fun _ _ => rfl) .nil) (by simp))) .nil) .nil) (.cons (.ite (.cmp (.loc rfl) .str rfl) (.cons (.ret (.call rfl (.cons (.loc rfl) (fun _ _ => rfl) .nil) (by simp))) .nil) .nil) (.cons (.ret (.call rfl (.cons (.loc rfl) (fun _ _ => rfl) .nil) (by simp))) .nil))))))))))
noncomputable def cx_write_ahead : Cx := ⟨[34, 37], [100, 71], false⟩
theorem tr_write_ahead : TrSs ZZ cx_write_ahead d_write_ahead.body (bodyAt 24) := (.cons (.ite (.cmp (.sub (.loc rfl) .int (fun _ _ => rfl)) .str rfl) (.cons (.ret (.bin (.sub (.loc rfl) .int (fun _ _ => rfl)) (.call rfl (.cons (.sub (.loc rfl) .int (fun _ _ => rfl)) (fun _ _ => rfl) (.cons (.glob rfl) (fun _ _ => rfl) (.cons (.loc rfl) (fun _ _ => rfl) .nil))) (by simp)))) .nil) .nil) (.cons (.ret (.bin (.bin .str (.ite (.sub (.loc rfl) .int (fun _ _ => rfl)) .str .str)) (.call rfl (.cons (.sub (.loc rfl) .int (fun _ _ => rfl)) (fun _ _ => rfl) (.cons (.glob rfl) (fun _ _ => rfl) (.cons (.loc rfl) (fun _ _ => rfl) .nil))) (by simp)))) .nil))
noncomputable def cx_write_side : Cx := ⟨[34, 36, 37], [100, 71], false⟩
theorem tr_write_side : TrSs ZZ cx_write_side d_write_side.body (bodyAt 25) := (.cons (.ret (.call rfl (.cons (.loc rfl) (fun _ _ => rfl) (.cons (.ite (.cmp (.sub (.loc rfl) .int (fun _ _ => rfl)) .str rfl) (.glob rfl) (.loc rfl)) (fun _ _ => rfl) (.cons (.loc rfl) (fun _ _ => rfl) .nil))) (by simp))) .nil)
noncomputable def cx_write_operated : Cx := ⟨[34, 37, 35, 46, 47], [99, 71, 76, 52, 109, 110, 81, 96], false⟩
theorem tr_write_operated : TrSs ZZ cx_write_operated d_write_operated.body (bodyAt 26) := (.cons (.asg rfl (.sub (.loc rfl) .int (fun _ _ => rfl)) (fun _ _ => rfl)) (.cons (.ite (.cmp (.loc rfl) .str rfl) (.cons (.ret (.bin (.bin (.call rfl (.cons (.sub (.loc rfl) .int (fun _ _ => rfl)) (fun _ _ => rfl) (.cons (.glob rfl) (fun _ _ => rfl) (.cons (.loc rfl) (fun _ _ => rfl) .nil))) (by simp)) .str) (.call rfl (.cons (.sub (.loc rfl) .int (fun _ _ => rfl)) (fun _ _ => rfl) .nil) (by simp)))) .nil) .nil) (.cons (.ite (.cmp (.loc rfl) .str rfl) (.cons (.asg rfl (.lev rfl (.sub (.loc rfl) .int (fun _ _ => rfl)) (fun _ _ => rfl)) (fun _ _ => rfl)) (.cons (.asg rfl (.call rfl (.cons (.sub (.loc rfl) .int (fun _ _ => rfl)) (fun _ _ => rfl) (.cons (.bin (.loc rfl) (.bi (g := 110) rfl rfl (fun h => nomatch h) (.cons (.cmp (.loc rfl) (.glob rfl) rfl) (fun _ _ => rfl) .nil) (by simp))) (fun _ _ => rfl) (.cons (.loc rfl) (fun _ _ => rfl) .nil))) (by simp)) (fun _ _ => rfl)) (.cons (.ret (.bin (.bin (.bin (.bin (.loc rfl) .str) (.sub (.loc rfl) .int (fun _ _ => rfl))) .str) (.call rfl (.cons (.sub (.loc rfl) .int (fun _ _ => rfl)) (fun _ _ => rfl) (.cons (.bin (.loc rfl) .int) (fun _ _ => rfl) (.cons (.loc rfl) (fun _ _ => rfl) .nil))) (by simp)))) .nil))) .nil) (.cons (.ite (.cmp (.loc rfl) .str rfl) (.cons (.ret (.bin (.bin (.call rfl (.cons (.sub (.loc rfl) .int (fun _ _ => rfl)) (fun _ _ => rfl) (.cons .int (fun _ _ => rfl) (.cons (.loc rfl) (fun _ _ => rfl) .nil))) (by simp)) .str) (.call rfl (.cons (.sub (.loc rfl) .int (fun _ _ => rfl)) (fun _ _ => rfl) (.cons (.glob rfl) (fun _ _ => rfl) (.cons (.loc rfl) (fun _ _ => rfl) .nil))) (by simp)))) .nil) .nil) (.cons (.ret (.bin (.bin (.bin (.bin (.call rfl (.cons (.sub (.loc rfl) .int (fun _ _ => rfl)) (fun _ _ => rfl) (.cons .int (fun _ _ => rfl) (.cons (.loc rfl) (fun _ _ => rfl) .nil))) (by simp)) .str) (.sub (.loc rfl) .int (fun _ _ => rfl))) .str) (.call rfl (.cons (.sub (.loc rfl) .int (fun _ _ => rfl)) (fun _ _ => rfl) (.cons (.glob rfl) (fun _ _ => rfl) (.cons (.loc rfl) (fun _ _ => rfl) .nil))) (by simp)))) .nil)))))
noncomputable def cc10 : Cx := ⟨[11], [71], false⟩
noncomputable def cx_write_list : Cx := ⟨[43], [], false⟩
--COMP cc10 of write_list
theorem tr_write_list : TrSs ZZ cx_write_list d_write_list.body (bodyAt 27) := (.cons (.ret (.join rfl (.comp (c' := cc10) trivial (.plain (.loc rfl) (fun _ _ => rfl)) (.one rfl) (.call rfl (.cons (.loc rfl) (fun _ _ => rfl) .nil) (by simp)) (compOk_of (by decide +kernel))))) .nil)
noncomputable def cx_write_condition : Cx := ⟨[34], [96, 71], false⟩
theorem tr_write_condition : TrSs ZZ cx_write_condition d_write_condition.body (bodyAt 31) := (.cons (.ret (.call rfl (.cons (.loc rfl) (fun _ _ => rfl) (.cons (.glob rfl) (fun _ _ => rfl) (.cons .bool (fun _ _ => rfl) .nil))) (by simp))) .nil)
noncomputable def cx_write_block_like : Cx := ⟨[34, 35, 24, 48, 49, 3], [86, 67, 68, 84, 66, 78], false⟩
theorem tr_write_block_like : TrSs ZZ cx_write_block_like d_write_block_like.body (bodyAt 32) := (.cons (.asg rfl (.sub (.loc rfl) .int (fun _ _ => rfl)) (fun _ _ => rfl)) (.cons (.ite (.cmp (.loc rfl) .str rfl) (.cons (.ret (.call rfl (.cons (.loc rfl) (fun _ _ => rfl) .nil) (by simp))) .nil) .nil) (.cons (.ite (.cmp (.loc rfl) .str rfl) (.cons (.ret (.call rfl (.cons (.loc rfl) (fun _ _ => rfl) .nil) (by simp))) .nil) .nil) (.cons (.ite (.cmp (.loc rfl) .str rfl) (.cons (.ret (.call rfl (.cons (.loc rfl) (fun _ _ => rfl) .nil) (by simp))) .nil) .nil) (.cons (.asg rfl (.ite (.isN (.sub (.loc rfl) .int (fun _ _ => rfl))) .str (.bin (.sub (.loc rfl) .int (fun _ _ => rfl)) .str)) (fun _ _ => rfl)) (.cons (.ite (.cmp (.loc rfl) .str rfl) (.cons (.ret (.bin (.bin (.loc rfl) .str) (.call rfl (.cons (.sub (.loc rfl) .int (fun _ _ => rfl)) (fun _ _ => rfl) .nil) (by simp)))) .nil) .nil) (.cons (.ite (.cmp (.loc rfl) .str rfl) (.cons (.ret (.bin (.bin (.bin (.bin (.loc rfl) .str) (.call rfl (.cons (.sub (.loc rfl) .int (fun _ _ => rfl)) (fun _ _ => rfl) .nil) (by simp))) .str) (.call rfl (.cons (.sub (.loc rfl) .int (fun _ _ => rfl)) (fun _ _ => rfl) .nil) (by simp)))) .nil) .nil) (.cons (.tasg (.cons rfl (.cons rfl .nil)) (.cons (.call rfl (.cons (.sub (.loc rfl) .int (fun _ _ => rfl)) (fun _ _ => rfl) .nil) (by simp)) (fun _ _ => rfl) (.cons (.call rfl (.cons (.sub (.loc rfl) .int (fun _ _ => rfl)) (fun _ _ => rfl) .nil) (by simp)) (fun _ _ => rfl) .nil)) (by decide) (by decide) (by decide +kernel)) (.cons (.asg rfl (.bin (.bin (.bin (.bin (.bin .str (.call rfl (.cons (.sub (.loc rfl) .int (fun _ _ => rfl)) (fun _ _ => rfl) .nil) (by simp))) .str) (.loc rfl)) (.ite (.sub (.loc rfl) .int (fun _ _ => rfl)) .str .str)) (.loc rfl)) (fun _ _ => rfl)) (.cons (.ret (.bin (.bin (.bin (.loc rfl) (.loc rfl)) .str) (.call rfl (.cons (.sub (.loc rfl) .int (fun _ _ => rfl)) (fun _ _ => rfl) .nil) (by simp)))) .nil))))))))))
noncomputable def cc11 : Cx := ⟨[11], [88], false⟩
noncomputable def cx_write_block : Cx := ⟨[12, 43], [71, 87], false⟩
--COMP cc11 of write_block
theorem tr_write_block : TrSs ZZ cx_write_block d_write_block.body (bodyAt 38) := (.cons (.ownC (c' := cc11) trivial rfl (.plain (.sub (.loc rfl) .int (fun _ _ => rfl)) (fun _ _ => rfl)) (.one rfl) (.call rfl (.cons (.loc rfl) (fun _ _ => rfl) .nil) (by simp)) (compOk_of (by decide +kernel)) rfl (by decide +kernel)) (.cons (.ite (.isNN (.sub (.loc rfl) .int (fun _ _ => rfl))) (.cons (.app rfl rfl (.call rfl (.cons (.sub (.loc rfl) .int (fun _ _ => rfl)) (fun _ _ => rfl) .nil) (by simp)) (fun _ => rfl)) .nil) .nil) (.cons (.ret (.call rfl (.cons (.loc rfl) (fun _ _ => rfl) .nil) (by simp))) .nil)))
noncomputable def cc12 : Cx := ⟨[50], [65], false⟩
noncomputable def cx_write_rows : Cx := ⟨[43], [], false⟩
--COMP cc12 of write_rows
theorem tr_write_rows : TrSs ZZ cx_write_rows d_write_rows.body (bodyAt 36) := (.cons (.ite (.cmp (.loc rfl) (.lst .nil) rfl) (.cons (.ret .str) .nil) .nil) (.cons (.ret (.bin (.bin .str (.join rfl (.comp (c' := cc12) trivial (.plain (.loc rfl) (fun _ _ => rfl)) (.one rfl) (.call rfl (.cons (.loc rfl) (fun _ _ => rfl) .nil) (by simp)) (compOk_of (by decide +kernel))))) .str)) .nil))
noncomputable def cx_write_statement : Cx := ⟨[51, 3, 27], [71, 76, 79], false⟩
theorem tr_write_statement : TrSs ZZ cx_write_statement d_write_statement.body (bodyAt 39) := (.cons (.ite (.cmp (.sub (.loc rfl) .int (fun _ _ => rfl)) .str rfl) (.cons (.ret (.bin (.call rfl (.cons (.sub (.loc rfl) .int (fun _ _ => rfl)) (fun _ _ => rfl) .nil) (by simp)) .str)) .nil) .nil) (.cons (.asg rfl (.ite (.isN (.sub (.loc rfl) .int (fun _ _ => rfl))) .str (.bin .str (.call rfl (.cons (.sub (.loc rfl) .int (fun _ _ => rfl)) (fun _ _ => rfl) .nil) (by simp)))) (fun _ _ => rfl)) (.cons (.asg rfl (.ite (.isN (.sub (.loc rfl) .int (fun _ _ => rfl))) .str (.bin .str (.call rfl (.cons (.sub (.loc rfl) .int (fun _ _ => rfl)) (fun _ _ => rfl) .nil) (by simp)))) (fun _ _ => rfl)) (.cons (.ret (.bin (.bin (.bin (.bin .str (.call rfl (.cons (.sub (.loc rfl) .int (fun _ _ => rfl)) (fun _ _ => rfl) .nil) (by simp))) (.loc rfl)) (.loc rfl)) .str)) .nil))))

end Mine

end DTpart

section DUpart
open PySem PySem.W PyProof.Rows PySem.Calls
namespace Mine
theorem ls_all {c : Cx} {ps : List Nat} (h : (ps.all fun x => c.ls.elem x) = true) : ∀ x ∈ ps, c.ls.elem x = true := fun x hx => List.all_eq_true.mp h x hx

noncomputable def RecKnown (G : Gl) (mg : Str → Option Value) (r : DefRec) : Prop := ∃ a o pm code doc, mg r.name = some (.ref a) ∧ G.h₀.get? a = some o ∧ o.data = .func (docDef r.name r.params r.body r.scope pm code doc) ∧ G.h₀.CodeRec code r.name
noncomputable def RecKnownD (G : Gl) (mg : Str → Option Value) (r : DefRec) (items : Array Value) : Prop := ∃ a o pm code doc T kV oT n, mg r.name = some (.ref a) ∧ G.h₀.get? a = some o ∧
  o.data = .func { docDef r.name r.params r.body r.scope pm code doc with defaults := .ref T, kwdefaults := kV } ∧ G.h₀.CodeRec code r.name ∧ G.h₀.get? T = some oT ∧ oT.data = .seq items n

theorem fn_plain {Z : Nms} {G : Gl} {mg : Str → Option Value} {f : Nat} {d : FDef} {c : Cx} {r : DefRec} (K : RecKnown G mg r) (hn : Z.nm f = r.name) (hT : TrSs Z c d.body r.body) (hF : frameB Z c r.scope = true) (hcel : d.cel = false) (hcj : c.cj = false)
    (hnc : (r.scope.names.all fun y => decide (y.2 ≠ .cell)) = true) (hp : (d.params.all fun x => c.ls.elem x) = true) (hd : d.dflt = [])
    (hb : ∀ us : List Value, us.length = d.params.length → ∀ pm code doc, bindArgs (docDef r.name r.params r.body r.scope pm code doc) ⟨us, []⟩ = pure ((d.params.map Z.nm).zip us)) : FnFull Z G mg f d := by
  obtain ⟨a, o, pm, code, doc, h1, h2, h3, h4⟩ := K
  obtain ⟨f1, f2, f3, f4, f5⟩ := frame_of hF
  refine ⟨c, a, o, _, r.body, by rw [hn]; exact h1, h2, h3, h4, rfl, rfl, rfl, rfl, f4, f5, f1, hT, f2, f3, ?_⟩
  rw [hcel]
  refine ⟨hcj, fun y hy => of_decide_eq_true (List.all_eq_true.mp hnc y hy), ls_all hp, fun us s hk l1 l2 => ⟨[], fun N ja => ?_, ?_⟩⟩
  · rw [hd]; simp; exact .nil
  · rw [hd] at l2
    rw [List.append_nil]
    exact BindsTo.of_eq (hb us (Nat.le_antisymm l1 (by simpa using l2)) pm code doc)

theorem fn_cell {Z : Nms} {G : Gl} {mg : Str → Option Value} {f : Nat} {d : FDef} {c : Cx} {r : DefRec} (K : RecKnown G mg r) (hn : Z.nm f = r.name) (hT : TrSs Z c d.body r.body) (hF : frameB Z c r.scope = true) (hcel : d.cel = true) (hcj : c.cj = true)
    (hl : decide (r.scope.names.lookup (Z.nm Z.jar) = some .cell) = true) (hc : ∀ k, cellsFrom k r.scope.names [] = [(Z.nm Z.jar, k)])
    (hb : ∀ (u : Value) pm code doc, bindArgs (docDef r.name r.params r.body r.scope pm code doc) ⟨[u], []⟩ = pure [(Z.nm Z.jar, u)]) : FnFull Z G mg f d := by
  obtain ⟨a, o, pm, code, doc, h1, h2, h3, h4⟩ := K
  obtain ⟨f1, f2, f3, f4, f5⟩ := frame_of hF
  refine ⟨c, a, o, _, r.body, by rw [hn]; exact h1, h2, h3, h4, rfl, rfl, rfl, rfl, f4, f5, f1, hT, f2, f3, ?_⟩
  rw [hcel]
  exact ⟨hcj, of_decide_eq_true hl, hc, fun u => hb u pm code doc⟩

theorem fn_dflt {Z : Nms} {G : Gl} {mg : Str → Option Value} {f : Nat} {d : FDef} {c : Cx} {r : DefRec} {items : Array Value} (K : RecKnownD G mg r items) (hn : Z.nm f = r.name) (hT : TrSs Z c d.body r.body) (hF : frameB Z c r.scope = true) (hcel : d.cel = false) (hcj : c.cj = false)
    (hnc : (r.scope.names.all fun y => decide (y.2 ≠ .cell)) = true) (hp : (d.params.all fun x => c.ls.elem x) = true) (hi : ∀ N ja, RVs G.h₀ N ja items.toList d.dflt)
    (hb : ∀ us : List Value, us.length ≤ d.params.length → d.params.length ≤ us.length + d.dflt.length → ∀ pm code doc T kV, ∃ k : Option (Array Value) → Sem (List (Str × Value)),
      bindArgs { docDef r.name r.params r.body r.scope pm code doc with defaults := .ref T, kwdefaults := kV } ⟨us, []⟩ = seqItems? (.ref T) >>= k ∧
      k (some items) = pure ((d.params.map Z.nm).zip (us ++ items.toList.drop (us.length + d.dflt.length - d.params.length)))) : FnFull Z G mg f d := by
  obtain ⟨a, o, pm, code, doc, T, kV, oT, n, h1, h2, h3, h4, h5, h6⟩ := K
  obtain ⟨f1, f2, f3, f4, f5⟩ := frame_of hF
  refine ⟨c, a, o, _, r.body, by rw [hn]; exact h1, h2, h3, h4, rfl, rfl, rfl, rfl, f4, f5, f1, hT, f2, f3, ?_⟩
  rw [hcel]
  refine ⟨hcj, fun y hy => of_decide_eq_true (List.all_eq_true.mp hnc y hy), ls_all hp, fun us s hk l1 l2 => ?_⟩
  obtain ⟨k, k1, k2⟩ := hb us l1 l2 pm code doc T kV
  exact ⟨items.toList.drop (us.length + d.dflt.length - d.params.length), fun N ja => (hi N ja).drop _, BindsTo.of_defaults rfl (hk _ _ h5) h6 k1 k2⟩

theorem len1 {P : List Value → Prop} (h : ∀ a, P [a]) : ∀ us : List Value, us.length = 1 → P us
  | [a], _ => h a
theorem len2 {P : List Value → Prop} (h : ∀ a b, P [a, b]) : ∀ us : List Value, us.length = 2 → P us
  | [a, b], _ => h a b
theorem len3 {P : List Value → Prop} (h : ∀ a b c, P [a, b, c]) : ∀ us : List Value, us.length = 3 → P us
  | [a, b, c], _ => h a b c
theorem len12 {P : List Value → Prop} (h1 : ∀ a, P [a]) (h2 : ∀ a b, P [a, b]) (us : List Value) (h : us.length ≤ 2) (h' : 2 ≤ us.length + 1) : P us := by
  rcases Nat.lt_or_ge us.length 2 with q | q
  · exact len1 h1 us (by omega)
  · exact len2 h2 us (by omega)
theorem len123 {P : List Value → Prop} (h1 : ∀ a, P [a]) (h2 : ∀ a b, P [a, b]) (h3 : ∀ a b c, P [a, b, c]) (us : List Value) (h : us.length ≤ 3) (h' : 3 ≤ us.length + 2) : P us := by
  rcases Nat.lt_or_ge us.length 3 with q | q
  · exact len12 h1 h2 us (by omega) (by omega)
  · exact len3 h3 us (by omega)

theorem ff_law_jar {G : Gl} {mg : Str → Option Value} (K : RecKnown G mg (recAt 41)) : FnFull ZZ G mg 54 d_law_jar :=
  fn_plain K rfl tr_law_jar (by decide +kernel) rfl rfl (by decide +kernel) (by decide) rfl (len1 (fun _ _ _ _ => rfl))
theorem ff_law_dip {G : Gl} {mg : Str → Option Value} (K : RecKnown G mg (recAt 42)) : FnFull ZZ G mg 55 d_law_dip :=
  fn_plain K rfl tr_law_dip (by decide +kernel) rfl rfl (by decide +kernel) (by decide) rfl (len2 (fun _ _ _ _ _ => rfl))
theorem ff_law_one {G : Gl} {mg : Str → Option Value} (K : RecKnown G mg (recAt 43)) : FnFull ZZ G mg 56 d_law_one :=
  fn_plain K rfl tr_law_one (by decide +kernel) rfl rfl (by decide +kernel) (by decide) rfl (len2 (fun _ _ _ _ _ => rfl))
theorem ff_law_path {G : Gl} {mg : Str → Option Value} (K : RecKnown G mg (recAt 44)) : FnFull ZZ G mg 57 d_law_path :=
  fn_plain K rfl tr_law_path (by decide +kernel) rfl rfl (by decide +kernel) (by decide) rfl (len1 (fun _ _ _ _ => rfl))
theorem ff_law_expr {G : Gl} {mg : Str → Option Value} (K : RecKnown G mg (recAt 45)) : FnFull ZZ G mg 58 d_law_expr :=
  fn_plain K rfl tr_law_expr (by decide +kernel) rfl rfl (by decide +kernel) (by decide) rfl (len1 (fun _ _ _ _ => rfl))
theorem ff_law_rows {G : Gl} {mg : Str → Option Value} (K : RecKnown G mg (recAt 46)) : FnFull ZZ G mg 59 d_law_rows :=
  fn_plain K rfl tr_law_rows (by decide +kernel) rfl rfl (by decide +kernel) (by decide) rfl (len1 (fun _ _ _ _ => rfl))
theorem ff_law_block {G : Gl} {mg : Str → Option Value} (K : RecKnown G mg (recAt 47)) : FnFull ZZ G mg 60 d_law_block :=
  fn_plain K rfl tr_law_block (by decide +kernel) rfl rfl (by decide +kernel) (by decide) rfl (len1 (fun _ _ _ _ => rfl))
theorem ff_law_if_right {G : Gl} {mg : Str → Option Value} (K : RecKnown G mg (recAt 48)) : FnFull ZZ G mg 61 d_law_if_right :=
  fn_plain K rfl tr_law_if_right (by decide +kernel) rfl rfl (by decide +kernel) (by decide) rfl (len1 (fun _ _ _ _ => rfl))
theorem ff_law_match_right {G : Gl} {mg : Str → Option Value} (K : RecKnown G mg (recAt 49)) : FnFull ZZ G mg 62 d_law_match_right :=
  fn_plain K rfl tr_law_match_right (by decide +kernel) rfl rfl (by decide +kernel) (by decide) rfl (len1 (fun _ _ _ _ => rfl))
theorem ff_law_jump_right {G : Gl} {mg : Str → Option Value} (K : RecKnown G mg (recAt 50)) : FnFull ZZ G mg 63 d_law_jump_right :=
  fn_plain K rfl tr_law_jump_right (by decide +kernel) rfl rfl (by decide +kernel) (by decide) rfl (len1 (fun _ _ _ _ => rfl))
theorem ff_law_gathered_right {G : Gl} {mg : Str → Option Value} (K : RecKnown G mg (recAt 51)) : FnFull ZZ G mg 64 d_law_gathered_right :=
  fn_cell K rfl tr_law_gathered_right (by decide +kernel) rfl rfl (by decide +kernel) (fun _ => rfl) (fun _ _ _ _ => rfl)
theorem ff_indented {G : Gl} {mg : Str → Option Value} (K : RecKnown G mg (recAt 37)) : FnFull ZZ G mg 65 d_indented :=
  fn_plain K rfl tr_indented (by decide +kernel) rfl rfl (by decide +kernel) (by decide) rfl (len1 (fun _ _ _ _ => rfl))
theorem ff_write_bound {G : Gl} {mg : Str → Option Value} (K : RecKnown G mg (recAt 33)) : FnFull ZZ G mg 66 d_write_bound :=
  fn_plain K rfl tr_write_bound (by decide +kernel) rfl rfl (by decide +kernel) (by decide) rfl (len1 (fun _ _ _ _ => rfl))
theorem ff_write_if {G : Gl} {mg : Str → Option Value} (K : RecKnown G mg (recAt 34)) : FnFull ZZ G mg 67 d_write_if :=
  fn_plain K rfl tr_write_if (by decide +kernel) rfl rfl (by decide +kernel) (by decide) rfl (len1 (fun _ _ _ _ => rfl))
theorem ff_write_match {G : Gl} {mg : Str → Option Value} (K : RecKnown G mg (recAt 35)) : FnFull ZZ G mg 68 d_write_match :=
  fn_plain K rfl tr_write_match (by decide +kernel) rfl rfl (by decide +kernel) (by decide) rfl (len1 (fun _ _ _ _ => rfl))
theorem ff_write_jump {G : Gl} {mg : Str → Option Value} (K : RecKnown G mg (recAt 30)) : FnFull ZZ G mg 69 d_write_jump :=
  fn_plain K rfl tr_write_jump (by decide +kernel) rfl rfl (by decide +kernel) (by decide) rfl (len1 (fun _ _ _ _ => rfl))
theorem ff_write_gathered {G : Gl} {mg : Str → Option Value} (K : RecKnown G mg (recAt 29)) : FnFull ZZ G mg 70 d_write_gathered :=
  fn_plain K rfl tr_write_gathered (by decide +kernel) rfl rfl (by decide +kernel) (by decide) rfl (len1 (fun _ _ _ _ => rfl))
theorem ff_write_expr {G : Gl} {mg : Str → Option Value} {t : Tok} (K : RecKnownD G mg (recAt 22) #[.int 0 t, .bool false]) : FnFull ZZ G mg 71 d_write_expr :=
  fn_dflt K rfl tr_write_expr (by decide +kernel) rfl rfl (by decide +kernel) (by decide) (fun _ _ => .cons (.int _ _) (.cons (.bool _) .nil)) (len123 (fun _ _ _ _ _ _ => ⟨_, rfl, rfl⟩) (fun _ _ _ _ _ _ _ => ⟨_, rfl, rfl⟩) (fun _ _ _ _ _ _ _ _ => ⟨_, rfl, rfl⟩))
theorem ff_level_of {G : Gl} {mg : Str → Option Value} (K : RecKnown G mg (recAt 21)) : FnFull ZZ G mg 72 d_level_of :=
  fn_plain K rfl tr_level_of (by decide +kernel) rfl rfl (by decide +kernel) (by decide) rfl (len1 (fun _ _ _ _ => rfl))
theorem ff_written {G : Gl} {mg : Str → Option Value} (K : RecKnown G mg (recAt 23)) : FnFull ZZ G mg 44 d_written :=
  fn_plain K rfl tr_written (by decide +kernel) rfl rfl (by decide +kernel) (by decide) rfl (len2 (fun _ _ _ _ _ => rfl))
theorem ff_write_literal {G : Gl} {mg : Str → Option Value} (K : RecKnown G mg (recAt 17)) : FnFull ZZ G mg 73 d_write_literal :=
  fn_plain K rfl tr_write_literal (by decide +kernel) rfl rfl (by decide +kernel) (by decide) rfl (len1 (fun _ _ _ _ => rfl))
theorem ff_write_path {G : Gl} {mg : Str → Option Value} {t : Tok} (K : RecKnownD G mg (recAt 11) #[.str (Str.ofString "") t]) : FnFull ZZ G mg 74 d_write_path :=
  fn_dflt K rfl tr_write_path (by decide +kernel) rfl rfl (by decide +kernel) (by decide) (fun _ _ => .cons (str_rv (by decide +kernel)) .nil) (len12 (fun _ _ _ _ _ _ => ⟨_, rfl, rfl⟩) (fun _ _ _ _ _ _ _ => ⟨_, rfl, rfl⟩))
theorem ff_write_angles {G : Gl} {mg : Str → Option Value} (K : RecKnown G mg (recAt 10)) : FnFull ZZ G mg 75 d_write_angles :=
  fn_plain K rfl tr_write_angles (by decide +kernel) rfl rfl (by decide +kernel) (by decide) rfl (len1 (fun _ _ _ _ => rfl))
theorem ff_write_type {G : Gl} {mg : Str → Option Value} (K : RecKnown G mg (recAt 12)) : FnFull ZZ G mg 76 d_write_type :=
  fn_plain K rfl tr_write_type (by decide +kernel) rfl rfl (by decide +kernel) (by decide) rfl (len1 (fun _ _ _ _ => rfl))
theorem ff_write_row {G : Gl} {mg : Str → Option Value} (K : RecKnown G mg (recAt 13)) : FnFull ZZ G mg 77 d_write_row :=
  fn_plain K rfl tr_write_row (by decide +kernel) rfl rfl (by decide +kernel) (by decide) rfl (len1 (fun _ _ _ _ => rfl))
theorem ff_write_pattern {G : Gl} {mg : Str → Option Value} (K : RecKnown G mg (recAt 14)) : FnFull ZZ G mg 78 d_write_pattern :=
  fn_plain K rfl tr_write_pattern (by decide +kernel) rfl rfl (by decide +kernel) (by decide) rfl (len1 (fun _ _ _ _ => rfl))
theorem ff_write_part {G : Gl} {mg : Str → Option Value} (K : RecKnown G mg (recAt 15)) : FnFull ZZ G mg 79 d_write_part :=
  fn_plain K rfl tr_write_part (by decide +kernel) rfl rfl (by decide +kernel) (by decide) rfl (len1 (fun _ _ _ _ => rfl))
theorem ff_write_ahead {G : Gl} {mg : Str → Option Value} (K : RecKnown G mg (recAt 24)) : FnFull ZZ G mg 80 d_write_ahead :=
  fn_plain K rfl tr_write_ahead (by decide +kernel) rfl rfl (by decide +kernel) (by decide) rfl (len2 (fun _ _ _ _ _ => rfl))
theorem ff_write_side {G : Gl} {mg : Str → Option Value} (K : RecKnown G mg (recAt 25)) : FnFull ZZ G mg 81 d_write_side :=
  fn_plain K rfl tr_write_side (by decide +kernel) rfl rfl (by decide +kernel) (by decide) rfl (len3 (fun _ _ _ _ _ _ => rfl))
theorem ff_write_operated {G : Gl} {mg : Str → Option Value} (K : RecKnown G mg (recAt 26)) : FnFull ZZ G mg 82 d_write_operated :=
  fn_plain K rfl tr_write_operated (by decide +kernel) rfl rfl (by decide +kernel) (by decide) rfl (len2 (fun _ _ _ _ _ => rfl))
theorem ff_write_list {G : Gl} {mg : Str → Option Value} (K : RecKnown G mg (recAt 27)) : FnFull ZZ G mg 83 d_write_list :=
  fn_plain K rfl tr_write_list (by decide +kernel) rfl rfl (by decide +kernel) (by decide) rfl (len1 (fun _ _ _ _ => rfl))
theorem ff_write_condition {G : Gl} {mg : Str → Option Value} (K : RecKnown G mg (recAt 31)) : FnFull ZZ G mg 84 d_write_condition :=
  fn_plain K rfl tr_write_condition (by decide +kernel) rfl rfl (by decide +kernel) (by decide) rfl (len1 (fun _ _ _ _ => rfl))
theorem ff_write_block_like {G : Gl} {mg : Str → Option Value} (K : RecKnown G mg (recAt 32)) : FnFull ZZ G mg 85 d_write_block_like :=
  fn_plain K rfl tr_write_block_like (by decide +kernel) rfl rfl (by decide +kernel) (by decide) rfl (len1 (fun _ _ _ _ => rfl))
theorem ff_write_block {G : Gl} {mg : Str → Option Value} (K : RecKnown G mg (recAt 38)) : FnFull ZZ G mg 86 d_write_block :=
  fn_plain K rfl tr_write_block (by decide +kernel) rfl rfl (by decide +kernel) (by decide) rfl (len1 (fun _ _ _ _ => rfl))
theorem ff_write_rows {G : Gl} {mg : Str → Option Value} (K : RecKnown G mg (recAt 36)) : FnFull ZZ G mg 87 d_write_rows :=
  fn_plain K rfl tr_write_rows (by decide +kernel) rfl rfl (by decide +kernel) (by decide) rfl (len1 (fun _ _ _ _ => rfl))
theorem ff_write_statement {G : Gl} {mg : Str → Option Value} (K : RecKnown G mg (recAt 39)) : FnFull ZZ G mg 88 d_write_statement :=
  fn_plain K rfl tr_write_statement (by decide +kernel) rfl rfl (by decide +kernel) (by decide) rfl (len1 (fun _ _ _ _ => rfl))
noncomputable def plains : List Nat := [41, 42, 43, 44, 45, 46, 47, 48, 49, 50, 51, 37, 33, 34, 35, 30, 29, 21, 23, 17, 10, 12, 13, 14, 15, 24, 25, 26, 27, 31, 32, 38, 36, 39]
noncomputable def fdefKeys : List Nat := [54, 55, 56, 57, 58, 59, 60, 61, 62, 63, 64, 65, 66, 67, 68, 69, 70, 71, 72, 44, 73, 74, 75, 76, 77, 78, 79, 80, 81, 82, 83, 84, 85, 86, 87, 88]
theorem fdef_big (n : Nat) : fdefF (n + 91) = none := rfl
theorem fdef_mem {f : Nat} {d : FDef} (h : fdefF f = some d) : f ∈ fdefKeys := by
  rcases Nat.lt_or_ge f 91 with q | q
  · have := List.all_eq_true.mp (show ((List.range 91).all fun f => !(fdefF f).isSome || fdefKeys.elem f) = true by decide +kernel) f (List.mem_range.mpr q)
    rw [h] at this
    exact List.elem_iff.mp this
  · obtain ⟨n, rfl⟩ := Nat.exists_eq_add_of_le' q
    rw [fdef_big] at h
    cases h
theorem fns_full {G : Gl} {mg : Str → Option Value} {t u : Tok} (K : ∀ k ∈ plains, RecKnown G mg (recAt k)) (KP : RecKnownD G mg (recAt 11) #[.str (Str.ofString "") t]) (KE : RecKnownD G mg (recAt 22) #[.int 0 u, .bool false]) :
    ∀ f d, TT.fdef f = some d → FnFull ZZ G mg f d := by
  intro f d h
  have h : fdefF f = some d := h
  have hm := fdef_mem h
  simp only [fdefKeys, List.mem_cons, List.not_mem_nil, or_false] at hm
  rcases hm with rfl | rfl | rfl | rfl | rfl | rfl | rfl | rfl | rfl | rfl | rfl | rfl | rfl | rfl | rfl | rfl | rfl | rfl | rfl | rfl | rfl | rfl | rfl | rfl | rfl | rfl | rfl | rfl | rfl | rfl | rfl | rfl | rfl | rfl | rfl | rfl
  · cases h; exact ff_law_jar (K 41 (by decide))
  · cases h; exact ff_law_dip (K 42 (by decide))
  · cases h; exact ff_law_one (K 43 (by decide))
  · cases h; exact ff_law_path (K 44 (by decide))
  · cases h; exact ff_law_expr (K 45 (by decide))
  · cases h; exact ff_law_rows (K 46 (by decide))
  · cases h; exact ff_law_block (K 47 (by decide))
  · cases h; exact ff_law_if_right (K 48 (by decide))
  · cases h; exact ff_law_match_right (K 49 (by decide))
  · cases h; exact ff_law_jump_right (K 50 (by decide))
  · cases h; exact ff_law_gathered_right (K 51 (by decide))
  · cases h; exact ff_indented (K 37 (by decide))
  · cases h; exact ff_write_bound (K 33 (by decide))
  · cases h; exact ff_write_if (K 34 (by decide))
  · cases h; exact ff_write_match (K 35 (by decide))
  · cases h; exact ff_write_jump (K 30 (by decide))
  · cases h; exact ff_write_gathered (K 29 (by decide))
  · cases h; exact ff_write_expr KE
  · cases h; exact ff_level_of (K 21 (by decide))
  · cases h; exact ff_written (K 23 (by decide))
  · cases h; exact ff_write_literal (K 17 (by decide))
  · cases h; exact ff_write_path KP
  · cases h; exact ff_write_angles (K 10 (by decide))
  · cases h; exact ff_write_type (K 12 (by decide))
  · cases h; exact ff_write_row (K 13 (by decide))
  · cases h; exact ff_write_pattern (K 14 (by decide))
  · cases h; exact ff_write_part (K 15 (by decide))
  · cases h; exact ff_write_ahead (K 24 (by decide))
  · cases h; exact ff_write_side (K 25 (by decide))
  · cases h; exact ff_write_operated (K 26 (by decide))
  · cases h; exact ff_write_list (K 27 (by decide))
  · cases h; exact ff_write_condition (K 31 (by decide))
  · cases h; exact ff_write_block_like (K 32 (by decide))
  · cases h; exact ff_write_block (K 38 (by decide))
  · cases h; exact ff_write_rows (K 36 (by decide))
  · cases h; exact ff_write_statement (K 39 (by decide))
end Mine

end DUpart

section DVpart
open PySem PySem.W PyProof.Rows
namespace Mine

section
variable {Z : Nms} {T : Tab} {prog : Program} {w : World} {G : Gl} {mg mb : Str → Option Value} {n : Nat}

theorem exs_app {env : Env} (HS : SoundS Z T prog w G n) : ∀ {b : List S} {σ σ' : St}, exsL (run T n).ex b σ = some (.next, σ') → ∀ {c xb ys P ja A N s Er} {Q : Flow → Shared → Prop}, TrSs Z c b xb → EnvOk Z c env P ja → AOk n A → Inv Z G env.locals N P ja σ s →
    (∀ s' N' ja', (∀ p ∈ N, p ∈ N') → ja'.j = ja.j → Inv Z G env.locals N' P ja' σ' s' → wpAny (model prog w) A (execs ys env) Q Er s') → wpAny (model prog w) A (execs (xb ++ ys) env) Q Er s := by
  intro b
  induction b with
  | nil =>
    intro σ σ' q c xb ys P ja A N s Er Q h V a I K
    cases q
    cases h
    exact K s N ja (fun _ q => q) rfl I
  | cons st b ih =>
    intro σ σ' q c xb ys P ja A N s Er Q h V a I K
    cases h with | cons h1 h2 =>
    unfold exsL at q
    refine wpAny_execs_cons ?_
    split at q
    · rename_i σ₁ q1
      refine wpAny_mono (HS q1 h1 V a I) (fun f s₁ ⟨N₁, ja₁, hs₁, e₁, hf, I₁⟩ => ?_) fun _ _ x => x
      subst hf
      exact ih q h2 (V.pin e₁) a I₁ fun s' N' ja' hs' e' I' => K s' N' ja' (fun p hp => hs' p (hs₁ p hp)) (e'.trans e₁) I'
    · cases q
    · cases q

theorem Core.strip {Z : Nms} {G : Gl} {L : Addr} {N P : Led} {ja ja' : Pin} {σ : St} {h : Heap} {m : Str → Option Value} {O J : Led} (C : Core Z G L N P ja σ h m O J) (e : ja'.j = ja.j) : Core Z G L N P ja' ⟨[], none, σ.j⟩ h m [] J := by
  refine ⟨C.fr, fun p hp => C.nw p ?_, fun p hp q hq => C.dN p hp q ?_, (fun p hp => nomatch hp), C.dJ, C.jr.pin e, rfl, fun x v _ _ e => nomatch e⟩
  · simp only [List.mem_append, List.nil_append] at hp ⊢
    rcases hp with hp | hp | hp <;> simp [hp]
  · simp only [List.mem_append, List.nil_append] at hq ⊢
    rcases hq with hq | hq <;> simp [hq]
theorem TrSs.split {Z : Nms} {c : Cx} : ∀ {b b' : List S} {body : List Stmt}, TrSs Z c (b ++ b') body → ∃ xb xl, body = xb ++ xl ∧ TrSs Z c b xb ∧ TrSs Z c b' xl
  | [], _, body, h => ⟨[], body, rfl, .nil, h⟩
  | s :: b, _, _, h => by
    cases h with | cons h1 h2 =>
    obtain ⟨xb, xl, rfl, k1, k2⟩ := TrSs.split h2
    exact ⟨_ :: xb, xl, rfl, .cons h1 k1, k2⟩

theorem ret_lst_inv {Z : Nms} {c : Cx} {es : List E} {xl : List Stmt} (h : TrSs Z c [.ret (.lst es)] xl) : ∃ xs lp rp, xl = [.Return (some (.List xs lp)) rp] ∧ TrEs Z c es xs := by
  cases h with | cons a b =>
  cases b
  cases a with | ret e =>
  cases e with | lst k => exact ⟨_, _, _, rfl, k⟩
theorem RVs.ints2 {h₀ : Heap} {N : Led} {ja : Pin} {us : List Value} {x y : Int} (h : RVs h₀ N ja us [.int x, .int y]) : ∃ t₀ t₁, us = [.int x t₀, .int y t₁] := by
  obtain ⟨u, us', rfl, a, b⟩ := h.cons_inv
  obtain ⟨v, rfl, b'⟩ := b.one_inv
  obtain ⟨t₀, rfl⟩ := a.int_inv
  obtain ⟨t₁, rfl⟩ := b'.int_inv
  exact ⟨t₀, t₁, rfl⟩
/-- a call of a plain function whose last row gives a new list of two ints -/
theorem pair_call (T0 : Top0 Z T prog w G mg mb) {f : Nat} {d : FDef} (hF : FnFull Z G mg f d) (HE : SoundE Z T prog w G n) (HS : SoundS Z T prog w G n) {b : List S} {es : List E} (hb : d.body = b ++ [.ret (.lst es)]) {p₀ : Nat} (hp : d.params = [p₀]) (hd : d.dflt = []) (hcel : d.cel = false)
    {A : Around} (a : AOk (n + 1) A) {L : Addr} {N P : Led} {ja : Pin} {σ : St} {s : Shared} {u : Value} {v : V} {Er : Value → Shared → Prop} (I : Inv Z G L N P ja σ s) (r : RV G.h₀ N ja u v) {σ2 σ3 : St} {x y : Int}
    (q1 : exsL (run T n).ex b ⟨[(p₀, v)], none, σ.j⟩ = some (.next, σ2)) (q2 : evs (run T n).ev es σ2 = some ([.int x, .int y], σ3)) {fa : Addr} (hm : mg (Z.nm f) = some (.ref fa)) :
    wpAny (model prog w) A (call (.ref fa) [u]) (fun r s' => ∃ D t₀ t₁ N', r = .ref D ∧ (∀ p ∈ P, p.1 ≠ D) ∧ Inv Z G L N' ((D, lstO [.int x t₀, .int y t₁] 0) :: P) ja ⟨σ.ρ, σ.own, σ3.j⟩ s') Er s := by
  refine Classical.byContradiction fun hn0 => ?_
  obtain ⟨c, fa', o, fd, body, hm', ho, hdata, hcd, hbody, hclo, hglo, hbi, hco, hgen, hkind, hTr, hls, hgs, hrest⟩ := hF
  rw [hm] at hm'
  cases hm'
  obtain ⟨m, O, J, C⟩ := I.core
  have keep := C.fr.keep
  obtain ⟨oL, _, _, hL, _⟩ := id C.fr.ns
  have hroom : A.depth < recursionLimit := by have := a.dep; omega
  rw [hcel] at hrest
  obtain ⟨hcj, hnc, hpar, hbind⟩ := hrest
  obtain ⟨ws, rws, hB⟩ := hbind [u] s keep (by rw [hp]; exact Nat.le_refl _) (by rw [hp, hd]; exact Nat.le_refl _)
  have ews : ws = [] := by
    have h0 := (rws [] ja)
    rw [hd] at h0
    simp only [List.drop_nil] at h0
    cases h0; rfl
  subst ews
  rw [hp] at hB
  rw [hb] at hTr
  obtain ⟨xb, xl, rfl, hT1, hT2⟩ := hTr.split
  obtain ⟨xs, lp, rp, rfl, hEs⟩ := ret_lst_inv hT2
  refine hn0 (wpAny_call ?_)
  refine codeAny_call_def hroom (keep _ _ ho) hdata (T0.nl.keeps keep) (hcd.keeps keep) hbody hB hnc ?_ ?_ hco hgen hkind
  · intro x hx
    have : x = (Z.nm p₀, u) := by simpa using hx
    subst this
    exact (hls p₀ (hpar p₀ (by rw [hp]; exact .head _))).2
  · intro h₀' hn' hk'
    have hp0 : p₀ < Z.nb := (hls p₀ (hpar p₀ (by rw [hp]; exact .head _))).1
    have R : Rel Z G N ja [(p₀, v)] [(Z.nm p₀, u)] := .cons hp0 r .nil
    have C₁ := C.enter hL (F := s.heap.objs.size) (ρ := [(p₀, v)]) hk' (Nat.le_refl _) hn' (fun x v hx _ e => R.lk hx e)
    have V : EnvOk Z c (callEnv fd s.heap.objs.size fa) ((L, oL) :: (O ++ P)) ja :=
      ⟨hkind, hglo, hbi, fun x hx => hls x hx, fun g hg => hgs g hg, fun h => by rw [hcj] at h; cases h⟩
    have a' := a.deeper (callEnv fd s.heap.objs.size fa)
    have I₁ : Inv Z G s.heap.objs.size N ((L, oL) :: (O ++ P)) ja ⟨_, none, σ.j⟩ { s with heap := h₀', toks := s.toks + (([p₀].map Z.nm).zip ([u] ++ [])).length } := I.at C₁
    refine wpAny_mono (E := fun _ _ => False) (Q := fun f' s' => ∃ D t₀ t₁ N', f' = .ret (.ref D) ∧ (∀ p ∈ P, p.1 ≠ D) ∧ Inv Z G L N' ((D, lstO [.int x t₀, .int y t₁] 0) :: P) ja ⟨σ.ρ, σ.own, σ3.j⟩ s') ?_ (fun f' s' ⟨D, t₀, t₁, N', hf, h2, h3⟩ => by subst hf; exact ⟨D, t₀, t₁, N', rfl, h2, h3⟩) (fun _ _ h => h.elim)
    refine exs_app HS q1 hT1 V a' I₁ fun s' N₁ ja₁ hs₁ e₁ I₂ => ?_
    refine wpAny_execs_cons (wpAny_Return_some (List_ (wpAny_mono (evs_sound HE q2 hEs (V.pin e₁) a' I₂) (fun us s₂ ⟨N₂, hs₂, rs, I₃⟩ => ?_) fun _ _ x => x)))
    obtain ⟨t₀, t₁, rfl⟩ := rs.ints2
    refine wpAny_newObj_type ?_
    obtain ⟨m₃, O₃, J₃, C₃⟩ := I₃.core
    obtain ⟨C₄, hD⟩ := C₃.protects (I := [(s₂.heap.objs.size, lstO [.int x t₀, .int y t₁] 0)]) (h' := s₂.heap.push (lstO [.int x t₀, .int y t₁] 0)) (fun _ _ e => Heap.get?_push_of_some _ e) (fun p hp => by
      have : p = (s₂.heap.objs.size, lstO [.int x t₀, .int y t₁] 0) := by simpa using hp
      subst this
      exact ⟨Heap.get?_push_size _ rfl, get_fresh _⟩)
    have C₅ := C₄.strip (ja' := ja) e₁.symm
    obtain ⟨oF, _, _, hF, _⟩ := id C₅.fr.ns
    have C₆ := C.leaveK hL (F := s.heap.objs.size) (Q := [(s₂.heap.objs.size, lstO [.int x t₀, .int y t₁] 0)]) (fun p hp => hs₂ p (hs₁ p hp)) hF C₅ (fun p hp q hq => by
      have : p = (s₂.heap.objs.size, lstO [.int x t₀, .int y t₁] 0) := by simpa using hp
      subst this
      exact fun e => hD q hq (by simp [← e]))
    refine ⟨_, t₀, t₁, N₂, rfl, fun p hp e => hD p (by simp [hp]) (by simp [e]), I₃.at (tk := s₂.toks) (C₆.sub fun p hp => .tail _ hp)⟩
end
end Mine

end DVpart

section DWpart
open PySem PySem.W PyProof.Rows
namespace Mine

/-- the new list becomes the jar -/
theorem Core.jarred {Z : Nms} {G : Gl} {L D : Addr} {N P : Led} {ja : Pin} {σ : St} {h : Heap} {m : Str → Option Value} {O J : Led} {x y : Int} {t₀ t₁ : Tok} {n : Nat} (C : Core Z G L N ((D, lstO [.int x t₀, .int y t₁] n) :: P) ja σ h m O J) (hP : ∀ p ∈ P, p.1 ≠ D) :
    Core Z G L [] P ⟨some D, ja.o⟩ ⟨[], none, (x, y)⟩ h m [] [(D, lstO [.int x t₀, .int y t₁] n)] := by
  refine ⟨C.fr, fun p hp => C.nw p ?_, (fun p hp => nomatch hp), (fun p hp => nomatch hp), fun p hp q hq => ?_, ⟨t₀, t₁, n, rfl⟩, rfl, fun x v _ _ e => nomatch e⟩
  · simp only [List.mem_append, List.nil_append, List.mem_cons, List.not_mem_nil, or_false] at hp ⊢
    rcases hp with hp | hp <;> simp [hp]
  · have : p = (D, lstO [.int x t₀, .int y t₁] n) := by simpa using hp
    subst this
    exact Ne.symm (hP q hq)

theorem law_split : bodyAt 52 = (bodyAt 52).take 2 ++ ((bodyAt 52).drop 2) := (List.take_append_drop 2 _).symm
noncomputable def jarEs : List E := match d_law_jar.body with
  | [_, _, .ret (.lst es)] => es
  | _ => []
theorem jar_body : d_law_jar.body = d_law_jar.body.take 2 ++ [.ret (.lst jarEs)] := rfl

/-- what the plain reading says -/
structure Plain (n : Nat) (vs : List V) : Prop where
  first : exsL (run TT n).ex law1 ⟨[(0, .lst vs)], none, (0, 0)⟩ = some (.next, ⟨[(0, .lst vs)], none, (0, 0)⟩)
  jar : ∃ x y σ₂ σ₃, exsL (run TT n).ex (d_law_jar.body.take 2) ⟨[(0, .lst vs)], none, (0, 0)⟩ = some (.next, σ₂) ∧ evs (run TT n).ev jarEs σ₂ = some ([.int x, .int y], σ₃) ∧
    ∃ σ, exsL (run TT n).ex law2 ⟨[], none, (x, y)⟩ = some (.ret (.bool true), σ)

theorem law_walk {prog : Program} {w : World} {G : Gl} {mg mb : Str → Option Value} (T0 : Top0 ZZ TT prog w G mg mb) (FF : ∀ f d, TT.fdef f = some d → FnFull ZZ G mg f d) {n : Nat} {env : Env} {A : Around} {s : Shared} {Er : Value → Shared → Prop}
    {cA : Addr} {oc : Obj} {v₀ : Option Value} {vs : List V} (hk : env.scope.kind = .function) (hg : env.globals = mainGlobals) (hb : env.builtins = builtinsNs) (hls : ∀ x, cx_law.ls.elem x = true → x < ZZ.nb ∧ env.kindOf (ZZ.nm x) = some .local)
    (hgs : ∀ x, cx_law.gs.elem x = true → env.kindOf (ZZ.nm x) = some .globalImplicit) (hc : env.kindOf (ZZ.nm ZZ.jar) = some .cell) (hcl : env.cells.lookup (ZZ.nm ZZ.jar) = some cA) (hoc : oc.data = .cell v₀) (a : AOk (n + 1) A)
    (I : Inv ZZ G env.locals [] [(cA, oc)] ⟨none, 0⟩ ⟨[(0, .lst vs)], none, (0, 0)⟩ s) (PL : Plain n vs) :
    wpAny (model prog w) A (execs (bodyAt 52) env) (fun f s' => f = .ret (.bool true) ∧ (∃ h tk, s' = { G.s₀ with heap := h, toks := tk }) ∧ ∀ b o, G.h₀.get? b = some o → s'.heap.get? b = some o) Er s := by
  obtain ⟨HE', HS', _⟩ := all_sound T0 FF n
  have HE := HE' n (Nat.le_refl _)
  have HS : SoundS ZZ TT prog w G n := by intro st σ fl σ' q; exact HS' n (Nat.le_refl _) q
  have a₀ := a.le (Nat.le_succ n)
  obtain ⟨x, y, σ₂, σ₃, qj1, qj2, σf, qf⟩ := PL.jar
  rw [law_split]
  have V₀ : EnvOk ZZ cx_law0 env [(cA, oc)] ⟨none, 0⟩ := ⟨hk, hg, hb, hls, hgs, fun h => by cases h⟩
  refine exs_app HS PL.first tr_law1 V₀ a₀ I fun s₁ N₁ ja₁ hs₁ e₁ I₁ => ?_
  obtain ⟨fa, hm⟩ : ∃ fa, mg (ZZ.nm f_law_jar) = some (.ref fa) := by
    obtain ⟨c, fa, o, fd, body, hm, _⟩ := FF f_law_jar d_law_jar rfl
    exact ⟨fa, hm⟩
  show wpAny _ _ (execs (.Assign [.Name (ZZ.nm ZZ.jar) _] (.Call (.Name (ZZ.nm f_law_jar) _) [.Name (ZZ.nm 0) _] [] _) _ :: (bodyAt 52).drop 3) env) _ _ _
  refine wpAny_execs_cons (wpAny_Assign_Name (Call_Name rfl (glob_name T0 (V₀.pin e₁) I₁ (by decide) hm ?_)) rfl)
  obtain ⟨m, O, J, C⟩ := I₁.core
  obtain ⟨u, N₂, O₂, em, hs₂, r, C₂⟩ := C.read (x := 0) (v := .lst vs) (σ' := ⟨[(0, .lst vs)], none, (0, 0)⟩) (hls 0 (by decide)).1 rfl
  obtain ⟨c', fa', o', fd', body', hm', ho', hdata', _⟩ := FF f_law_jar d_law_jar rfl
  rw [hm] at hm'
  cases hm'
  have I₂ := I₁.at (tk := s₁.toks) C₂
  refine Calls.callWith_function (o := o') (fd := fd') (Calls.evalArgs_plain (Calls.spliced_cons (wpAny_Name (wpAny_loadName_local hk (hls 0 (by decide)).2 C.fr.ns em (Calls.spliced_nil ⟨⟨C.fr.keep _ _ ho', hdata'⟩, ?_⟩)) (T0.nd _))))
  refine wpAny_mono (pair_call T0 (FF f_law_jar d_law_jar rfl) HE HS jar_body rfl rfl rfl a I₂ r qj1 qj2 hm) (fun v s₃ ⟨D, t₀, t₁, N₃, ev, hD, I₃⟩ => ?_) fun _ _ x => x
  subst ev
  obtain ⟨m₃, O₃, J₃, C₃⟩ := I₃.core
  have hcell : s₃.heap.IsCell cA v₀ := ⟨oc, C₃.P_get (p := (cA, oc)) (by simp), hoc⟩
  refine wpAny_storeName_cell hk hc hcl hcell fun h₄ ⟨oc', hg', hd'⟩ hs₄ => ?_
  have hDc : cA ≠ D := hD (cA, oc) (by simp)
  have C₄ := (C₃.sub (P' := [(cA, oc)] ++ [(D, lstO [.int x t₀, .int y t₁] 0)]) (fun p hp => by
    simp only [List.mem_append, List.mem_cons, List.not_mem_nil, or_false] at hp ⊢
    rcases hp with hp | hp <;> simp [hp])).turnP (h' := h₄) (I' := [(cA, oc')]) (fun p hp hb => by
      have h1 : p = (D, lstO [.int x t₀, .int y t₁] 0) := by simpa using hp
      subst h1
      have h2 : D = cA := by simpa using hb
      exact hDc h2.symm) (fun b x hb e => (hs₄.2 b (fun q => hb (by simp [q]))).trans e) (fun p hp => by
      have h1 : p = (cA, oc') := by simpa using hp
      subst h1
      exact ⟨by simp, hg'⟩)
  have C₅ := (C₄.sub (P' := (D, lstO [.int x t₀, .int y t₁] 0) :: [(cA, oc')]) (fun p hp => by
    simp only [List.mem_append, List.mem_cons, List.not_mem_nil, or_false] at hp ⊢
    rcases hp with hp | hp <;> simp [hp])).jarred (fun p hp => by
      have h1 : p = (cA, oc') := by simpa using hp
      subst h1
      exact hDc)
  have I₅ : Inv ZZ G env.locals [] [(cA, oc')] ⟨some D, _⟩ ⟨[], none, (x, y)⟩ { s₃ with heap := h₄ } := I₃.at (tk := s₃.toks) C₅
  have V₅ : EnvOk ZZ cx_law env [(cA, oc')] ⟨some D, ja₁.o⟩ := ⟨hk, hg, hb, hls, hgs, fun _ => ⟨cA, oc', D, hc, hcl, .head _, hd', rfl⟩⟩
  refine wpAny_mono (exs_sound HS qf tr_law2 V₅ a₀ I₅) (fun f s₆ ⟨N₆, ja₆, _, _, ⟨z, hf, rz⟩, I₆⟩ => ?_) fun _ _ x => x
  cases rz
  obtain ⟨m₆, O₆, J₆, C₆⟩ := I₆.core
  exact ⟨hf, I₆.1, C₆.fr.keep⟩
end Mine

end DWpart

section DXpart
open PySem PySem.W PyProof.Rows PySem.Calls
namespace Mine

theorem cond_all {α : Type} {p : α → Prop} {b : Bool} {x y : α} (h : p x) (h' : p y) : p (cond b x y) := by cases b <;> assumption
theorem cond_two {α β : Type} {f : α → β} {b : Bool} {x y : α} {x' y' : β} (h : f x = x') (h' : f y = y') : f (cond b x y) = cond b x' y' := by cases b <;> assumption
theorem names_nd (n : Nat) : (nmF n == ("__debug__" : Str)) = false := by
  unfold nmF
  repeat' first
    | refine cond_all (p := fun s => (s == ("__debug__" : Str)) = false) ?_ ?_
    | decide +kernel
theorem lits_ok (n : Nat) : (litF n).cps.toList = litC n := by
  unfold litF litC
  repeat' first
    | refine cond_two (f := fun s : Str => s.cps.toList) ?_ ?_
    | decide +kernel

inductive Ent (P : Params) : List (List Nat × Int) → List DictEntry → Prop
  | nil : Ent P [] []
  | cons {l i t t' es T} : Ent P T es → Ent P ((l, i) :: T) (⟨PyData.keyHash P ⟨l.toArray⟩, .str ⟨l.toArray⟩ t, .int i t'⟩ :: es)
noncomputable def tokOf : Value → Tok
  | .str _ t => t
  | .int _ t => t
  | _ => 0
noncomputable def rebuild (P : Params) : List (List Nat × Int) → List DictEntry → List DictEntry
  | (l, i) :: T, e :: es => ⟨PyData.keyHash P ⟨l.toArray⟩, .str ⟨l.toArray⟩ (tokOf e.key), .int i (tokOf e.val)⟩ :: rebuild P T es
  | _, _ => []
theorem Ent.of {P : Params} : ∀ {T : List (List Nat × Int)} {es : List DictEntry}, T.length = es.length → Ent P T (rebuild P T es)
  | [], [], _ => .nil
  | [], _ :: _, h => by cases h
  | _ :: _, [], h => by cases h
  | (l, i) :: T, e :: es, h => .cons (Ent.of (by simpa using h))
theorem Ent.find {P : Params} {T : List (List Nat × Int)} {es : List DictEntry} (h : Ent P T es) : ∀ {l i}, lkL T l = some i → ∀ x : Str, x.cps.toList = l → ∃ t, (es.find? fun e => Value.isStrOf x e.key).map (·.val) = some (.int i t) := by
  induction h with
  | nil => intro l i e; cases e
  | @cons l' i' t t' es T _ ih =>
    intro l i e x hx
    have e : (match beqL l' l with | true => some i' | false => lkL T l) = some i := e
    rw [List.find?_cons]
    cases q : beqL l' l with
    | true =>
      rw [q] at e
      cases e
      have h1 := (beqL_iff l' l).mp q
      have h2 : Value.isStrOf x (Value.str ⟨l'.toArray⟩ t) = true := by
        show ((⟨l'.toArray⟩ : Str) == x) = true
        rw [beq_iff_eq]
        exact PySem.Str.ext' (by apply Array.toList_inj.mp; rw [hx, ← h1])
      rw [h2]
      exact ⟨t', rfl⟩
    | false =>
      rw [q] at e
      have h2 : Value.isStrOf x (Value.str ⟨l'.toArray⟩ t) = false := by
        cases k : Value.isStrOf x (Value.str ⟨l'.toArray⟩ t) with
        | false => rfl
        | true =>
          have k : ((⟨l'.toArray⟩ : Str) == x) = true := k
          rw [beq_iff_eq] at k
          rw [← k] at hx
          have : beqL l' l = true := (beqL_iff l' l).mpr (by simpa using hx)
          rw [this] at q; cases q
      rw [h2]
      exact ih e x hx
theorem Ent.keys {prog : Program} {w : World} {T : List (List Nat × Int)} {es : List DictEntry} (h : Ent w.params T es) : ∀ e ∈ es, ∃ k, (strKind prog w).is k e.key = true ∧ e.hash = (strKind prog w).hash k := by
  induction h with
  | nil => intro e he; cases he
  | @cons l i t t' es T _ ih =>
    intro e he
    rcases List.mem_cons.mp he with rfl | he
    · exact ⟨⟨l.toArray⟩, strKind_is prog w _ t, rfl⟩
    · exact ih e he

noncomputable def dOf (K : Frag) : Addr := match nsIn K mainGlobals (Str.ofString "LEVELS") with
  | some (some (.ref a)) => a
  | _ => 0
noncomputable def oOf (K : Frag) : Obj := (K.lookup (dOf K)).getD ⟨.none, none, .plain, #[]⟩
noncomputable def esOf (K : Frag) : List DictEntry := match (oOf K).data with
  | .dict es _ => es.toList
  | _ => []
noncomputable def epOf (K : Frag) : Nat := match (oOf K).data with
  | .dict _ n => n
  | _ => 0
noncomputable def tenNames : List String := ["len", "max", "tuple", "list", "isinstance", "str", "int", "range", "enumerate", "bool"]
noncomputable def allPlains : List Nat := [10, 12, 13, 14, 15, 16, 17, 18, 19, 20, 21, 23, 24, 25, 26, 27, 28, 29, 30, 31, 32, 33, 34, 35, 36, 37, 38, 39, 41, 42, 43, 44, 45, 46, 47, 48, 49, 50, 51, 52]

noncomputable def RecIn (K : Frag) (r : DefRec) (items : Array Value) : Prop := ∃ a o pm c doc T kV oT n co vs t, nsIn K mainGlobals r.name = some (some (.ref a)) ∧ K.lookup a = some o ∧
  o.data = .func { docDef r.name r.params r.body r.scope pm (.ref c) doc with defaults := .ref T, kwdefaults := kV } ∧ K.lookup c = some co ∧ co.data = .fields vs ∧ vs[1]? = some (.str r.name t) ∧ K.lookup T = some oT ∧ oT.data = .seq items n
noncomputable def adrOf : Value → Addr
  | .ref a => a
  | _ => 0
noncomputable def fnA (K : Frag) (x : Str) : Addr := match nsIn K mainGlobals x with
  | some (some (.ref a)) => a
  | _ => 0
noncomputable def objOf (K : Frag) (a : Addr) : Obj := (K.lookup a).getD ⟨.none, none, .plain, #[]⟩
noncomputable def fdPick (K : Frag) (x : Str) (f : FuncData → Value) : Value := match (objOf K (fnA K x)).data with
  | .func fd => f fd
  | _ => .none
noncomputable def fldsOf (o : Obj) : Array Value := match o.data with
  | .fields vs => vs
  | _ => #[]
noncomputable def seqsOf (o : Obj) : Array Value := match o.data with
  | .seq vs _ => vs
  | _ => #[]
noncomputable def seqN (o : Obj) : Nat := match o.data with
  | .seq _ n => n
  | _ => 0
noncomputable abbrev codA (K : Frag) (x : Str) : Addr := adrOf (fdPick K x (·.code))
noncomputable abbrev dflA (K : Frag) (x : Str) : Addr := adrOf (fdPick K x (·.defaults))
theorem RecIn.of {K : Frag} {r : DefRec} {items : Array Value} (h1 : nsIn K mainGlobals r.name = some (some (.ref (fnA K r.name)))) (h2 : K.lookup (fnA K r.name) = some (objOf K (fnA K r.name)))
    (h3 : (objOf K (fnA K r.name)).data = .func { docDef r.name r.params r.body r.scope (fdPick K r.name (·.pyModule)) (.ref (codA K r.name)) (fdPick K r.name (·.doc)) with defaults := .ref (dflA K r.name), kwdefaults := fdPick K r.name (·.kwdefaults) })
    (h4 : K.lookup (codA K r.name) = some (objOf K (codA K r.name))) (h5 : (objOf K (codA K r.name)).data = .fields (fldsOf (objOf K (codA K r.name))))
    (h6 : (fldsOf (objOf K (codA K r.name)))[1]? = some (.str r.name (tokOf ((fldsOf (objOf K (codA K r.name))).getD 1 .none)))) (h7 : K.lookup (dflA K r.name) = some (objOf K (dflA K r.name)))
    (h8 : (objOf K (dflA K r.name)).data = .seq items (seqN (objOf K (dflA K r.name)))) : RecIn K r items :=
  ⟨_, _, _, _, _, _, _, _, _, _, _, _, h1, h2, h3, h4, h5, h6, h7, h8⟩

theorem path_of {K : Frag} (h1 : nsIn K mainGlobals (recAt 11).name = some (some (.ref (fnA K (recAt 11).name)))) (h2 : K.lookup (fnA K (recAt 11).name) = some (objOf K (fnA K (recAt 11).name)))
    (h3 : (objOf K (fnA K (recAt 11).name)).data = .func { docDef (recAt 11).name (recAt 11).params (recAt 11).body (recAt 11).scope (fdPick K (recAt 11).name (·.pyModule)) (.ref (codA K (recAt 11).name)) (fdPick K (recAt 11).name (·.doc)) with defaults := .ref (dflA K (recAt 11).name), kwdefaults := fdPick K (recAt 11).name (·.kwdefaults) })
    (h4 : K.lookup (codA K (recAt 11).name) = some (objOf K (codA K (recAt 11).name))) (h5 : (objOf K (codA K (recAt 11).name)).data = .fields (fldsOf (objOf K (codA K (recAt 11).name))))
    (h6 : (fldsOf (objOf K (codA K (recAt 11).name)))[1]? = some (.str (recAt 11).name (tokOf ((fldsOf (objOf K (codA K (recAt 11).name))).getD 1 .none)))) (h7 : K.lookup (dflA K (recAt 11).name) = some (objOf K (dflA K (recAt 11).name)))
    (h8 : (objOf K (dflA K (recAt 11).name)).data = .seq #[.str (Str.ofString "") (tokOf ((seqsOf (objOf K (dflA K (recAt 11).name))).getD 0 .none))] (seqN (objOf K (dflA K (recAt 11).name)))) : ∃ t, RecIn K (recAt 11) #[.str (Str.ofString "") t] :=
  ⟨_, RecIn.of h1 h2 h3 h4 h5 h6 h7 h8⟩
theorem expr_of {K : Frag} (h1 : nsIn K mainGlobals (recAt 22).name = some (some (.ref (fnA K (recAt 22).name)))) (h2 : K.lookup (fnA K (recAt 22).name) = some (objOf K (fnA K (recAt 22).name)))
    (h3 : (objOf K (fnA K (recAt 22).name)).data = .func { docDef (recAt 22).name (recAt 22).params (recAt 22).body (recAt 22).scope (fdPick K (recAt 22).name (·.pyModule)) (.ref (codA K (recAt 22).name)) (fdPick K (recAt 22).name (·.doc)) with defaults := .ref (dflA K (recAt 22).name), kwdefaults := fdPick K (recAt 22).name (·.kwdefaults) })
    (h4 : K.lookup (codA K (recAt 22).name) = some (objOf K (codA K (recAt 22).name))) (h5 : (objOf K (codA K (recAt 22).name)).data = .fields (fldsOf (objOf K (codA K (recAt 22).name))))
    (h6 : (fldsOf (objOf K (codA K (recAt 22).name)))[1]? = some (.str (recAt 22).name (tokOf ((fldsOf (objOf K (codA K (recAt 22).name))).getD 1 .none)))) (h7 : K.lookup (dflA K (recAt 22).name) = some (objOf K (dflA K (recAt 22).name)))
    (h8 : (objOf K (dflA K (recAt 22).name)).data = .seq #[.int 0 (tokOf ((seqsOf (objOf K (dflA K (recAt 22).name))).getD 0 .none)), .bool false] (seqN (objOf K (dflA K (recAt 22).name)))) : ∃ t, RecIn K (recAt 22) #[.int 0 t, .bool false] :=
  ⟨_, RecIn.of h1 h2 h3 h4 h5 h6 h7 h8⟩

/-- what the top of the program says, in a form that a kernel reads off -/
structure TopSays (p : Program) (P : Params) (K : Frag) : Prop where
  recsAre : recsOf p = allPlains.map recAt
  pathIn : ∃ t, RecIn K (recAt 11) #[.str (Str.ofString "") t]
  exprIn : ∃ t, RecIn K (recAt 22) #[.int 0 t, .bool false]
  nonesAre : ∀ n ∈ tenNames, nsIn K mainGlobals (Str.ofString n) = some none
  numsAre : ∀ g i, (g, i) ∈ [("WHOLE", 0), ("CAST", 10), ("UNARY", 11), ("POSTFIX", 12), ("COMPARED", 3)] → valOf p (Str.ofString g) = some (.int i)
  indentIs : valOf p (Str.ofString "INDENT") = some (.str (Str.ofString "    "))
  blocksAre : tupStrsOf p (Str.ofString "BLOCKS") = some (["block", "if", "match", "loop", "while", "for"].map Str.ofString)
  jumpsAre : tupStrsOf p (Str.ofString "JUMPS") = some (["break", "continue", "return"].map Str.ofString)
  lev1 : nsIn K mainGlobals (Str.ofString "LEVELS") = some (some (.ref (dOf K)))
  lev2 : K.lookup (dOf K) = some (oOf K)
  lev3 : (oOf K).ExactDict ∧ (oOf K).data = .dict (esOf K).toArray (epOf K)
  lev4 : levT.length = (esOf K).length
  lev5 : rebuild P levT (esOf K) = esOf K

section
variable {p : Program} {prog : Program} {w : World} {loose : List Str} {mean : ExcName → Option Value} {mg mb : Str → Option Value} {s₁ : Shared} {K : Frag}

theorem strs_rvs {G : Gl} {N : Led} {ja : Pin} : ∀ {us : List Value} {ss : List Str} {ls : List (List Nat)}, StrsAre us ss → ss.map (·.cps.toList) = ls → RVs G.h₀ N ja us (ls.map .str)
  | _, _, _, .nil, h => by subst h; exact .nil
  | _, _, _, .cons y t r, h => by subst h; exact .cons (.str y t) (strs_rvs r rfl)

theorem top0_of (S : TopSays p w.params K) (T : Top p loose mean mg mb s₁.heap) (B : Tables p w mg s₁.heap) (X : K.In s₁.heap) : Top0 ZZ TT prog w ⟨s₁.heap, s₁⟩ mg mb := by
  refine ⟨T.g, T.b, T.builtins, T.nolimit, fun n hn => ⟨mg_none_of X T.g (S.nonesAre n hn), ?_⟩, names_nd, lits_ok, fun g v h => ?_, ?_, rfl, by decide⟩
  · simp only [List.mem_cons, List.not_mem_nil, or_false] at hn
    rcases hn with rfl | rfl | rfl | rfl | rfl | rfl | rfl | rfl | rfl | rfl <;> decide +kernel
  · have num : ∀ g i, (g, i) ∈ [("WHOLE", (0 : Int)), ("CAST", 10), ("UNARY", 11), ("POSTFIX", 12), ("COMPARED", 3)] → ∃ u, mg (Str.ofString g) = some u ∧ ∀ N ja, RV s₁.heap N ja u (.int i) := by
      intro g i h
      obtain ⟨u, hu, hr⟩ := T.const _ _ (S.numsAre g i h)
      obtain ⟨t, rfl, _⟩ := reads_int_inv (hr {})
      exact ⟨_, hu, fun _ _ => .int _ _⟩
    have tup : ∀ g ss ls, tupStrsOf p (Str.ofString g) = some ss → ss.map (·.cps.toList) = ls → ∃ u, mg (Str.ofString g) = some u ∧ ∀ N ja, RV s₁.heap N ja u (.tup (ls.map .str)) := by
      intro g ss ls h hl
      obtain ⟨a, vs, hm, ⟨o, ho, hc, n, hd⟩, hs⟩ := B.tupS _ _ h
      exact ⟨_, hm, fun N ja => .tup (.inr ho) hc hd (strs_rvs (G := ⟨s₁.heap, s₁⟩) hs hl)⟩
    have h : gvalF g = some v := h
    unfold gvalF at h
    split at h
    · cases h; exact num "WHOLE" 0 (by decide)
    · cases h; exact num "CAST" 10 (by decide)
    · cases h; exact num "UNARY" 11 (by decide)
    · cases h; exact num "POSTFIX" 12 (by decide)
    · cases h; exact num "COMPARED" 3 (by decide)
    · cases h; exact tup "BLOCKS" _ [[98, 108, 111, 99, 107], [105, 102], [109, 97, 116, 99, 104], [108, 111, 111, 112], [119, 104, 105, 108, 101], [102, 111, 114]] S.blocksAre (by decide +kernel)
    · cases h; exact tup "JUMPS" _ [[98, 114, 101, 97, 107], [99, 111, 110, 116, 105, 110, 117, 101], [114, 101, 116, 117, 114, 110]] S.jumpsAre (by decide +kernel)
    · cases h
      obtain ⟨u, hu, hr⟩ := T.const _ _ S.indentIs
      obtain ⟨t, rfl, _⟩ := reads_str_inv (hr {})
      exact ⟨_, hu, fun _ _ => str_rv (G := ⟨s₁.heap, s₁⟩) (by decide +kernel)⟩
    · cases h
  · refine ⟨dOf K, mg_of X T.g S.lev1, fun l i hl x t hx A s Q E value slice hk hsub hQ => ?_⟩
    have ent : Ent w.params levT (esOf K) := by have := Ent.of (P := w.params) S.lev4; rw [S.lev5] at this; exact this
    have ho : s.heap.get? (dOf K) = some (oOf K) := hk _ _ (X _ _ S.lev2)
    have hM : s.heap.MapOf (strKind prog w) (dOf K) (fun k => findBy (strKind prog w).is (esOf K).toArray k) :=
      ⟨oOf K, (esOf K).toArray, epOf K, ho, S.lev3.1, S.lev3.2, fun e he => ent.keys e (by simpa using he), fun k => rfl⟩
    obtain ⟨t', ht⟩ := ent.find hl x hx
    refine tail_any hM.typeIs slot_dict_getitem.lookup (wpAny_getItem_of (strKind_is prog w x t) hM (v := .int i t') ?_ (hQ t' _)) (hsub _ _)
    show findBy (strKind prog w).is (esOf K).toArray x = _
    unfold findBy
    rw [← Array.find?_toList]
    exact ht

theorem plain_known (S : TopSays p w.params K) (T : Top p loose mean mg mb s₁.heap) : ∀ k ∈ plains, RecKnown ⟨s₁.heap, s₁⟩ mg (recAt k) := by
  intro k hk
  have hk' : k ∈ allPlains := by revert k; decide
  obtain ⟨a, o, pm, code, doc, h1, h2, h3, h4⟩ := T.fn (recAt k) (by rw [S.recsAre]; exact List.mem_map_of_mem hk')
  exact ⟨a, o, pm, code, doc, h1, h2, h3, h4⟩

theorem recIn_known {r : DefRec} {items : Array Value} (X : K.In s₁.heap) (T : Top p loose mean mg mb s₁.heap) (R : RecIn K r items) : RecKnownD ⟨s₁.heap, s₁⟩ mg r items := by
  obtain ⟨a, o, pm, c, doc, Ta, kV, oT, n, co, vs, t, h1, h2, h3, h4, h5, h6, h7, h8⟩ := R
  exact ⟨a, o, pm, .ref c, doc, Ta, kV, oT, n, mg_of X T.g h1, X _ _ h2, h3, ⟨c, co, vs, t, rfl, X _ _ h4, h5, h6⟩, X _ _ h7, h8⟩
theorem funs_known (S : TopSays p w.params K) (T : Top p loose mean mg mb s₁.heap) (X : K.In s₁.heap) : ∀ f d, TT.fdef f = some d → FnFull ZZ ⟨s₁.heap, s₁⟩ mg f d := by
  obtain ⟨t, hp⟩ := S.pathIn
  obtain ⟨u, he⟩ := S.exprIn
  exact fns_full (plain_known S T) (recIn_known X T hp) (recIn_known X T he)
end
end Mine

end DXpart

section DYpart
open PySem PySem.W PyProof.Rows PySem.Calls
namespace Mine

theorem rvs_numbers {G : Gl} {N : Led} {ja : Pin} : ∀ {us : List Value} {zs : List Int}, IntsAre us zs → RVs G.h₀ N ja us (zs.map .int)
  | _, _, .nil => .nil
  | _, _, .cons i t r => .cons (.int i t) (rvs_numbers r)

theorem finish {p : Program} {prog : Program} {w : World} {loose : List Str} {mean : ExcName → Option Value} {mg mb : Str → Option Value} {s₁ : Shared} {K : Frag} {L fa : Addr} {cd : Value} {sc : Scope} {name : Str} {h₁ : Heap} {tk : Nat} {m : Str → Option Value}
    {cA l : Addr} {oc : Obj} {v₀ : Option Value} {us : List Value} {zs : List Int} {A : Around} {Er : Value → Shared → Prop} (T : Top p loose mean mg mb s₁.heap) (B : Tables p w mg s₁.heap) (X : K.In s₁.heap) (F : Fr s₁.heap L h₁ m)
    (N0 : News s₁.heap L h₁ [(cA, oc)]) (hoc : oc.data = .cell v₀) (hl : s₁.heap.IsList l us.toArray) (hI : IntsAre us zs) (S : TopSays p w.params K) (hm : m (Str.ofString "script") = some (.ref l)) (hF : frameB ZZ cx_law sc = true)
    (hc : decide (sc.names.lookup (ZZ.nm ZZ.jar) = some .cell) = true) (hcl : (cellsFrom (L + 1) sc.names []).lookup (ZZ.nm ZZ.jar) = some cA) (PL : Plain 300 (zs.map .int)) (a : AOk 301 A) :
    wpAny (model prog w) A (execs (bodyAt 52) (envOfC name sc L fa cd)) (fun f s' => f = .ret (.bool true) ∧ (∃ h tk, s' = { s₁ with heap := h, toks := tk }) ∧ ∀ b o, s₁.heap.get? b = some o → s'.heap.get? b = some o) Er { s₁ with heap := h₁, toks := tk } := by
  obtain ⟨f1, f2, f3, f4, f5⟩ := frame_of hF
  obtain ⟨ol, hol, hcls, nl, hdl⟩ := hl
  have r : RV s₁.heap [] ⟨none, 0⟩ (.ref l) (.lst (zs.map .int)) := .lst (.inr hol) hcls hdl (rvs_numbers (G := ⟨s₁.heap, s₁⟩) hI)
  refine law_walk (G := ⟨s₁.heap, s₁⟩) (top0_of S T B X) (funs_known S T X) (n := 300) (env := envOfC name sc L fa cd) (cA := cA) (oc := oc) f1 rfl rfl f2 f3 (of_decide_eq_true hc) hcl hoc a ?_ PL
  refine ⟨⟨h₁, tk, rfl⟩, m, [], [], ⟨F, ?_, (fun p hp => nomatch hp), (fun p hp => nomatch hp), (fun p hp => nomatch hp), rfl, rfl, ?_⟩⟩
  · intro p hp
    exact N0 p (by simpa using hp)
  · intro x v hx _ e
    have e : (if 0 = x then some (V.lst (zs.map .int)) else none) = some v := by rw [← e]; exact (lk_cons 0 x _ []).symm
    split at e
    · rename_i q
      subst q
      cases e
      exact ⟨.ref l, hm, r⟩
    · cases e
end Mine

end DYpart

section PApart
namespace Mine

structure Ih.Le (a b : Ih) : Prop where
  ev : ∀ e σ r, a.ev e σ = some r → b.ev e σ = some r
  ex : ∀ s σ r, a.ex s σ = some r → b.ex s σ = some r
  call : ∀ f vs j r, a.call f vs j = some r → b.call f vs j = some r

section
variable {a b : Ih} (h : a.Le b)
include h
theorem evs_mono : ∀ es σ r, evs a.ev es σ = some r → evs b.ev es σ = some r
  | [], _, _, q => q
  | e :: es, σ, r, q => by
    unfold evs at q ⊢
    split at q
    · cases q
    rename_i v σ₁ q1
    rw [h.ev _ _ _ q1]
    dsimp only
    split at q
    · cases q
    rename_i vs σ₂ q2
    rw [evs_mono es σ₁ _ q2]
    exact q
theorem andL_mono : ∀ es σ r, andL a.ev es σ = some r → andL b.ev es σ = some r
  | [], _, _, q => q
  | [e], σ, r, q => by
    unfold andL at q ⊢
    split at q
    · rename_i q1; rw [h.ev _ _ _ q1]; exact q
    · cases q
  | e :: e' :: es, σ, r, q => by
    unfold andL at q ⊢
    split at q
    · rename_i q1; rw [h.ev _ _ _ q1]; exact andL_mono (e' :: es) _ _ q
    · rename_i q1; rw [h.ev _ _ _ q1]; exact q
    · cases q
theorem orL_mono : ∀ es σ r, orL a.ev es σ = some r → orL b.ev es σ = some r
  | [], _, _, q => q
  | [e], σ, r, q => by
    unfold orL at q ⊢
    split at q
    · rename_i q1; rw [h.ev _ _ _ q1]; exact q
    · cases q
  | e :: e' :: es, σ, r, q => by
    unfold orL at q ⊢
    split at q
    · rename_i q1; rw [h.ev _ _ _ q1]; exact orL_mono (e' :: es) _ _ q
    · rename_i q1; rw [h.ev _ _ _ q1]; exact q
    · cases q
theorem compE_mono {elt t v j r} (q : compE a elt t v j = some r) : compE b elt t v j = some r := by
  unfold compE at q ⊢
  split at q
  · cases q
  rename_i σ q0
  split at q
  · cases q
  rename_i y σ₁ q1
  rw [h.ev _ _ _ q1]
  exact q
theorem compL_mono {elt t} : ∀ xs j r, compL (compE a elt t) xs j = some r → compL (compE b elt t) xs j = some r
  | [], _, _, q => q
  | x :: xs, j, r, q => by
    unfold compL at q ⊢
    split at q
    · cases q
    rename_i y j₁ q1
    rw [compE_mono h q1]
    dsimp only
    split at q
    · cases q
    rename_i ys j₂ q2
    rw [compL_mono xs j₁ _ q2]
    exact q
theorem compV_mono {elt t k it σ r} (q : compV a elt t k it σ = some r) : compV b elt t k it σ = some r := by
  unfold compV at q ⊢
  split at q
  · cases q
  rename_i v σ₁ q1
  rw [h.ev _ _ _ q1]
  dsimp only
  split at q
  · cases q
  rename_i xs q2
  split at q
  · cases q
  rename_i ys j q3
  rw [compL_mono h _ _ _ q3]
  exact q
theorem exsL_mono : ∀ ss σ r, exsL a.ex ss σ = some r → exsL b.ex ss σ = some r
  | [], _, _, q => q
  | s :: ss, σ, r, q => by
    unfold exsL at q ⊢
    split at q
    · rename_i σ₁ q1; rw [h.ex _ _ _ q1]; exact exsL_mono ss σ₁ _ q
    · rename_i q1; rw [h.ex _ _ _ q1]; exact q
    · cases q
theorem forL_mono {t body} : ∀ xs σ r, forL t (exsL a.ex body) xs σ = some r → forL t (exsL b.ex body) xs σ = some r
  | [], _, _, q => q
  | x :: xs, σ, r, q => by
    unfold forL at q ⊢
    split at q
    · cases q
    rename_i σ₁ q0
    split at q
    · rename_i σ₂ q1; rw [exsL_mono h _ _ _ q1]; exact forL_mono xs σ₂ _ q
    · rename_i q1; rw [exsL_mono h _ _ _ q1]; exact q
    · cases q
theorem evStep_mono {T : Tab} : ∀ e σ r, evStep T a e σ = some r → evStep T b e σ = some r := by
  intro e σ r q
  cases e with
  | raw => exact q
  | none => exact q
  | bool => exact q
  | int => exact q
  | str => exact q
  | loc => exact q
  | cel => exact q
  | glob => exact q
  | neg => exact q
  | bin o x y =>
    dsimp only [evStep] at q ⊢
    split at q
    · cases q
    rename_i u σ₁ q1
    rw [h.ev _ _ _ q1]
    dsimp only
    split at q
    · cases q
    rename_i v σ₂ q2
    rw [h.ev _ _ _ q2]
    exact q
  | cmp o x y =>
    dsimp only [evStep] at q ⊢
    split at q
    · cases q
    rename_i u σ₁ q1
    rw [h.ev _ _ _ q1]
    dsimp only
    split at q
    · cases q
    rename_i v σ₂ q2
    rw [h.ev _ _ _ q2]
    exact q
  | isNone p x =>
    dsimp only [evStep] at q ⊢
    cases q1 : a.ev x σ with
    | none => rw [q1] at q; cases q
    | some z => rw [q1] at q; rw [h.ev _ _ _ q1]; exact q
  | and es => exact andL_mono h es σ r q
  | or es => exact orL_mono h es σ r q
  | not x =>
    dsimp only [evStep] at q ⊢
    split at q
    · rename_i q1; rw [h.ev _ _ _ q1]; exact q
    · cases q
  | ite c x y =>
    dsimp only [evStep] at q ⊢
    split at q
    · rename_i q1; rw [h.ev _ _ _ q1]; exact h.ev _ _ _ q
    · rename_i q1; rw [h.ev _ _ _ q1]; exact h.ev _ _ _ q
    · cases q
  | sub x y =>
    dsimp only [evStep] at q ⊢
    split at q
    · cases q
    rename_i u σ₁ q1
    rw [h.ev _ _ _ q1]
    dsimp only
    split at q
    · cases q
    rename_i v σ₂ q2
    rw [h.ev _ _ _ q2]
    exact q
  | lev x =>
    dsimp only [evStep] at q ⊢
    split at q
    · rename_i q1; rw [h.ev _ _ _ q1]; exact q
    · cases q
  | tup es =>
    dsimp only [evStep] at q ⊢
    split at q
    · rename_i h1 h2; rw [h1, evs_mono h _ _ _ h2]; exact q
    · cases q
  | lst es =>
    dsimp only [evStep] at q ⊢
    split at q
    · rename_i h1 h2; rw [h1, evs_mono h _ _ _ h2]; exact q
    · cases q
  | comp elt t k it =>
    dsimp only [evStep] at q ⊢
    split at q
    · rename_i q1; rw [compV_mono h q1]; exact q
    · cases q
  | call f es =>
    dsimp only [evStep] at q ⊢
    split at q
    · cases q
    rename_i vs σ₁ q1
    rw [evs_mono h _ _ _ q1]
    dsimp only
    split at q
    · cases q
    rename_i v j q2
    rw [h.call _ _ _ _ q2]
    exact q
  | bi o es =>
    dsimp only [evStep] at q ⊢
    split at q
    · cases q
    rename_i vs σ₁ q1
    rw [evs_mono h _ _ _ q1]
    exact q
  | join x y =>
    dsimp only [evStep] at q ⊢
    split at q
    · rename_i q1
      rw [h.ev _ _ _ q1]
      dsimp only
      split at q
      · cases q
      rename_i q2
      rw [h.ev _ _ _ q2]
      exact q
    · cases q
  | split x y =>
    dsimp only [evStep] at q ⊢
    split at q
    · rename_i q1
      rw [h.ev _ _ _ q1]
      dsimp only
      split at q
      · rename_i q2
        rw [h.ev _ _ _ q2]
        exact q
      · cases q
    · cases q
theorem exStep_mono {T : Tab} : ∀ s σ r, exStep T a s σ = some r → exStep T b s σ = some r := by
  intro s σ r q
  cases s with
  | raw => exact q
  | own => exact q
  | ret e =>
    dsimp only [exStep] at q ⊢
    split at q
    · rename_i q1; rw [h.ev _ _ _ q1]; exact q
    · cases q
  | asg x e =>
    dsimp only [exStep] at q ⊢
    split at q
    · rename_i q1; rw [h.ev _ _ _ q1]; exact q
    · cases q
  | ownC x elt t k it =>
    dsimp only [exStep] at q ⊢
    split at q
    · rename_i q1; rw [compV_mono h q1]; exact q
    · cases q
  | tasg xs es =>
    dsimp only [exStep] at q ⊢
    split at q
    · rename_i q1; rw [evs_mono h _ _ _ q1]; exact q
    · cases q
  | tasgO pre x y k =>
    dsimp only [exStep] at q ⊢
    split at q
    · rename_i q1; rw [evs_mono h _ _ _ q1]; exact q
    · cases q
  | unp xs e =>
    dsimp only [exStep] at q ⊢
    split at q
    · rename_i q1; rw [h.ev _ _ _ q1]; exact q
    · cases q
  | setJ i e =>
    dsimp only [exStep] at q ⊢
    split at q
    · rename_i q1; rw [h.ev _ _ _ q1]; exact q
    · cases q
  | ite c x y =>
    dsimp only [exStep] at q ⊢
    split at q
    · rename_i q1; rw [h.ev _ _ _ q1]; exact exsL_mono h _ _ _ q
    · rename_i q1; rw [h.ev _ _ _ q1]; exact exsL_mono h _ _ _ q
    · cases q
  | app x e =>
    dsimp only [exStep] at q ⊢
    split at q
    · split at q
      · split at q
        · rename_i q1; rw [h.ev _ _ _ q1]; exact q
        · cases q
      · cases q
    · cases q
  | whl c x =>
    dsimp only [exStep] at q ⊢
    split at q
    · rename_i q1
      rw [h.ev _ _ _ q1]
      dsimp only
      split at q
      · rename_i q2; rw [exsL_mono h _ _ _ q2]; exact h.ex _ _ _ q
      · rename_i q2; rw [exsL_mono h _ _ _ q2]; exact q
      · cases q
    · rename_i q1; rw [h.ev _ _ _ q1]; exact q
    · cases q
  | «for» t k it x =>
    dsimp only [exStep] at q ⊢
    split at q
    · rename_i q1
      rw [h.ev _ _ _ q1]
      dsimp only
      split at q
      · exact forL_mono h _ _ _ q
      · cases q
    · cases q
theorem callStep_mono {T : Tab} : ∀ f vs j r, callStep T a f vs j = some r → callStep T b f vs j = some r := by
  intro f vs j r q
  unfold callStep at q ⊢
  split at q
  · cases q
  rename_i d hd
  split at q
  · cases q
  rename_i ρ hρ
  split at q
  · rename_i q1; rw [exsL_mono h _ _ _ q1]; exact q
  · cases q
end

theorem run_le (T : Tab) : ∀ n, (run T n).Le (run T (n + 1))
  | 0 => ⟨fun _ _ _ q => (by cases q), fun _ _ _ q => (by cases q), fun _ _ _ _ q => (by cases q)⟩
  | n + 1 => ⟨evStep_mono (run_le T n), exStep_mono (run_le T n), callStep_mono (run_le T n)⟩
theorem run_mono (T : Tab) {m n : Nat} (h : m ≤ n) : (run T m).Le (run T n) := by
  induction h with
  | refl => exact ⟨fun _ _ _ q => q, fun _ _ _ q => q, fun _ _ _ _ q => q⟩
  | step _ ih => exact ⟨fun e σ r q => (run_le T _).ev _ _ _ (ih.ev e σ r q), fun e σ r q => (run_le T _).ex _ _ _ (ih.ex e σ r q), fun f vs j r q => (run_le T _).call _ _ _ _ (ih.call f vs j r q)⟩
end Mine

end PApart

section PBpart
namespace Mine

noncomputable def EV (n : Nat) (e : E) (σ : St) (v : V) (σ' : St) : Prop := (run TT n).ev e σ = some (v, σ')
noncomputable def EVS (n : Nat) (es : List E) (σ : St) (vs : List V) (σ' : St) : Prop := evs (run TT n).ev es σ = some (vs, σ')
noncomputable def EX (n : Nat) (s : S) (σ : St) (fl : Fl) (σ' : St) : Prop := (run TT n).ex s σ = some (fl, σ')
noncomputable def EXS (n : Nat) (ss : List S) (σ : St) (fl : Fl) (σ' : St) : Prop := exsL (run TT n).ex ss σ = some (fl, σ')
noncomputable def CA (n : Nat) (f : Nat) (vs : List V) (j : Int × Int) (v : V) (j' : Int × Int) : Prop := (run TT n).call f vs j = some (v, j')
noncomputable def AN (n : Nat) (es : List E) (σ : St) (b : Bool) (σ' : St) : Prop := andL (run TT n).ev es σ = some (.bool b, σ')
noncomputable def OR (n : Nat) (es : List E) (σ : St) (b : Bool) (σ' : St) : Prop := orL (run TT n).ev es σ = some (.bool b, σ')
noncomputable def CV (n : Nat) (elt : E) (t : Tgt) (k : ItK) (it : E) (σ : St) (ys : List V) (σ' : St) : Prop := compV (run TT n) elt t k it σ = some (ys, σ')
noncomputable def CL (n : Nat) (elt : E) (t : Tgt) (xs : List V) (j : Int × Int) (ys : List V) (j' : Int × Int) : Prop := compL (compE (run TT n) elt t) xs j = some (ys, j')
noncomputable def FO (n : Nat) (t : Tgt) (b : List S) (xs : List V) (σ : St) (fl : Fl) (σ' : St) : Prop := forL t (exsL (run TT n).ex b) xs σ = some (fl, σ')

inductive IsB : Bool → Bool → Prop
  | t : IsB true true
  | f : IsB false false
theorem IsB.eq {a b : Bool} (h : IsB a b) : a = b := by cases h <;> rfl

section
variable {n : Nat} {σ σ₁ σ₂ σ₃ : St} {a b c e : E} {u v w : V}
theorem EV.mono {m : Nat} (h : m ≤ n) (x : EV m e σ v σ₁) : EV n e σ v σ₁ := (run_mono TT h).ev _ _ _ x
theorem CA.mono {m f : Nat} {vs j j'} (x : CA m f vs j v j') (h : m ≤ n) : CA n f vs j v j' := (run_mono TT h).call _ _ _ _ x
theorem EVS.mono {m : Nat} {es vs} (h : m ≤ n) (x : EVS m es σ vs σ₁) : EVS n es σ vs σ₁ := evs_mono (run_mono TT h) _ _ _ x
theorem EXS.mono {m : Nat} {ss fl} (h : m ≤ n) (x : EXS m ss σ fl σ₁) : EXS n ss σ fl σ₁ := exsL_mono (run_mono TT h) _ _ _ x
theorem EX.mono {m : Nat} {ss fl} (h : m ≤ n) (x : EX m ss σ fl σ₁) : EX n ss σ fl σ₁ := (run_mono TT h).ex _ _ _ x

theorem EV.none : EV (n + 1) .none σ .none σ := rfl
theorem EV.bool {b : Bool} : EV (n + 1) (.bool b) σ (.bool b) σ := rfl
theorem EV.int {i : Int} : EV (n + 1) (.int i) σ (.int i) σ := rfl
theorem EV.str {k : Nat} : EV (n + 1) (.str k) σ (.str (litC k)) σ := rfl
theorem EV.neg {i : Int} : EV (n + 1) (.neg i) σ (.int (-i)) σ := rfl
theorem EV.cel : EV (n + 1) .cel σ .jar σ := rfl
theorem EV.loc {x : Nat} (h : σ.get x = some (v, σ₁)) : EV (n + 1) (.loc x) σ v σ₁ := h
theorem EV.glob {g : Nat} (h : gvalF g = some v) : EV (n + 1) (.glob g) σ v σ := by
  show evStep TT (run TT n) (.glob g) σ = _
  dsimp only [evStep]
  rw [show TT.gval g = some v from h]
theorem EV.bin {o : BOp} (ha : EV n a σ u σ₁) (hb : EV n b σ₁ v σ₂) (h : binV o u v = some w) : EV (n + 1) (.bin o a b) σ w σ₂ := by
  show evStep TT (run TT n) (.bin o a b) σ = _
  dsimp only [evStep]
  rw [show (run TT n).ev a σ = _ from ha]
  dsimp only
  rw [show (run TT n).ev b σ₁ = _ from hb]
  dsimp only
  rw [h]
theorem EV.cmp {o : COp} {r : Bool} (ha : EV n a σ u σ₁) (hb : EV n b σ₁ v σ₂) (h : cmpV o u v = some r) : EV (n + 1) (.cmp o a b) σ (.bool r) σ₂ := by
  show evStep TT (run TT n) (.cmp o a b) σ = _
  dsimp only [evStep]
  rw [show (run TT n).ev a σ = _ from ha]
  dsimp only
  rw [show (run TT n).ev b σ₁ = _ from hb]
  dsimp only
  rw [h]
noncomputable def noneB (p : Bool) : V → Bool
  | .none => p
  | _ => !p
theorem EV.isNone {p : Bool} (ha : EV n a σ u σ₁) : EV (n + 1) (.isNone p a) σ (.bool (noneB p u)) σ₁ := by
  show evStep TT (run TT n) (.isNone p a) σ = _
  dsimp only [evStep]
  rw [show (run TT n).ev a σ = _ from ha]
  cases u <;> rfl
theorem EV.not {r : Bool} (ha : EV n a σ (.bool r) σ₁) : EV (n + 1) (.not a) σ (.bool (!r)) σ₁ := by
  show evStep TT (run TT n) (.not a) σ = _
  dsimp only [evStep]
  rw [show (run TT n).ev a σ = _ from ha]
theorem EV.ite {r r' : Bool} (hc : EV n c σ (.bool r) σ₁) (hr : IsB r r') (h : EV n (cond r' a b) σ₁ v σ₂) : EV (n + 1) (.ite c a b) σ v σ₂ := by
  show evStep TT (run TT n) (.ite c a b) σ = _
  dsimp only [evStep]
  rw [show (run TT n).ev c σ = _ from hc]
  cases hr <;> exact h
inductive EVc (n : Nat) : Bool → E → E → St → V → St → Prop
  | t {x y : E} {τ τ' : St} {r : V} : EV n x τ r τ' → EVc n true x y τ r τ'
  | f {x y : E} {τ τ' : St} {r : V} : EV n y τ r τ' → EVc n false x y τ r τ'
theorem EV.ite' {r r' : Bool} (hc : EV n c σ (.bool r) σ₁) (hr : IsB r r') (h : EVc n r' a b σ₁ v σ₂) : EV (n + 1) (.ite c a b) σ v σ₂ := by
  refine EV.ite hc hr ?_
  cases h <;> assumption
inductive AddV : V → V → V → Prop
  | s {x y : List Nat} : x.length + y.length ≤ 1048576 → AddV (.str x) (.str y) (.str (x ++ y))
  | i {x y : Int} : AddV (.int x) (.int y) (.int (x + y))
  | t {x y : V} {xs ys : List V} {z : V} : Nat.ble ((x :: xs).length + (y :: ys).length) 1048576 = true → V.tup ((x :: xs) ++ (y :: ys)) = z → AddV (.tup (x :: xs)) (.tup (y :: ys)) z
theorem EV.add (ha : EV n a σ u σ₁) (hb : EV n b σ₁ v σ₂) (h : AddV u v w) : EV (n + 1) (.bin .add a b) σ w σ₂ := by
  refine EV.bin ha hb ?_
  cases h with
  | s hl =>
    dsimp only [binV, onInts, mulV, addV]
    rw [show fits _ = true from Nat.ble_eq_true_of_le hl]
  | i => rfl
  | t hl e =>
    subst e
    dsimp only [binV, onInts, mulV, addV]
    rw [show fits _ = true from hl]
theorem AN.one {r : Bool} (h : EV n e σ (.bool r) σ₁) : AN n [e] σ r σ₁ := by
  show andL _ _ _ = _
  unfold andL
  rw [show (run TT n).ev e σ = _ from h]
inductive ANc (n : Nat) : Bool → List E → St → Bool → St → Prop
  | t {es : List E} {τ τ' : St} {r : Bool} : AN n es τ r τ' → ANc n true es τ r τ'
  | f {es : List E} {τ : St} : ANc n false es τ false τ
theorem AN.step {r r' r'' : Bool} {es : List E} (h : EV n e σ (.bool r) σ₁) (hr : IsB r r') (h' : ANc n r' (a :: es) σ₁ r'' σ₂) : AN n (e :: a :: es) σ r'' σ₂ := by
  show andL _ _ _ = _
  unfold andL
  rw [show (run TT n).ev e σ = _ from h]
  cases hr <;> cases h'
  · assumption
  · rfl
theorem EV.and {r : Bool} {es : List E} (h : AN n es σ r σ₁) : EV (n + 1) (.and es) σ (.bool r) σ₁ := h
theorem OR.one {r : Bool} (h : EV n e σ (.bool r) σ₁) : OR n [e] σ r σ₁ := by
  show orL _ _ _ = _
  unfold orL
  rw [show (run TT n).ev e σ = _ from h]
inductive ORc (n : Nat) : Bool → List E → St → Bool → St → Prop
  | t {es : List E} {τ : St} : ORc n true es τ true τ
  | f {es : List E} {τ τ' : St} {r : Bool} : OR n es τ r τ' → ORc n false es τ r τ'
theorem OR.step {r r' r'' : Bool} {es : List E} (h : EV n e σ (.bool r) σ₁) (hr : IsB r r') (h' : ORc n r' (a :: es) σ₁ r'' σ₂) : OR n (e :: a :: es) σ r'' σ₂ := by
  show orL _ _ _ = _
  unfold orL
  rw [show (run TT n).ev e σ = _ from h]
  cases hr <;> cases h'
  · rfl
  · assumption
theorem EV.or {r : Bool} {es : List E} (h : OR n es σ r σ₁) : EV (n + 1) (.or es) σ (.bool r) σ₁ := h
theorem EV.sub (ha : EV n a σ u σ₁) (hb : EV n b σ₁ v σ₂) (h : subV σ₂.j u v = some w) : EV (n + 1) (.sub a b) σ w σ₂ := by
  show evStep TT (run TT n) (.sub a b) σ = _
  dsimp only [evStep]
  rw [show (run TT n).ev a σ = _ from ha]
  dsimp only
  rw [show (run TT n).ev b σ₁ = _ from hb]
  dsimp only
  rw [h]
theorem EV.lev {l : List Nat} {i : Int} (ha : EV n a σ (.str l) σ₁) (h : lkL levT l = some i) : EV (n + 1) (.lev a) σ (.int i) σ₁ := by
  show evStep TT (run TT n) (.lev a) σ = _
  dsimp only [evStep]
  rw [show (run TT n).ev a σ = _ from ha]
  dsimp only
  rw [show TT.lev l = some i from h]
theorem EVS.nil : EVS n [] σ [] σ := rfl
theorem EVS.cons {es : List E} {vs : List V} (h : EV n e σ v σ₁) (h' : EVS n es σ₁ vs σ₂) : EVS n (e :: es) σ (v :: vs) σ₂ := by
  show evs _ _ _ = _
  unfold evs
  rw [show (run TT n).ev e σ = _ from h]
  dsimp only
  rw [show evs (run TT n).ev es σ₁ = _ from h']
theorem EV.tup {es : List E} {vs : List V} (h : EVS n es σ vs σ₁) (hf : fits es.length = true) : EV (n + 1) (.tup es) σ (.tup vs) σ₁ := by
  show evStep TT (run TT n) (.tup es) σ = _
  dsimp only [evStep]
  rw [hf, show evs (run TT n).ev es σ = _ from h]
theorem EV.lst {es : List E} {vs : List V} (h : EVS n es σ vs σ₁) (hf : fits es.length = true) : EV (n + 1) (.lst es) σ (.lst vs) σ₁ := by
  show evStep TT (run TT n) (.lst es) σ = _
  dsimp only [evStep]
  rw [hf, show evs (run TT n).ev es σ = _ from h]
theorem EV.call {f : Nat} {es : List E} {vs : List V} {j' : Int × Int} (h : EVS n es σ vs σ₁) (hc : CA n f vs σ₁.j v j') : EV (n + 1) (.call f es) σ v ⟨σ₁.ρ, σ₁.own, j'⟩ := by
  show evStep TT (run TT n) (.call f es) σ = _
  dsimp only [evStep]
  rw [show evs (run TT n).ev es σ = _ from h]
  dsimp only
  rw [show (run TT n).call f vs σ₁.j = _ from hc]
theorem EV.bi {o : BI} {es : List E} {vs : List V} (h : EVS n es σ vs σ₁) (hb : biV o vs = some v) : EV (n + 1) (.bi o es) σ v σ₁ := by
  show evStep TT (run TT n) (.bi o es) σ = _
  dsimp only [evStep]
  rw [show evs (run TT n).ev es σ = _ from h]
  dsimp only
  rw [hb]
theorem EV.join {k : Nat} (h : EV (n + 1) a σ u σ₁) (hj : joinV (litC k) u = some v) : EV (n + 2) (.join (.str k) a) σ v σ₁ := by
  show evStep TT (run TT (n + 1)) (.join (.str k) a) σ = _
  dsimp only [evStep]
  rw [show (run TT (n + 1)).ev (.str k) σ = some (.str (litC k), σ) from rfl]
  dsimp only
  rw [show (run TT (n + 1)).ev a σ = _ from h]
  dsimp only
  rw [hj]
theorem EV.joinS {k : Nat} {vs : List V} {ls : List (List Nat)} (h : EV (n + 1) a σ (.lst vs) σ₁) (hs : allStr vs = some ls) (h1 : sumLen (litC k) ls ≤ 1048576) (h2 : ls.length ≤ 1048576) : EV (n + 2) (.join (.str k) a) σ (.str (joinL (litC k) ls)) σ₁ := by
  refine EV.join h ?_
  dsimp only [joinV]
  rw [hs]
  dsimp only
  rw [show fits _ = true from Nat.ble_eq_true_of_le h1, show fits _ = true from Nat.ble_eq_true_of_le h2]
  rfl
theorem EV.split {k : Nat} {l : List Nat} {d : Nat} (h : EV (n + 1) a σ (.str l) σ₁) (hk : litC k = [d]) (hf : fits l.length = true) : EV (n + 2) (.split a (.str k)) σ (.lst ((splitC d l).map .str)) σ₁ := by
  show evStep TT (run TT (n + 1)) (.split a (.str k)) σ = _
  dsimp only [evStep]
  rw [show (run TT (n + 1)).ev a σ = _ from h]
  dsimp only
  rw [show (run TT (n + 1)).ev (.str k) σ₁ = some (.str (litC k), σ₁) from rfl, hk]
  dsimp only
  rw [hf]
theorem CL.nil {t : Tgt} {j : Int × Int} : CL n e t [] j [] j := rfl
theorem CL.cons {t : Tgt} {x y : V} {xs ys : List V} {j j' : Int × Int} (hb : (⟨[], none, j⟩ : St).bindT t x = some σ) (he : EV n e σ y σ₁) (ho : σ₁.own = none) (h : CL n e t xs σ₁.j ys j') : CL n e t (x :: xs) j (y :: ys) j' := by
  show compL _ _ _ = _
  unfold compL
  have : compE (run TT n) e t x j = some (y, σ₁.j) := by
    unfold compE
    rw [hb]
    dsimp only
    rw [show (run TT n).ev e σ = _ from he]
    dsimp only
    rw [ho]
  rw [this]
  dsimp only
  rw [show compL (compE (run TT n) e t) xs σ₁.j = _ from h]
theorem CV.of {t : Tgt} {k : ItK} {xs ys : List V} {j' : Int × Int} (h : EV n a σ v σ₁) (hi : itemsOf k v = some xs) (hc : CL n e t xs σ₁.j ys j') : CV n e t k a σ ys ⟨σ₁.ρ, σ₁.own, j'⟩ := by
  show compV _ _ _ _ _ _ = _
  unfold compV
  rw [show (run TT n).ev a σ = _ from h]
  dsimp only
  rw [hi]
  dsimp only
  rw [show compL (compE (run TT n) e t) xs σ₁.j = _ from hc]
theorem EV.comp {t : Tgt} {k : ItK} {ys : List V} (h : CV n e t k a σ ys σ₁) : EV (n + 1) (.comp e t k a) σ (.lst ys) σ₁ := by
  show evStep TT (run TT n) (.comp e t k a) σ = _
  dsimp only [evStep]
  rw [show compV (run TT n) e t k a σ = _ from h]

theorem EX.ret (h : EV n e σ v σ₁) : EX (n + 1) (.ret e) σ (.ret v) σ₁ := by
  show exStep TT (run TT n) (.ret e) σ = _
  dsimp only [exStep]
  rw [show (run TT n).ev e σ = _ from h]
theorem EX.asg {x : Nat} (h : EV n e σ v σ₁) : EX (n + 1) (.asg x e) σ .next (σ₁.set x v) := by
  show exStep TT (run TT n) (.asg x e) σ = _
  dsimp only [exStep]
  rw [show (run TT n).ev e σ = _ from h]
theorem EX.own {x : Nat} (h : σ.setOwn x [] = some σ₁) : EX (n + 1) (.own x) σ .next σ₁ := by
  show exStep TT (run TT n) (.own x) σ = _
  dsimp only [exStep]
  rw [h]
theorem EX.ownC {x : Nat} {t : Tgt} {k : ItK} {ys : List V} (h : CV n e t k a σ ys σ₁) (ho : σ₁.setOwn x ys = some σ₂) : EX (n + 1) (.ownC x e t k a) σ .next σ₂ := by
  show exStep TT (run TT n) (.ownC x e t k a) σ = _
  dsimp only [exStep]
  rw [show compV (run TT n) e t k a σ = _ from h]
  dsimp only
  rw [ho]
theorem EX.tasg {xs : List Nat} {es : List E} {vs : List V} (h : EVS n es σ vs σ₁) (hs : σ₁.setAll xs vs = some σ₂) : EX (n + 1) (.tasg xs es) σ .next σ₂ := by
  show exStep TT (run TT n) (.tasg xs es) σ = _
  dsimp only [exStep]
  rw [show evs (run TT n).ev es σ = _ from h]
  dsimp only
  rw [hs]
theorem EX.tasgO {pre : List (Nat × E)} {x y k : Nat} {vs : List V} (h : EVS n (pre.map (·.2)) σ vs σ₁) (ho : σ₁.setOwn x [] = some σ₂) (hs : σ₂.setAll (pre.map (·.1) ++ [y]) (vs ++ [.str (litC k)]) = some σ₃) : EX (n + 1) (.tasgO pre x y k) σ .next σ₃ := by
  show exStep TT (run TT n) (.tasgO pre x y k) σ = _
  dsimp only [exStep]
  rw [show evs (run TT n).ev (pre.map (·.2)) σ = _ from h]
  dsimp only
  rw [ho]
  dsimp only
  rw [show σ₂.setAll (pre.map (·.1) ++ [y]) (vs ++ [.str (TT.lit k)]) = _ from hs]
theorem EX.unp {xs : List Nat} {vs : List V} (h : EV n e σ (.tup vs) σ₁) (hs : σ₁.setAll xs vs = some σ₂) : EX (n + 1) (.unp xs e) σ .next σ₂ := by
  show exStep TT (run TT n) (.unp xs e) σ = _
  dsimp only [exStep]
  rw [show (run TT n).ev e σ = _ from h]
  dsimp only
  rw [hs]
theorem EX.setJ0 {i : Int} (h : EV n e σ (.int i) σ₁) (hg : σ₁.get TT.jar = some (.jar, σ₂)) : EX (n + 1) (.setJ 0 e) σ .next ⟨σ₂.ρ, σ₂.own, (i, σ₂.j.2)⟩ := by
  show exStep TT (run TT n) (.setJ 0 e) σ = _
  dsimp only [exStep]
  rw [show (run TT n).ev e σ = _ from h]
  dsimp only
  rw [hg]
  rfl
theorem EX.setJ1 {i : Int} (h : EV n e σ (.int i) σ₁) (hg : σ₁.get TT.jar = some (.jar, σ₂)) : EX (n + 1) (.setJ 1 e) σ .next ⟨σ₂.ρ, σ₂.own, (σ₂.j.1, i)⟩ := by
  show exStep TT (run TT n) (.setJ 1 e) σ = _
  dsimp only [exStep]
  rw [show (run TT n).ev e σ = _ from h]
  dsimp only
  rw [hg]
  rfl
theorem EX.ite {r r' : Bool} {x y : List S} {fl : Fl} (hc : EV n c σ (.bool r) σ₁) (hr : IsB r r') (h : EXS n (cond r' x y) σ₁ fl σ₂) : EX (n + 1) (.ite c x y) σ fl σ₂ := by
  show exStep TT (run TT n) (.ite c x y) σ = _
  dsimp only [exStep]
  rw [show (run TT n).ev c σ = _ from hc]
  cases hr <;> exact h
theorem EX.app {x : Nat} {vs₀ vs : List V} (ho : σ.own = some (x, vs₀)) (h : EV n e σ v σ₁) (ho' : σ₁.own = some (x, vs)) (hf : fits vs.length = true) : EX (n + 1) (.app x e) σ .next ⟨σ₁.ρ, some (x, vs ++ [v]), σ₁.j⟩ := by
  show exStep TT (run TT n) (.app x e) σ = _
  dsimp only [exStep]
  rw [ho]
  dsimp only
  rw [show Nat.beq x x = true from by simp]
  dsimp only
  rw [show (run TT n).ev e σ = _ from h]
  dsimp only
  rw [ho']
  dsimp only
  rw [show Nat.beq x x = true from by simp, hf]
  rfl
inductive EXSc (n : Nat) : Bool → List S → List S → St → Fl → St → Prop
  | t {x y : List S} {τ τ' : St} {r : Fl} : EXS n x τ r τ' → EXSc n true x y τ r τ'
  | f {x y : List S} {τ τ' : St} {r : Fl} : EXS n y τ r τ' → EXSc n false x y τ r τ'
theorem EX.ite' {r r' : Bool} {x y : List S} {fl : Fl} (hc : EV n c σ (.bool r) σ₁) (hr : IsB r r') (h : EXSc n r' x y σ₁ fl σ₂) : EX (n + 1) (.ite c x y) σ fl σ₂ := by
  refine EX.ite hc hr ?_
  cases h <;> assumption
inductive WH (n : Nat) (c : E) (b : List S) : Bool → St → Fl → St → Prop
  | t {τ τ₁ τ₂ : St} {fl : Fl} : EXS n b τ .next τ₁ → EX n (.whl c b) τ₁ fl τ₂ → WH n c b true τ fl τ₂
  | f {τ : St} : WH n c b false τ .next τ
theorem EX.whl {r r' : Bool} {x : List S} {fl : Fl} (hc : EV n c σ (.bool r) σ₁) (hr : IsB r r') (h : WH n c x r' σ₁ fl σ₂) : EX (n + 1) (.whl c x) σ fl σ₂ := by
  show exStep TT (run TT n) (.whl c x) σ = _
  dsimp only [exStep]
  rw [show (run TT n).ev c σ = _ from hc]
  cases hr <;> cases h
  · rename_i h1 h2
    dsimp only
    rw [show exsL (run TT n).ex x σ₁ = _ from h1]
    exact h2
  · rfl
theorem EXS.nil : EXS n [] σ .next σ := rfl
inductive EXc (n : Nat) : Fl → List S → St → Fl → St → Prop
  | next {ss : List S} {τ τ' : St} {fl : Fl} : EXS n ss τ fl τ' → EXc n .next ss τ fl τ'
  | ret {x : V} {ss : List S} {τ : St} : EXc n (.ret x) ss τ (.ret x) τ
theorem EXS.cons {s : S} {ss : List S} {fl fl' : Fl} (h : EX n s σ fl σ₁) (h' : EXc n fl ss σ₁ fl' σ₂) : EXS n (s :: ss) σ fl' σ₂ := by
  show exsL _ _ _ = _
  unfold exsL
  rw [show (run TT n).ex s σ = _ from h]
  cases h'
  · assumption
  · rfl
theorem FO.nil {t : Tgt} {b : List S} : FO n t b [] σ .next σ := rfl
inductive FOc (n : Nat) (t : Tgt) (b : List S) : Fl → List V → St → Fl → St → Prop
  | next {xs : List V} {τ τ' : St} {fl : Fl} : FO n t b xs τ fl τ' → FOc n t b .next xs τ fl τ'
  | ret {x : V} {xs : List V} {τ : St} : FOc n t b (.ret x) xs τ (.ret x) τ
theorem FO.cons {t : Tgt} {b : List S} {x : V} {xs : List V} {fl fl' : Fl} (hb : σ.bindT t x = some σ₁) (h : EXS n b σ₁ fl σ₂) (h' : FOc n t b fl xs σ₂ fl' σ₃) : FO n t b (x :: xs) σ fl' σ₃ := by
  show forL _ _ _ _ = _
  unfold forL
  rw [hb]
  dsimp only
  rw [show exsL (run TT n).ex b σ₁ = _ from h]
  cases h'
  · assumption
  · rfl
theorem EX.for {t : Tgt} {k : ItK} {b : List S} {xs : List V} {fl : Fl} (h : EV n a σ v σ₁) (hi : itemsOf k v = some xs) (hf : FO n t b xs σ₁ fl σ₂) : EX (n + 1) (.for t k a b) σ fl σ₂ := by
  show exStep TT (run TT n) (.for t k a b) σ = _
  dsimp only [exStep]
  rw [show (run TT n).ev a σ = _ from h]
  dsimp only
  rw [hi]
  exact hf
inductive SetTo : St → Nat → V → St → Prop
  | none {ρ : List (Nat × V)} {j : Int × Int} {x : Nat} {y : V} : SetTo ⟨ρ, none, j⟩ x y ⟨(x, y) :: ρ, none, j⟩
  | ne {ρ : List (Nat × V)} {j : Int × Int} {x z : Nat} {y : V} {l : List V} : Nat.beq z x = false → SetTo ⟨ρ, some (z, l), j⟩ x y ⟨(x, y) :: ρ, some (z, l), j⟩
  | eq {ρ : List (Nat × V)} {j : Int × Int} {x z : Nat} {y : V} {l : List V} : Nat.beq z x = true → SetTo ⟨ρ, some (z, l), j⟩ x y ⟨(x, y) :: ρ, none, j⟩
theorem SetTo.out {x : Nat} (h : SetTo σ x v σ₁) : σ.set x v = σ₁ := by
  cases h with
  | none => rfl
  | ne h => dsimp only [St.set]; rw [h]
  | eq h => dsimp only [St.set]; rw [h]
inductive SetAllTo : St → List Nat → List V → St → Prop
  | nil {τ : St} : SetAllTo τ [] [] τ
  | cons {τ τ₁ τ₂ : St} {x : Nat} {y : V} {xs : List Nat} {ys : List V} : SetTo τ x y τ₁ → SetAllTo τ₁ xs ys τ₂ → SetAllTo τ (x :: xs) (y :: ys) τ₂
theorem SetAllTo.out {xs : List Nat} {ys : List V} (h : SetAllTo σ xs ys σ₁) : σ.setAll xs ys = some σ₁ := by
  induction h with
  | nil => rfl
  | cons a _ ih =>
    show St.setAll (St.set _ _ _) _ _ = _
    rw [a.out]; exact ih
inductive BindTo : St → Tgt → V → St → Prop
  | one {τ τ₁ : St} {x : Nat} {y : V} : SetTo τ x y τ₁ → BindTo τ (.one x) y τ₁
  | tup {τ τ₁ : St} {xs : List Nat} {y : V} {ys : List V} : y = .tup ys → SetAllTo τ xs ys τ₁ → BindTo τ (.tup xs) y τ₁
theorem BindTo.out {t : Tgt} (h : BindTo σ t v σ₁) : σ.bindT t v = some σ₁ := by
  cases h with
  | one a => show some (St.set _ _ _) = _; rw [a.out]
  | tup e a => subst e; exact a.out
theorem EV.call' {f : Nat} {es : List E} {vs : List V} {ρ : List (Nat × V)} {o : Option (Nat × List V)} {j j' : Int × Int} (h : EVS n es σ vs ⟨ρ, o, j⟩) (hc : CA n f vs j v j') : EV (n + 1) (.call f es) σ v ⟨ρ, o, j'⟩ := EV.call h hc
theorem CV.of' {t : Tgt} {k : ItK} {xs ys : List V} {ρ : List (Nat × V)} {o : Option (Nat × List V)} {j j' : Int × Int} (h : EV n a σ v ⟨ρ, o, j⟩) (hi : itemsOf k v = some xs) (hc : CL n e t xs j ys j') : CV n e t k a σ ys ⟨ρ, o, j'⟩ := CV.of h hi hc
theorem CL.cons' {t : Tgt} {x y : V} {xs ys : List V} {ρ : List (Nat × V)} {j j₁ j' : Int × Int} (hb : BindTo ⟨[], none, j⟩ t x σ) (he : EV n e σ y ⟨ρ, none, j₁⟩) (h : CL n e t xs j₁ ys j') : CL n e t (x :: xs) j (y :: ys) j' := CL.cons hb.out he rfl h
theorem EX.asg' {x : Nat} (h : EV n e σ v σ₁) (hs : SetTo σ₁ x v σ₂) : EX (n + 1) (.asg x e) σ .next σ₂ := by
  rw [← hs.out]; exact EX.asg h
theorem EX.own' {x : Nat} {ρ : List (Nat × V)} {j : Int × Int} : EX (n + 1) (.own x) ⟨ρ, none, j⟩ .next ⟨ρ, some (x, []), j⟩ := EX.own rfl
theorem EX.ownC' {x : Nat} {t : Tgt} {k : ItK} {ys : List V} {ρ : List (Nat × V)} {j : Int × Int} (h : CV n e t k a σ ys ⟨ρ, none, j⟩) : EX (n + 1) (.ownC x e t k a) σ .next ⟨ρ, some (x, ys), j⟩ := EX.ownC h rfl
theorem EX.tasg' {xs : List Nat} {es : List E} {vs : List V} (h : EVS n es σ vs σ₁) (hs : SetAllTo σ₁ xs vs σ₂) : EX (n + 1) (.tasg xs es) σ .next σ₂ := EX.tasg h hs.out
theorem EX.tasgO0 {x y k : Nat} {ρ : List (Nat × V)} {j : Int × Int} (hs : SetTo ⟨ρ, some (x, []), j⟩ y (.str (litC k)) σ₂) : EX (n + 1) (.tasgO [] x y k) ⟨ρ, none, j⟩ .next σ₂ :=
  EX.tasgO (vs := []) EVS.nil rfl (SetAllTo.cons hs .nil).out
theorem EX.tasgO1 {x y z k : Nat} {ρ : List (Nat × V)} {j : Int × Int} (h : EV n e σ v ⟨ρ, none, j⟩) (h1 : SetTo ⟨ρ, some (x, []), j⟩ z v σ₁) (hs : SetTo σ₁ y (.str (litC k)) σ₂) : EX (n + 1) (.tasgO [(z, e)] x y k) σ .next σ₂ :=
  EX.tasgO (vs := [v]) (EVS.cons h EVS.nil) rfl (SetAllTo.cons h1 (SetAllTo.cons hs .nil)).out
theorem EX.unp' {xs : List Nat} {vs : List V} (h : EV n e σ v σ₁) (hv : v = .tup vs) (hs : SetAllTo σ₁ xs vs σ₂) : EX (n + 1) (.unp xs e) σ .next σ₂ := by
  subst hv; exact EX.unp h hs.out
theorem EX.app' {x : Nat} {vs₀ vs : List V} {ρ ρ' : List (Nat × V)} {j j' : Int × Int} (h : EV n e ⟨ρ, some (x, vs₀), j⟩ v ⟨ρ', some (x, vs), j'⟩) (hf : Nat.ble vs.length 1048576 = true) : EX (n + 1) (.app x e) ⟨ρ, some (x, vs₀), j⟩ .next ⟨ρ', some (x, vs ++ [v]), j'⟩ := EX.app rfl h rfl hf
theorem FO.cons' {t : Tgt} {b : List S} {x : V} {xs : List V} {fl fl' : Fl} (hb : BindTo σ t x σ₁) (h : EXS n b σ₁ fl σ₂) (h' : FOc n t b fl xs σ₂ fl' σ₃) : FO n t b (x :: xs) σ fl' σ₃ := FO.cons hb.out h h'
theorem CA.of' {f : Nat} {d : FDef} {vs : List V} {ρ : List (Nat × V)} {j j' : Int × Int} {v' : V} (hd : fdefF f = some d) (hb : d.binds vs = some ρ) (h : EXS n d.body ⟨ρ, none, j⟩ (.ret v) σ) (hv : v = v') (hj : σ.j = j') : CA (n + 1) f vs j v' j' := by
  subst hv hj
  show callStep TT (run TT n) f vs j = _
  unfold callStep
  rw [show TT.fdef f = some d from hd]
  dsimp only
  rw [hb]
  dsimp only
  rw [show exsL (run TT n).ex d.body ⟨ρ, none, j⟩ = _ from h]
theorem CA.of {f : Nat} {d : FDef} {vs : List V} {ρ : List (Nat × V)} {j : Int × Int} (hd : fdefF f = some d) (hb : d.binds vs = some ρ) (h : EXS n d.body ⟨ρ, none, j⟩ (.ret v) σ) : CA (n + 1) f vs j v σ.j := by
  show callStep TT (run TT n) f vs j = _
  unfold callStep
  rw [show TT.fdef f = some d from hd]
  dsimp only
  rw [hb]
  dsimp only
  rw [show exsL (run TT n).ex d.body ⟨ρ, none, j⟩ = _ from h]
end
end Mine

end PBpart

section PCpart
namespace Mine
theorem le_by {a b c : Nat} (h : a ≤ b) (h' : Nat.ble b c = true) : a ≤ c := Nat.le_trans h (Nat.le_of_ble_eq_true h')
theorem app_le {α : Type} {a b : List α} {x y : Nat} (h : a.length ≤ x) (k : b.length ≤ y) : (a ++ b).length ≤ x + y := by rw [List.length_append]; exact Nat.add_le_add h k
theorem cons_le {α : Type} {a : α} {l : List α} {x : Nat} (h : l.length ≤ x) : (a :: l).length ≤ x + 1 := Nat.succ_le_succ h
theorem nil_le {α : Type} : ([] : List α).length ≤ 0 := Nat.le_refl 0
theorem sum_cons_le {s a : List Nat} {r : List (List Nat)} {x y z : Nat} (h : a.length ≤ x) (k : s.length ≤ y) (m : sumLen s r ≤ z) : sumLen s (a :: r) ≤ x + y + z := Nat.add_le_add (Nat.add_le_add h k) m
theorem sum_nil_le {s : List Nat} : sumLen s [] ≤ 0 := Nat.le_refl 0
theorem join_nil_le {s : List Nat} : (joinL s []).length ≤ 0 := Nat.le_refl 0
theorem join_one_le {s a : List Nat} {x : Nat} (h : a.length ≤ x) : (joinL s [a]).length ≤ x := h
theorem join_cons_le {s a b : List Nat} {r : List (List Nat)} {x y z : Nat} (h : a.length ≤ x) (k : s.length ≤ y) (m : (joinL s (b :: r)).length ≤ z) : (joinL s (a :: b :: r)).length ≤ x + (y + z) := app_le h (app_le k m)
noncomputable def toldL : List (V × List Nat × List Nat × List Nat × List Nat) := [
  ((.tup [(.str [112, 97, 116, 104]), (.int 0), (.tup [(.tup [(.str [120]), (.tup []), (.tup [])])])]), [120], [120], [120], [120]),
  ((.tup [(.str [105, 110, 116]), (.int 0), (.int 5), (.str [117, 56])]), [53, 117, 56], [53, 117, 56], [53, 117, 56], [53, 117, 56]),
  ((.tup [(.str [98, 111, 111, 108]), (.int 0), (.bool false)]), [102, 97, 108, 115, 101], [102, 97, 108, 115, 101], [102, 97, 108, 115, 101], [102, 97, 108, 115, 101]),
  ((.tup [(.str [98, 105, 110, 97, 114, 121]), (.int 0), (.str [43]), (.tup [(.str [112, 97, 116, 104]), (.int 0), (.tup [(.tup [(.str [120]), (.tup []), (.tup [])])])]), (.tup [(.str [105, 110, 116]), (.int 0), (.int 1), .none])]), [120, 32, 43, 32, 49], [120, 32, 43, 32, 49], [120, 32, 43, 32, 49], [120, 32, 43, 32, 49]),
  ((.tup [(.str [98, 111, 114, 114, 111, 119]), (.int 0), (.bool true), (.tup [(.str [112, 97, 116, 104]), (.int 0), (.tup [(.tup [(.str [120]), (.tup []), (.tup [])])])])]), [38, 109, 117, 116, 32, 120], [38, 109, 117, 116, 32, 120], [38, 109, 117, 116, 32, 120], [38, 109, 117, 116, 32, 120]),
  ((.tup [(.str [115, 116, 114, 117, 99, 116]), (.int 0), (.tup [(.tup [(.str [83]), (.tup []), (.tup [])])]), (.tup [])]), [83, 32, 123, 125], [40, 83, 32, 123, 125, 41], [40, 83, 32, 123, 125, 41], [83, 32, 123, 125]),
  ((.tup [(.str [115, 116, 114, 117, 99, 116]), (.int 0), (.tup [(.tup [(.str [83]), (.tup []), (.tup [])])]), (.tup [(.tup [(.str [97]), (.tup [(.str [105, 110, 116]), (.int 0), (.int 1), .none])])])]), [83, 32, 123, 32, 97, 58, 32, 49, 32, 125], [40, 83, 32, 123, 32, 97, 58, 32, 49, 32, 125, 41], [40, 83, 32, 123, 32, 97, 58, 32, 49, 32, 125, 41], [83, 32, 123, 32, 97, 58, 32, 49, 32, 125]),
  ((.tup [(.str [98, 108, 111, 99, 107]), (.int 0), (.tup []), .none]), [123, 125], [40, 123, 125, 41], [40, 123, 125, 41], [40, 123, 125, 41]),
  ((.tup [(.str [98, 108, 111, 99, 107]), (.int 0), (.tup []), (.tup [(.str [105, 110, 116]), (.int 0), (.int 1), .none])]), [123, 10, 32, 32, 32, 32, 49, 10, 125], [40, 123, 10, 32, 32, 32, 32, 49, 10, 125, 41], [40, 123, 10, 32, 32, 32, 32, 49, 10, 125, 41], [40, 123, 10, 32, 32, 32, 32, 49, 10, 125, 41]),
  ((.tup [(.str [97, 115, 115, 105, 103, 110]), (.int 0), (.tup [(.str [112, 97, 116, 104]), (.int 0), (.tup [(.tup [(.str [120]), (.tup []), (.tup [])])])]), (.tup [(.str [105, 110, 116]), (.int 0), (.int 1), .none])]), [120, 32, 61, 32, 49], [120, 32, 61, 32, 49], [40, 120, 32, 61, 32, 49, 41], [120, 32, 61, 32, 49]),
  ((.tup [(.str [99, 97, 115, 116]), (.int 0), (.tup [(.str [112, 97, 116, 104]), (.int 0), (.tup [(.tup [(.str [120]), (.tup []), (.tup [])])])]), (.tup [(.str [112, 97, 116, 104]), (.int 0), (.tup [(.tup [(.str [117, 56]), (.tup []), (.tup [])])])])]), [120, 32, 97, 115, 32, 117, 56], [120, 32, 97, 115, 32, 117, 56], [40, 120, 32, 97, 115, 32, 117, 56, 41], [120, 32, 97, 115, 32, 117, 56]),
  ((.tup [(.str [114, 101, 116, 117, 114, 110]), (.int 0), .none]), [114, 101, 116, 117, 114, 110], [40, 114, 101, 116, 117, 114, 110, 41], [40, 114, 101, 116, 117, 114, 110, 41], [114, 101, 116, 117, 114, 110])
]
noncomputable def toldV (p : V × List Nat × List Nat × List Nat × List Nat) : V := .tup [p.1, .str p.2.1, .str p.2.2.1, .str p.2.2.2.1, .str p.2.2.2.2]
theorem told_cases {P : V × List Nat × List Nat × List Nat × List Nat → Prop} (h : ∀ i : Fin 12, P (toldL[i.1]'(by have := i.2; exact this))) : ∀ p ∈ toldL, P p := by
  intro p hp
  obtain ⟨i, hi, e⟩ := List.mem_iff_getElem.mp hp
  exact e ▸ h ⟨i, hi⟩
theorem told_expr : ∀ p ∈ toldL, ∀ j, CA 60 f_write_expr [p.1] j (.str p.2.1) j := by
  intro p hp j
  simp only [toldL, List.mem_cons, List.not_mem_nil, or_false] at hp
  show (run TT 60).call f_write_expr [p.1] j = some (.str p.2.1, j)
  rcases hp with rfl | rfl | rfl | rfl | rfl | rfl | rfl | rfl | rfl | rfl | rfl | rfl <;> kernel_rfl
theorem told_cond : ∀ p ∈ toldL, ∀ j, CA 60 f_write_condition [p.1] j (.str p.2.2.1) j := by
  intro p hp j
  simp only [toldL, List.mem_cons, List.not_mem_nil, or_false] at hp
  show (run TT 60).call f_write_condition [p.1] j = some (.str p.2.2.1, j)
  rcases hp with rfl | rfl | rfl | rfl | rfl | rfl | rfl | rfl | rfl | rfl | rfl | rfl <;> kernel_rfl
theorem told_bound : ∀ p ∈ toldL, ∀ j, CA 60 f_write_bound [p.1] j (.str p.2.2.2.1) j := by
  intro p hp j
  simp only [toldL, List.mem_cons, List.not_mem_nil, or_false] at hp
  show (run TT 60).call f_write_bound [p.1] j = some (.str p.2.2.2.1, j)
  rcases hp with rfl | rfl | rfl | rfl | rfl | rfl | rfl | rfl | rfl | rfl | rfl | rfl <;> kernel_rfl
theorem told_short : ∀ p ∈ toldL, p.2.1.length ≤ 40 ∧ p.2.2.1.length ≤ 40 ∧ p.2.2.2.1.length ≤ 40 ∧ p.2.2.2.2.length ≤ 40 := by decide +kernel
/-- the text of a block -/
noncomputable def rowsOf (l : List Nat) : List Nat := match (run TT 60).call f_law_rows [.str l] (0, 0) with
  | some (.str t, _) => t
  | _ => []
noncomputable def blk (x : V) : V := .tup [.str [98, 108, 111, 99, 107], .int 0, .tup [], x]
noncomputable def blkT (l : List Nat) : List Nat := litC 39 ++ rowsOf l ++ litC 40
theorem told_rows : ∀ p ∈ toldL, ∀ j, CA 60 f_law_rows [.str p.2.1] j (.str (rowsOf p.2.1)) j := by
  intro p hp j
  simp only [toldL, List.mem_cons, List.not_mem_nil, or_false] at hp
  show (run TT 60).call f_law_rows [.str p.2.1] j = some (.str (rowsOf p.2.1), j)
  rcases hp with rfl | rfl | rfl | rfl | rfl | rfl | rfl | rfl | rfl | rfl | rfl | rfl <;> kernel_rfl
theorem told_block : ∀ p ∈ toldL, ∀ j, CA 80 f_write_block [blk p.1] j (.str (blkT p.2.1)) j := by
  intro p hp j
  simp only [toldL, List.mem_cons, List.not_mem_nil, or_false] at hp
  show (run TT 80).call f_write_block [blk p.1] j = some (.str (blkT p.2.1), j)
  rcases hp with rfl | rfl | rfl | rfl | rfl | rfl | rfl | rfl | rfl | rfl | rfl | rfl <;> kernel_rfl
theorem none_block (j : Int × Int) : CA 80 f_write_block [blk .none] j (.str [123, 125]) j := by
  show (run TT 80).call f_write_block [blk .none] j = some (.str [123, 125], j)
  kernel_rfl
theorem told_blkT : ∀ p ∈ toldL, (rowsOf p.2.1).length ≤ 100 ∧ (blkT p.2.1).length ≤ 100 := by decide +kernel

noncomputable def Jok (j : Int × Int) : Prop := 0 ≤ j.2 ∧ j.2 < 2147483647

theorem dip_ok (j : Int × Int) (hj : Jok j) (top : Nat) (h0 : 0 < top) (h1 : top ≤ 100) : ∃ (d : Nat) (j' : Int × Int), d < top ∧ Jok j' ∧ CA 20 f_law_dip [.jar, .int top] j (.int d) j' := by
  obtain ⟨a, b⟩ := j
  obtain ⟨hb0, hb1⟩ := hj
  simp only at hb0 hb1
  have sm : smallI (top : Int) = true := by unfold smallI; exact Nat.ble_eq_true_of_le (by simp; omega)
  by_cases ha : a > 0
  · have q1 : binV .mod (.int a) (.int top) = some (.int (a.fmod top)) := by
      dsimp only [binV, onInts, mulV, addV]; rw [show (decide (0 < (top : Int)) && smallI (top : Int)) = true from by rw [sm]; simp; omega]
    have q2 : binV .fdiv (.int a) (.int top) = some (.int (a.fdiv top)) := by
      dsimp only [binV, onInts, mulV, addV]; rw [show (decide (0 < (top : Int)) && smallI (top : Int)) = true from by rw [sm]; simp; omega]
    have hm0 : 0 ≤ a.fmod top := Int.fmod_nonneg_of_pos _ (by omega)
    have hm1 : a.fmod top < top := Int.fmod_lt_of_pos _ (by omega)
    refine ⟨(a.fmod top).toNat, (a.fdiv top, b), by omega, ⟨hb0, hb1⟩, ?_⟩
    have hd : IsB (decide (a > 0)) true := by rw [decide_eq_true ha]; exact .t
    apply CA.of' (d := d_law_dip)
    · rfl
    · rfl
    · show EXS 19 d_law_dip.body _ _ _
      unfold d_law_dip
      repeat' (first | exact hd | exact q1 | exact q2 | (first | ((with_reducible show _ = _); exact rfl) | with_reducible apply EVS.cons | with_reducible exact EVS.nil | with_reducible apply EV.loc | with_reducible exact EV.str | with_reducible exact EV.int | with_reducible apply EV.add | with_reducible apply AddV.s | with_reducible exact AddV.i | with_reducible apply AddV.t | with_reducible apply EV.sub | with_reducible apply EV.call' | with_reducible apply EV.cmp | with_reducible apply EV.tup | with_reducible apply EV.isNone | with_reducible apply EV.ite' | with_reducible apply EVc.t | with_reducible apply EVc.f | exact IsB.t | exact IsB.f | with_reducible exact EV.none | with_reducible exact EV.bool | with_reducible exact EV.cel | with_reducible apply EV.bi | with_reducible apply EV.glob | with_reducible apply EV.and | with_reducible apply EV.or | with_reducible apply AN.step | with_reducible apply AN.one | with_reducible apply ANc.t | with_reducible exact ANc.f | with_reducible apply OR.step | with_reducible apply OR.one | with_reducible exact ORc.t | with_reducible apply ORc.f | with_reducible apply EV.not | with_reducible apply EV.lst | with_reducible apply EV.bin | with_reducible exact EV.neg | with_reducible apply EV.lev | with_reducible apply EV.joinS | with_reducible apply EV.comp | with_reducible apply CV.of' | with_reducible exact CL.nil | with_reducible apply CL.cons' | with_reducible apply EXS.cons | with_reducible exact EXS.nil | with_reducible apply EXc.next | with_reducible exact EXc.ret | with_reducible apply EX.ret | with_reducible apply EX.asg' | with_reducible exact SetTo.none | with_reducible apply SetTo.ne | with_reducible apply SetTo.eq | with_reducible apply SetAllTo.cons | with_reducible exact SetAllTo.nil | with_reducible apply BindTo.one | with_reducible apply BindTo.tup | with_reducible apply EX.ite' | with_reducible apply EXSc.t | with_reducible apply EXSc.f | with_reducible apply EX.app' | with_reducible apply EX.unp' | with_reducible apply EX.tasg' | with_reducible exact EX.own' | with_reducible apply EX.ownC' | with_reducible apply EX.tasgO0 | with_reducible apply EX.tasgO1 | with_reducible apply EX.setJ0 | with_reducible apply EX.setJ1 | with_reducible apply EX.whl | with_reducible apply WH.t | with_reducible exact WH.f | with_reducible apply EX.for | with_reducible exact FO.nil | with_reducible apply FO.cons' | with_reducible apply FOc.next | with_reducible exact FOc.ret | apply FO.cons' | exact FO.nil | apply CL.cons' | exact CL.nil))
    · show V.int _ = V.int _
      congr 1; omega
    · rfl
  · have hd : IsB (decide (a > 0)) false := by rw [decide_eq_false ha]; exact .f
    have sb : ∀ x : Int, 0 ≤ x → x < 2147483647 → smallI x = true := fun x h1 h2 => by unfold smallI; exact Nat.ble_eq_true_of_le (by omega)
    have q1 : binV .mul (.int b) (.int 39373) = some (.int (b * 39373)) := by
      dsimp only [binV, onInts, mulV, addV]; rw [show (smallI b && smallI 39373) = true from by rw [sb b hb0 hb1]; rfl]
    have q2 : binV .mod (.int (b * 39373 + 7)) (.int 2147483647) = some (.int ((b * 39373 + 7).fmod 2147483647)) := rfl
    have hc0 : 0 ≤ (b * 39373 + 7).fmod 2147483647 := Int.fmod_nonneg_of_pos _ (by omega)
    have hc1 : (b * 39373 + 7).fmod 2147483647 < 2147483647 := Int.fmod_lt_of_pos _ (by omega)
    generalize hc : (b * 39373 + 7).fmod 2147483647 = c at *
    have q3 : binV .mul (.int c) (.int c) = some (.int (c * c)) := by
      dsimp only [binV, onInts, mulV, addV]; rw [show (smallI c && smallI c) = true from by rw [sb c hc0 hc1]; rfl]
    have q4 : binV .mod (.int (c * c)) (.int 2147483629) = some (.int ((c * c).fmod 2147483629)) := rfl
    have q5 : binV .fdiv (.int ((c * c).fmod 2147483629)) (.int 32) = some (.int (((c * c).fmod 2147483629).fdiv 32)) := rfl
    generalize ((c * c).fmod 2147483629).fdiv 32 = e at *
    have q6 : binV .mod (.int e) (.int top) = some (.int (e.fmod top)) := by
      dsimp only [binV, onInts, mulV, addV]; rw [show (decide (0 < (top : Int)) && smallI (top : Int)) = true from by rw [sm]; simp; omega]
    have hm0 : 0 ≤ e.fmod top := Int.fmod_nonneg_of_pos _ (by omega)
    have hm1 : e.fmod top < top := Int.fmod_lt_of_pos _ (by omega)
    refine ⟨(e.fmod top).toNat, (a, c), by omega, ⟨hc0, hc1⟩, ?_⟩
    apply CA.of' (d := d_law_dip)
    · rfl
    · rfl
    · show EXS 19 d_law_dip.body _ _ _
      unfold d_law_dip
      repeat' (first | exact hd | exact q1 | exact q2 | exact q3 | exact q4 | exact q5 | exact q6 | (first | ((with_reducible show _ = _); exact rfl) | with_reducible apply EVS.cons | with_reducible exact EVS.nil | with_reducible apply EV.loc | with_reducible exact EV.str | with_reducible exact EV.int | with_reducible apply EV.add | with_reducible apply AddV.s | with_reducible exact AddV.i | with_reducible apply AddV.t | with_reducible apply EV.sub | with_reducible apply EV.call' | with_reducible apply EV.cmp | with_reducible apply EV.tup | with_reducible apply EV.isNone | with_reducible apply EV.ite' | with_reducible apply EVc.t | with_reducible apply EVc.f | exact IsB.t | exact IsB.f | with_reducible exact EV.none | with_reducible exact EV.bool | with_reducible exact EV.cel | with_reducible apply EV.bi | with_reducible apply EV.glob | with_reducible apply EV.and | with_reducible apply EV.or | with_reducible apply AN.step | with_reducible apply AN.one | with_reducible apply ANc.t | with_reducible exact ANc.f | with_reducible apply OR.step | with_reducible apply OR.one | with_reducible exact ORc.t | with_reducible apply ORc.f | with_reducible apply EV.not | with_reducible apply EV.lst | with_reducible apply EV.bin | with_reducible exact EV.neg | with_reducible apply EV.lev | with_reducible apply EV.joinS | with_reducible apply EV.comp | with_reducible apply CV.of' | with_reducible exact CL.nil | with_reducible apply CL.cons' | with_reducible apply EXS.cons | with_reducible exact EXS.nil | with_reducible apply EXc.next | with_reducible exact EXc.ret | with_reducible apply EX.ret | with_reducible apply EX.asg' | with_reducible exact SetTo.none | with_reducible apply SetTo.ne | with_reducible apply SetTo.eq | with_reducible apply SetAllTo.cons | with_reducible exact SetAllTo.nil | with_reducible apply BindTo.one | with_reducible apply BindTo.tup | with_reducible apply EX.ite' | with_reducible apply EXSc.t | with_reducible apply EXSc.f | with_reducible apply EX.app' | with_reducible apply EX.unp' | with_reducible apply EX.tasg' | with_reducible exact EX.own' | with_reducible apply EX.ownC' | with_reducible apply EX.tasgO0 | with_reducible apply EX.tasgO1 | with_reducible apply EX.setJ0 | with_reducible apply EX.setJ1 | with_reducible apply EX.whl | with_reducible apply WH.t | with_reducible exact WH.f | with_reducible apply EX.for | with_reducible exact FO.nil | with_reducible apply FO.cons' | with_reducible apply FOc.next | with_reducible exact FOc.ret | apply FO.cons' | exact FO.nil | apply CL.cons' | exact CL.nil))
    · show V.int _ = V.int _
      congr 1; omega
    · rfl
end Mine

end PCpart

section PDpart
namespace Mine
theorem one_ok (j : Int × Int) (hj : Jok j) (vs : List V) (h0 : 0 < vs.length) (h1 : vs.length ≤ 100) : ∃ v ∈ vs, ∃ j', Jok j' ∧ CA 40 f_law_one [.jar, .lst vs] j v j' := by
  obtain ⟨d, j', hd, hj', hC⟩ := dip_ok j hj vs.length h0 h1
  refine ⟨vs[d], List.getElem_mem hd, j', hj', ?_⟩
  have q1 : biV .len [.lst vs] = some (.int vs.length) := by
    dsimp only [biV, on1, lenV, tupV]; rw [show fits vs.length = true from Nat.ble_eq_true_of_le (by unfold LIM; omega)]
  have q2 : subV j' (.lst vs) (.int d) = some vs[d] := by
    dsimp only [subV]; rw [show (decide (0 ≤ (d : Int)) && decide ((d : Int) < 1000)) = true from by simp; omega]; simp [List.getElem?_eq_getElem hd]
  apply CA.of' (d := d_law_one)
  · rfl
  · rfl
  · show EXS 39 d_law_one.body _ _ _
    unfold d_law_one
    repeat' (first | exact q1 | exact q2 | exact hC.mono (by decide) | (first | ((with_reducible show _ = _); exact rfl) | with_reducible apply EVS.cons | with_reducible exact EVS.nil | with_reducible apply EV.loc | with_reducible exact EV.str | with_reducible exact EV.int | with_reducible apply EV.add | with_reducible apply AddV.s | with_reducible exact AddV.i | with_reducible apply AddV.t | with_reducible apply EV.sub | with_reducible apply EV.call' | with_reducible apply EV.cmp | with_reducible apply EV.tup | with_reducible apply EV.isNone | with_reducible apply EV.ite' | with_reducible apply EVc.t | with_reducible apply EVc.f | exact IsB.t | exact IsB.f | with_reducible exact EV.none | with_reducible exact EV.bool | with_reducible exact EV.cel | with_reducible apply EV.bi | with_reducible apply EV.glob | with_reducible apply EV.and | with_reducible apply EV.or | with_reducible apply AN.step | with_reducible apply AN.one | with_reducible apply ANc.t | with_reducible exact ANc.f | with_reducible apply OR.step | with_reducible apply OR.one | with_reducible exact ORc.t | with_reducible apply ORc.f | with_reducible apply EV.not | with_reducible apply EV.lst | with_reducible apply EV.bin | with_reducible exact EV.neg | with_reducible apply EV.lev | with_reducible apply EV.joinS | with_reducible apply EV.comp | with_reducible apply CV.of' | with_reducible exact CL.nil | with_reducible apply CL.cons' | with_reducible apply EXS.cons | with_reducible exact EXS.nil | with_reducible apply EXc.next | with_reducible exact EXc.ret | with_reducible apply EX.ret | with_reducible apply EX.asg' | with_reducible exact SetTo.none | with_reducible apply SetTo.ne | with_reducible apply SetTo.eq | with_reducible apply SetAllTo.cons | with_reducible exact SetAllTo.nil | with_reducible apply BindTo.one | with_reducible apply BindTo.tup | with_reducible apply EX.ite' | with_reducible apply EXSc.t | with_reducible apply EXSc.f | with_reducible apply EX.app' | with_reducible apply EX.unp' | with_reducible apply EX.tasg' | with_reducible exact EX.own' | with_reducible apply EX.ownC' | with_reducible apply EX.tasgO0 | with_reducible apply EX.tasgO1 | with_reducible apply EX.setJ0 | with_reducible apply EX.setJ1 | with_reducible apply EX.whl | with_reducible apply WH.t | with_reducible exact WH.f | with_reducible apply EX.for | with_reducible exact FO.nil | with_reducible apply FO.cons' | with_reducible apply FOc.next | with_reducible exact FOc.ret | apply FO.cons' | exact FO.nil | apply CL.cons' | exact CL.nil))
  · rfl
  · rfl

theorem path_ok (l : List Nat) (j : Int × Int) : CA 20 f_law_path [.str l] j (.tup [.tup [.str l, .tup [], .tup []]]) j := by
  apply CA.of' (d := d_law_path)
  · rfl
  · rfl
  · show EXS 19 d_law_path.body _ _ _
    unfold d_law_path
    repeat' (first | ((with_reducible show _ = _); exact rfl) | with_reducible apply EVS.cons | with_reducible exact EVS.nil | with_reducible apply EV.loc | with_reducible exact EV.str | with_reducible exact EV.int | with_reducible apply EV.add | with_reducible apply AddV.s | with_reducible exact AddV.i | with_reducible apply AddV.t | with_reducible apply EV.sub | with_reducible apply EV.call' | with_reducible apply EV.cmp | with_reducible apply EV.tup | with_reducible apply EV.isNone | with_reducible apply EV.ite' | with_reducible apply EVc.t | with_reducible apply EVc.f | exact IsB.t | exact IsB.f | with_reducible exact EV.none | with_reducible exact EV.bool | with_reducible exact EV.cel | with_reducible apply EV.bi | with_reducible apply EV.glob | with_reducible apply EV.and | with_reducible apply EV.or | with_reducible apply AN.step | with_reducible apply AN.one | with_reducible apply ANc.t | with_reducible exact ANc.f | with_reducible apply OR.step | with_reducible apply OR.one | with_reducible exact ORc.t | with_reducible apply ORc.f | with_reducible apply EV.not | with_reducible apply EV.lst | with_reducible apply EV.bin | with_reducible exact EV.neg | with_reducible apply EV.lev | with_reducible apply EV.joinS | with_reducible apply EV.comp | with_reducible apply CV.of' | with_reducible exact CL.nil | with_reducible apply CL.cons' | with_reducible apply EXS.cons | with_reducible exact EXS.nil | with_reducible apply EXc.next | with_reducible exact EXc.ret | with_reducible apply EX.ret | with_reducible apply EX.asg' | with_reducible exact SetTo.none | with_reducible apply SetTo.ne | with_reducible apply SetTo.eq | with_reducible apply SetAllTo.cons | with_reducible exact SetAllTo.nil | with_reducible apply BindTo.one | with_reducible apply BindTo.tup | with_reducible apply EX.ite' | with_reducible apply EXSc.t | with_reducible apply EXSc.f | with_reducible apply EX.app' | with_reducible apply EX.unp' | with_reducible apply EX.tasg' | with_reducible exact EX.own' | with_reducible apply EX.ownC' | with_reducible apply EX.tasgO0 | with_reducible apply EX.tasgO1 | with_reducible apply EX.setJ0 | with_reducible apply EX.setJ1 | with_reducible apply EX.whl | with_reducible apply WH.t | with_reducible exact WH.f | with_reducible apply EX.for | with_reducible exact FO.nil | with_reducible apply FO.cons' | with_reducible apply FOc.next | with_reducible exact FOc.ret | apply FO.cons' | exact FO.nil | apply CL.cons' | exact CL.nil)
  · rfl
  · rfl

theorem expr_ok (j : Int × Int) (hj : Jok j) : ∃ p ∈ toldL, ∃ j', Jok j' ∧ CA 60 f_law_expr [.jar] j (toldV p) j' := by
  obtain ⟨v, hv, j', hj', hC⟩ := one_ok j hj (toldL.map toldV) (by decide) (by decide)
  obtain ⟨p, hp, rfl⟩ := List.mem_map.mp hv
  refine ⟨p, hp, j', hj', ?_⟩
  apply CA.of' (d := d_law_expr)
  · rfl
  · rfl
  · show EXS 59 d_law_expr.body _ _ _
    unfold d_law_expr
    repeat' (first | exact hC.mono (by decide) | exact (path_ok _ _).mono (by decide) | (first | ((with_reducible show _ = _); exact rfl) | with_reducible apply EVS.cons | with_reducible exact EVS.nil | with_reducible apply EV.loc | with_reducible exact EV.str | with_reducible exact EV.int | with_reducible apply EV.add | with_reducible apply AddV.s | with_reducible exact AddV.i | with_reducible apply AddV.t | with_reducible apply EV.sub | with_reducible apply EV.call' | with_reducible apply EV.cmp | with_reducible apply EV.tup | with_reducible apply EV.isNone | with_reducible apply EV.ite' | with_reducible apply EVc.t | with_reducible apply EVc.f | exact IsB.t | exact IsB.f | with_reducible exact EV.none | with_reducible exact EV.bool | with_reducible exact EV.cel | with_reducible apply EV.bi | with_reducible apply EV.glob | with_reducible apply EV.and | with_reducible apply EV.or | with_reducible apply AN.step | with_reducible apply AN.one | with_reducible apply ANc.t | with_reducible exact ANc.f | with_reducible apply OR.step | with_reducible apply OR.one | with_reducible exact ORc.t | with_reducible apply ORc.f | with_reducible apply EV.not | with_reducible apply EV.lst | with_reducible apply EV.bin | with_reducible exact EV.neg | with_reducible apply EV.lev | with_reducible apply EV.joinS | with_reducible apply EV.comp | with_reducible apply CV.of' | with_reducible exact CL.nil | with_reducible apply CL.cons' | with_reducible apply EXS.cons | with_reducible exact EXS.nil | with_reducible apply EXc.next | with_reducible exact EXc.ret | with_reducible apply EX.ret | with_reducible apply EX.asg' | with_reducible exact SetTo.none | with_reducible apply SetTo.ne | with_reducible apply SetTo.eq | with_reducible apply SetAllTo.cons | with_reducible exact SetAllTo.nil | with_reducible apply BindTo.one | with_reducible apply BindTo.tup | with_reducible apply EX.ite' | with_reducible apply EXSc.t | with_reducible apply EXSc.f | with_reducible apply EX.app' | with_reducible apply EX.unp' | with_reducible apply EX.tasg' | with_reducible exact EX.own' | with_reducible apply EX.ownC' | with_reducible apply EX.tasgO0 | with_reducible apply EX.tasgO1 | with_reducible apply EX.setJ0 | with_reducible apply EX.setJ1 | with_reducible apply EX.whl | with_reducible apply WH.t | with_reducible exact WH.f | with_reducible apply EX.for | with_reducible exact FO.nil | with_reducible apply FO.cons' | with_reducible apply FOc.next | with_reducible exact FOc.ret | apply FO.cons' | exact FO.nil | apply CL.cons' | exact CL.nil))
  · rfl
  · rfl

/-- a good block -/
noncomputable def GoodB (y : V) (t : List Nat) : Prop := (∃ x, y = blk x) ∧ t.length ≤ 100 ∧ ∀ j, CA 80 f_write_block [y] j (.str t) j
theorem block_ok (j : Int × Int) (hj : Jok j) : ∃ y t j', Jok j' ∧ GoodB y t ∧ CA 80 f_law_block [.jar] j (.tup [y, .str t]) j' := by
  obtain ⟨d, j₁, hd, hj₁, hC⟩ := dip_ok j hj 2 (by decide) (by decide)
  rcases (show d = 0 ∨ d = 1 by omega) with rfl | rfl
  · refine ⟨blk .none, [123, 125], j₁, hj₁, ⟨⟨_, rfl⟩, by decide, none_block⟩, ?_⟩
    apply CA.of' (d := d_law_block)
    · rfl
    · rfl
    · show EXS 79 d_law_block.body _ _ _
      unfold d_law_block
      repeat' (first | exact hC.mono (by decide) | (first | ((with_reducible show _ = _); exact rfl) | with_reducible apply EVS.cons | with_reducible exact EVS.nil | with_reducible apply EV.loc | with_reducible exact EV.str | with_reducible exact EV.int | with_reducible apply EV.add | with_reducible apply AddV.s | with_reducible exact AddV.i | with_reducible apply AddV.t | with_reducible apply EV.sub | with_reducible apply EV.call' | with_reducible apply EV.cmp | with_reducible apply EV.tup | with_reducible apply EV.isNone | with_reducible apply EV.ite' | with_reducible apply EVc.t | with_reducible apply EVc.f | exact IsB.t | exact IsB.f | with_reducible exact EV.none | with_reducible exact EV.bool | with_reducible exact EV.cel | with_reducible apply EV.bi | with_reducible apply EV.glob | with_reducible apply EV.and | with_reducible apply EV.or | with_reducible apply AN.step | with_reducible apply AN.one | with_reducible apply ANc.t | with_reducible exact ANc.f | with_reducible apply OR.step | with_reducible apply OR.one | with_reducible exact ORc.t | with_reducible apply ORc.f | with_reducible apply EV.not | with_reducible apply EV.lst | with_reducible apply EV.bin | with_reducible exact EV.neg | with_reducible apply EV.lev | with_reducible apply EV.joinS | with_reducible apply EV.comp | with_reducible apply CV.of' | with_reducible exact CL.nil | with_reducible apply CL.cons' | with_reducible apply EXS.cons | with_reducible exact EXS.nil | with_reducible apply EXc.next | with_reducible exact EXc.ret | with_reducible apply EX.ret | with_reducible apply EX.asg' | with_reducible exact SetTo.none | with_reducible apply SetTo.ne | with_reducible apply SetTo.eq | with_reducible apply SetAllTo.cons | with_reducible exact SetAllTo.nil | with_reducible apply BindTo.one | with_reducible apply BindTo.tup | with_reducible apply EX.ite' | with_reducible apply EXSc.t | with_reducible apply EXSc.f | with_reducible apply EX.app' | with_reducible apply EX.unp' | with_reducible apply EX.tasg' | with_reducible exact EX.own' | with_reducible apply EX.ownC' | with_reducible apply EX.tasgO0 | with_reducible apply EX.tasgO1 | with_reducible apply EX.setJ0 | with_reducible apply EX.setJ1 | with_reducible apply EX.whl | with_reducible apply WH.t | with_reducible exact WH.f | with_reducible apply EX.for | with_reducible exact FO.nil | with_reducible apply FO.cons' | with_reducible apply FOc.next | with_reducible exact FOc.ret | apply FO.cons' | exact FO.nil | apply CL.cons' | exact CL.nil))
    · rfl
    · rfl
  · obtain ⟨p, hp, j₂, hj₂, hE⟩ := expr_ok j₁ hj₁
    have hR := told_rows p hp
    have hl := told_blkT p hp
    refine ⟨blk p.1, blkT p.2.1, j₂, hj₂, ⟨⟨_, rfl⟩, hl.2, told_block p hp⟩, ?_⟩
    apply CA.of' (d := d_law_block)
    · rfl
    · rfl
    · show EXS 79 d_law_block.body _ _ _
      unfold d_law_block
      repeat' (first | exact hC.mono (by decide) | exact hE.mono (by decide) | exact (hR _).mono (by decide) | (first | ((with_reducible show _ = _); exact rfl) | with_reducible apply EVS.cons | with_reducible exact EVS.nil | with_reducible apply EV.loc | with_reducible exact EV.str | with_reducible exact EV.int | with_reducible apply EV.add | with_reducible apply AddV.s | with_reducible exact AddV.i | with_reducible apply AddV.t | with_reducible apply EV.sub | with_reducible apply EV.call' | with_reducible apply EV.cmp | with_reducible apply EV.tup | with_reducible apply EV.isNone | with_reducible apply EV.ite' | with_reducible apply EVc.t | with_reducible apply EVc.f | exact IsB.t | exact IsB.f | with_reducible exact EV.none | with_reducible exact EV.bool | with_reducible exact EV.cel | with_reducible apply EV.bi | with_reducible apply EV.glob | with_reducible apply EV.and | with_reducible apply EV.or | with_reducible apply AN.step | with_reducible apply AN.one | with_reducible apply ANc.t | with_reducible exact ANc.f | with_reducible apply OR.step | with_reducible apply OR.one | with_reducible exact ORc.t | with_reducible apply ORc.f | with_reducible apply EV.not | with_reducible apply EV.lst | with_reducible apply EV.bin | with_reducible exact EV.neg | with_reducible apply EV.lev | with_reducible apply EV.joinS | with_reducible apply EV.comp | with_reducible apply CV.of' | with_reducible exact CL.nil | with_reducible apply CL.cons' | with_reducible apply EXS.cons | with_reducible exact EXS.nil | with_reducible apply EXc.next | with_reducible exact EXc.ret | with_reducible apply EX.ret | with_reducible apply EX.asg' | with_reducible exact SetTo.none | with_reducible apply SetTo.ne | with_reducible apply SetTo.eq | with_reducible apply SetAllTo.cons | with_reducible exact SetAllTo.nil | with_reducible apply BindTo.one | with_reducible apply BindTo.tup | with_reducible apply EX.ite' | with_reducible apply EXSc.t | with_reducible apply EXSc.f | with_reducible apply EX.app' | with_reducible apply EX.unp' | with_reducible apply EX.tasg' | with_reducible exact EX.own' | with_reducible apply EX.ownC' | with_reducible apply EX.tasgO0 | with_reducible apply EX.tasgO1 | with_reducible apply EX.setJ0 | with_reducible apply EX.setJ1 | with_reducible apply EX.whl | with_reducible apply WH.t | with_reducible exact WH.f | with_reducible apply EX.for | with_reducible exact FO.nil | with_reducible apply FO.cons' | with_reducible apply FOc.next | with_reducible exact FOc.ret | apply FO.cons' | exact FO.nil | apply CL.cons' | exact CL.nil))
      · show 2 + _ ≤ _; omega
      · have := hl.2; unfold blkT at this; rw [List.length_append] at this; omega
    · rfl
    · rfl
end Mine

end PDpart

section PEpart
namespace Mine
theorem beqL_self : ∀ a : List Nat, beqL a a = true
  | [] => rfl
  | x :: r => by unfold beqL; rw [show Nat.beq x x = true from by simp]; exact beqL_self r
theorem beqV_of_eq {a b : List Nat} (h : a = b) : V.bool (beqL a b) = V.bool true := by rw [h, beqL_self]
noncomputable def GoodC (x : V) (c : List Nat) : Prop := c.length ≤ 40 ∧ ∀ j, CA 60 f_write_condition [x] j (.str c) j
noncomputable abbrev IFN (x y f : V) : V := .tup [.str [105, 102], .int 0, x, y, f]
theorem lens : (litC 41).length = 6 ∧ (litC 42).length = 3 ∧ (litC 43).length = 1 := by decide +kernel

theorem wif_1n {x0 y0 : V} {c0 b0 : List Nat} (hc0 : GoodC x0 c0) (hb0 : GoodB y0 b0) (j : Int × Int) :
    CA 150 f_write_if [(IFN x0 y0 .none)] j (.str (joinL (litC 41) [litC 42 ++ c0 ++ litC 43 ++ b0])) j := by
  have k0 := hc0.1
  have l0 := hb0.2.1
  obtain ⟨e1, e2, e3⟩ := lens
  apply CA.of' (d := d_write_if) (ρ := [(34, (IFN x0 y0 .none))]) rfl rfl
  · show EXS 149 d_write_if.body _ _ _
    unfold d_write_if
    repeat' (first | (first | ((with_reducible show _ = _); exact rfl) | with_reducible apply EVS.cons | with_reducible exact EVS.nil | with_reducible apply EV.loc | with_reducible exact EV.str | with_reducible exact EV.int | with_reducible apply EV.add | with_reducible apply AddV.s | with_reducible exact AddV.i | with_reducible apply AddV.t | with_reducible apply EV.sub | with_reducible apply EV.call' | with_reducible apply EV.cmp | with_reducible apply EV.tup | with_reducible apply EV.isNone | with_reducible apply EV.ite' | with_reducible apply EVc.t | with_reducible apply EVc.f | exact IsB.t | exact IsB.f | with_reducible exact EV.none | with_reducible exact EV.bool | with_reducible exact EV.cel | with_reducible apply EV.bi | with_reducible apply EV.glob | with_reducible apply EV.and | with_reducible apply EV.or | with_reducible apply AN.step | with_reducible apply AN.one | with_reducible apply ANc.t | with_reducible exact ANc.f | with_reducible apply OR.step | with_reducible apply OR.one | with_reducible exact ORc.t | with_reducible apply ORc.f | with_reducible apply EV.not | with_reducible apply EV.lst | with_reducible apply EV.bin | with_reducible exact EV.neg | with_reducible apply EV.lev | with_reducible apply EV.joinS | with_reducible apply EV.comp | with_reducible apply CV.of' | with_reducible exact CL.nil | with_reducible apply CL.cons' | with_reducible apply EXS.cons | with_reducible exact EXS.nil | with_reducible apply EXc.next | with_reducible exact EXc.ret | with_reducible apply EX.ret | with_reducible apply EX.asg' | with_reducible exact SetTo.none | with_reducible apply SetTo.ne | with_reducible apply SetTo.eq | with_reducible apply SetAllTo.cons | with_reducible exact SetAllTo.nil | with_reducible apply BindTo.one | with_reducible apply BindTo.tup | with_reducible apply EX.ite' | with_reducible apply EXSc.t | with_reducible apply EXSc.f | with_reducible apply EX.app' | with_reducible apply EX.unp' | with_reducible apply EX.tasg' | with_reducible exact EX.own' | with_reducible apply EX.ownC' | with_reducible apply EX.tasgO0 | with_reducible apply EX.tasgO1 | with_reducible apply EX.setJ0 | with_reducible apply EX.setJ1 | with_reducible apply EX.whl | with_reducible apply WH.t | with_reducible exact WH.f | with_reducible apply EX.for | with_reducible exact FO.nil | with_reducible apply FO.cons' | with_reducible apply FOc.next | with_reducible exact FOc.ret | apply FO.cons' | exact FO.nil | apply CL.cons' | exact CL.nil) | exact (hc0.2 _).mono (by decide) | exact (hb0.2.2 _).mono (by decide))
    all_goals first | (apply le_by; (focus repeat' first | with_reducible apply app_le | with_reducible apply cons_le | with_reducible exact nil_le | with_reducible apply sum_cons_le | with_reducible exact sum_nil_le | with_reducible exact join_nil_le | with_reducible apply join_one_le | with_reducible apply join_cons_le | with_reducible apply Nat.add_le_add | with_reducible assumption | with_reducible exact Nat.le_of_eq (by assumption) | exact Nat.le_refl _); kernel_rfl!) | omega | (simp only [List.length_append, List.length_cons, List.length_nil, sumLen]; omega)
  · rfl
  · rfl

theorem wif_1b {x0 y0 : V} {c0 b0 : List Nat} {z : V} {t : List Nat} (hc0 : GoodC x0 c0) (hb0 : GoodB y0 b0) (hz : GoodB (blk z) t) (j : Int × Int) :
    CA 150 f_write_if [(IFN x0 y0 (blk z))] j (.str (joinL (litC 41) [litC 42 ++ c0 ++ litC 43 ++ b0, t])) j := by
  have k0 := hc0.1
  have l0 := hb0.2.1
  have lz := hz.2.1
  obtain ⟨e1, e2, e3⟩ := lens
  apply CA.of' (d := d_write_if) (ρ := [(34, (IFN x0 y0 (blk z)))]) rfl rfl
  · show EXS 149 d_write_if.body _ _ _
    unfold d_write_if
    repeat' (first | (first | ((with_reducible show _ = _); exact rfl) | with_reducible apply EVS.cons | with_reducible exact EVS.nil | with_reducible apply EV.loc | with_reducible exact EV.str | with_reducible exact EV.int | with_reducible apply EV.add | with_reducible apply AddV.s | with_reducible exact AddV.i | with_reducible apply AddV.t | with_reducible apply EV.sub | with_reducible apply EV.call' | with_reducible apply EV.cmp | with_reducible apply EV.tup | with_reducible apply EV.isNone | with_reducible apply EV.ite' | with_reducible apply EVc.t | with_reducible apply EVc.f | exact IsB.t | exact IsB.f | with_reducible exact EV.none | with_reducible exact EV.bool | with_reducible exact EV.cel | with_reducible apply EV.bi | with_reducible apply EV.glob | with_reducible apply EV.and | with_reducible apply EV.or | with_reducible apply AN.step | with_reducible apply AN.one | with_reducible apply ANc.t | with_reducible exact ANc.f | with_reducible apply OR.step | with_reducible apply OR.one | with_reducible exact ORc.t | with_reducible apply ORc.f | with_reducible apply EV.not | with_reducible apply EV.lst | with_reducible apply EV.bin | with_reducible exact EV.neg | with_reducible apply EV.lev | with_reducible apply EV.joinS | with_reducible apply EV.comp | with_reducible apply CV.of' | with_reducible exact CL.nil | with_reducible apply CL.cons' | with_reducible apply EXS.cons | with_reducible exact EXS.nil | with_reducible apply EXc.next | with_reducible exact EXc.ret | with_reducible apply EX.ret | with_reducible apply EX.asg' | with_reducible exact SetTo.none | with_reducible apply SetTo.ne | with_reducible apply SetTo.eq | with_reducible apply SetAllTo.cons | with_reducible exact SetAllTo.nil | with_reducible apply BindTo.one | with_reducible apply BindTo.tup | with_reducible apply EX.ite' | with_reducible apply EXSc.t | with_reducible apply EXSc.f | with_reducible apply EX.app' | with_reducible apply EX.unp' | with_reducible apply EX.tasg' | with_reducible exact EX.own' | with_reducible apply EX.ownC' | with_reducible apply EX.tasgO0 | with_reducible apply EX.tasgO1 | with_reducible apply EX.setJ0 | with_reducible apply EX.setJ1 | with_reducible apply EX.whl | with_reducible apply WH.t | with_reducible exact WH.f | with_reducible apply EX.for | with_reducible exact FO.nil | with_reducible apply FO.cons' | with_reducible apply FOc.next | with_reducible exact FOc.ret | apply FO.cons' | exact FO.nil | apply CL.cons' | exact CL.nil) | exact (hc0.2 _).mono (by decide) | exact (hb0.2.2 _).mono (by decide) | exact (hz.2.2 _).mono (by decide))
    all_goals first | (apply le_by; (focus repeat' first | with_reducible apply app_le | with_reducible apply cons_le | with_reducible exact nil_le | with_reducible apply sum_cons_le | with_reducible exact sum_nil_le | with_reducible exact join_nil_le | with_reducible apply join_one_le | with_reducible apply join_cons_le | with_reducible apply Nat.add_le_add | with_reducible assumption | with_reducible exact Nat.le_of_eq (by assumption) | exact Nat.le_refl _); kernel_rfl!) | omega | (simp only [List.length_append, List.length_cons, List.length_nil, sumLen]; omega)
  · rfl
  · rfl

theorem wif_2n {x0 y0 x1 y1 : V} {c0 b0 c1 b1 : List Nat} (hc0 : GoodC x0 c0) (hb0 : GoodB y0 b0) (hc1 : GoodC x1 c1) (hb1 : GoodB y1 b1) (j : Int × Int) :
    CA 150 f_write_if [(IFN x1 y1 (IFN x0 y0 .none))] j (.str (joinL (litC 41) [litC 42 ++ c1 ++ litC 43 ++ b1, litC 42 ++ c0 ++ litC 43 ++ b0])) j := by
  have k0 := hc0.1
  have l0 := hb0.2.1
  have k1 := hc1.1
  have l1 := hb1.2.1
  obtain ⟨e1, e2, e3⟩ := lens
  apply CA.of' (d := d_write_if) (ρ := [(34, (IFN x1 y1 (IFN x0 y0 .none)))]) rfl rfl
  · show EXS 149 d_write_if.body _ _ _
    unfold d_write_if
    repeat' (first | (first | ((with_reducible show _ = _); exact rfl) | with_reducible apply EVS.cons | with_reducible exact EVS.nil | with_reducible apply EV.loc | with_reducible exact EV.str | with_reducible exact EV.int | with_reducible apply EV.add | with_reducible apply AddV.s | with_reducible exact AddV.i | with_reducible apply AddV.t | with_reducible apply EV.sub | with_reducible apply EV.call' | with_reducible apply EV.cmp | with_reducible apply EV.tup | with_reducible apply EV.isNone | with_reducible apply EV.ite' | with_reducible apply EVc.t | with_reducible apply EVc.f | exact IsB.t | exact IsB.f | with_reducible exact EV.none | with_reducible exact EV.bool | with_reducible exact EV.cel | with_reducible apply EV.bi | with_reducible apply EV.glob | with_reducible apply EV.and | with_reducible apply EV.or | with_reducible apply AN.step | with_reducible apply AN.one | with_reducible apply ANc.t | with_reducible exact ANc.f | with_reducible apply OR.step | with_reducible apply OR.one | with_reducible exact ORc.t | with_reducible apply ORc.f | with_reducible apply EV.not | with_reducible apply EV.lst | with_reducible apply EV.bin | with_reducible exact EV.neg | with_reducible apply EV.lev | with_reducible apply EV.joinS | with_reducible apply EV.comp | with_reducible apply CV.of' | with_reducible exact CL.nil | with_reducible apply CL.cons' | with_reducible apply EXS.cons | with_reducible exact EXS.nil | with_reducible apply EXc.next | with_reducible exact EXc.ret | with_reducible apply EX.ret | with_reducible apply EX.asg' | with_reducible exact SetTo.none | with_reducible apply SetTo.ne | with_reducible apply SetTo.eq | with_reducible apply SetAllTo.cons | with_reducible exact SetAllTo.nil | with_reducible apply BindTo.one | with_reducible apply BindTo.tup | with_reducible apply EX.ite' | with_reducible apply EXSc.t | with_reducible apply EXSc.f | with_reducible apply EX.app' | with_reducible apply EX.unp' | with_reducible apply EX.tasg' | with_reducible exact EX.own' | with_reducible apply EX.ownC' | with_reducible apply EX.tasgO0 | with_reducible apply EX.tasgO1 | with_reducible apply EX.setJ0 | with_reducible apply EX.setJ1 | with_reducible apply EX.whl | with_reducible apply WH.t | with_reducible exact WH.f | with_reducible apply EX.for | with_reducible exact FO.nil | with_reducible apply FO.cons' | with_reducible apply FOc.next | with_reducible exact FOc.ret | apply FO.cons' | exact FO.nil | apply CL.cons' | exact CL.nil) | exact (hc0.2 _).mono (by decide) | exact (hb0.2.2 _).mono (by decide) | exact (hc1.2 _).mono (by decide) | exact (hb1.2.2 _).mono (by decide))
    all_goals first | (apply le_by; (focus repeat' first | with_reducible apply app_le | with_reducible apply cons_le | with_reducible exact nil_le | with_reducible apply sum_cons_le | with_reducible exact sum_nil_le | with_reducible exact join_nil_le | with_reducible apply join_one_le | with_reducible apply join_cons_le | with_reducible apply Nat.add_le_add | with_reducible assumption | with_reducible exact Nat.le_of_eq (by assumption) | exact Nat.le_refl _); kernel_rfl!) | omega | (simp only [List.length_append, List.length_cons, List.length_nil, sumLen]; omega)
  · rfl
  · rfl

theorem wif_2b {x0 y0 x1 y1 : V} {c0 b0 c1 b1 : List Nat} {z : V} {t : List Nat} (hc0 : GoodC x0 c0) (hb0 : GoodB y0 b0) (hc1 : GoodC x1 c1) (hb1 : GoodB y1 b1) (hz : GoodB (blk z) t) (j : Int × Int) :
    CA 150 f_write_if [(IFN x1 y1 (IFN x0 y0 (blk z)))] j (.str (joinL (litC 41) [litC 42 ++ c1 ++ litC 43 ++ b1, litC 42 ++ c0 ++ litC 43 ++ b0, t])) j := by
  have k0 := hc0.1
  have l0 := hb0.2.1
  have k1 := hc1.1
  have l1 := hb1.2.1
  have lz := hz.2.1
  obtain ⟨e1, e2, e3⟩ := lens
  apply CA.of' (d := d_write_if) (ρ := [(34, (IFN x1 y1 (IFN x0 y0 (blk z))))]) rfl rfl
  · show EXS 149 d_write_if.body _ _ _
    unfold d_write_if
    repeat' (first | (first | ((with_reducible show _ = _); exact rfl) | with_reducible apply EVS.cons | with_reducible exact EVS.nil | with_reducible apply EV.loc | with_reducible exact EV.str | with_reducible exact EV.int | with_reducible apply EV.add | with_reducible apply AddV.s | with_reducible exact AddV.i | with_reducible apply AddV.t | with_reducible apply EV.sub | with_reducible apply EV.call' | with_reducible apply EV.cmp | with_reducible apply EV.tup | with_reducible apply EV.isNone | with_reducible apply EV.ite' | with_reducible apply EVc.t | with_reducible apply EVc.f | exact IsB.t | exact IsB.f | with_reducible exact EV.none | with_reducible exact EV.bool | with_reducible exact EV.cel | with_reducible apply EV.bi | with_reducible apply EV.glob | with_reducible apply EV.and | with_reducible apply EV.or | with_reducible apply AN.step | with_reducible apply AN.one | with_reducible apply ANc.t | with_reducible exact ANc.f | with_reducible apply OR.step | with_reducible apply OR.one | with_reducible exact ORc.t | with_reducible apply ORc.f | with_reducible apply EV.not | with_reducible apply EV.lst | with_reducible apply EV.bin | with_reducible exact EV.neg | with_reducible apply EV.lev | with_reducible apply EV.joinS | with_reducible apply EV.comp | with_reducible apply CV.of' | with_reducible exact CL.nil | with_reducible apply CL.cons' | with_reducible apply EXS.cons | with_reducible exact EXS.nil | with_reducible apply EXc.next | with_reducible exact EXc.ret | with_reducible apply EX.ret | with_reducible apply EX.asg' | with_reducible exact SetTo.none | with_reducible apply SetTo.ne | with_reducible apply SetTo.eq | with_reducible apply SetAllTo.cons | with_reducible exact SetAllTo.nil | with_reducible apply BindTo.one | with_reducible apply BindTo.tup | with_reducible apply EX.ite' | with_reducible apply EXSc.t | with_reducible apply EXSc.f | with_reducible apply EX.app' | with_reducible apply EX.unp' | with_reducible apply EX.tasg' | with_reducible exact EX.own' | with_reducible apply EX.ownC' | with_reducible apply EX.tasgO0 | with_reducible apply EX.tasgO1 | with_reducible apply EX.setJ0 | with_reducible apply EX.setJ1 | with_reducible apply EX.whl | with_reducible apply WH.t | with_reducible exact WH.f | with_reducible apply EX.for | with_reducible exact FO.nil | with_reducible apply FO.cons' | with_reducible apply FOc.next | with_reducible exact FOc.ret | apply FO.cons' | exact FO.nil | apply CL.cons' | exact CL.nil) | exact (hc0.2 _).mono (by decide) | exact (hb0.2.2 _).mono (by decide) | exact (hc1.2 _).mono (by decide) | exact (hb1.2.2 _).mono (by decide) | exact (hz.2.2 _).mono (by decide))
    all_goals first | (apply le_by; (focus repeat' first | with_reducible apply app_le | with_reducible apply cons_le | with_reducible exact nil_le | with_reducible apply sum_cons_le | with_reducible exact sum_nil_le | with_reducible exact join_nil_le | with_reducible apply join_one_le | with_reducible apply join_cons_le | with_reducible apply Nat.add_le_add | with_reducible assumption | with_reducible exact Nat.le_of_eq (by assumption) | exact Nat.le_refl _); kernel_rfl!) | omega | (simp only [List.length_append, List.length_cons, List.length_nil, sumLen]; omega)
  · rfl
  · rfl

theorem wif_3n {x0 y0 x1 y1 x2 y2 : V} {c0 b0 c1 b1 c2 b2 : List Nat} (hc0 : GoodC x0 c0) (hb0 : GoodB y0 b0) (hc1 : GoodC x1 c1) (hb1 : GoodB y1 b1) (hc2 : GoodC x2 c2) (hb2 : GoodB y2 b2) (j : Int × Int) :
    CA 150 f_write_if [(IFN x2 y2 (IFN x1 y1 (IFN x0 y0 .none)))] j (.str (joinL (litC 41) [litC 42 ++ c2 ++ litC 43 ++ b2, litC 42 ++ c1 ++ litC 43 ++ b1, litC 42 ++ c0 ++ litC 43 ++ b0])) j := by
  have k0 := hc0.1
  have l0 := hb0.2.1
  have k1 := hc1.1
  have l1 := hb1.2.1
  have k2 := hc2.1
  have l2 := hb2.2.1
  obtain ⟨e1, e2, e3⟩ := lens
  apply CA.of' (d := d_write_if) (ρ := [(34, (IFN x2 y2 (IFN x1 y1 (IFN x0 y0 .none))))]) rfl rfl
  · show EXS 149 d_write_if.body _ _ _
    unfold d_write_if
    repeat' (first | (first | ((with_reducible show _ = _); exact rfl) | with_reducible apply EVS.cons | with_reducible exact EVS.nil | with_reducible apply EV.loc | with_reducible exact EV.str | with_reducible exact EV.int | with_reducible apply EV.add | with_reducible apply AddV.s | with_reducible exact AddV.i | with_reducible apply AddV.t | with_reducible apply EV.sub | with_reducible apply EV.call' | with_reducible apply EV.cmp | with_reducible apply EV.tup | with_reducible apply EV.isNone | with_reducible apply EV.ite' | with_reducible apply EVc.t | with_reducible apply EVc.f | exact IsB.t | exact IsB.f | with_reducible exact EV.none | with_reducible exact EV.bool | with_reducible exact EV.cel | with_reducible apply EV.bi | with_reducible apply EV.glob | with_reducible apply EV.and | with_reducible apply EV.or | with_reducible apply AN.step | with_reducible apply AN.one | with_reducible apply ANc.t | with_reducible exact ANc.f | with_reducible apply OR.step | with_reducible apply OR.one | with_reducible exact ORc.t | with_reducible apply ORc.f | with_reducible apply EV.not | with_reducible apply EV.lst | with_reducible apply EV.bin | with_reducible exact EV.neg | with_reducible apply EV.lev | with_reducible apply EV.joinS | with_reducible apply EV.comp | with_reducible apply CV.of' | with_reducible exact CL.nil | with_reducible apply CL.cons' | with_reducible apply EXS.cons | with_reducible exact EXS.nil | with_reducible apply EXc.next | with_reducible exact EXc.ret | with_reducible apply EX.ret | with_reducible apply EX.asg' | with_reducible exact SetTo.none | with_reducible apply SetTo.ne | with_reducible apply SetTo.eq | with_reducible apply SetAllTo.cons | with_reducible exact SetAllTo.nil | with_reducible apply BindTo.one | with_reducible apply BindTo.tup | with_reducible apply EX.ite' | with_reducible apply EXSc.t | with_reducible apply EXSc.f | with_reducible apply EX.app' | with_reducible apply EX.unp' | with_reducible apply EX.tasg' | with_reducible exact EX.own' | with_reducible apply EX.ownC' | with_reducible apply EX.tasgO0 | with_reducible apply EX.tasgO1 | with_reducible apply EX.setJ0 | with_reducible apply EX.setJ1 | with_reducible apply EX.whl | with_reducible apply WH.t | with_reducible exact WH.f | with_reducible apply EX.for | with_reducible exact FO.nil | with_reducible apply FO.cons' | with_reducible apply FOc.next | with_reducible exact FOc.ret | apply FO.cons' | exact FO.nil | apply CL.cons' | exact CL.nil) | exact (hc0.2 _).mono (by decide) | exact (hb0.2.2 _).mono (by decide) | exact (hc1.2 _).mono (by decide) | exact (hb1.2.2 _).mono (by decide) | exact (hc2.2 _).mono (by decide) | exact (hb2.2.2 _).mono (by decide))
    all_goals first | (apply le_by; (focus repeat' first | with_reducible apply app_le | with_reducible apply cons_le | with_reducible exact nil_le | with_reducible apply sum_cons_le | with_reducible exact sum_nil_le | with_reducible exact join_nil_le | with_reducible apply join_one_le | with_reducible apply join_cons_le | with_reducible apply Nat.add_le_add | with_reducible assumption | with_reducible exact Nat.le_of_eq (by assumption) | exact Nat.le_refl _); kernel_rfl!) | omega | (simp only [List.length_append, List.length_cons, List.length_nil, sumLen]; omega)
  · rfl
  · rfl

theorem wif_3b {x0 y0 x1 y1 x2 y2 : V} {c0 b0 c1 b1 c2 b2 : List Nat} {z : V} {t : List Nat} (hc0 : GoodC x0 c0) (hb0 : GoodB y0 b0) (hc1 : GoodC x1 c1) (hb1 : GoodB y1 b1) (hc2 : GoodC x2 c2) (hb2 : GoodB y2 b2) (hz : GoodB (blk z) t) (j : Int × Int) :
    CA 150 f_write_if [(IFN x2 y2 (IFN x1 y1 (IFN x0 y0 (blk z))))] j (.str (joinL (litC 41) [litC 42 ++ c2 ++ litC 43 ++ b2, litC 42 ++ c1 ++ litC 43 ++ b1, litC 42 ++ c0 ++ litC 43 ++ b0, t])) j := by
  have k0 := hc0.1
  have l0 := hb0.2.1
  have k1 := hc1.1
  have l1 := hb1.2.1
  have k2 := hc2.1
  have l2 := hb2.2.1
  have lz := hz.2.1
  obtain ⟨e1, e2, e3⟩ := lens
  apply CA.of' (d := d_write_if) (ρ := [(34, (IFN x2 y2 (IFN x1 y1 (IFN x0 y0 (blk z)))))]) rfl rfl
  · show EXS 149 d_write_if.body _ _ _
    unfold d_write_if
    repeat' (first | (first | ((with_reducible show _ = _); exact rfl) | with_reducible apply EVS.cons | with_reducible exact EVS.nil | with_reducible apply EV.loc | with_reducible exact EV.str | with_reducible exact EV.int | with_reducible apply EV.add | with_reducible apply AddV.s | with_reducible exact AddV.i | with_reducible apply AddV.t | with_reducible apply EV.sub | with_reducible apply EV.call' | with_reducible apply EV.cmp | with_reducible apply EV.tup | with_reducible apply EV.isNone | with_reducible apply EV.ite' | with_reducible apply EVc.t | with_reducible apply EVc.f | exact IsB.t | exact IsB.f | with_reducible exact EV.none | with_reducible exact EV.bool | with_reducible exact EV.cel | with_reducible apply EV.bi | with_reducible apply EV.glob | with_reducible apply EV.and | with_reducible apply EV.or | with_reducible apply AN.step | with_reducible apply AN.one | with_reducible apply ANc.t | with_reducible exact ANc.f | with_reducible apply OR.step | with_reducible apply OR.one | with_reducible exact ORc.t | with_reducible apply ORc.f | with_reducible apply EV.not | with_reducible apply EV.lst | with_reducible apply EV.bin | with_reducible exact EV.neg | with_reducible apply EV.lev | with_reducible apply EV.joinS | with_reducible apply EV.comp | with_reducible apply CV.of' | with_reducible exact CL.nil | with_reducible apply CL.cons' | with_reducible apply EXS.cons | with_reducible exact EXS.nil | with_reducible apply EXc.next | with_reducible exact EXc.ret | with_reducible apply EX.ret | with_reducible apply EX.asg' | with_reducible exact SetTo.none | with_reducible apply SetTo.ne | with_reducible apply SetTo.eq | with_reducible apply SetAllTo.cons | with_reducible exact SetAllTo.nil | with_reducible apply BindTo.one | with_reducible apply BindTo.tup | with_reducible apply EX.ite' | with_reducible apply EXSc.t | with_reducible apply EXSc.f | with_reducible apply EX.app' | with_reducible apply EX.unp' | with_reducible apply EX.tasg' | with_reducible exact EX.own' | with_reducible apply EX.ownC' | with_reducible apply EX.tasgO0 | with_reducible apply EX.tasgO1 | with_reducible apply EX.setJ0 | with_reducible apply EX.setJ1 | with_reducible apply EX.whl | with_reducible apply WH.t | with_reducible exact WH.f | with_reducible apply EX.for | with_reducible exact FO.nil | with_reducible apply FO.cons' | with_reducible apply FOc.next | with_reducible exact FOc.ret | apply FO.cons' | exact FO.nil | apply CL.cons' | exact CL.nil) | exact (hc0.2 _).mono (by decide) | exact (hb0.2.2 _).mono (by decide) | exact (hc1.2 _).mono (by decide) | exact (hb1.2.2 _).mono (by decide) | exact (hc2.2 _).mono (by decide) | exact (hb2.2.2 _).mono (by decide) | exact (hz.2.2 _).mono (by decide))
    all_goals first | (apply le_by; (focus repeat' first | with_reducible apply app_le | with_reducible apply cons_le | with_reducible exact nil_le | with_reducible apply sum_cons_le | with_reducible exact sum_nil_le | with_reducible exact join_nil_le | with_reducible apply join_one_le | with_reducible apply join_cons_le | with_reducible apply Nat.add_le_add | with_reducible assumption | with_reducible exact Nat.le_of_eq (by assumption) | exact Nat.le_refl _); kernel_rfl!) | omega | (simp only [List.length_append, List.length_cons, List.length_nil, sumLen]; omega)
  · rfl
  · rfl

theorem if_right_ok (j : Int × Int) (hj : Jok j) : ∃ j', Jok j' ∧ CA 200 f_law_if_right [.jar] j (.bool true) j' := by
  obtain ⟨e1, e2, e3⟩ := lens
  obtain ⟨d, j₁, hd, hj₁, hD⟩ := dip_ok j hj 2 (by decide) (by decide)
  rcases (show d = 0 ∨ d = 1 by omega) with rfl | rfl
  · obtain ⟨z', t, j₂, hj₂, hGz, hZ⟩ := block_ok j₁ hj₁
    obtain ⟨⟨z, rfl⟩, lz, _⟩ := id hGz
    obtain ⟨d, j₃, hd, hj₃, hT⟩ := dip_ok j₂ hj₂ 3 (by decide) (by decide)
    rcases (show d = 0 ∨ d = 1 ∨ d = 2 by omega) with rfl | rfl | rfl
    · obtain ⟨p0, hp0, j0a, hj0a, hE0⟩ := expr_ok j₃ hj₃
      obtain ⟨y0, b0, j0b, hj0b, hG0, hB0⟩ := block_ok j0a hj0a
      have s0 := (told_short p0 hp0).2.1
      have l0 := hG0.2.1
      refine ⟨j0b, hj0b, ?_⟩
      apply CA.of' (d := d_law_if_right) (ρ := [(1, .jar)]) rfl rfl
      · show EXS 199 d_law_if_right.body _ _ _
        unfold d_law_if_right
        repeat' (first | (first | ((with_reducible show _ = _); exact rfl) | with_reducible apply EVS.cons | with_reducible exact EVS.nil | with_reducible apply EV.loc | with_reducible exact EV.str | with_reducible exact EV.int | with_reducible apply EV.add | with_reducible apply AddV.s | with_reducible exact AddV.i | with_reducible apply AddV.t | with_reducible apply EV.sub | with_reducible apply EV.call' | with_reducible apply EV.cmp | with_reducible apply EV.tup | with_reducible apply EV.isNone | with_reducible apply EV.ite' | with_reducible apply EVc.t | with_reducible apply EVc.f | exact IsB.t | exact IsB.f | with_reducible exact EV.none | with_reducible exact EV.bool | with_reducible exact EV.cel | with_reducible apply EV.bi | with_reducible apply EV.glob | with_reducible apply EV.and | with_reducible apply EV.or | with_reducible apply AN.step | with_reducible apply AN.one | with_reducible apply ANc.t | with_reducible exact ANc.f | with_reducible apply OR.step | with_reducible apply OR.one | with_reducible exact ORc.t | with_reducible apply ORc.f | with_reducible apply EV.not | with_reducible apply EV.lst | with_reducible apply EV.bin | with_reducible exact EV.neg | with_reducible apply EV.lev | with_reducible apply EV.joinS | with_reducible apply EV.comp | with_reducible apply CV.of' | with_reducible exact CL.nil | with_reducible apply CL.cons' | with_reducible apply EXS.cons | with_reducible exact EXS.nil | with_reducible apply EXc.next | with_reducible exact EXc.ret | with_reducible apply EX.ret | with_reducible apply EX.asg' | with_reducible exact SetTo.none | with_reducible apply SetTo.ne | with_reducible apply SetTo.eq | with_reducible apply SetAllTo.cons | with_reducible exact SetAllTo.nil | with_reducible apply BindTo.one | with_reducible apply BindTo.tup | with_reducible apply EX.ite' | with_reducible apply EXSc.t | with_reducible apply EXSc.f | with_reducible apply EX.app' | with_reducible apply EX.unp' | with_reducible apply EX.tasg' | with_reducible exact EX.own' | with_reducible apply EX.ownC' | with_reducible apply EX.tasgO0 | with_reducible apply EX.tasgO1 | with_reducible apply EX.setJ0 | with_reducible apply EX.setJ1 | with_reducible apply EX.whl | with_reducible apply WH.t | with_reducible exact WH.f | with_reducible apply EX.for | with_reducible exact FO.nil | with_reducible apply FO.cons' | with_reducible apply FOc.next | with_reducible exact FOc.ret | apply FO.cons' | exact FO.nil | apply CL.cons' | exact CL.nil) | exact hD.mono (by decide) | exact hT.mono (by decide) | exact hZ.mono (by decide) | exact hE0.mono (by decide) | exact hB0.mono (by decide) | exact (wif_1b ⟨s0, told_cond p0 hp0⟩ hG0 hGz _).mono (by decide))
        all_goals first | (apply le_by; (focus repeat' first | with_reducible apply app_le | with_reducible apply cons_le | with_reducible exact nil_le | with_reducible apply sum_cons_le | with_reducible exact sum_nil_le | with_reducible exact join_nil_le | with_reducible apply join_one_le | with_reducible apply join_cons_le | with_reducible apply Nat.add_le_add | with_reducible assumption | with_reducible exact Nat.le_of_eq (by assumption) | exact Nat.le_refl _); kernel_rfl!) | (simp only [List.length_append, List.length_cons, List.length_nil, e1, e2, e3, show litC 10 = [] from rfl]; omega)
      · refine beqV_of_eq ?_
        simp [joinL, show litC 10 = [] from rfl]
      · rfl
    · obtain ⟨p0, hp0, j0a, hj0a, hE0⟩ := expr_ok j₃ hj₃
      obtain ⟨y0, b0, j0b, hj0b, hG0, hB0⟩ := block_ok j0a hj0a
      have s0 := (told_short p0 hp0).2.1
      have l0 := hG0.2.1
      obtain ⟨p1, hp1, j1a, hj1a, hE1⟩ := expr_ok j0b hj0b
      obtain ⟨y1, b1, j1b, hj1b, hG1, hB1⟩ := block_ok j1a hj1a
      have s1 := (told_short p1 hp1).2.1
      have l1 := hG1.2.1
      refine ⟨j1b, hj1b, ?_⟩
      apply CA.of' (d := d_law_if_right) (ρ := [(1, .jar)]) rfl rfl
      · show EXS 199 d_law_if_right.body _ _ _
        unfold d_law_if_right
        repeat' (first | (first | ((with_reducible show _ = _); exact rfl) | with_reducible apply EVS.cons | with_reducible exact EVS.nil | with_reducible apply EV.loc | with_reducible exact EV.str | with_reducible exact EV.int | with_reducible apply EV.add | with_reducible apply AddV.s | with_reducible exact AddV.i | with_reducible apply AddV.t | with_reducible apply EV.sub | with_reducible apply EV.call' | with_reducible apply EV.cmp | with_reducible apply EV.tup | with_reducible apply EV.isNone | with_reducible apply EV.ite' | with_reducible apply EVc.t | with_reducible apply EVc.f | exact IsB.t | exact IsB.f | with_reducible exact EV.none | with_reducible exact EV.bool | with_reducible exact EV.cel | with_reducible apply EV.bi | with_reducible apply EV.glob | with_reducible apply EV.and | with_reducible apply EV.or | with_reducible apply AN.step | with_reducible apply AN.one | with_reducible apply ANc.t | with_reducible exact ANc.f | with_reducible apply OR.step | with_reducible apply OR.one | with_reducible exact ORc.t | with_reducible apply ORc.f | with_reducible apply EV.not | with_reducible apply EV.lst | with_reducible apply EV.bin | with_reducible exact EV.neg | with_reducible apply EV.lev | with_reducible apply EV.joinS | with_reducible apply EV.comp | with_reducible apply CV.of' | with_reducible exact CL.nil | with_reducible apply CL.cons' | with_reducible apply EXS.cons | with_reducible exact EXS.nil | with_reducible apply EXc.next | with_reducible exact EXc.ret | with_reducible apply EX.ret | with_reducible apply EX.asg' | with_reducible exact SetTo.none | with_reducible apply SetTo.ne | with_reducible apply SetTo.eq | with_reducible apply SetAllTo.cons | with_reducible exact SetAllTo.nil | with_reducible apply BindTo.one | with_reducible apply BindTo.tup | with_reducible apply EX.ite' | with_reducible apply EXSc.t | with_reducible apply EXSc.f | with_reducible apply EX.app' | with_reducible apply EX.unp' | with_reducible apply EX.tasg' | with_reducible exact EX.own' | with_reducible apply EX.ownC' | with_reducible apply EX.tasgO0 | with_reducible apply EX.tasgO1 | with_reducible apply EX.setJ0 | with_reducible apply EX.setJ1 | with_reducible apply EX.whl | with_reducible apply WH.t | with_reducible exact WH.f | with_reducible apply EX.for | with_reducible exact FO.nil | with_reducible apply FO.cons' | with_reducible apply FOc.next | with_reducible exact FOc.ret | apply FO.cons' | exact FO.nil | apply CL.cons' | exact CL.nil) | exact hD.mono (by decide) | exact hT.mono (by decide) | exact hZ.mono (by decide) | exact hE0.mono (by decide) | exact hB0.mono (by decide) | exact hE1.mono (by decide) | exact hB1.mono (by decide) | exact (wif_2b ⟨s0, told_cond p0 hp0⟩ hG0 ⟨s1, told_cond p1 hp1⟩ hG1 hGz _).mono (by decide))
        all_goals first | (apply le_by; (focus repeat' first | with_reducible apply app_le | with_reducible apply cons_le | with_reducible exact nil_le | with_reducible apply sum_cons_le | with_reducible exact sum_nil_le | with_reducible exact join_nil_le | with_reducible apply join_one_le | with_reducible apply join_cons_le | with_reducible apply Nat.add_le_add | with_reducible assumption | with_reducible exact Nat.le_of_eq (by assumption) | exact Nat.le_refl _); kernel_rfl!) | (simp only [List.length_append, List.length_cons, List.length_nil, e1, e2, e3, show litC 10 = [] from rfl]; omega)
      · refine beqV_of_eq ?_
        simp [joinL, show litC 10 = [] from rfl]
      · rfl
    · obtain ⟨p0, hp0, j0a, hj0a, hE0⟩ := expr_ok j₃ hj₃
      obtain ⟨y0, b0, j0b, hj0b, hG0, hB0⟩ := block_ok j0a hj0a
      have s0 := (told_short p0 hp0).2.1
      have l0 := hG0.2.1
      obtain ⟨p1, hp1, j1a, hj1a, hE1⟩ := expr_ok j0b hj0b
      obtain ⟨y1, b1, j1b, hj1b, hG1, hB1⟩ := block_ok j1a hj1a
      have s1 := (told_short p1 hp1).2.1
      have l1 := hG1.2.1
      obtain ⟨p2, hp2, j2a, hj2a, hE2⟩ := expr_ok j1b hj1b
      obtain ⟨y2, b2, j2b, hj2b, hG2, hB2⟩ := block_ok j2a hj2a
      have s2 := (told_short p2 hp2).2.1
      have l2 := hG2.2.1
      refine ⟨j2b, hj2b, ?_⟩
      apply CA.of' (d := d_law_if_right) (ρ := [(1, .jar)]) rfl rfl
      · show EXS 199 d_law_if_right.body _ _ _
        unfold d_law_if_right
        repeat' (first | (first | ((with_reducible show _ = _); exact rfl) | with_reducible apply EVS.cons | with_reducible exact EVS.nil | with_reducible apply EV.loc | with_reducible exact EV.str | with_reducible exact EV.int | with_reducible apply EV.add | with_reducible apply AddV.s | with_reducible exact AddV.i | with_reducible apply AddV.t | with_reducible apply EV.sub | with_reducible apply EV.call' | with_reducible apply EV.cmp | with_reducible apply EV.tup | with_reducible apply EV.isNone | with_reducible apply EV.ite' | with_reducible apply EVc.t | with_reducible apply EVc.f | exact IsB.t | exact IsB.f | with_reducible exact EV.none | with_reducible exact EV.bool | with_reducible exact EV.cel | with_reducible apply EV.bi | with_reducible apply EV.glob | with_reducible apply EV.and | with_reducible apply EV.or | with_reducible apply AN.step | with_reducible apply AN.one | with_reducible apply ANc.t | with_reducible exact ANc.f | with_reducible apply OR.step | with_reducible apply OR.one | with_reducible exact ORc.t | with_reducible apply ORc.f | with_reducible apply EV.not | with_reducible apply EV.lst | with_reducible apply EV.bin | with_reducible exact EV.neg | with_reducible apply EV.lev | with_reducible apply EV.joinS | with_reducible apply EV.comp | with_reducible apply CV.of' | with_reducible exact CL.nil | with_reducible apply CL.cons' | with_reducible apply EXS.cons | with_reducible exact EXS.nil | with_reducible apply EXc.next | with_reducible exact EXc.ret | with_reducible apply EX.ret | with_reducible apply EX.asg' | with_reducible exact SetTo.none | with_reducible apply SetTo.ne | with_reducible apply SetTo.eq | with_reducible apply SetAllTo.cons | with_reducible exact SetAllTo.nil | with_reducible apply BindTo.one | with_reducible apply BindTo.tup | with_reducible apply EX.ite' | with_reducible apply EXSc.t | with_reducible apply EXSc.f | with_reducible apply EX.app' | with_reducible apply EX.unp' | with_reducible apply EX.tasg' | with_reducible exact EX.own' | with_reducible apply EX.ownC' | with_reducible apply EX.tasgO0 | with_reducible apply EX.tasgO1 | with_reducible apply EX.setJ0 | with_reducible apply EX.setJ1 | with_reducible apply EX.whl | with_reducible apply WH.t | with_reducible exact WH.f | with_reducible apply EX.for | with_reducible exact FO.nil | with_reducible apply FO.cons' | with_reducible apply FOc.next | with_reducible exact FOc.ret | apply FO.cons' | exact FO.nil | apply CL.cons' | exact CL.nil) | exact hD.mono (by decide) | exact hT.mono (by decide) | exact hZ.mono (by decide) | exact hE0.mono (by decide) | exact hB0.mono (by decide) | exact hE1.mono (by decide) | exact hB1.mono (by decide) | exact hE2.mono (by decide) | exact hB2.mono (by decide) | exact (wif_3b ⟨s0, told_cond p0 hp0⟩ hG0 ⟨s1, told_cond p1 hp1⟩ hG1 ⟨s2, told_cond p2 hp2⟩ hG2 hGz _).mono (by decide))
        all_goals first | (apply le_by; (focus repeat' first | with_reducible apply app_le | with_reducible apply cons_le | with_reducible exact nil_le | with_reducible apply sum_cons_le | with_reducible exact sum_nil_le | with_reducible exact join_nil_le | with_reducible apply join_one_le | with_reducible apply join_cons_le | with_reducible apply Nat.add_le_add | with_reducible assumption | with_reducible exact Nat.le_of_eq (by assumption) | exact Nat.le_refl _); kernel_rfl!) | (simp only [List.length_append, List.length_cons, List.length_nil, e1, e2, e3, show litC 10 = [] from rfl]; omega)
      · refine beqV_of_eq ?_
        simp [joinL, show litC 10 = [] from rfl]
      · rfl
  · obtain ⟨d, j₃, hd, hj₃, hT⟩ := dip_ok j₁ hj₁ 3 (by decide) (by decide)
    rcases (show d = 0 ∨ d = 1 ∨ d = 2 by omega) with rfl | rfl | rfl
    · obtain ⟨p0, hp0, j0a, hj0a, hE0⟩ := expr_ok j₃ hj₃
      obtain ⟨y0, b0, j0b, hj0b, hG0, hB0⟩ := block_ok j0a hj0a
      have s0 := (told_short p0 hp0).2.1
      have l0 := hG0.2.1
      refine ⟨j0b, hj0b, ?_⟩
      apply CA.of' (d := d_law_if_right) (ρ := [(1, .jar)]) rfl rfl
      · show EXS 199 d_law_if_right.body _ _ _
        unfold d_law_if_right
        repeat' (first | (first | ((with_reducible show _ = _); exact rfl) | with_reducible apply EVS.cons | with_reducible exact EVS.nil | with_reducible apply EV.loc | with_reducible exact EV.str | with_reducible exact EV.int | with_reducible apply EV.add | with_reducible apply AddV.s | with_reducible exact AddV.i | with_reducible apply AddV.t | with_reducible apply EV.sub | with_reducible apply EV.call' | with_reducible apply EV.cmp | with_reducible apply EV.tup | with_reducible apply EV.isNone | with_reducible apply EV.ite' | with_reducible apply EVc.t | with_reducible apply EVc.f | exact IsB.t | exact IsB.f | with_reducible exact EV.none | with_reducible exact EV.bool | with_reducible exact EV.cel | with_reducible apply EV.bi | with_reducible apply EV.glob | with_reducible apply EV.and | with_reducible apply EV.or | with_reducible apply AN.step | with_reducible apply AN.one | with_reducible apply ANc.t | with_reducible exact ANc.f | with_reducible apply OR.step | with_reducible apply OR.one | with_reducible exact ORc.t | with_reducible apply ORc.f | with_reducible apply EV.not | with_reducible apply EV.lst | with_reducible apply EV.bin | with_reducible exact EV.neg | with_reducible apply EV.lev | with_reducible apply EV.joinS | with_reducible apply EV.comp | with_reducible apply CV.of' | with_reducible exact CL.nil | with_reducible apply CL.cons' | with_reducible apply EXS.cons | with_reducible exact EXS.nil | with_reducible apply EXc.next | with_reducible exact EXc.ret | with_reducible apply EX.ret | with_reducible apply EX.asg' | with_reducible exact SetTo.none | with_reducible apply SetTo.ne | with_reducible apply SetTo.eq | with_reducible apply SetAllTo.cons | with_reducible exact SetAllTo.nil | with_reducible apply BindTo.one | with_reducible apply BindTo.tup | with_reducible apply EX.ite' | with_reducible apply EXSc.t | with_reducible apply EXSc.f | with_reducible apply EX.app' | with_reducible apply EX.unp' | with_reducible apply EX.tasg' | with_reducible exact EX.own' | with_reducible apply EX.ownC' | with_reducible apply EX.tasgO0 | with_reducible apply EX.tasgO1 | with_reducible apply EX.setJ0 | with_reducible apply EX.setJ1 | with_reducible apply EX.whl | with_reducible apply WH.t | with_reducible exact WH.f | with_reducible apply EX.for | with_reducible exact FO.nil | with_reducible apply FO.cons' | with_reducible apply FOc.next | with_reducible exact FOc.ret | apply FO.cons' | exact FO.nil | apply CL.cons' | exact CL.nil) | exact hD.mono (by decide) | exact hT.mono (by decide) | exact hE0.mono (by decide) | exact hB0.mono (by decide) | exact (wif_1n ⟨s0, told_cond p0 hp0⟩ hG0 _).mono (by decide))
        all_goals first | (apply le_by; (focus repeat' first | with_reducible apply app_le | with_reducible apply cons_le | with_reducible exact nil_le | with_reducible apply sum_cons_le | with_reducible exact sum_nil_le | with_reducible exact join_nil_le | with_reducible apply join_one_le | with_reducible apply join_cons_le | with_reducible apply Nat.add_le_add | with_reducible assumption | with_reducible exact Nat.le_of_eq (by assumption) | exact Nat.le_refl _); kernel_rfl!) | (simp only [List.length_append, List.length_cons, List.length_nil, e1, e2, e3, show litC 10 = [] from rfl]; omega)
      · refine beqV_of_eq ?_
        simp [joinL, show litC 10 = [] from rfl]
      · rfl
    · obtain ⟨p0, hp0, j0a, hj0a, hE0⟩ := expr_ok j₃ hj₃
      obtain ⟨y0, b0, j0b, hj0b, hG0, hB0⟩ := block_ok j0a hj0a
      have s0 := (told_short p0 hp0).2.1
      have l0 := hG0.2.1
      obtain ⟨p1, hp1, j1a, hj1a, hE1⟩ := expr_ok j0b hj0b
      obtain ⟨y1, b1, j1b, hj1b, hG1, hB1⟩ := block_ok j1a hj1a
      have s1 := (told_short p1 hp1).2.1
      have l1 := hG1.2.1
      refine ⟨j1b, hj1b, ?_⟩
      apply CA.of' (d := d_law_if_right) (ρ := [(1, .jar)]) rfl rfl
      · show EXS 199 d_law_if_right.body _ _ _
        unfold d_law_if_right
        repeat' (first | (first | ((with_reducible show _ = _); exact rfl) | with_reducible apply EVS.cons | with_reducible exact EVS.nil | with_reducible apply EV.loc | with_reducible exact EV.str | with_reducible exact EV.int | with_reducible apply EV.add | with_reducible apply AddV.s | with_reducible exact AddV.i | with_reducible apply AddV.t | with_reducible apply EV.sub | with_reducible apply EV.call' | with_reducible apply EV.cmp | with_reducible apply EV.tup | with_reducible apply EV.isNone | with_reducible apply EV.ite' | with_reducible apply EVc.t | with_reducible apply EVc.f | exact IsB.t | exact IsB.f | with_reducible exact EV.none | with_reducible exact EV.bool | with_reducible exact EV.cel | with_reducible apply EV.bi | with_reducible apply EV.glob | with_reducible apply EV.and | with_reducible apply EV.or | with_reducible apply AN.step | with_reducible apply AN.one | with_reducible apply ANc.t | with_reducible exact ANc.f | with_reducible apply OR.step | with_reducible apply OR.one | with_reducible exact ORc.t | with_reducible apply ORc.f | with_reducible apply EV.not | with_reducible apply EV.lst | with_reducible apply EV.bin | with_reducible exact EV.neg | with_reducible apply EV.lev | with_reducible apply EV.joinS | with_reducible apply EV.comp | with_reducible apply CV.of' | with_reducible exact CL.nil | with_reducible apply CL.cons' | with_reducible apply EXS.cons | with_reducible exact EXS.nil | with_reducible apply EXc.next | with_reducible exact EXc.ret | with_reducible apply EX.ret | with_reducible apply EX.asg' | with_reducible exact SetTo.none | with_reducible apply SetTo.ne | with_reducible apply SetTo.eq | with_reducible apply SetAllTo.cons | with_reducible exact SetAllTo.nil | with_reducible apply BindTo.one | with_reducible apply BindTo.tup | with_reducible apply EX.ite' | with_reducible apply EXSc.t | with_reducible apply EXSc.f | with_reducible apply EX.app' | with_reducible apply EX.unp' | with_reducible apply EX.tasg' | with_reducible exact EX.own' | with_reducible apply EX.ownC' | with_reducible apply EX.tasgO0 | with_reducible apply EX.tasgO1 | with_reducible apply EX.setJ0 | with_reducible apply EX.setJ1 | with_reducible apply EX.whl | with_reducible apply WH.t | with_reducible exact WH.f | with_reducible apply EX.for | with_reducible exact FO.nil | with_reducible apply FO.cons' | with_reducible apply FOc.next | with_reducible exact FOc.ret | apply FO.cons' | exact FO.nil | apply CL.cons' | exact CL.nil) | exact hD.mono (by decide) | exact hT.mono (by decide) | exact hE0.mono (by decide) | exact hB0.mono (by decide) | exact hE1.mono (by decide) | exact hB1.mono (by decide) | exact (wif_2n ⟨s0, told_cond p0 hp0⟩ hG0 ⟨s1, told_cond p1 hp1⟩ hG1 _).mono (by decide))
        all_goals first | (apply le_by; (focus repeat' first | with_reducible apply app_le | with_reducible apply cons_le | with_reducible exact nil_le | with_reducible apply sum_cons_le | with_reducible exact sum_nil_le | with_reducible exact join_nil_le | with_reducible apply join_one_le | with_reducible apply join_cons_le | with_reducible apply Nat.add_le_add | with_reducible assumption | with_reducible exact Nat.le_of_eq (by assumption) | exact Nat.le_refl _); kernel_rfl!) | (simp only [List.length_append, List.length_cons, List.length_nil, e1, e2, e3, show litC 10 = [] from rfl]; omega)
      · refine beqV_of_eq ?_
        simp [joinL, show litC 10 = [] from rfl]
      · rfl
    · obtain ⟨p0, hp0, j0a, hj0a, hE0⟩ := expr_ok j₃ hj₃
      obtain ⟨y0, b0, j0b, hj0b, hG0, hB0⟩ := block_ok j0a hj0a
      have s0 := (told_short p0 hp0).2.1
      have l0 := hG0.2.1
      obtain ⟨p1, hp1, j1a, hj1a, hE1⟩ := expr_ok j0b hj0b
      obtain ⟨y1, b1, j1b, hj1b, hG1, hB1⟩ := block_ok j1a hj1a
      have s1 := (told_short p1 hp1).2.1
      have l1 := hG1.2.1
      obtain ⟨p2, hp2, j2a, hj2a, hE2⟩ := expr_ok j1b hj1b
      obtain ⟨y2, b2, j2b, hj2b, hG2, hB2⟩ := block_ok j2a hj2a
      have s2 := (told_short p2 hp2).2.1
      have l2 := hG2.2.1
      refine ⟨j2b, hj2b, ?_⟩
      apply CA.of' (d := d_law_if_right) (ρ := [(1, .jar)]) rfl rfl
      · show EXS 199 d_law_if_right.body _ _ _
        unfold d_law_if_right
        repeat' (first | (first | ((with_reducible show _ = _); exact rfl) | with_reducible apply EVS.cons | with_reducible exact EVS.nil | with_reducible apply EV.loc | with_reducible exact EV.str | with_reducible exact EV.int | with_reducible apply EV.add | with_reducible apply AddV.s | with_reducible exact AddV.i | with_reducible apply AddV.t | with_reducible apply EV.sub | with_reducible apply EV.call' | with_reducible apply EV.cmp | with_reducible apply EV.tup | with_reducible apply EV.isNone | with_reducible apply EV.ite' | with_reducible apply EVc.t | with_reducible apply EVc.f | exact IsB.t | exact IsB.f | with_reducible exact EV.none | with_reducible exact EV.bool | with_reducible exact EV.cel | with_reducible apply EV.bi | with_reducible apply EV.glob | with_reducible apply EV.and | with_reducible apply EV.or | with_reducible apply AN.step | with_reducible apply AN.one | with_reducible apply ANc.t | with_reducible exact ANc.f | with_reducible apply OR.step | with_reducible apply OR.one | with_reducible exact ORc.t | with_reducible apply ORc.f | with_reducible apply EV.not | with_reducible apply EV.lst | with_reducible apply EV.bin | with_reducible exact EV.neg | with_reducible apply EV.lev | with_reducible apply EV.joinS | with_reducible apply EV.comp | with_reducible apply CV.of' | with_reducible exact CL.nil | with_reducible apply CL.cons' | with_reducible apply EXS.cons | with_reducible exact EXS.nil | with_reducible apply EXc.next | with_reducible exact EXc.ret | with_reducible apply EX.ret | with_reducible apply EX.asg' | with_reducible exact SetTo.none | with_reducible apply SetTo.ne | with_reducible apply SetTo.eq | with_reducible apply SetAllTo.cons | with_reducible exact SetAllTo.nil | with_reducible apply BindTo.one | with_reducible apply BindTo.tup | with_reducible apply EX.ite' | with_reducible apply EXSc.t | with_reducible apply EXSc.f | with_reducible apply EX.app' | with_reducible apply EX.unp' | with_reducible apply EX.tasg' | with_reducible exact EX.own' | with_reducible apply EX.ownC' | with_reducible apply EX.tasgO0 | with_reducible apply EX.tasgO1 | with_reducible apply EX.setJ0 | with_reducible apply EX.setJ1 | with_reducible apply EX.whl | with_reducible apply WH.t | with_reducible exact WH.f | with_reducible apply EX.for | with_reducible exact FO.nil | with_reducible apply FO.cons' | with_reducible apply FOc.next | with_reducible exact FOc.ret | apply FO.cons' | exact FO.nil | apply CL.cons' | exact CL.nil) | exact hD.mono (by decide) | exact hT.mono (by decide) | exact hE0.mono (by decide) | exact hB0.mono (by decide) | exact hE1.mono (by decide) | exact hB1.mono (by decide) | exact hE2.mono (by decide) | exact hB2.mono (by decide) | exact (wif_3n ⟨s0, told_cond p0 hp0⟩ hG0 ⟨s1, told_cond p1 hp1⟩ hG1 ⟨s2, told_cond p2 hp2⟩ hG2 _).mono (by decide))
        all_goals first | (apply le_by; (focus repeat' first | with_reducible apply app_le | with_reducible apply cons_le | with_reducible exact nil_le | with_reducible apply sum_cons_le | with_reducible exact sum_nil_le | with_reducible exact join_nil_le | with_reducible apply join_one_le | with_reducible apply join_cons_le | with_reducible apply Nat.add_le_add | with_reducible assumption | with_reducible exact Nat.le_of_eq (by assumption) | exact Nat.le_refl _); kernel_rfl!) | (simp only [List.length_append, List.length_cons, List.length_nil, e1, e2, e3, show litC 10 = [] from rfl]; omega)
      · refine beqV_of_eq ?_
        simp [joinL, show litC 10 = [] from rfl]
      · rfl
end Mine
end PEpart

section PFpart
namespace Mine
noncomputable def indL : List Nat := [32, 32, 32, 32]
noncomputable def rr : List Nat → List Nat → List Nat
  | _, [] => []
  | R, c :: r => match Nat.beq c 10 with
    | true => (R ++ [c]) ++ rr indL r
    | false => rr (R ++ [c]) r
noncomputable def oneC (c : Nat) : V := .str [c]
noncomputable abbrev rowsBody : List S := [(.asg 15 (.bin .add (.loc 15) (.loc 16))), (.ite (.cmp .eq (.loc 16) (.str 8)) [(.tasg [14, 15] [(.bin .add (.loc 14) (.loc 15)), (.str 38)])] [])]
theorem rows_loop {n : Nat} (hn : 20 ≤ n) (j : Int × Int) : ∀ (l : List Nat) (ρ : List (Nat × V)) (F R : List Nat), lk ρ 14 = some (.str F) → lk ρ 15 = some (.str R) → F.length + R.length + 8 * l.length ≤ 1000000 →
    ∃ ρ', FO n (.one 16) rowsBody (l.map oneC) ⟨ρ, none, j⟩ .next ⟨ρ', none, j⟩ ∧ lk ρ' 14 = some (.str (F ++ rr R l)) := by
  intro l
  induction l with
  | nil => intro ρ F R h1 h2 _; exact ⟨ρ, FO.nil, by rw [h1]; simp [rr]⟩
  | cons c r ih =>
    intro ρ F R h1 h2 hl
    simp only [List.length_cons] at hl
    have gR : ∀ a, St.get ⟨(16, a) :: ρ, none, j⟩ 15 = some (.str R, ⟨(16, a) :: ρ, none, j⟩) := fun a => by
      show (match lk ρ 15 with | some v => some (v, _) | none => none) = _
      rw [h2]
    have gF : ∀ a b, St.get ⟨(15, a) :: (16, b) :: ρ, none, j⟩ 14 = some (.str F, ⟨(15, a) :: (16, b) :: ρ, none, j⟩) := fun a b => by
      show (match lk ρ 14 with | some v => some (v, _) | none => none) = _
      rw [h1]
    cases hc : Nat.beq c 10 with
    | true =>
      have := Nat.eq_of_beq_eq_true hc
      subst this
      obtain ⟨ρ', hρ, hk⟩ := ih ((15, .str (litC 38)) :: (14, .str (F ++ (R ++ [10]))) :: (15, .str (R ++ [10])) :: (16, .str [10]) :: ρ) (F ++ (R ++ [10])) (litC 38) rfl rfl (by
        simp only [List.length_append, List.length_cons, List.length_nil]; have : (litC 38).length = 4 := by decide +kernel
        omega)
      refine ⟨ρ', ?_, ?_⟩
      · refine FO.cons' (x := .str [10]) (BindTo.one SetTo.none) (σ₂ := ⟨(15, .str (litC 38)) :: (14, .str (F ++ (R ++ [10]))) :: (15, .str (R ++ [10])) :: (16, .str [10]) :: ρ, none, j⟩) (EXS.mono hn ?_) (.next hρ)
        show EXS 20 rowsBody _ _ _
        repeat' (first | (first | ((with_reducible show _ = _); exact rfl) | with_reducible apply EVS.cons | with_reducible exact EVS.nil | with_reducible apply EV.loc | with_reducible exact EV.str | with_reducible exact EV.int | with_reducible apply EV.add | with_reducible apply AddV.s | with_reducible exact AddV.i | with_reducible apply AddV.t | with_reducible apply EV.sub | with_reducible apply EV.call' | with_reducible apply EV.cmp | with_reducible apply EV.tup | with_reducible apply EV.isNone | with_reducible apply EV.ite' | with_reducible apply EVc.t | with_reducible apply EVc.f | exact IsB.t | exact IsB.f | with_reducible exact EV.none | with_reducible exact EV.bool | with_reducible exact EV.cel | with_reducible apply EV.bi | with_reducible apply EV.glob | with_reducible apply EV.and | with_reducible apply EV.or | with_reducible apply AN.step | with_reducible apply AN.one | with_reducible apply ANc.t | with_reducible exact ANc.f | with_reducible apply OR.step | with_reducible apply OR.one | with_reducible exact ORc.t | with_reducible apply ORc.f | with_reducible apply EV.not | with_reducible apply EV.lst | with_reducible apply EV.bin | with_reducible exact EV.neg | with_reducible apply EV.lev | with_reducible apply EV.joinS | with_reducible apply EV.comp | with_reducible apply CV.of' | with_reducible exact CL.nil | with_reducible apply CL.cons' | with_reducible apply EXS.cons | with_reducible exact EXS.nil | with_reducible apply EXc.next | with_reducible exact EXc.ret | with_reducible apply EX.ret | with_reducible apply EX.asg' | with_reducible exact SetTo.none | with_reducible apply SetTo.ne | with_reducible apply SetTo.eq | with_reducible apply SetAllTo.cons | with_reducible exact SetAllTo.nil | with_reducible apply BindTo.one | with_reducible apply BindTo.tup | with_reducible apply EX.ite' | with_reducible apply EXSc.t | with_reducible apply EXSc.f | with_reducible apply EX.app' | with_reducible apply EX.unp' | with_reducible apply EX.tasg' | with_reducible exact EX.own' | with_reducible apply EX.ownC' | with_reducible apply EX.tasgO0 | with_reducible apply EX.tasgO1 | with_reducible apply EX.setJ0 | with_reducible apply EX.setJ1 | with_reducible apply EX.whl | with_reducible apply WH.t | with_reducible exact WH.f | with_reducible apply EX.for | with_reducible exact FO.nil | with_reducible apply FO.cons' | with_reducible apply FOc.next | with_reducible exact FOc.ret | apply FO.cons' | exact FO.nil | apply CL.cons' | exact CL.nil) | exact gR _ | exact gF _ _)
        all_goals first | (apply le_by; (focus repeat' first | with_reducible apply app_le | with_reducible apply cons_le | with_reducible exact nil_le | with_reducible apply sum_cons_le | with_reducible exact sum_nil_le | with_reducible exact join_nil_le | with_reducible apply join_one_le | with_reducible apply join_cons_le | with_reducible apply Nat.add_le_add | with_reducible assumption | with_reducible exact Nat.le_of_eq (by assumption) | exact Nat.le_refl _); kernel_rfl!) | omega | (simp only [List.length_append, List.length_cons, List.length_nil]; omega)
      · rw [hk]
        have e : litC 38 = indL := by decide +kernel
        show _ = some (V.str (F ++ (match Nat.beq 10 10 with | true => (R ++ [10]) ++ rr indL r | false => rr (R ++ [10]) r)))
        rw [e]
        simp
    | false =>
      obtain ⟨ρ', hρ, hk⟩ := ih ((15, .str (R ++ [c])) :: (16, .str [c]) :: ρ) F (R ++ [c]) (show lk ρ 14 = _ from h1) rfl (by
        simp only [List.length_append, List.length_cons, List.length_nil]; omega)
      have hB : IsB (beqL [c] (litC 8)) false := by
        have e : beqL [c] (litC 8) = false := by
          show (match Nat.beq c 10 with | true => true | false => false) = false
          rw [hc]
        rw [e]; exact .f
      refine ⟨ρ', ?_, ?_⟩
      · refine FO.cons' (x := .str [c]) (BindTo.one SetTo.none) (σ₂ := ⟨(15, .str (R ++ [c])) :: (16, .str [c]) :: ρ, none, j⟩) (EXS.mono hn ?_) (.next hρ)
        show EXS 20 rowsBody _ _ _
        repeat' (first | (first | ((with_reducible show _ = _); exact rfl) | with_reducible apply EVS.cons | with_reducible exact EVS.nil | with_reducible apply EV.loc | with_reducible exact EV.str | with_reducible exact EV.int | with_reducible apply EV.add | with_reducible apply AddV.s | with_reducible exact AddV.i | with_reducible apply AddV.t | with_reducible apply EV.sub | with_reducible apply EV.call' | with_reducible apply EV.cmp | with_reducible apply EV.tup | with_reducible apply EV.isNone | with_reducible apply EV.ite' | with_reducible apply EVc.t | with_reducible apply EVc.f | exact IsB.t | exact IsB.f | with_reducible exact EV.none | with_reducible exact EV.bool | with_reducible exact EV.cel | with_reducible apply EV.bi | with_reducible apply EV.glob | with_reducible apply EV.and | with_reducible apply EV.or | with_reducible apply AN.step | with_reducible apply AN.one | with_reducible apply ANc.t | with_reducible exact ANc.f | with_reducible apply OR.step | with_reducible apply OR.one | with_reducible exact ORc.t | with_reducible apply ORc.f | with_reducible apply EV.not | with_reducible apply EV.lst | with_reducible apply EV.bin | with_reducible exact EV.neg | with_reducible apply EV.lev | with_reducible apply EV.joinS | with_reducible apply EV.comp | with_reducible apply CV.of' | with_reducible exact CL.nil | with_reducible apply CL.cons' | with_reducible apply EXS.cons | with_reducible exact EXS.nil | with_reducible apply EXc.next | with_reducible exact EXc.ret | with_reducible apply EX.ret | with_reducible apply EX.asg' | with_reducible exact SetTo.none | with_reducible apply SetTo.ne | with_reducible apply SetTo.eq | with_reducible apply SetAllTo.cons | with_reducible exact SetAllTo.nil | with_reducible apply BindTo.one | with_reducible apply BindTo.tup | with_reducible apply EX.ite' | with_reducible apply EXSc.t | with_reducible apply EXSc.f | with_reducible apply EX.app' | with_reducible apply EX.unp' | with_reducible apply EX.tasg' | with_reducible exact EX.own' | with_reducible apply EX.ownC' | with_reducible apply EX.tasgO0 | with_reducible apply EX.tasgO1 | with_reducible apply EX.setJ0 | with_reducible apply EX.setJ1 | with_reducible apply EX.whl | with_reducible apply WH.t | with_reducible exact WH.f | with_reducible apply EX.for | with_reducible exact FO.nil | with_reducible apply FO.cons' | with_reducible apply FOc.next | with_reducible exact FOc.ret | apply FO.cons' | exact FO.nil | apply CL.cons' | exact CL.nil) | exact gR _ | exact gF _ _ | exact hB)
        all_goals first | (apply le_by; (focus repeat' first | with_reducible apply app_le | with_reducible apply cons_le | with_reducible exact nil_le | with_reducible apply sum_cons_le | with_reducible exact sum_nil_le | with_reducible exact join_nil_le | with_reducible apply join_one_le | with_reducible apply join_cons_le | with_reducible apply Nat.add_le_add | with_reducible assumption | with_reducible exact Nat.le_of_eq (by assumption) | exact Nat.le_refl _); kernel_rfl!) | omega | (simp only [List.length_append, List.length_cons, List.length_nil]; omega)
      · rw [hk]
        show _ = some (V.str (F ++ (match Nat.beq c 10 with | true => (R ++ [c]) ++ rr indL r | false => rr (R ++ [c]) r)))
        rw [hc]

/-- every row of a text behind four blanks -/
noncomputable def rowsP (l : List Nat) : List Nat := joinL [] ((splitC 10 l).map fun p => indL ++ p ++ [10])
theorem splitC_some (c : Nat) : ∀ l, ∃ h t, splitC c l = h :: t
  | [] => ⟨[], [], rfl⟩
  | x :: r => by
    obtain ⟨h, t, e⟩ := splitC_some c r
    unfold splitC
    cases Nat.beq x c
    · rw [e]; exact ⟨_, _, rfl⟩
    · exact ⟨_, _, rfl⟩
theorem joinL_nil_cons (a : List Nat) (r : List (List Nat)) : joinL [] (a :: r) = a ++ joinL [] r := by
  cases r with
  | nil => simp [joinL]
  | cons b r => simp [joinL]
theorem rr_split : ∀ (l R : List Nat) (h : List Nat) (t : List (List Nat)), splitC 10 l = h :: t → rr R (l ++ [10]) = (R ++ h ++ [10]) ++ joinL [] (t.map fun p => indL ++ p ++ [10])
  | [], R, h, t, e => by cases e; simp [rr, joinL]
  | c :: r, R, h, t, e => by
    unfold splitC at e
    show (match Nat.beq c 10 with | true => (R ++ [c]) ++ rr indL (r ++ [10]) | false => rr (R ++ [c]) (r ++ [10])) = _
    cases hc : Nat.beq c 10 with
    | true =>
      rw [hc] at e
      cases e
      obtain ⟨h', t', e'⟩ := splitC_some 10 r
      rw [rr_split r indL h' t' e', e', List.map_cons, joinL_nil_cons]
      have := Nat.eq_of_beq_eq_true hc
      subst this
      simp
    | false =>
      rw [hc] at e
      obtain ⟨h', t', e'⟩ := splitC_some 10 r
      rw [e'] at e
      cases e
      rw [rr_split r (R ++ [c]) h' t e']
      simp
theorem rr_rows (l : List Nat) : rr indL (l ++ [10]) = rowsP l := by
  obtain ⟨h, t, e⟩ := splitC_some 10 l
  rw [rr_split l indL h t e]
  unfold rowsP
  rw [e, List.map_cons, joinL_nil_cons]
theorem splitC_len (c : Nat) : ∀ l, (splitC c l).length ≤ l.length + 1 ∧ (∀ p ∈ splitC c l, p.length ≤ l.length)
  | [] => ⟨by simp [splitC], by simp [splitC]⟩
  | x :: r => by
    obtain ⟨h1, h2⟩ := splitC_len c r
    obtain ⟨h, t, e⟩ := splitC_some c r
    unfold splitC
    cases Nat.beq x c
    · rw [e] at h1 h2 ⊢
      refine ⟨by simp at h1 ⊢; omega, fun p hp => ?_⟩
      rcases List.mem_cons.mp hp with rfl | hp
      · have := h2 h (.head _); simp; omega
      · have := h2 p (.tail _ hp); simp; omega
    · refine ⟨by simp at h1 ⊢; omega, fun p hp => ?_⟩
      rcases List.mem_cons.mp hp with rfl | hp
      · simp
      · have := h2 p hp; simp; omega
theorem splitC_sum (c : Nat) : ∀ l, sumLen [] ((splitC c l).map fun p => indL ++ p ++ [10]) ≤ 5 + 6 * l.length
  | [] => by simp [splitC, sumLen, indL]
  | x :: r => by
    have ih := splitC_sum c r
    obtain ⟨h, t, e⟩ := splitC_some c r
    unfold splitC
    cases Nat.beq x c
    · rw [e] at ih ⊢
      simp only [List.map_cons, sumLen, List.length_append, List.length_cons, List.length_nil] at ih ⊢
      omega
    · simp only [List.map_cons, sumLen, List.length_append, List.length_cons, List.length_nil] at ih ⊢
      have : indL.length = 4 := rfl
      omega
theorem joinL_len : ∀ ls : List (List Nat), (joinL [] ls).length ≤ sumLen [] ls
  | [] => by simp [joinL, sumLen]
  | a :: r => by
    have := joinL_len r
    rw [joinL_nil_cons, List.length_append]
    simp only [sumLen, List.length_nil]; omega
theorem rowsP_len (l : List Nat) : (rowsP l).length ≤ 5 + 6 * l.length := Nat.le_trans (joinL_len _) (splitC_sum 10 l)

theorem rows_ok (l : List Nat) (hl : l.length ≤ 10000) (j : Int × Int) : CA 60 f_law_rows [.str l] j (.str (rowsP l)) j := by
  have e38 : litC 38 = indL := by decide +kernel
  obtain ⟨ρ', hρ, hk⟩ := rows_loop (n := 58) (by decide) j (l ++ litC 8) [(15, .str (litC 38)), (14, .str (litC 10)), (2, .str l)] [] indL rfl (by rw [← e38]; rfl) (by
    have : (litC 8).length = 1 := by decide +kernel
    simp only [List.length_append, List.length_nil, indL, List.length_cons]; omega)
  have hi : itemsOf .plain (.str (l ++ litC 8)) = some ((l ++ litC 8).map oneC) := by
    dsimp only [itemsOf]
    rw [show fits (l ++ litC 8).length = true from Nat.ble_eq_true_of_le (by
      have : (litC 8).length = 1 := by decide +kernel
      unfold LIM; simp only [List.length_append]; omega)]
    rfl
  have hg : St.get ⟨ρ', none, j⟩ 14 = some (.str (rowsP l), ⟨ρ', none, j⟩) := by
    show (match lk ρ' 14 with | some v => some (v, _) | none => none) = _
    rw [hk]
    have e8 : litC 8 = [10] := by decide +kernel
    rw [e8, rr_rows]
    rfl
  apply CA.of' (d := d_law_rows) (ρ := [(2, .str l)]) rfl rfl
  · show EXS 59 d_law_rows.body _ _ _
    unfold d_law_rows
    repeat' (first | with_reducible exact hi | with_reducible exact hρ | with_reducible exact hg | (first | ((with_reducible show _ = _); exact rfl) | with_reducible apply EVS.cons | with_reducible exact EVS.nil | with_reducible apply EV.loc | with_reducible exact EV.str | with_reducible exact EV.int | with_reducible apply EV.add | with_reducible apply AddV.s | with_reducible exact AddV.i | with_reducible apply AddV.t | with_reducible apply EV.sub | with_reducible apply EV.call' | with_reducible apply EV.cmp | with_reducible apply EV.tup | with_reducible apply EV.isNone | with_reducible apply EV.ite' | with_reducible apply EVc.t | with_reducible apply EVc.f | exact IsB.t | exact IsB.f | with_reducible exact EV.none | with_reducible exact EV.bool | with_reducible exact EV.cel | with_reducible apply EV.bi | with_reducible apply EV.glob | with_reducible apply EV.and | with_reducible apply EV.or | with_reducible apply AN.step | with_reducible apply AN.one | with_reducible apply ANc.t | with_reducible exact ANc.f | with_reducible apply OR.step | with_reducible apply OR.one | with_reducible exact ORc.t | with_reducible apply ORc.f | with_reducible apply EV.not | with_reducible apply EV.lst | with_reducible apply EV.bin | with_reducible exact EV.neg | with_reducible apply EV.lev | with_reducible apply EV.joinS | with_reducible apply EV.comp | with_reducible apply CV.of' | with_reducible exact CL.nil | with_reducible apply CL.cons' | with_reducible apply EXS.cons | with_reducible exact EXS.nil | with_reducible apply EXc.next | with_reducible exact EXc.ret | with_reducible apply EX.ret | with_reducible apply EX.asg' | with_reducible exact SetTo.none | with_reducible apply SetTo.ne | with_reducible apply SetTo.eq | with_reducible apply SetAllTo.cons | with_reducible exact SetAllTo.nil | with_reducible apply BindTo.one | with_reducible apply BindTo.tup | with_reducible apply EX.ite' | with_reducible apply EXSc.t | with_reducible apply EXSc.f | with_reducible apply EX.app' | with_reducible apply EX.unp' | with_reducible apply EX.tasg' | with_reducible exact EX.own' | with_reducible apply EX.ownC' | with_reducible apply EX.tasgO0 | with_reducible apply EX.tasgO1 | with_reducible apply EX.setJ0 | with_reducible apply EX.setJ1 | with_reducible apply EX.whl | with_reducible apply WH.t | with_reducible exact WH.f | with_reducible apply EX.for | with_reducible exact FO.nil | with_reducible apply FO.cons' | with_reducible apply FOc.next | with_reducible exact FOc.ret | apply FO.cons' | exact FO.nil | apply CL.cons' | exact CL.nil))
    have : (litC 8).length = 1 := by decide +kernel
    omega
  · rfl
  · rfl
theorem ind_loop {n : Nat} (hn : 20 ≤ n) (j : Int × Int) : ∀ ps : List (List Nat), (∀ p ∈ ps, p.length ≤ 10000) → CL n (.bin .add (.bin .add (.glob 94) (.loc 15)) (.str 8)) (.one 15) (ps.map .str) j ((ps.map fun p => indL ++ p ++ [10]).map .str) j
  | [], _ => CL.nil
  | p :: ps, h => by
    have hp := h p (.head _)
    refine CL.cons' (ρ := [(15, .str p)]) (BindTo.one SetTo.none) (EV.mono hn ?_) (ind_loop hn j ps fun q hq => h q (.tail _ hq))
    show EV 20 _ _ (.str ([32, 32, 32, 32] ++ p ++ litC 8)) _
    repeat' (first | ((with_reducible show _ = _); exact rfl) | with_reducible apply EVS.cons | with_reducible exact EVS.nil | with_reducible apply EV.loc | with_reducible exact EV.str | with_reducible exact EV.int | with_reducible apply EV.add | with_reducible apply AddV.s | with_reducible exact AddV.i | with_reducible apply AddV.t | with_reducible apply EV.sub | with_reducible apply EV.call' | with_reducible apply EV.cmp | with_reducible apply EV.tup | with_reducible apply EV.isNone | with_reducible apply EV.ite' | with_reducible apply EVc.t | with_reducible apply EVc.f | exact IsB.t | exact IsB.f | with_reducible exact EV.none | with_reducible exact EV.bool | with_reducible exact EV.cel | with_reducible apply EV.bi | with_reducible apply EV.glob | with_reducible apply EV.and | with_reducible apply EV.or | with_reducible apply AN.step | with_reducible apply AN.one | with_reducible apply ANc.t | with_reducible exact ANc.f | with_reducible apply OR.step | with_reducible apply OR.one | with_reducible exact ORc.t | with_reducible apply ORc.f | with_reducible apply EV.not | with_reducible apply EV.lst | with_reducible apply EV.bin | with_reducible exact EV.neg | with_reducible apply EV.lev | with_reducible apply EV.joinS | with_reducible apply EV.comp | with_reducible apply CV.of' | with_reducible exact CL.nil | with_reducible apply CL.cons' | with_reducible apply EXS.cons | with_reducible exact EXS.nil | with_reducible apply EXc.next | with_reducible exact EXc.ret | with_reducible apply EX.ret | with_reducible apply EX.asg' | with_reducible exact SetTo.none | with_reducible apply SetTo.ne | with_reducible apply SetTo.eq | with_reducible apply SetAllTo.cons | with_reducible exact SetAllTo.nil | with_reducible apply BindTo.one | with_reducible apply BindTo.tup | with_reducible apply EX.ite' | with_reducible apply EXSc.t | with_reducible apply EXSc.f | with_reducible apply EX.app' | with_reducible apply EX.unp' | with_reducible apply EX.tasg' | with_reducible exact EX.own' | with_reducible apply EX.ownC' | with_reducible apply EX.tasgO0 | with_reducible apply EX.tasgO1 | with_reducible apply EX.setJ0 | with_reducible apply EX.setJ1 | with_reducible apply EX.whl | with_reducible apply WH.t | with_reducible exact WH.f | with_reducible apply EX.for | with_reducible exact FO.nil | with_reducible apply FO.cons' | with_reducible apply FOc.next | with_reducible exact FOc.ret | apply FO.cons' | exact FO.nil | apply CL.cons' | exact CL.nil)
    all_goals (have : (litC 8).length = 1 := by decide +kernel)
    all_goals first | (apply le_by; (focus repeat' first | with_reducible apply app_le | with_reducible apply cons_le | with_reducible exact nil_le | with_reducible apply sum_cons_le | with_reducible exact sum_nil_le | with_reducible exact join_nil_le | with_reducible apply join_one_le | with_reducible apply join_cons_le | with_reducible apply Nat.add_le_add | with_reducible assumption | with_reducible exact Nat.le_of_eq (by assumption) | exact Nat.le_refl _); kernel_rfl!) | (simp only [List.length_append, List.length_cons, List.length_nil]; omega)
theorem indented_ok (l : List Nat) (hl : l.length ≤ 10000) (j : Int × Int) : CA 60 f_indented [.str l] j (.str (rowsP l)) j := by
  obtain ⟨s1, s2⟩ := splitC_len 10 l
  have hi : itemsOf .plain (.lst ((splitC 10 l).map .str)) = some ((splitC 10 l).map .str) := by
    dsimp only [itemsOf]
    rw [show fits ((splitC 10 l).map V.str).length = true from Nat.ble_eq_true_of_le (by rw [List.length_map]; unfold LIM; omega)]
  have hall : ∀ ls : List (List Nat), allStr (ls.map .str) = some ls := by
    intro ls
    induction ls with
    | nil => rfl
    | cons a r ih => show (match allStr (r.map .str) with | some ls => some (a :: ls) | none => none) = _; rw [ih]
  apply CA.of' (d := d_indented) (ρ := [(2, .str l)]) rfl rfl
  · show EXS 59 d_indented.body _ _ _
    unfold d_indented
    refine EXS.cons (EX.ret (EV.joinS (EV.comp (CV.of' (EV.split (EV.loc rfl) rfl (Nat.ble_eq_true_of_le (by unfold LIM; omega))) hi (ind_loop (by decide) j _ fun p hp => Nat.le_trans (s2 p hp) hl))) (hall _) ?_ ?_)) EXc.ret
    · have := splitC_sum 10 l
      show sumLen [] _ ≤ _
      omega
    · rw [List.length_map]; omega
  · rfl
  · rfl
end Mine

end PFpart

section PGpart
namespace Mine
theorem jmp_c0 (j : Int × Int) : CA 60 f_write_jump [.tup [.str (litC 60), .int 0, .none]] j (.str (litC 60 ++ litC 10)) j := by
  show (run TT 60).call f_write_jump [.tup [.str (litC 60), .int 0, .none]] j = some (.str (litC 60 ++ litC 10), j)
  kernel_rfl
theorem jmp_c1 (j : Int × Int) : CA 60 f_write_jump [.tup [.str (litC 60), .int 0, .str (litC 59)]] j (.str (litC 60 ++ (litC 43 ++ litC 59))) j := by
  show (run TT 60).call f_write_jump [.tup [.str (litC 60), .int 0, .str (litC 59)]] j = some (.str (litC 60 ++ (litC 43 ++ litC 59)), j)
  kernel_rfl
theorem jmp_r0 (j : Int × Int) : CA 60 f_write_jump [.tup [.str (litC 0), .int 0, .none]] j (.str (litC 0 ++ litC 10)) j := by
  show (run TT 60).call f_write_jump [.tup [.str (litC 0), .int 0, .none]] j = some (.str (litC 0 ++ litC 10), j)
  kernel_rfl
theorem jmp_r1 : ∀ p ∈ toldL, ∀ j, CA 60 f_write_jump [.tup [.str (litC 0), .int 0, p.1]] j (.str (litC 0 ++ (litC 43 ++ p.2.2.2.2))) j := by
  intro p hp j
  simp only [toldL, List.mem_cons, List.not_mem_nil, or_false] at hp
  show (run TT 60).call f_write_jump [.tup [.str (litC 0), .int 0, p.1]] j = some (.str (litC 0 ++ (litC 43 ++ p.2.2.2.2)), j)
  rcases hp with rfl | rfl | rfl | rfl | rfl | rfl | rfl | rfl | rfl | rfl | rfl | rfl <;> kernel_rfl
theorem jmp_b00 (j : Int × Int) : CA 60 f_write_jump [.tup [.str (litC 61), .int 0, .none, .none]] j (.str (litC 61 ++ litC 10 ++ litC 10)) j := by
  show (run TT 60).call f_write_jump [.tup [.str (litC 61), .int 0, .none, .none]] j = some (.str (litC 61 ++ litC 10 ++ litC 10), j)
  kernel_rfl
theorem jmp_b01 : ∀ p ∈ toldL, ∀ j, CA 60 f_write_jump [.tup [.str (litC 61), .int 0, .none, p.1]] j (.str (litC 61 ++ litC 10 ++ (litC 43 ++ p.2.2.2.2))) j := by
  intro p hp j
  simp only [toldL, List.mem_cons, List.not_mem_nil, or_false] at hp
  show (run TT 60).call f_write_jump [.tup [.str (litC 61), .int 0, .none, p.1]] j = some (.str (litC 61 ++ litC 10 ++ (litC 43 ++ p.2.2.2.2)), j)
  rcases hp with rfl | rfl | rfl | rfl | rfl | rfl | rfl | rfl | rfl | rfl | rfl | rfl <;> kernel_rfl
theorem jmp_b10 (j : Int × Int) : CA 60 f_write_jump [.tup [.str (litC 61), .int 0, .str (litC 59), .none]] j (.str (litC 61 ++ (litC 43 ++ litC 59) ++ litC 10)) j := by
  show (run TT 60).call f_write_jump [.tup [.str (litC 61), .int 0, .str (litC 59), .none]] j = some (.str (litC 61 ++ (litC 43 ++ litC 59) ++ litC 10), j)
  kernel_rfl
theorem jmp_b11 : ∀ p ∈ toldL, ∀ j, CA 60 f_write_jump [.tup [.str (litC 61), .int 0, .str (litC 59), p.1]] j (.str (litC 61 ++ (litC 43 ++ litC 59) ++ (litC 43 ++ p.2.2.2.2))) j := by
  intro p hp j
  simp only [toldL, List.mem_cons, List.not_mem_nil, or_false] at hp
  show (run TT 60).call f_write_jump [.tup [.str (litC 61), .int 0, .str (litC 59), p.1]] j = some (.str (litC 61 ++ (litC 43 ++ litC 59) ++ (litC 43 ++ p.2.2.2.2)), j)
  rcases hp with rfl | rfl | rfl | rfl | rfl | rfl | rfl | rfl | rfl | rfl | rfl | rfl <;> kernel_rfl
theorem jr_0_0_0 {j j₁ j₂ j₃ j₄ j₅ : Int × Int} {p q : V × List Nat × List Nat × List Nat × List Nat} (hL : CA 40 f_law_one [.jar, .lst [.none, .str (litC 59)]] j .none j₁) (hD : CA 20 f_law_dip [.jar, .int ((4 : Nat) : Int)] j₁ (.int ((0 : Nat) : Int)) j₂)
    (hP : CA 60 f_law_expr [.jar] j₂ (toldV p) j₃) (hQ : CA 60 f_law_expr [.jar] j₃ (toldV q) j₄) (hV : CA 40 f_law_one [.jar, .lst [.none, toldV p, toldV q]] j₄ .none j₅) : CA 150 f_law_jump_right [.jar] j (.bool true) j₅ := by
  have z10 : (litC 10).length = 0 := by decide +kernel
  have z43 : (litC 43).length = 1 := by decide +kernel
  have z59 : (litC 59).length = 2 := by decide +kernel
  have z60 : (litC 60).length = 8 := by decide +kernel
  have z61 : (litC 61).length = 5 := by decide +kernel
  have z0 : (litC 0).length = 6 := by decide +kernel
  apply CA.of' (d := d_law_jump_right) (ρ := [(1, .jar)]) rfl rfl
  · show EXS 149 d_law_jump_right.body _ _ _
    unfold d_law_jump_right
    repeat' (first | (first | ((with_reducible show _ = _); exact rfl) | with_reducible apply EVS.cons | with_reducible exact EVS.nil | with_reducible apply EV.loc | with_reducible exact EV.str | with_reducible exact EV.int | with_reducible apply EV.add | with_reducible apply AddV.s | with_reducible exact AddV.i | with_reducible apply AddV.t | with_reducible apply EV.sub | with_reducible apply EV.call' | with_reducible apply EV.cmp | with_reducible apply EV.tup | with_reducible apply EV.isNone | with_reducible apply EV.ite' | with_reducible apply EVc.t | with_reducible apply EVc.f | exact IsB.t | exact IsB.f | with_reducible exact EV.none | with_reducible exact EV.bool | with_reducible exact EV.cel | with_reducible apply EV.bi | with_reducible apply EV.glob | with_reducible apply EV.and | with_reducible apply EV.or | with_reducible apply AN.step | with_reducible apply AN.one | with_reducible apply ANc.t | with_reducible exact ANc.f | with_reducible apply OR.step | with_reducible apply OR.one | with_reducible exact ORc.t | with_reducible apply ORc.f | with_reducible apply EV.not | with_reducible apply EV.lst | with_reducible apply EV.bin | with_reducible exact EV.neg | with_reducible apply EV.lev | with_reducible apply EV.joinS | with_reducible apply EV.comp | with_reducible apply CV.of' | with_reducible exact CL.nil | with_reducible apply CL.cons' | with_reducible apply EXS.cons | with_reducible exact EXS.nil | with_reducible apply EXc.next | with_reducible exact EXc.ret | with_reducible apply EX.ret | with_reducible apply EX.asg' | with_reducible exact SetTo.none | with_reducible apply SetTo.ne | with_reducible apply SetTo.eq | with_reducible apply SetAllTo.cons | with_reducible exact SetAllTo.nil | with_reducible apply BindTo.one | with_reducible apply BindTo.tup | with_reducible apply EX.ite' | with_reducible apply EXSc.t | with_reducible apply EXSc.f | with_reducible apply EX.app' | with_reducible apply EX.unp' | with_reducible apply EX.tasg' | with_reducible exact EX.own' | with_reducible apply EX.ownC' | with_reducible apply EX.tasgO0 | with_reducible apply EX.tasgO1 | with_reducible apply EX.setJ0 | with_reducible apply EX.setJ1 | with_reducible apply EX.whl | with_reducible apply WH.t | with_reducible exact WH.f | with_reducible apply EX.for | with_reducible exact FO.nil | with_reducible apply FO.cons' | with_reducible apply FOc.next | with_reducible exact FOc.ret | apply FO.cons' | exact FO.nil | apply CL.cons' | exact CL.nil) | exact hL.mono (by decide) | exact hD.mono (by decide) | exact hP.mono (by decide) | exact hQ.mono (by decide) | exact hV.mono (by decide) | exact (jmp_c0 _).mono (by decide))
    all_goals first | (apply le_by; (focus repeat' first | with_reducible apply app_le | with_reducible apply cons_le | with_reducible exact nil_le | with_reducible apply sum_cons_le | with_reducible exact sum_nil_le | with_reducible exact join_nil_le | with_reducible apply join_one_le | with_reducible apply join_cons_le | with_reducible apply Nat.add_le_add | with_reducible assumption | with_reducible exact Nat.le_of_eq (by assumption) | exact Nat.le_refl _); kernel_rfl!) | omega | (simp only [List.length_append]; omega)
  · exact beqV_of_eq rfl
  · rfl

theorem jr_0_0_1 {j j₁ j₂ j₃ j₄ j₅ : Int × Int} {p q : V × List Nat × List Nat × List Nat × List Nat} (hL : CA 40 f_law_one [.jar, .lst [.none, .str (litC 59)]] j .none j₁) (hD : CA 20 f_law_dip [.jar, .int ((4 : Nat) : Int)] j₁ (.int ((1 : Nat) : Int)) j₂)
    (hP : CA 60 f_law_expr [.jar] j₂ (toldV p) j₃) (hQ : CA 60 f_law_expr [.jar] j₃ (toldV q) j₄) (hV : CA 40 f_law_one [.jar, .lst [.none, toldV p, toldV q]] j₄ .none j₅) : CA 150 f_law_jump_right [.jar] j (.bool true) j₅ := by
  have z10 : (litC 10).length = 0 := by decide +kernel
  have z43 : (litC 43).length = 1 := by decide +kernel
  have z59 : (litC 59).length = 2 := by decide +kernel
  have z60 : (litC 60).length = 8 := by decide +kernel
  have z61 : (litC 61).length = 5 := by decide +kernel
  have z0 : (litC 0).length = 6 := by decide +kernel
  apply CA.of' (d := d_law_jump_right) (ρ := [(1, .jar)]) rfl rfl
  · show EXS 149 d_law_jump_right.body _ _ _
    unfold d_law_jump_right
    repeat' (first | (first | ((with_reducible show _ = _); exact rfl) | with_reducible apply EVS.cons | with_reducible exact EVS.nil | with_reducible apply EV.loc | with_reducible exact EV.str | with_reducible exact EV.int | with_reducible apply EV.add | with_reducible apply AddV.s | with_reducible exact AddV.i | with_reducible apply AddV.t | with_reducible apply EV.sub | with_reducible apply EV.call' | with_reducible apply EV.cmp | with_reducible apply EV.tup | with_reducible apply EV.isNone | with_reducible apply EV.ite' | with_reducible apply EVc.t | with_reducible apply EVc.f | exact IsB.t | exact IsB.f | with_reducible exact EV.none | with_reducible exact EV.bool | with_reducible exact EV.cel | with_reducible apply EV.bi | with_reducible apply EV.glob | with_reducible apply EV.and | with_reducible apply EV.or | with_reducible apply AN.step | with_reducible apply AN.one | with_reducible apply ANc.t | with_reducible exact ANc.f | with_reducible apply OR.step | with_reducible apply OR.one | with_reducible exact ORc.t | with_reducible apply ORc.f | with_reducible apply EV.not | with_reducible apply EV.lst | with_reducible apply EV.bin | with_reducible exact EV.neg | with_reducible apply EV.lev | with_reducible apply EV.joinS | with_reducible apply EV.comp | with_reducible apply CV.of' | with_reducible exact CL.nil | with_reducible apply CL.cons' | with_reducible apply EXS.cons | with_reducible exact EXS.nil | with_reducible apply EXc.next | with_reducible exact EXc.ret | with_reducible apply EX.ret | with_reducible apply EX.asg' | with_reducible exact SetTo.none | with_reducible apply SetTo.ne | with_reducible apply SetTo.eq | with_reducible apply SetAllTo.cons | with_reducible exact SetAllTo.nil | with_reducible apply BindTo.one | with_reducible apply BindTo.tup | with_reducible apply EX.ite' | with_reducible apply EXSc.t | with_reducible apply EXSc.f | with_reducible apply EX.app' | with_reducible apply EX.unp' | with_reducible apply EX.tasg' | with_reducible exact EX.own' | with_reducible apply EX.ownC' | with_reducible apply EX.tasgO0 | with_reducible apply EX.tasgO1 | with_reducible apply EX.setJ0 | with_reducible apply EX.setJ1 | with_reducible apply EX.whl | with_reducible apply WH.t | with_reducible exact WH.f | with_reducible apply EX.for | with_reducible exact FO.nil | with_reducible apply FO.cons' | with_reducible apply FOc.next | with_reducible exact FOc.ret | apply FO.cons' | exact FO.nil | apply CL.cons' | exact CL.nil) | exact hL.mono (by decide) | exact hD.mono (by decide) | exact hP.mono (by decide) | exact hQ.mono (by decide) | exact hV.mono (by decide) | exact (jmp_r0 _).mono (by decide))
    all_goals first | (apply le_by; (focus repeat' first | with_reducible apply app_le | with_reducible apply cons_le | with_reducible exact nil_le | with_reducible apply sum_cons_le | with_reducible exact sum_nil_le | with_reducible exact join_nil_le | with_reducible apply join_one_le | with_reducible apply join_cons_le | with_reducible apply Nat.add_le_add | with_reducible assumption | with_reducible exact Nat.le_of_eq (by assumption) | exact Nat.le_refl _); kernel_rfl!) | omega | (simp only [List.length_append]; omega)
  · exact beqV_of_eq rfl
  · rfl

theorem jr_0_0_2 {j j₁ j₂ j₃ j₄ j₅ : Int × Int} {p q : V × List Nat × List Nat × List Nat × List Nat} (hL : CA 40 f_law_one [.jar, .lst [.none, .str (litC 59)]] j .none j₁) (hD : CA 20 f_law_dip [.jar, .int ((4 : Nat) : Int)] j₁ (.int ((2 : Nat) : Int)) j₂)
    (hP : CA 60 f_law_expr [.jar] j₂ (toldV p) j₃) (hQ : CA 60 f_law_expr [.jar] j₃ (toldV q) j₄) (hV : CA 40 f_law_one [.jar, .lst [.none, toldV p, toldV q]] j₄ .none j₅) : CA 150 f_law_jump_right [.jar] j (.bool true) j₅ := by
  have z10 : (litC 10).length = 0 := by decide +kernel
  have z43 : (litC 43).length = 1 := by decide +kernel
  have z59 : (litC 59).length = 2 := by decide +kernel
  have z60 : (litC 60).length = 8 := by decide +kernel
  have z61 : (litC 61).length = 5 := by decide +kernel
  have z0 : (litC 0).length = 6 := by decide +kernel
  apply CA.of' (d := d_law_jump_right) (ρ := [(1, .jar)]) rfl rfl
  · show EXS 149 d_law_jump_right.body _ _ _
    unfold d_law_jump_right
    repeat' (first | (first | ((with_reducible show _ = _); exact rfl) | with_reducible apply EVS.cons | with_reducible exact EVS.nil | with_reducible apply EV.loc | with_reducible exact EV.str | with_reducible exact EV.int | with_reducible apply EV.add | with_reducible apply AddV.s | with_reducible exact AddV.i | with_reducible apply AddV.t | with_reducible apply EV.sub | with_reducible apply EV.call' | with_reducible apply EV.cmp | with_reducible apply EV.tup | with_reducible apply EV.isNone | with_reducible apply EV.ite' | with_reducible apply EVc.t | with_reducible apply EVc.f | exact IsB.t | exact IsB.f | with_reducible exact EV.none | with_reducible exact EV.bool | with_reducible exact EV.cel | with_reducible apply EV.bi | with_reducible apply EV.glob | with_reducible apply EV.and | with_reducible apply EV.or | with_reducible apply AN.step | with_reducible apply AN.one | with_reducible apply ANc.t | with_reducible exact ANc.f | with_reducible apply OR.step | with_reducible apply OR.one | with_reducible exact ORc.t | with_reducible apply ORc.f | with_reducible apply EV.not | with_reducible apply EV.lst | with_reducible apply EV.bin | with_reducible exact EV.neg | with_reducible apply EV.lev | with_reducible apply EV.joinS | with_reducible apply EV.comp | with_reducible apply CV.of' | with_reducible exact CL.nil | with_reducible apply CL.cons' | with_reducible apply EXS.cons | with_reducible exact EXS.nil | with_reducible apply EXc.next | with_reducible exact EXc.ret | with_reducible apply EX.ret | with_reducible apply EX.asg' | with_reducible exact SetTo.none | with_reducible apply SetTo.ne | with_reducible apply SetTo.eq | with_reducible apply SetAllTo.cons | with_reducible exact SetAllTo.nil | with_reducible apply BindTo.one | with_reducible apply BindTo.tup | with_reducible apply EX.ite' | with_reducible apply EXSc.t | with_reducible apply EXSc.f | with_reducible apply EX.app' | with_reducible apply EX.unp' | with_reducible apply EX.tasg' | with_reducible exact EX.own' | with_reducible apply EX.ownC' | with_reducible apply EX.tasgO0 | with_reducible apply EX.tasgO1 | with_reducible apply EX.setJ0 | with_reducible apply EX.setJ1 | with_reducible apply EX.whl | with_reducible apply WH.t | with_reducible exact WH.f | with_reducible apply EX.for | with_reducible exact FO.nil | with_reducible apply FO.cons' | with_reducible apply FOc.next | with_reducible exact FOc.ret | apply FO.cons' | exact FO.nil | apply CL.cons' | exact CL.nil) | exact hL.mono (by decide) | exact hD.mono (by decide) | exact hP.mono (by decide) | exact hQ.mono (by decide) | exact hV.mono (by decide) | exact (jmp_b00 _).mono (by decide))
    all_goals first | (apply le_by; (focus repeat' first | with_reducible apply app_le | with_reducible apply cons_le | with_reducible exact nil_le | with_reducible apply sum_cons_le | with_reducible exact sum_nil_le | with_reducible exact join_nil_le | with_reducible apply join_one_le | with_reducible apply join_cons_le | with_reducible apply Nat.add_le_add | with_reducible assumption | with_reducible exact Nat.le_of_eq (by assumption) | exact Nat.le_refl _); kernel_rfl!) | omega | (simp only [List.length_append]; omega)
  · exact beqV_of_eq rfl
  · rfl

theorem jr_0_0_3 {j j₁ j₂ j₃ j₄ j₅ : Int × Int} {p q : V × List Nat × List Nat × List Nat × List Nat} (hL : CA 40 f_law_one [.jar, .lst [.none, .str (litC 59)]] j .none j₁) (hD : CA 20 f_law_dip [.jar, .int ((4 : Nat) : Int)] j₁ (.int ((3 : Nat) : Int)) j₂)
    (hP : CA 60 f_law_expr [.jar] j₂ (toldV p) j₃) (hQ : CA 60 f_law_expr [.jar] j₃ (toldV q) j₄) (hV : CA 40 f_law_one [.jar, .lst [.none, toldV p, toldV q]] j₄ .none j₅) : CA 150 f_law_jump_right [.jar] j (.bool true) j₅ := by
  have z10 : (litC 10).length = 0 := by decide +kernel
  have z43 : (litC 43).length = 1 := by decide +kernel
  have z59 : (litC 59).length = 2 := by decide +kernel
  have z60 : (litC 60).length = 8 := by decide +kernel
  have z61 : (litC 61).length = 5 := by decide +kernel
  have z0 : (litC 0).length = 6 := by decide +kernel
  apply CA.of' (d := d_law_jump_right) (ρ := [(1, .jar)]) rfl rfl
  · show EXS 149 d_law_jump_right.body _ _ _
    unfold d_law_jump_right
    repeat' (first | (first | ((with_reducible show _ = _); exact rfl) | with_reducible apply EVS.cons | with_reducible exact EVS.nil | with_reducible apply EV.loc | with_reducible exact EV.str | with_reducible exact EV.int | with_reducible apply EV.add | with_reducible apply AddV.s | with_reducible exact AddV.i | with_reducible apply AddV.t | with_reducible apply EV.sub | with_reducible apply EV.call' | with_reducible apply EV.cmp | with_reducible apply EV.tup | with_reducible apply EV.isNone | with_reducible apply EV.ite' | with_reducible apply EVc.t | with_reducible apply EVc.f | exact IsB.t | exact IsB.f | with_reducible exact EV.none | with_reducible exact EV.bool | with_reducible exact EV.cel | with_reducible apply EV.bi | with_reducible apply EV.glob | with_reducible apply EV.and | with_reducible apply EV.or | with_reducible apply AN.step | with_reducible apply AN.one | with_reducible apply ANc.t | with_reducible exact ANc.f | with_reducible apply OR.step | with_reducible apply OR.one | with_reducible exact ORc.t | with_reducible apply ORc.f | with_reducible apply EV.not | with_reducible apply EV.lst | with_reducible apply EV.bin | with_reducible exact EV.neg | with_reducible apply EV.lev | with_reducible apply EV.joinS | with_reducible apply EV.comp | with_reducible apply CV.of' | with_reducible exact CL.nil | with_reducible apply CL.cons' | with_reducible apply EXS.cons | with_reducible exact EXS.nil | with_reducible apply EXc.next | with_reducible exact EXc.ret | with_reducible apply EX.ret | with_reducible apply EX.asg' | with_reducible exact SetTo.none | with_reducible apply SetTo.ne | with_reducible apply SetTo.eq | with_reducible apply SetAllTo.cons | with_reducible exact SetAllTo.nil | with_reducible apply BindTo.one | with_reducible apply BindTo.tup | with_reducible apply EX.ite' | with_reducible apply EXSc.t | with_reducible apply EXSc.f | with_reducible apply EX.app' | with_reducible apply EX.unp' | with_reducible apply EX.tasg' | with_reducible exact EX.own' | with_reducible apply EX.ownC' | with_reducible apply EX.tasgO0 | with_reducible apply EX.tasgO1 | with_reducible apply EX.setJ0 | with_reducible apply EX.setJ1 | with_reducible apply EX.whl | with_reducible apply WH.t | with_reducible exact WH.f | with_reducible apply EX.for | with_reducible exact FO.nil | with_reducible apply FO.cons' | with_reducible apply FOc.next | with_reducible exact FOc.ret | apply FO.cons' | exact FO.nil | apply CL.cons' | exact CL.nil) | exact hL.mono (by decide) | exact hD.mono (by decide) | exact hP.mono (by decide) | exact hQ.mono (by decide) | exact hV.mono (by decide) | exact (jmp_b00 _).mono (by decide))
    all_goals first | (apply le_by; (focus repeat' first | with_reducible apply app_le | with_reducible apply cons_le | with_reducible exact nil_le | with_reducible apply sum_cons_le | with_reducible exact sum_nil_le | with_reducible exact join_nil_le | with_reducible apply join_one_le | with_reducible apply join_cons_le | with_reducible apply Nat.add_le_add | with_reducible assumption | with_reducible exact Nat.le_of_eq (by assumption) | exact Nat.le_refl _); kernel_rfl!) | omega | (simp only [List.length_append]; omega)
  · exact beqV_of_eq rfl
  · rfl

theorem jr_0_1_0 {j j₁ j₂ j₃ j₄ j₅ : Int × Int} {p q : V × List Nat × List Nat × List Nat × List Nat} {r : V × List Nat × List Nat × List Nat × List Nat} (hr : r ∈ toldL) (hL : CA 40 f_law_one [.jar, .lst [.none, .str (litC 59)]] j .none j₁) (hD : CA 20 f_law_dip [.jar, .int ((4 : Nat) : Int)] j₁ (.int ((0 : Nat) : Int)) j₂)
    (hP : CA 60 f_law_expr [.jar] j₂ (toldV p) j₃) (hQ : CA 60 f_law_expr [.jar] j₃ (toldV q) j₄) (hV : CA 40 f_law_one [.jar, .lst [.none, toldV p, toldV q]] j₄ (toldV r) j₅) : CA 150 f_law_jump_right [.jar] j (.bool true) j₅ := by
  have z10 : (litC 10).length = 0 := by decide +kernel
  have z43 : (litC 43).length = 1 := by decide +kernel
  have z59 : (litC 59).length = 2 := by decide +kernel
  have z60 : (litC 60).length = 8 := by decide +kernel
  have z61 : (litC 61).length = 5 := by decide +kernel
  have z0 : (litC 0).length = 6 := by decide +kernel
  have hs := told_short r hr
  apply CA.of' (d := d_law_jump_right) (ρ := [(1, .jar)]) rfl rfl
  · show EXS 149 d_law_jump_right.body _ _ _
    unfold d_law_jump_right
    repeat' (first | (first | ((with_reducible show _ = _); exact rfl) | with_reducible apply EVS.cons | with_reducible exact EVS.nil | with_reducible apply EV.loc | with_reducible exact EV.str | with_reducible exact EV.int | with_reducible apply EV.add | with_reducible apply AddV.s | with_reducible exact AddV.i | with_reducible apply AddV.t | with_reducible apply EV.sub | with_reducible apply EV.call' | with_reducible apply EV.cmp | with_reducible apply EV.tup | with_reducible apply EV.isNone | with_reducible apply EV.ite' | with_reducible apply EVc.t | with_reducible apply EVc.f | exact IsB.t | exact IsB.f | with_reducible exact EV.none | with_reducible exact EV.bool | with_reducible exact EV.cel | with_reducible apply EV.bi | with_reducible apply EV.glob | with_reducible apply EV.and | with_reducible apply EV.or | with_reducible apply AN.step | with_reducible apply AN.one | with_reducible apply ANc.t | with_reducible exact ANc.f | with_reducible apply OR.step | with_reducible apply OR.one | with_reducible exact ORc.t | with_reducible apply ORc.f | with_reducible apply EV.not | with_reducible apply EV.lst | with_reducible apply EV.bin | with_reducible exact EV.neg | with_reducible apply EV.lev | with_reducible apply EV.joinS | with_reducible apply EV.comp | with_reducible apply CV.of' | with_reducible exact CL.nil | with_reducible apply CL.cons' | with_reducible apply EXS.cons | with_reducible exact EXS.nil | with_reducible apply EXc.next | with_reducible exact EXc.ret | with_reducible apply EX.ret | with_reducible apply EX.asg' | with_reducible exact SetTo.none | with_reducible apply SetTo.ne | with_reducible apply SetTo.eq | with_reducible apply SetAllTo.cons | with_reducible exact SetAllTo.nil | with_reducible apply BindTo.one | with_reducible apply BindTo.tup | with_reducible apply EX.ite' | with_reducible apply EXSc.t | with_reducible apply EXSc.f | with_reducible apply EX.app' | with_reducible apply EX.unp' | with_reducible apply EX.tasg' | with_reducible exact EX.own' | with_reducible apply EX.ownC' | with_reducible apply EX.tasgO0 | with_reducible apply EX.tasgO1 | with_reducible apply EX.setJ0 | with_reducible apply EX.setJ1 | with_reducible apply EX.whl | with_reducible apply WH.t | with_reducible exact WH.f | with_reducible apply EX.for | with_reducible exact FO.nil | with_reducible apply FO.cons' | with_reducible apply FOc.next | with_reducible exact FOc.ret | apply FO.cons' | exact FO.nil | apply CL.cons' | exact CL.nil) | exact hL.mono (by decide) | exact hD.mono (by decide) | exact hP.mono (by decide) | exact hQ.mono (by decide) | exact hV.mono (by decide) | exact (jmp_c0 _).mono (by decide))
    all_goals first | (apply le_by; (focus repeat' first | with_reducible apply app_le | with_reducible apply cons_le | with_reducible exact nil_le | with_reducible apply sum_cons_le | with_reducible exact sum_nil_le | with_reducible exact join_nil_le | with_reducible apply join_one_le | with_reducible apply join_cons_le | with_reducible apply Nat.add_le_add | with_reducible assumption | with_reducible exact Nat.le_of_eq (by assumption) | exact Nat.le_refl _); kernel_rfl!) | omega | (simp only [List.length_append]; omega)
  · exact beqV_of_eq rfl
  · rfl

theorem jr_0_1_1 {j j₁ j₂ j₃ j₄ j₅ : Int × Int} {p q : V × List Nat × List Nat × List Nat × List Nat} {r : V × List Nat × List Nat × List Nat × List Nat} (hr : r ∈ toldL) (hL : CA 40 f_law_one [.jar, .lst [.none, .str (litC 59)]] j .none j₁) (hD : CA 20 f_law_dip [.jar, .int ((4 : Nat) : Int)] j₁ (.int ((1 : Nat) : Int)) j₂)
    (hP : CA 60 f_law_expr [.jar] j₂ (toldV p) j₃) (hQ : CA 60 f_law_expr [.jar] j₃ (toldV q) j₄) (hV : CA 40 f_law_one [.jar, .lst [.none, toldV p, toldV q]] j₄ (toldV r) j₅) : CA 150 f_law_jump_right [.jar] j (.bool true) j₅ := by
  have z10 : (litC 10).length = 0 := by decide +kernel
  have z43 : (litC 43).length = 1 := by decide +kernel
  have z59 : (litC 59).length = 2 := by decide +kernel
  have z60 : (litC 60).length = 8 := by decide +kernel
  have z61 : (litC 61).length = 5 := by decide +kernel
  have z0 : (litC 0).length = 6 := by decide +kernel
  have hs := told_short r hr
  apply CA.of' (d := d_law_jump_right) (ρ := [(1, .jar)]) rfl rfl
  · show EXS 149 d_law_jump_right.body _ _ _
    unfold d_law_jump_right
    repeat' (first | (first | ((with_reducible show _ = _); exact rfl) | with_reducible apply EVS.cons | with_reducible exact EVS.nil | with_reducible apply EV.loc | with_reducible exact EV.str | with_reducible exact EV.int | with_reducible apply EV.add | with_reducible apply AddV.s | with_reducible exact AddV.i | with_reducible apply AddV.t | with_reducible apply EV.sub | with_reducible apply EV.call' | with_reducible apply EV.cmp | with_reducible apply EV.tup | with_reducible apply EV.isNone | with_reducible apply EV.ite' | with_reducible apply EVc.t | with_reducible apply EVc.f | exact IsB.t | exact IsB.f | with_reducible exact EV.none | with_reducible exact EV.bool | with_reducible exact EV.cel | with_reducible apply EV.bi | with_reducible apply EV.glob | with_reducible apply EV.and | with_reducible apply EV.or | with_reducible apply AN.step | with_reducible apply AN.one | with_reducible apply ANc.t | with_reducible exact ANc.f | with_reducible apply OR.step | with_reducible apply OR.one | with_reducible exact ORc.t | with_reducible apply ORc.f | with_reducible apply EV.not | with_reducible apply EV.lst | with_reducible apply EV.bin | with_reducible exact EV.neg | with_reducible apply EV.lev | with_reducible apply EV.joinS | with_reducible apply EV.comp | with_reducible apply CV.of' | with_reducible exact CL.nil | with_reducible apply CL.cons' | with_reducible apply EXS.cons | with_reducible exact EXS.nil | with_reducible apply EXc.next | with_reducible exact EXc.ret | with_reducible apply EX.ret | with_reducible apply EX.asg' | with_reducible exact SetTo.none | with_reducible apply SetTo.ne | with_reducible apply SetTo.eq | with_reducible apply SetAllTo.cons | with_reducible exact SetAllTo.nil | with_reducible apply BindTo.one | with_reducible apply BindTo.tup | with_reducible apply EX.ite' | with_reducible apply EXSc.t | with_reducible apply EXSc.f | with_reducible apply EX.app' | with_reducible apply EX.unp' | with_reducible apply EX.tasg' | with_reducible exact EX.own' | with_reducible apply EX.ownC' | with_reducible apply EX.tasgO0 | with_reducible apply EX.tasgO1 | with_reducible apply EX.setJ0 | with_reducible apply EX.setJ1 | with_reducible apply EX.whl | with_reducible apply WH.t | with_reducible exact WH.f | with_reducible apply EX.for | with_reducible exact FO.nil | with_reducible apply FO.cons' | with_reducible apply FOc.next | with_reducible exact FOc.ret | apply FO.cons' | exact FO.nil | apply CL.cons' | exact CL.nil) | exact hL.mono (by decide) | exact hD.mono (by decide) | exact hP.mono (by decide) | exact hQ.mono (by decide) | exact hV.mono (by decide) | exact (jmp_r1 r hr _).mono (by decide))
    all_goals first | (apply le_by; (focus repeat' first | with_reducible apply app_le | with_reducible apply cons_le | with_reducible exact nil_le | with_reducible apply sum_cons_le | with_reducible exact sum_nil_le | with_reducible exact join_nil_le | with_reducible apply join_one_le | with_reducible apply join_cons_le | with_reducible apply Nat.add_le_add | with_reducible assumption | with_reducible exact Nat.le_of_eq (by assumption) | exact Nat.le_refl _); kernel_rfl!) | omega | (simp only [List.length_append]; omega)
  · exact beqV_of_eq rfl
  · rfl

theorem jr_0_1_2 {j j₁ j₂ j₃ j₄ j₅ : Int × Int} {p q : V × List Nat × List Nat × List Nat × List Nat} {r : V × List Nat × List Nat × List Nat × List Nat} (hr : r ∈ toldL) (hL : CA 40 f_law_one [.jar, .lst [.none, .str (litC 59)]] j .none j₁) (hD : CA 20 f_law_dip [.jar, .int ((4 : Nat) : Int)] j₁ (.int ((2 : Nat) : Int)) j₂)
    (hP : CA 60 f_law_expr [.jar] j₂ (toldV p) j₃) (hQ : CA 60 f_law_expr [.jar] j₃ (toldV q) j₄) (hV : CA 40 f_law_one [.jar, .lst [.none, toldV p, toldV q]] j₄ (toldV r) j₅) : CA 150 f_law_jump_right [.jar] j (.bool true) j₅ := by
  have z10 : (litC 10).length = 0 := by decide +kernel
  have z43 : (litC 43).length = 1 := by decide +kernel
  have z59 : (litC 59).length = 2 := by decide +kernel
  have z60 : (litC 60).length = 8 := by decide +kernel
  have z61 : (litC 61).length = 5 := by decide +kernel
  have z0 : (litC 0).length = 6 := by decide +kernel
  have hs := told_short r hr
  apply CA.of' (d := d_law_jump_right) (ρ := [(1, .jar)]) rfl rfl
  · show EXS 149 d_law_jump_right.body _ _ _
    unfold d_law_jump_right
    repeat' (first | (first | ((with_reducible show _ = _); exact rfl) | with_reducible apply EVS.cons | with_reducible exact EVS.nil | with_reducible apply EV.loc | with_reducible exact EV.str | with_reducible exact EV.int | with_reducible apply EV.add | with_reducible apply AddV.s | with_reducible exact AddV.i | with_reducible apply AddV.t | with_reducible apply EV.sub | with_reducible apply EV.call' | with_reducible apply EV.cmp | with_reducible apply EV.tup | with_reducible apply EV.isNone | with_reducible apply EV.ite' | with_reducible apply EVc.t | with_reducible apply EVc.f | exact IsB.t | exact IsB.f | with_reducible exact EV.none | with_reducible exact EV.bool | with_reducible exact EV.cel | with_reducible apply EV.bi | with_reducible apply EV.glob | with_reducible apply EV.and | with_reducible apply EV.or | with_reducible apply AN.step | with_reducible apply AN.one | with_reducible apply ANc.t | with_reducible exact ANc.f | with_reducible apply OR.step | with_reducible apply OR.one | with_reducible exact ORc.t | with_reducible apply ORc.f | with_reducible apply EV.not | with_reducible apply EV.lst | with_reducible apply EV.bin | with_reducible exact EV.neg | with_reducible apply EV.lev | with_reducible apply EV.joinS | with_reducible apply EV.comp | with_reducible apply CV.of' | with_reducible exact CL.nil | with_reducible apply CL.cons' | with_reducible apply EXS.cons | with_reducible exact EXS.nil | with_reducible apply EXc.next | with_reducible exact EXc.ret | with_reducible apply EX.ret | with_reducible apply EX.asg' | with_reducible exact SetTo.none | with_reducible apply SetTo.ne | with_reducible apply SetTo.eq | with_reducible apply SetAllTo.cons | with_reducible exact SetAllTo.nil | with_reducible apply BindTo.one | with_reducible apply BindTo.tup | with_reducible apply EX.ite' | with_reducible apply EXSc.t | with_reducible apply EXSc.f | with_reducible apply EX.app' | with_reducible apply EX.unp' | with_reducible apply EX.tasg' | with_reducible exact EX.own' | with_reducible apply EX.ownC' | with_reducible apply EX.tasgO0 | with_reducible apply EX.tasgO1 | with_reducible apply EX.setJ0 | with_reducible apply EX.setJ1 | with_reducible apply EX.whl | with_reducible apply WH.t | with_reducible exact WH.f | with_reducible apply EX.for | with_reducible exact FO.nil | with_reducible apply FO.cons' | with_reducible apply FOc.next | with_reducible exact FOc.ret | apply FO.cons' | exact FO.nil | apply CL.cons' | exact CL.nil) | exact hL.mono (by decide) | exact hD.mono (by decide) | exact hP.mono (by decide) | exact hQ.mono (by decide) | exact hV.mono (by decide) | exact (jmp_b01 r hr _).mono (by decide))
    all_goals first | (apply le_by; (focus repeat' first | with_reducible apply app_le | with_reducible apply cons_le | with_reducible exact nil_le | with_reducible apply sum_cons_le | with_reducible exact sum_nil_le | with_reducible exact join_nil_le | with_reducible apply join_one_le | with_reducible apply join_cons_le | with_reducible apply Nat.add_le_add | with_reducible assumption | with_reducible exact Nat.le_of_eq (by assumption) | exact Nat.le_refl _); kernel_rfl!) | omega | (simp only [List.length_append]; omega)
  · exact beqV_of_eq rfl
  · rfl

theorem jr_0_1_3 {j j₁ j₂ j₃ j₄ j₅ : Int × Int} {p q : V × List Nat × List Nat × List Nat × List Nat} {r : V × List Nat × List Nat × List Nat × List Nat} (hr : r ∈ toldL) (hL : CA 40 f_law_one [.jar, .lst [.none, .str (litC 59)]] j .none j₁) (hD : CA 20 f_law_dip [.jar, .int ((4 : Nat) : Int)] j₁ (.int ((3 : Nat) : Int)) j₂)
    (hP : CA 60 f_law_expr [.jar] j₂ (toldV p) j₃) (hQ : CA 60 f_law_expr [.jar] j₃ (toldV q) j₄) (hV : CA 40 f_law_one [.jar, .lst [.none, toldV p, toldV q]] j₄ (toldV r) j₅) : CA 150 f_law_jump_right [.jar] j (.bool true) j₅ := by
  have z10 : (litC 10).length = 0 := by decide +kernel
  have z43 : (litC 43).length = 1 := by decide +kernel
  have z59 : (litC 59).length = 2 := by decide +kernel
  have z60 : (litC 60).length = 8 := by decide +kernel
  have z61 : (litC 61).length = 5 := by decide +kernel
  have z0 : (litC 0).length = 6 := by decide +kernel
  have hs := told_short r hr
  apply CA.of' (d := d_law_jump_right) (ρ := [(1, .jar)]) rfl rfl
  · show EXS 149 d_law_jump_right.body _ _ _
    unfold d_law_jump_right
    repeat' (first | (first | ((with_reducible show _ = _); exact rfl) | with_reducible apply EVS.cons | with_reducible exact EVS.nil | with_reducible apply EV.loc | with_reducible exact EV.str | with_reducible exact EV.int | with_reducible apply EV.add | with_reducible apply AddV.s | with_reducible exact AddV.i | with_reducible apply AddV.t | with_reducible apply EV.sub | with_reducible apply EV.call' | with_reducible apply EV.cmp | with_reducible apply EV.tup | with_reducible apply EV.isNone | with_reducible apply EV.ite' | with_reducible apply EVc.t | with_reducible apply EVc.f | exact IsB.t | exact IsB.f | with_reducible exact EV.none | with_reducible exact EV.bool | with_reducible exact EV.cel | with_reducible apply EV.bi | with_reducible apply EV.glob | with_reducible apply EV.and | with_reducible apply EV.or | with_reducible apply AN.step | with_reducible apply AN.one | with_reducible apply ANc.t | with_reducible exact ANc.f | with_reducible apply OR.step | with_reducible apply OR.one | with_reducible exact ORc.t | with_reducible apply ORc.f | with_reducible apply EV.not | with_reducible apply EV.lst | with_reducible apply EV.bin | with_reducible exact EV.neg | with_reducible apply EV.lev | with_reducible apply EV.joinS | with_reducible apply EV.comp | with_reducible apply CV.of' | with_reducible exact CL.nil | with_reducible apply CL.cons' | with_reducible apply EXS.cons | with_reducible exact EXS.nil | with_reducible apply EXc.next | with_reducible exact EXc.ret | with_reducible apply EX.ret | with_reducible apply EX.asg' | with_reducible exact SetTo.none | with_reducible apply SetTo.ne | with_reducible apply SetTo.eq | with_reducible apply SetAllTo.cons | with_reducible exact SetAllTo.nil | with_reducible apply BindTo.one | with_reducible apply BindTo.tup | with_reducible apply EX.ite' | with_reducible apply EXSc.t | with_reducible apply EXSc.f | with_reducible apply EX.app' | with_reducible apply EX.unp' | with_reducible apply EX.tasg' | with_reducible exact EX.own' | with_reducible apply EX.ownC' | with_reducible apply EX.tasgO0 | with_reducible apply EX.tasgO1 | with_reducible apply EX.setJ0 | with_reducible apply EX.setJ1 | with_reducible apply EX.whl | with_reducible apply WH.t | with_reducible exact WH.f | with_reducible apply EX.for | with_reducible exact FO.nil | with_reducible apply FO.cons' | with_reducible apply FOc.next | with_reducible exact FOc.ret | apply FO.cons' | exact FO.nil | apply CL.cons' | exact CL.nil) | exact hL.mono (by decide) | exact hD.mono (by decide) | exact hP.mono (by decide) | exact hQ.mono (by decide) | exact hV.mono (by decide) | exact (jmp_b01 r hr _).mono (by decide))
    all_goals first | (apply le_by; (focus repeat' first | with_reducible apply app_le | with_reducible apply cons_le | with_reducible exact nil_le | with_reducible apply sum_cons_le | with_reducible exact sum_nil_le | with_reducible exact join_nil_le | with_reducible apply join_one_le | with_reducible apply join_cons_le | with_reducible apply Nat.add_le_add | with_reducible assumption | with_reducible exact Nat.le_of_eq (by assumption) | exact Nat.le_refl _); kernel_rfl!) | omega | (simp only [List.length_append]; omega)
  · exact beqV_of_eq rfl
  · rfl

theorem jr_1_0_0 {j j₁ j₂ j₃ j₄ j₅ : Int × Int} {p q : V × List Nat × List Nat × List Nat × List Nat} (hL : CA 40 f_law_one [.jar, .lst [.none, .str (litC 59)]] j (.str (litC 59)) j₁) (hD : CA 20 f_law_dip [.jar, .int ((4 : Nat) : Int)] j₁ (.int ((0 : Nat) : Int)) j₂)
    (hP : CA 60 f_law_expr [.jar] j₂ (toldV p) j₃) (hQ : CA 60 f_law_expr [.jar] j₃ (toldV q) j₄) (hV : CA 40 f_law_one [.jar, .lst [.none, toldV p, toldV q]] j₄ .none j₅) : CA 150 f_law_jump_right [.jar] j (.bool true) j₅ := by
  have z10 : (litC 10).length = 0 := by decide +kernel
  have z43 : (litC 43).length = 1 := by decide +kernel
  have z59 : (litC 59).length = 2 := by decide +kernel
  have z60 : (litC 60).length = 8 := by decide +kernel
  have z61 : (litC 61).length = 5 := by decide +kernel
  have z0 : (litC 0).length = 6 := by decide +kernel
  apply CA.of' (d := d_law_jump_right) (ρ := [(1, .jar)]) rfl rfl
  · show EXS 149 d_law_jump_right.body _ _ _
    unfold d_law_jump_right
    repeat' (first | (first | ((with_reducible show _ = _); exact rfl) | with_reducible apply EVS.cons | with_reducible exact EVS.nil | with_reducible apply EV.loc | with_reducible exact EV.str | with_reducible exact EV.int | with_reducible apply EV.add | with_reducible apply AddV.s | with_reducible exact AddV.i | with_reducible apply AddV.t | with_reducible apply EV.sub | with_reducible apply EV.call' | with_reducible apply EV.cmp | with_reducible apply EV.tup | with_reducible apply EV.isNone | with_reducible apply EV.ite' | with_reducible apply EVc.t | with_reducible apply EVc.f | exact IsB.t | exact IsB.f | with_reducible exact EV.none | with_reducible exact EV.bool | with_reducible exact EV.cel | with_reducible apply EV.bi | with_reducible apply EV.glob | with_reducible apply EV.and | with_reducible apply EV.or | with_reducible apply AN.step | with_reducible apply AN.one | with_reducible apply ANc.t | with_reducible exact ANc.f | with_reducible apply OR.step | with_reducible apply OR.one | with_reducible exact ORc.t | with_reducible apply ORc.f | with_reducible apply EV.not | with_reducible apply EV.lst | with_reducible apply EV.bin | with_reducible exact EV.neg | with_reducible apply EV.lev | with_reducible apply EV.joinS | with_reducible apply EV.comp | with_reducible apply CV.of' | with_reducible exact CL.nil | with_reducible apply CL.cons' | with_reducible apply EXS.cons | with_reducible exact EXS.nil | with_reducible apply EXc.next | with_reducible exact EXc.ret | with_reducible apply EX.ret | with_reducible apply EX.asg' | with_reducible exact SetTo.none | with_reducible apply SetTo.ne | with_reducible apply SetTo.eq | with_reducible apply SetAllTo.cons | with_reducible exact SetAllTo.nil | with_reducible apply BindTo.one | with_reducible apply BindTo.tup | with_reducible apply EX.ite' | with_reducible apply EXSc.t | with_reducible apply EXSc.f | with_reducible apply EX.app' | with_reducible apply EX.unp' | with_reducible apply EX.tasg' | with_reducible exact EX.own' | with_reducible apply EX.ownC' | with_reducible apply EX.tasgO0 | with_reducible apply EX.tasgO1 | with_reducible apply EX.setJ0 | with_reducible apply EX.setJ1 | with_reducible apply EX.whl | with_reducible apply WH.t | with_reducible exact WH.f | with_reducible apply EX.for | with_reducible exact FO.nil | with_reducible apply FO.cons' | with_reducible apply FOc.next | with_reducible exact FOc.ret | apply FO.cons' | exact FO.nil | apply CL.cons' | exact CL.nil) | exact hL.mono (by decide) | exact hD.mono (by decide) | exact hP.mono (by decide) | exact hQ.mono (by decide) | exact hV.mono (by decide) | exact (jmp_c1 _).mono (by decide))
    all_goals first | (apply le_by; (focus repeat' first | with_reducible apply app_le | with_reducible apply cons_le | with_reducible exact nil_le | with_reducible apply sum_cons_le | with_reducible exact sum_nil_le | with_reducible exact join_nil_le | with_reducible apply join_one_le | with_reducible apply join_cons_le | with_reducible apply Nat.add_le_add | with_reducible assumption | with_reducible exact Nat.le_of_eq (by assumption) | exact Nat.le_refl _); kernel_rfl!) | omega | (simp only [List.length_append]; omega)
  · exact beqV_of_eq rfl
  · rfl

theorem jr_1_0_1 {j j₁ j₂ j₃ j₄ j₅ : Int × Int} {p q : V × List Nat × List Nat × List Nat × List Nat} (hL : CA 40 f_law_one [.jar, .lst [.none, .str (litC 59)]] j (.str (litC 59)) j₁) (hD : CA 20 f_law_dip [.jar, .int ((4 : Nat) : Int)] j₁ (.int ((1 : Nat) : Int)) j₂)
    (hP : CA 60 f_law_expr [.jar] j₂ (toldV p) j₃) (hQ : CA 60 f_law_expr [.jar] j₃ (toldV q) j₄) (hV : CA 40 f_law_one [.jar, .lst [.none, toldV p, toldV q]] j₄ .none j₅) : CA 150 f_law_jump_right [.jar] j (.bool true) j₅ := by
  have z10 : (litC 10).length = 0 := by decide +kernel
  have z43 : (litC 43).length = 1 := by decide +kernel
  have z59 : (litC 59).length = 2 := by decide +kernel
  have z60 : (litC 60).length = 8 := by decide +kernel
  have z61 : (litC 61).length = 5 := by decide +kernel
  have z0 : (litC 0).length = 6 := by decide +kernel
  apply CA.of' (d := d_law_jump_right) (ρ := [(1, .jar)]) rfl rfl
  · show EXS 149 d_law_jump_right.body _ _ _
    unfold d_law_jump_right
    repeat' (first | (first | ((with_reducible show _ = _); exact rfl) | with_reducible apply EVS.cons | with_reducible exact EVS.nil | with_reducible apply EV.loc | with_reducible exact EV.str | with_reducible exact EV.int | with_reducible apply EV.add | with_reducible apply AddV.s | with_reducible exact AddV.i | with_reducible apply AddV.t | with_reducible apply EV.sub | with_reducible apply EV.call' | with_reducible apply EV.cmp | with_reducible apply EV.tup | with_reducible apply EV.isNone | with_reducible apply EV.ite' | with_reducible apply EVc.t | with_reducible apply EVc.f | exact IsB.t | exact IsB.f | with_reducible exact EV.none | with_reducible exact EV.bool | with_reducible exact EV.cel | with_reducible apply EV.bi | with_reducible apply EV.glob | with_reducible apply EV.and | with_reducible apply EV.or | with_reducible apply AN.step | with_reducible apply AN.one | with_reducible apply ANc.t | with_reducible exact ANc.f | with_reducible apply OR.step | with_reducible apply OR.one | with_reducible exact ORc.t | with_reducible apply ORc.f | with_reducible apply EV.not | with_reducible apply EV.lst | with_reducible apply EV.bin | with_reducible exact EV.neg | with_reducible apply EV.lev | with_reducible apply EV.joinS | with_reducible apply EV.comp | with_reducible apply CV.of' | with_reducible exact CL.nil | with_reducible apply CL.cons' | with_reducible apply EXS.cons | with_reducible exact EXS.nil | with_reducible apply EXc.next | with_reducible exact EXc.ret | with_reducible apply EX.ret | with_reducible apply EX.asg' | with_reducible exact SetTo.none | with_reducible apply SetTo.ne | with_reducible apply SetTo.eq | with_reducible apply SetAllTo.cons | with_reducible exact SetAllTo.nil | with_reducible apply BindTo.one | with_reducible apply BindTo.tup | with_reducible apply EX.ite' | with_reducible apply EXSc.t | with_reducible apply EXSc.f | with_reducible apply EX.app' | with_reducible apply EX.unp' | with_reducible apply EX.tasg' | with_reducible exact EX.own' | with_reducible apply EX.ownC' | with_reducible apply EX.tasgO0 | with_reducible apply EX.tasgO1 | with_reducible apply EX.setJ0 | with_reducible apply EX.setJ1 | with_reducible apply EX.whl | with_reducible apply WH.t | with_reducible exact WH.f | with_reducible apply EX.for | with_reducible exact FO.nil | with_reducible apply FO.cons' | with_reducible apply FOc.next | with_reducible exact FOc.ret | apply FO.cons' | exact FO.nil | apply CL.cons' | exact CL.nil) | exact hL.mono (by decide) | exact hD.mono (by decide) | exact hP.mono (by decide) | exact hQ.mono (by decide) | exact hV.mono (by decide) | exact (jmp_r0 _).mono (by decide))
    all_goals first | (apply le_by; (focus repeat' first | with_reducible apply app_le | with_reducible apply cons_le | with_reducible exact nil_le | with_reducible apply sum_cons_le | with_reducible exact sum_nil_le | with_reducible exact join_nil_le | with_reducible apply join_one_le | with_reducible apply join_cons_le | with_reducible apply Nat.add_le_add | with_reducible assumption | with_reducible exact Nat.le_of_eq (by assumption) | exact Nat.le_refl _); kernel_rfl!) | omega | (simp only [List.length_append]; omega)
  · exact beqV_of_eq rfl
  · rfl

theorem jr_1_0_2 {j j₁ j₂ j₃ j₄ j₅ : Int × Int} {p q : V × List Nat × List Nat × List Nat × List Nat} (hL : CA 40 f_law_one [.jar, .lst [.none, .str (litC 59)]] j (.str (litC 59)) j₁) (hD : CA 20 f_law_dip [.jar, .int ((4 : Nat) : Int)] j₁ (.int ((2 : Nat) : Int)) j₂)
    (hP : CA 60 f_law_expr [.jar] j₂ (toldV p) j₃) (hQ : CA 60 f_law_expr [.jar] j₃ (toldV q) j₄) (hV : CA 40 f_law_one [.jar, .lst [.none, toldV p, toldV q]] j₄ .none j₅) : CA 150 f_law_jump_right [.jar] j (.bool true) j₅ := by
  have z10 : (litC 10).length = 0 := by decide +kernel
  have z43 : (litC 43).length = 1 := by decide +kernel
  have z59 : (litC 59).length = 2 := by decide +kernel
  have z60 : (litC 60).length = 8 := by decide +kernel
  have z61 : (litC 61).length = 5 := by decide +kernel
  have z0 : (litC 0).length = 6 := by decide +kernel
  apply CA.of' (d := d_law_jump_right) (ρ := [(1, .jar)]) rfl rfl
  · show EXS 149 d_law_jump_right.body _ _ _
    unfold d_law_jump_right
    repeat' (first | (first | ((with_reducible show _ = _); exact rfl) | with_reducible apply EVS.cons | with_reducible exact EVS.nil | with_reducible apply EV.loc | with_reducible exact EV.str | with_reducible exact EV.int | with_reducible apply EV.add | with_reducible apply AddV.s | with_reducible exact AddV.i | with_reducible apply AddV.t | with_reducible apply EV.sub | with_reducible apply EV.call' | with_reducible apply EV.cmp | with_reducible apply EV.tup | with_reducible apply EV.isNone | with_reducible apply EV.ite' | with_reducible apply EVc.t | with_reducible apply EVc.f | exact IsB.t | exact IsB.f | with_reducible exact EV.none | with_reducible exact EV.bool | with_reducible exact EV.cel | with_reducible apply EV.bi | with_reducible apply EV.glob | with_reducible apply EV.and | with_reducible apply EV.or | with_reducible apply AN.step | with_reducible apply AN.one | with_reducible apply ANc.t | with_reducible exact ANc.f | with_reducible apply OR.step | with_reducible apply OR.one | with_reducible exact ORc.t | with_reducible apply ORc.f | with_reducible apply EV.not | with_reducible apply EV.lst | with_reducible apply EV.bin | with_reducible exact EV.neg | with_reducible apply EV.lev | with_reducible apply EV.joinS | with_reducible apply EV.comp | with_reducible apply CV.of' | with_reducible exact CL.nil | with_reducible apply CL.cons' | with_reducible apply EXS.cons | with_reducible exact EXS.nil | with_reducible apply EXc.next | with_reducible exact EXc.ret | with_reducible apply EX.ret | with_reducible apply EX.asg' | with_reducible exact SetTo.none | with_reducible apply SetTo.ne | with_reducible apply SetTo.eq | with_reducible apply SetAllTo.cons | with_reducible exact SetAllTo.nil | with_reducible apply BindTo.one | with_reducible apply BindTo.tup | with_reducible apply EX.ite' | with_reducible apply EXSc.t | with_reducible apply EXSc.f | with_reducible apply EX.app' | with_reducible apply EX.unp' | with_reducible apply EX.tasg' | with_reducible exact EX.own' | with_reducible apply EX.ownC' | with_reducible apply EX.tasgO0 | with_reducible apply EX.tasgO1 | with_reducible apply EX.setJ0 | with_reducible apply EX.setJ1 | with_reducible apply EX.whl | with_reducible apply WH.t | with_reducible exact WH.f | with_reducible apply EX.for | with_reducible exact FO.nil | with_reducible apply FO.cons' | with_reducible apply FOc.next | with_reducible exact FOc.ret | apply FO.cons' | exact FO.nil | apply CL.cons' | exact CL.nil) | exact hL.mono (by decide) | exact hD.mono (by decide) | exact hP.mono (by decide) | exact hQ.mono (by decide) | exact hV.mono (by decide) | exact (jmp_b10 _).mono (by decide))
    all_goals first | (apply le_by; (focus repeat' first | with_reducible apply app_le | with_reducible apply cons_le | with_reducible exact nil_le | with_reducible apply sum_cons_le | with_reducible exact sum_nil_le | with_reducible exact join_nil_le | with_reducible apply join_one_le | with_reducible apply join_cons_le | with_reducible apply Nat.add_le_add | with_reducible assumption | with_reducible exact Nat.le_of_eq (by assumption) | exact Nat.le_refl _); kernel_rfl!) | omega | (simp only [List.length_append]; omega)
  · exact beqV_of_eq rfl
  · rfl

theorem jr_1_0_3 {j j₁ j₂ j₃ j₄ j₅ : Int × Int} {p q : V × List Nat × List Nat × List Nat × List Nat} (hL : CA 40 f_law_one [.jar, .lst [.none, .str (litC 59)]] j (.str (litC 59)) j₁) (hD : CA 20 f_law_dip [.jar, .int ((4 : Nat) : Int)] j₁ (.int ((3 : Nat) : Int)) j₂)
    (hP : CA 60 f_law_expr [.jar] j₂ (toldV p) j₃) (hQ : CA 60 f_law_expr [.jar] j₃ (toldV q) j₄) (hV : CA 40 f_law_one [.jar, .lst [.none, toldV p, toldV q]] j₄ .none j₅) : CA 150 f_law_jump_right [.jar] j (.bool true) j₅ := by
  have z10 : (litC 10).length = 0 := by decide +kernel
  have z43 : (litC 43).length = 1 := by decide +kernel
  have z59 : (litC 59).length = 2 := by decide +kernel
  have z60 : (litC 60).length = 8 := by decide +kernel
  have z61 : (litC 61).length = 5 := by decide +kernel
  have z0 : (litC 0).length = 6 := by decide +kernel
  apply CA.of' (d := d_law_jump_right) (ρ := [(1, .jar)]) rfl rfl
  · show EXS 149 d_law_jump_right.body _ _ _
    unfold d_law_jump_right
    repeat' (first | (first | ((with_reducible show _ = _); exact rfl) | with_reducible apply EVS.cons | with_reducible exact EVS.nil | with_reducible apply EV.loc | with_reducible exact EV.str | with_reducible exact EV.int | with_reducible apply EV.add | with_reducible apply AddV.s | with_reducible exact AddV.i | with_reducible apply AddV.t | with_reducible apply EV.sub | with_reducible apply EV.call' | with_reducible apply EV.cmp | with_reducible apply EV.tup | with_reducible apply EV.isNone | with_reducible apply EV.ite' | with_reducible apply EVc.t | with_reducible apply EVc.f | exact IsB.t | exact IsB.f | with_reducible exact EV.none | with_reducible exact EV.bool | with_reducible exact EV.cel | with_reducible apply EV.bi | with_reducible apply EV.glob | with_reducible apply EV.and | with_reducible apply EV.or | with_reducible apply AN.step | with_reducible apply AN.one | with_reducible apply ANc.t | with_reducible exact ANc.f | with_reducible apply OR.step | with_reducible apply OR.one | with_reducible exact ORc.t | with_reducible apply ORc.f | with_reducible apply EV.not | with_reducible apply EV.lst | with_reducible apply EV.bin | with_reducible exact EV.neg | with_reducible apply EV.lev | with_reducible apply EV.joinS | with_reducible apply EV.comp | with_reducible apply CV.of' | with_reducible exact CL.nil | with_reducible apply CL.cons' | with_reducible apply EXS.cons | with_reducible exact EXS.nil | with_reducible apply EXc.next | with_reducible exact EXc.ret | with_reducible apply EX.ret | with_reducible apply EX.asg' | with_reducible exact SetTo.none | with_reducible apply SetTo.ne | with_reducible apply SetTo.eq | with_reducible apply SetAllTo.cons | with_reducible exact SetAllTo.nil | with_reducible apply BindTo.one | with_reducible apply BindTo.tup | with_reducible apply EX.ite' | with_reducible apply EXSc.t | with_reducible apply EXSc.f | with_reducible apply EX.app' | with_reducible apply EX.unp' | with_reducible apply EX.tasg' | with_reducible exact EX.own' | with_reducible apply EX.ownC' | with_reducible apply EX.tasgO0 | with_reducible apply EX.tasgO1 | with_reducible apply EX.setJ0 | with_reducible apply EX.setJ1 | with_reducible apply EX.whl | with_reducible apply WH.t | with_reducible exact WH.f | with_reducible apply EX.for | with_reducible exact FO.nil | with_reducible apply FO.cons' | with_reducible apply FOc.next | with_reducible exact FOc.ret | apply FO.cons' | exact FO.nil | apply CL.cons' | exact CL.nil) | exact hL.mono (by decide) | exact hD.mono (by decide) | exact hP.mono (by decide) | exact hQ.mono (by decide) | exact hV.mono (by decide) | exact (jmp_b10 _).mono (by decide))
    all_goals first | (apply le_by; (focus repeat' first | with_reducible apply app_le | with_reducible apply cons_le | with_reducible exact nil_le | with_reducible apply sum_cons_le | with_reducible exact sum_nil_le | with_reducible exact join_nil_le | with_reducible apply join_one_le | with_reducible apply join_cons_le | with_reducible apply Nat.add_le_add | with_reducible assumption | with_reducible exact Nat.le_of_eq (by assumption) | exact Nat.le_refl _); kernel_rfl!) | omega | (simp only [List.length_append]; omega)
  · exact beqV_of_eq rfl
  · rfl

theorem jr_1_1_0 {j j₁ j₂ j₃ j₄ j₅ : Int × Int} {p q : V × List Nat × List Nat × List Nat × List Nat} {r : V × List Nat × List Nat × List Nat × List Nat} (hr : r ∈ toldL) (hL : CA 40 f_law_one [.jar, .lst [.none, .str (litC 59)]] j (.str (litC 59)) j₁) (hD : CA 20 f_law_dip [.jar, .int ((4 : Nat) : Int)] j₁ (.int ((0 : Nat) : Int)) j₂)
    (hP : CA 60 f_law_expr [.jar] j₂ (toldV p) j₃) (hQ : CA 60 f_law_expr [.jar] j₃ (toldV q) j₄) (hV : CA 40 f_law_one [.jar, .lst [.none, toldV p, toldV q]] j₄ (toldV r) j₅) : CA 150 f_law_jump_right [.jar] j (.bool true) j₅ := by
  have z10 : (litC 10).length = 0 := by decide +kernel
  have z43 : (litC 43).length = 1 := by decide +kernel
  have z59 : (litC 59).length = 2 := by decide +kernel
  have z60 : (litC 60).length = 8 := by decide +kernel
  have z61 : (litC 61).length = 5 := by decide +kernel
  have z0 : (litC 0).length = 6 := by decide +kernel
  have hs := told_short r hr
  apply CA.of' (d := d_law_jump_right) (ρ := [(1, .jar)]) rfl rfl
  · show EXS 149 d_law_jump_right.body _ _ _
    unfold d_law_jump_right
    repeat' (first | (first | ((with_reducible show _ = _); exact rfl) | with_reducible apply EVS.cons | with_reducible exact EVS.nil | with_reducible apply EV.loc | with_reducible exact EV.str | with_reducible exact EV.int | with_reducible apply EV.add | with_reducible apply AddV.s | with_reducible exact AddV.i | with_reducible apply AddV.t | with_reducible apply EV.sub | with_reducible apply EV.call' | with_reducible apply EV.cmp | with_reducible apply EV.tup | with_reducible apply EV.isNone | with_reducible apply EV.ite' | with_reducible apply EVc.t | with_reducible apply EVc.f | exact IsB.t | exact IsB.f | with_reducible exact EV.none | with_reducible exact EV.bool | with_reducible exact EV.cel | with_reducible apply EV.bi | with_reducible apply EV.glob | with_reducible apply EV.and | with_reducible apply EV.or | with_reducible apply AN.step | with_reducible apply AN.one | with_reducible apply ANc.t | with_reducible exact ANc.f | with_reducible apply OR.step | with_reducible apply OR.one | with_reducible exact ORc.t | with_reducible apply ORc.f | with_reducible apply EV.not | with_reducible apply EV.lst | with_reducible apply EV.bin | with_reducible exact EV.neg | with_reducible apply EV.lev | with_reducible apply EV.joinS | with_reducible apply EV.comp | with_reducible apply CV.of' | with_reducible exact CL.nil | with_reducible apply CL.cons' | with_reducible apply EXS.cons | with_reducible exact EXS.nil | with_reducible apply EXc.next | with_reducible exact EXc.ret | with_reducible apply EX.ret | with_reducible apply EX.asg' | with_reducible exact SetTo.none | with_reducible apply SetTo.ne | with_reducible apply SetTo.eq | with_reducible apply SetAllTo.cons | with_reducible exact SetAllTo.nil | with_reducible apply BindTo.one | with_reducible apply BindTo.tup | with_reducible apply EX.ite' | with_reducible apply EXSc.t | with_reducible apply EXSc.f | with_reducible apply EX.app' | with_reducible apply EX.unp' | with_reducible apply EX.tasg' | with_reducible exact EX.own' | with_reducible apply EX.ownC' | with_reducible apply EX.tasgO0 | with_reducible apply EX.tasgO1 | with_reducible apply EX.setJ0 | with_reducible apply EX.setJ1 | with_reducible apply EX.whl | with_reducible apply WH.t | with_reducible exact WH.f | with_reducible apply EX.for | with_reducible exact FO.nil | with_reducible apply FO.cons' | with_reducible apply FOc.next | with_reducible exact FOc.ret | apply FO.cons' | exact FO.nil | apply CL.cons' | exact CL.nil) | exact hL.mono (by decide) | exact hD.mono (by decide) | exact hP.mono (by decide) | exact hQ.mono (by decide) | exact hV.mono (by decide) | exact (jmp_c1 _).mono (by decide))
    all_goals first | (apply le_by; (focus repeat' first | with_reducible apply app_le | with_reducible apply cons_le | with_reducible exact nil_le | with_reducible apply sum_cons_le | with_reducible exact sum_nil_le | with_reducible exact join_nil_le | with_reducible apply join_one_le | with_reducible apply join_cons_le | with_reducible apply Nat.add_le_add | with_reducible assumption | with_reducible exact Nat.le_of_eq (by assumption) | exact Nat.le_refl _); kernel_rfl!) | omega | (simp only [List.length_append]; omega)
  · exact beqV_of_eq rfl
  · rfl

theorem jr_1_1_1 {j j₁ j₂ j₃ j₄ j₅ : Int × Int} {p q : V × List Nat × List Nat × List Nat × List Nat} {r : V × List Nat × List Nat × List Nat × List Nat} (hr : r ∈ toldL) (hL : CA 40 f_law_one [.jar, .lst [.none, .str (litC 59)]] j (.str (litC 59)) j₁) (hD : CA 20 f_law_dip [.jar, .int ((4 : Nat) : Int)] j₁ (.int ((1 : Nat) : Int)) j₂)
    (hP : CA 60 f_law_expr [.jar] j₂ (toldV p) j₃) (hQ : CA 60 f_law_expr [.jar] j₃ (toldV q) j₄) (hV : CA 40 f_law_one [.jar, .lst [.none, toldV p, toldV q]] j₄ (toldV r) j₅) : CA 150 f_law_jump_right [.jar] j (.bool true) j₅ := by
  have z10 : (litC 10).length = 0 := by decide +kernel
  have z43 : (litC 43).length = 1 := by decide +kernel
  have z59 : (litC 59).length = 2 := by decide +kernel
  have z60 : (litC 60).length = 8 := by decide +kernel
  have z61 : (litC 61).length = 5 := by decide +kernel
  have z0 : (litC 0).length = 6 := by decide +kernel
  have hs := told_short r hr
  apply CA.of' (d := d_law_jump_right) (ρ := [(1, .jar)]) rfl rfl
  · show EXS 149 d_law_jump_right.body _ _ _
    unfold d_law_jump_right
    repeat' (first | (first | ((with_reducible show _ = _); exact rfl) | with_reducible apply EVS.cons | with_reducible exact EVS.nil | with_reducible apply EV.loc | with_reducible exact EV.str | with_reducible exact EV.int | with_reducible apply EV.add | with_reducible apply AddV.s | with_reducible exact AddV.i | with_reducible apply AddV.t | with_reducible apply EV.sub | with_reducible apply EV.call' | with_reducible apply EV.cmp | with_reducible apply EV.tup | with_reducible apply EV.isNone | with_reducible apply EV.ite' | with_reducible apply EVc.t | with_reducible apply EVc.f | exact IsB.t | exact IsB.f | with_reducible exact EV.none | with_reducible exact EV.bool | with_reducible exact EV.cel | with_reducible apply EV.bi | with_reducible apply EV.glob | with_reducible apply EV.and | with_reducible apply EV.or | with_reducible apply AN.step | with_reducible apply AN.one | with_reducible apply ANc.t | with_reducible exact ANc.f | with_reducible apply OR.step | with_reducible apply OR.one | with_reducible exact ORc.t | with_reducible apply ORc.f | with_reducible apply EV.not | with_reducible apply EV.lst | with_reducible apply EV.bin | with_reducible exact EV.neg | with_reducible apply EV.lev | with_reducible apply EV.joinS | with_reducible apply EV.comp | with_reducible apply CV.of' | with_reducible exact CL.nil | with_reducible apply CL.cons' | with_reducible apply EXS.cons | with_reducible exact EXS.nil | with_reducible apply EXc.next | with_reducible exact EXc.ret | with_reducible apply EX.ret | with_reducible apply EX.asg' | with_reducible exact SetTo.none | with_reducible apply SetTo.ne | with_reducible apply SetTo.eq | with_reducible apply SetAllTo.cons | with_reducible exact SetAllTo.nil | with_reducible apply BindTo.one | with_reducible apply BindTo.tup | with_reducible apply EX.ite' | with_reducible apply EXSc.t | with_reducible apply EXSc.f | with_reducible apply EX.app' | with_reducible apply EX.unp' | with_reducible apply EX.tasg' | with_reducible exact EX.own' | with_reducible apply EX.ownC' | with_reducible apply EX.tasgO0 | with_reducible apply EX.tasgO1 | with_reducible apply EX.setJ0 | with_reducible apply EX.setJ1 | with_reducible apply EX.whl | with_reducible apply WH.t | with_reducible exact WH.f | with_reducible apply EX.for | with_reducible exact FO.nil | with_reducible apply FO.cons' | with_reducible apply FOc.next | with_reducible exact FOc.ret | apply FO.cons' | exact FO.nil | apply CL.cons' | exact CL.nil) | exact hL.mono (by decide) | exact hD.mono (by decide) | exact hP.mono (by decide) | exact hQ.mono (by decide) | exact hV.mono (by decide) | exact (jmp_r1 r hr _).mono (by decide))
    all_goals first | (apply le_by; (focus repeat' first | with_reducible apply app_le | with_reducible apply cons_le | with_reducible exact nil_le | with_reducible apply sum_cons_le | with_reducible exact sum_nil_le | with_reducible exact join_nil_le | with_reducible apply join_one_le | with_reducible apply join_cons_le | with_reducible apply Nat.add_le_add | with_reducible assumption | with_reducible exact Nat.le_of_eq (by assumption) | exact Nat.le_refl _); kernel_rfl!) | omega | (simp only [List.length_append]; omega)
  · exact beqV_of_eq rfl
  · rfl

theorem jr_1_1_2 {j j₁ j₂ j₃ j₄ j₅ : Int × Int} {p q : V × List Nat × List Nat × List Nat × List Nat} {r : V × List Nat × List Nat × List Nat × List Nat} (hr : r ∈ toldL) (hL : CA 40 f_law_one [.jar, .lst [.none, .str (litC 59)]] j (.str (litC 59)) j₁) (hD : CA 20 f_law_dip [.jar, .int ((4 : Nat) : Int)] j₁ (.int ((2 : Nat) : Int)) j₂)
    (hP : CA 60 f_law_expr [.jar] j₂ (toldV p) j₃) (hQ : CA 60 f_law_expr [.jar] j₃ (toldV q) j₄) (hV : CA 40 f_law_one [.jar, .lst [.none, toldV p, toldV q]] j₄ (toldV r) j₅) : CA 150 f_law_jump_right [.jar] j (.bool true) j₅ := by
  have z10 : (litC 10).length = 0 := by decide +kernel
  have z43 : (litC 43).length = 1 := by decide +kernel
  have z59 : (litC 59).length = 2 := by decide +kernel
  have z60 : (litC 60).length = 8 := by decide +kernel
  have z61 : (litC 61).length = 5 := by decide +kernel
  have z0 : (litC 0).length = 6 := by decide +kernel
  have hs := told_short r hr
  apply CA.of' (d := d_law_jump_right) (ρ := [(1, .jar)]) rfl rfl
  · show EXS 149 d_law_jump_right.body _ _ _
    unfold d_law_jump_right
    repeat' (first | (first | ((with_reducible show _ = _); exact rfl) | with_reducible apply EVS.cons | with_reducible exact EVS.nil | with_reducible apply EV.loc | with_reducible exact EV.str | with_reducible exact EV.int | with_reducible apply EV.add | with_reducible apply AddV.s | with_reducible exact AddV.i | with_reducible apply AddV.t | with_reducible apply EV.sub | with_reducible apply EV.call' | with_reducible apply EV.cmp | with_reducible apply EV.tup | with_reducible apply EV.isNone | with_reducible apply EV.ite' | with_reducible apply EVc.t | with_reducible apply EVc.f | exact IsB.t | exact IsB.f | with_reducible exact EV.none | with_reducible exact EV.bool | with_reducible exact EV.cel | with_reducible apply EV.bi | with_reducible apply EV.glob | with_reducible apply EV.and | with_reducible apply EV.or | with_reducible apply AN.step | with_reducible apply AN.one | with_reducible apply ANc.t | with_reducible exact ANc.f | with_reducible apply OR.step | with_reducible apply OR.one | with_reducible exact ORc.t | with_reducible apply ORc.f | with_reducible apply EV.not | with_reducible apply EV.lst | with_reducible apply EV.bin | with_reducible exact EV.neg | with_reducible apply EV.lev | with_reducible apply EV.joinS | with_reducible apply EV.comp | with_reducible apply CV.of' | with_reducible exact CL.nil | with_reducible apply CL.cons' | with_reducible apply EXS.cons | with_reducible exact EXS.nil | with_reducible apply EXc.next | with_reducible exact EXc.ret | with_reducible apply EX.ret | with_reducible apply EX.asg' | with_reducible exact SetTo.none | with_reducible apply SetTo.ne | with_reducible apply SetTo.eq | with_reducible apply SetAllTo.cons | with_reducible exact SetAllTo.nil | with_reducible apply BindTo.one | with_reducible apply BindTo.tup | with_reducible apply EX.ite' | with_reducible apply EXSc.t | with_reducible apply EXSc.f | with_reducible apply EX.app' | with_reducible apply EX.unp' | with_reducible apply EX.tasg' | with_reducible exact EX.own' | with_reducible apply EX.ownC' | with_reducible apply EX.tasgO0 | with_reducible apply EX.tasgO1 | with_reducible apply EX.setJ0 | with_reducible apply EX.setJ1 | with_reducible apply EX.whl | with_reducible apply WH.t | with_reducible exact WH.f | with_reducible apply EX.for | with_reducible exact FO.nil | with_reducible apply FO.cons' | with_reducible apply FOc.next | with_reducible exact FOc.ret | apply FO.cons' | exact FO.nil | apply CL.cons' | exact CL.nil) | exact hL.mono (by decide) | exact hD.mono (by decide) | exact hP.mono (by decide) | exact hQ.mono (by decide) | exact hV.mono (by decide) | exact (jmp_b11 r hr _).mono (by decide))
    all_goals first | (apply le_by; (focus repeat' first | with_reducible apply app_le | with_reducible apply cons_le | with_reducible exact nil_le | with_reducible apply sum_cons_le | with_reducible exact sum_nil_le | with_reducible exact join_nil_le | with_reducible apply join_one_le | with_reducible apply join_cons_le | with_reducible apply Nat.add_le_add | with_reducible assumption | with_reducible exact Nat.le_of_eq (by assumption) | exact Nat.le_refl _); kernel_rfl!) | omega | (simp only [List.length_append]; omega)
  · exact beqV_of_eq rfl
  · rfl

theorem jr_1_1_3 {j j₁ j₂ j₃ j₄ j₅ : Int × Int} {p q : V × List Nat × List Nat × List Nat × List Nat} {r : V × List Nat × List Nat × List Nat × List Nat} (hr : r ∈ toldL) (hL : CA 40 f_law_one [.jar, .lst [.none, .str (litC 59)]] j (.str (litC 59)) j₁) (hD : CA 20 f_law_dip [.jar, .int ((4 : Nat) : Int)] j₁ (.int ((3 : Nat) : Int)) j₂)
    (hP : CA 60 f_law_expr [.jar] j₂ (toldV p) j₃) (hQ : CA 60 f_law_expr [.jar] j₃ (toldV q) j₄) (hV : CA 40 f_law_one [.jar, .lst [.none, toldV p, toldV q]] j₄ (toldV r) j₅) : CA 150 f_law_jump_right [.jar] j (.bool true) j₅ := by
  have z10 : (litC 10).length = 0 := by decide +kernel
  have z43 : (litC 43).length = 1 := by decide +kernel
  have z59 : (litC 59).length = 2 := by decide +kernel
  have z60 : (litC 60).length = 8 := by decide +kernel
  have z61 : (litC 61).length = 5 := by decide +kernel
  have z0 : (litC 0).length = 6 := by decide +kernel
  have hs := told_short r hr
  apply CA.of' (d := d_law_jump_right) (ρ := [(1, .jar)]) rfl rfl
  · show EXS 149 d_law_jump_right.body _ _ _
    unfold d_law_jump_right
    repeat' (first | (first | ((with_reducible show _ = _); exact rfl) | with_reducible apply EVS.cons | with_reducible exact EVS.nil | with_reducible apply EV.loc | with_reducible exact EV.str | with_reducible exact EV.int | with_reducible apply EV.add | with_reducible apply AddV.s | with_reducible exact AddV.i | with_reducible apply AddV.t | with_reducible apply EV.sub | with_reducible apply EV.call' | with_reducible apply EV.cmp | with_reducible apply EV.tup | with_reducible apply EV.isNone | with_reducible apply EV.ite' | with_reducible apply EVc.t | with_reducible apply EVc.f | exact IsB.t | exact IsB.f | with_reducible exact EV.none | with_reducible exact EV.bool | with_reducible exact EV.cel | with_reducible apply EV.bi | with_reducible apply EV.glob | with_reducible apply EV.and | with_reducible apply EV.or | with_reducible apply AN.step | with_reducible apply AN.one | with_reducible apply ANc.t | with_reducible exact ANc.f | with_reducible apply OR.step | with_reducible apply OR.one | with_reducible exact ORc.t | with_reducible apply ORc.f | with_reducible apply EV.not | with_reducible apply EV.lst | with_reducible apply EV.bin | with_reducible exact EV.neg | with_reducible apply EV.lev | with_reducible apply EV.joinS | with_reducible apply EV.comp | with_reducible apply CV.of' | with_reducible exact CL.nil | with_reducible apply CL.cons' | with_reducible apply EXS.cons | with_reducible exact EXS.nil | with_reducible apply EXc.next | with_reducible exact EXc.ret | with_reducible apply EX.ret | with_reducible apply EX.asg' | with_reducible exact SetTo.none | with_reducible apply SetTo.ne | with_reducible apply SetTo.eq | with_reducible apply SetAllTo.cons | with_reducible exact SetAllTo.nil | with_reducible apply BindTo.one | with_reducible apply BindTo.tup | with_reducible apply EX.ite' | with_reducible apply EXSc.t | with_reducible apply EXSc.f | with_reducible apply EX.app' | with_reducible apply EX.unp' | with_reducible apply EX.tasg' | with_reducible exact EX.own' | with_reducible apply EX.ownC' | with_reducible apply EX.tasgO0 | with_reducible apply EX.tasgO1 | with_reducible apply EX.setJ0 | with_reducible apply EX.setJ1 | with_reducible apply EX.whl | with_reducible apply WH.t | with_reducible exact WH.f | with_reducible apply EX.for | with_reducible exact FO.nil | with_reducible apply FO.cons' | with_reducible apply FOc.next | with_reducible exact FOc.ret | apply FO.cons' | exact FO.nil | apply CL.cons' | exact CL.nil) | exact hL.mono (by decide) | exact hD.mono (by decide) | exact hP.mono (by decide) | exact hQ.mono (by decide) | exact hV.mono (by decide) | exact (jmp_b11 r hr _).mono (by decide))
    all_goals first | (apply le_by; (focus repeat' first | with_reducible apply app_le | with_reducible apply cons_le | with_reducible exact nil_le | with_reducible apply sum_cons_le | with_reducible exact sum_nil_le | with_reducible exact join_nil_le | with_reducible apply join_one_le | with_reducible apply join_cons_le | with_reducible apply Nat.add_le_add | with_reducible assumption | with_reducible exact Nat.le_of_eq (by assumption) | exact Nat.le_refl _); kernel_rfl!) | omega | (simp only [List.length_append]; omega)
  · exact beqV_of_eq rfl
  · rfl

theorem jump_right_ok (j : Int × Int) (hj : Jok j) : ∃ j', Jok j' ∧ CA 150 f_law_jump_right [.jar] j (.bool true) j' := by
  obtain ⟨lab, hlab, j₁, hj₁, hL⟩ := one_ok j hj [.none, .str (litC 59)] (by decide) (by decide)
  obtain ⟨d, j₂, hd, hj₂, hD⟩ := dip_ok j₁ hj₁ 4 (by decide) (by decide)
  obtain ⟨p, hp, j₃, hj₃, hP⟩ := expr_ok j₂ hj₂
  obtain ⟨q, hq, j₄, hj₄, hQ⟩ := expr_ok j₃ hj₃
  obtain ⟨v, hv, j₅, hj₅, hV⟩ := one_ok j₄ hj₄ [.none, toldV p, toldV q] (by simp) (by simp)
  refine ⟨j₅, hj₅, ?_⟩
  have hv : v = .none ∨ ∃ r ∈ toldL, v = toldV r := by
    simp only [List.mem_cons, List.not_mem_nil, or_false] at hv
    rcases hv with h | h | h
    · exact .inl h
    · exact .inr ⟨p, hp, h⟩
    · exact .inr ⟨q, hq, h⟩
  have hlab : lab = .none ∨ lab = .str (litC 59) := by simpa using hlab
  have hd : d = 0 ∨ d = 1 ∨ d = 2 ∨ d = 3 := by omega
  rcases hlab with rfl | rfl
  · rcases hv with rfl | ⟨r, hr, rfl⟩
    · rcases hd with rfl | rfl | rfl | rfl
      · exact jr_0_0_0 hL hD hP hQ hV
      · exact jr_0_0_1 hL hD hP hQ hV
      · exact jr_0_0_2 hL hD hP hQ hV
      · exact jr_0_0_3 hL hD hP hQ hV
    · rcases hd with rfl | rfl | rfl | rfl
      · exact jr_0_1_0 hr hL hD hP hQ hV
      · exact jr_0_1_1 hr hL hD hP hQ hV
      · exact jr_0_1_2 hr hL hD hP hQ hV
      · exact jr_0_1_3 hr hL hD hP hQ hV
  · rcases hv with rfl | ⟨r, hr, rfl⟩
    · rcases hd with rfl | rfl | rfl | rfl
      · exact jr_1_0_0 hL hD hP hQ hV
      · exact jr_1_0_1 hL hD hP hQ hV
      · exact jr_1_0_2 hL hD hP hQ hV
      · exact jr_1_0_3 hL hD hP hQ hV
    · rcases hd with rfl | rfl | rfl | rfl
      · exact jr_1_1_0 hr hL hD hP hQ hV
      · exact jr_1_1_1 hr hL hD hP hQ hV
      · exact jr_1_1_2 hr hL hD hP hQ hV
      · exact jr_1_1_3 hr hL hD hP hQ hV
end Mine

end PGpart

section PIpart
namespace Mine
theorem exprs_ok {n : Nat} (hn : 70 ≤ n) : ∀ (xs : List V) (j : Int × Int), Jok j → ∃ (ps : List (V × List Nat × List Nat × List Nat × List Nat)) (j' : Int × Int), (∀ p ∈ ps, p ∈ toldL) ∧ ps.length = xs.length ∧ Jok j' ∧ CL n (.call 58 [.cel]) (.one 4) xs j (ps.map toldV) j'
  | [], j, hj => ⟨[], j, (fun _ h => nomatch h), rfl, hj, CL.nil⟩
  | x :: xs, j, hj => by
    obtain ⟨p, hp, j₁, hj₁, hE⟩ := expr_ok j hj
    obtain ⟨ps, j₂, h1, h2, hj₂, hC⟩ := exprs_ok hn xs j₁ hj₁
    refine ⟨p :: ps, j₂, fun q hq => by rcases List.mem_cons.mp hq with rfl | hq; exact hp; exact h1 q hq, by rw [List.length_cons, List.length_cons, h2], hj₂, ?_⟩
    refine CL.cons' (ρ := [(4, x)]) (j₁ := j₁) (BindTo.one SetTo.none) (EV.mono hn ?_) hC
    show EV 70 _ _ _ _
    repeat' (first | (first | ((with_reducible show _ = _); exact rfl) | with_reducible apply EVS.cons | with_reducible exact EVS.nil | with_reducible apply EV.loc | with_reducible exact EV.str | with_reducible exact EV.int | with_reducible apply EV.add | with_reducible apply AddV.s | with_reducible exact AddV.i | with_reducible apply AddV.t | with_reducible apply EV.sub | with_reducible apply EV.call' | with_reducible apply EV.cmp | with_reducible apply EV.tup | with_reducible apply EV.isNone | with_reducible apply EV.ite' | with_reducible apply EVc.t | with_reducible apply EVc.f | exact IsB.t | exact IsB.f | with_reducible exact EV.none | with_reducible exact EV.bool | with_reducible exact EV.cel | with_reducible apply EV.bi | with_reducible apply EV.glob | with_reducible apply EV.and | with_reducible apply EV.or | with_reducible apply AN.step | with_reducible apply AN.one | with_reducible apply ANc.t | with_reducible exact ANc.f | with_reducible apply OR.step | with_reducible apply OR.one | with_reducible exact ORc.t | with_reducible apply ORc.f | with_reducible apply EV.not | with_reducible apply EV.lst | with_reducible apply EV.bin | with_reducible exact EV.neg | with_reducible apply EV.lev | with_reducible apply EV.joinS | with_reducible apply EV.comp | with_reducible apply CV.of' | with_reducible exact CL.nil | with_reducible apply CL.cons' | with_reducible apply EXS.cons | with_reducible exact EXS.nil | with_reducible apply EXc.next | with_reducible exact EXc.ret | with_reducible apply EX.ret | with_reducible apply EX.asg' | with_reducible exact SetTo.none | with_reducible apply SetTo.ne | with_reducible apply SetTo.eq | with_reducible apply SetAllTo.cons | with_reducible exact SetAllTo.nil | with_reducible apply BindTo.one | with_reducible apply BindTo.tup | with_reducible apply EX.ite' | with_reducible apply EXSc.t | with_reducible apply EXSc.f | with_reducible apply EX.app' | with_reducible apply EX.unp' | with_reducible apply EX.tasg' | with_reducible exact EX.own' | with_reducible apply EX.ownC' | with_reducible apply EX.tasgO0 | with_reducible apply EX.tasgO1 | with_reducible apply EX.setJ0 | with_reducible apply EX.setJ1 | with_reducible apply EX.whl | with_reducible apply WH.t | with_reducible exact WH.f | with_reducible apply EX.for | with_reducible exact FO.nil | with_reducible apply FO.cons' | with_reducible apply FOc.next | with_reducible exact FOc.ret | apply FO.cons' | exact FO.nil | apply CL.cons' | exact CL.nil) | exact hE.mono (by decide))
theorem zl : (litC 10).length = 0 ∧ (litC 62).length = 2 ∧ (litC 56).length = 1 ∧ (litC 64).length = 1 ∧ (litC 65).length = 1 ∧ (litC 67).length = 1 ∧ (litC 68).length = 1 ∧ (litC 70).length = 5 ∧ (litC 71).length = 7 ∧ (litC 73).length = 5 ∧ (litC 7).length = 1 ∧ (litC 74).length = 1 ∧ (litC 75).length = 1 ∧ (litC 76).length = 2 ∧ (litC 78).length = 10 ∧ (litC 79).length = 3 ∧ (litC 80).length = 2 ∧ (litC 81).length = 3 ∧ (litC 82).length = 2 ∧ (litC 83).length = 2 := by decide +kernel
noncomputable abbrev TD := V × List Nat × List Nat × List Nat × List Nat
noncomputable def pathV : V := .tup [.tup [.str (litC 77), .tup [], .tup []], .tup [.str (litC 22), .tup [], .tup [.tup [.str (litC 11), .int 0, .tup [.tup [.str (litC 14), .tup [], .tup []]]]]]]
theorem pathV_ok (j : Int × Int) : CA 60 f_write_path [pathV, .str (litC 84)] j (.str (litC 78)) j := by
  show (run TT 60).call f_write_path [pathV, .str (litC 84)] j = some (.str (litC 78), j)
  kernel_rfl

theorem wlist_0  (j : Int × Int) : CA 90 f_write_list [.tup []] j (.str (joinL (litC 62) [])) j := by
  obtain ⟨z10, z62, z56, z64, z65, z67, z68, z70, z71, z73, z7, z74, z75, z76, z78, z79, z80, z81, z82, z83⟩ := zl

  apply CA.of' (d := d_write_list) (ρ := [(43, .tup [])]) rfl rfl
  · show EXS 89 d_write_list.body _ _ _
    unfold d_write_list
    repeat' (first | (first | ((with_reducible show _ = _); exact rfl) | with_reducible apply EVS.cons | with_reducible exact EVS.nil | with_reducible apply EV.loc | with_reducible exact EV.str | with_reducible exact EV.int | with_reducible apply EV.add | with_reducible apply AddV.s | with_reducible exact AddV.i | with_reducible apply AddV.t | with_reducible apply EV.sub | with_reducible apply EV.call' | with_reducible apply EV.cmp | with_reducible apply EV.tup | with_reducible apply EV.isNone | with_reducible apply EV.ite' | with_reducible apply EVc.t | with_reducible apply EVc.f | exact IsB.t | exact IsB.f | with_reducible exact EV.none | with_reducible exact EV.bool | with_reducible exact EV.cel | with_reducible apply EV.bi | with_reducible apply EV.glob | with_reducible apply EV.and | with_reducible apply EV.or | with_reducible apply AN.step | with_reducible apply AN.one | with_reducible apply ANc.t | with_reducible exact ANc.f | with_reducible apply OR.step | with_reducible apply OR.one | with_reducible exact ORc.t | with_reducible apply ORc.f | with_reducible apply EV.not | with_reducible apply EV.lst | with_reducible apply EV.bin | with_reducible exact EV.neg | with_reducible apply EV.lev | with_reducible apply EV.joinS | with_reducible apply EV.comp | with_reducible apply CV.of' | with_reducible exact CL.nil | with_reducible apply CL.cons' | with_reducible apply EXS.cons | with_reducible exact EXS.nil | with_reducible apply EXc.next | with_reducible exact EXc.ret | with_reducible apply EX.ret | with_reducible apply EX.asg' | with_reducible exact SetTo.none | with_reducible apply SetTo.ne | with_reducible apply SetTo.eq | with_reducible apply SetAllTo.cons | with_reducible exact SetAllTo.nil | with_reducible apply BindTo.one | with_reducible apply BindTo.tup | with_reducible apply EX.ite' | with_reducible apply EXSc.t | with_reducible apply EXSc.f | with_reducible apply EX.app' | with_reducible apply EX.unp' | with_reducible apply EX.tasg' | with_reducible exact EX.own' | with_reducible apply EX.ownC' | with_reducible apply EX.tasgO0 | with_reducible apply EX.tasgO1 | with_reducible apply EX.setJ0 | with_reducible apply EX.setJ1 | with_reducible apply EX.whl | with_reducible apply WH.t | with_reducible exact WH.f | with_reducible apply EX.for | with_reducible exact FO.nil | with_reducible apply FO.cons' | with_reducible apply FOc.next | with_reducible exact FOc.ret | apply FO.cons' | exact FO.nil | apply CL.cons' | exact CL.nil))
    all_goals first | (apply le_by; (focus repeat' first | with_reducible apply app_le | with_reducible apply cons_le | with_reducible exact nil_le | with_reducible apply sum_cons_le | with_reducible exact sum_nil_le | with_reducible exact join_nil_le | with_reducible apply join_one_le | with_reducible apply join_cons_le | with_reducible apply Nat.add_le_add | with_reducible assumption | with_reducible exact Nat.le_of_eq (by assumption) | exact Nat.le_refl _); kernel_rfl!) | omega | (simp only [List.length_append, List.length_cons, List.length_nil, sumLen, joinL]; omega)
  · rfl
  · rfl
theorem wrow_0  (j : Int × Int) : CA 60 f_write_row [.lst []] j (.str (litC 64 ++ joinL (litC 62) [] ++ litC 10 ++ litC 65)) j := by
  obtain ⟨z10, z62, z56, z64, z65, z67, z68, z70, z71, z73, z7, z74, z75, z76, z78, z79, z80, z81, z82, z83⟩ := zl

  apply CA.of' (d := d_write_row) (ρ := [(43, .lst [])]) rfl rfl
  · show EXS 59 d_write_row.body _ _ _
    unfold d_write_row
    repeat' (first | ((with_reducible show _ = _); exact rfl) | with_reducible apply EVS.cons | with_reducible exact EVS.nil | with_reducible apply EV.loc | with_reducible exact EV.str | with_reducible exact EV.int | with_reducible apply EV.add | with_reducible apply AddV.s | with_reducible exact AddV.i | with_reducible apply AddV.t | with_reducible apply EV.sub | with_reducible apply EV.call' | with_reducible apply EV.cmp | with_reducible apply EV.tup | with_reducible apply EV.isNone | with_reducible apply EV.ite' | with_reducible apply EVc.t | with_reducible apply EVc.f | exact IsB.t | exact IsB.f | with_reducible exact EV.none | with_reducible exact EV.bool | with_reducible exact EV.cel | with_reducible apply EV.bi | with_reducible apply EV.glob | with_reducible apply EV.and | with_reducible apply EV.or | with_reducible apply AN.step | with_reducible apply AN.one | with_reducible apply ANc.t | with_reducible exact ANc.f | with_reducible apply OR.step | with_reducible apply OR.one | with_reducible exact ORc.t | with_reducible apply ORc.f | with_reducible apply EV.not | with_reducible apply EV.lst | with_reducible apply EV.bin | with_reducible exact EV.neg | with_reducible apply EV.lev | with_reducible apply EV.joinS | with_reducible apply EV.comp | with_reducible apply CV.of' | with_reducible exact CL.nil | with_reducible apply CL.cons' | with_reducible apply EXS.cons | with_reducible exact EXS.nil | with_reducible apply EXc.next | with_reducible exact EXc.ret | with_reducible apply EX.ret | with_reducible apply EX.asg' | with_reducible exact SetTo.none | with_reducible apply SetTo.ne | with_reducible apply SetTo.eq | with_reducible apply SetAllTo.cons | with_reducible exact SetAllTo.nil | with_reducible apply BindTo.one | with_reducible apply BindTo.tup | with_reducible apply EX.ite' | with_reducible apply EXSc.t | with_reducible apply EXSc.f | with_reducible apply EX.app' | with_reducible apply EX.unp' | with_reducible apply EX.tasg' | with_reducible exact EX.own' | with_reducible apply EX.ownC' | with_reducible apply EX.tasgO0 | with_reducible apply EX.tasgO1 | with_reducible apply EX.setJ0 | with_reducible apply EX.setJ1 | with_reducible apply EX.whl | with_reducible apply WH.t | with_reducible exact WH.f | with_reducible apply EX.for | with_reducible exact FO.nil | with_reducible apply FO.cons' | with_reducible apply FOc.next | with_reducible exact FOc.ret | apply FO.cons' | exact FO.nil | apply CL.cons' | exact CL.nil)
    all_goals first | (apply le_by; (focus repeat' first | with_reducible apply app_le | with_reducible apply cons_le | with_reducible exact nil_le | with_reducible apply sum_cons_le | with_reducible exact sum_nil_le | with_reducible exact join_nil_le | with_reducible apply join_one_le | with_reducible apply join_cons_le | with_reducible apply Nat.add_le_add | with_reducible assumption | with_reducible exact Nat.le_of_eq (by assumption) | exact Nat.le_refl _); kernel_rfl!) | omega | (simp only [List.length_append, List.length_cons, List.length_nil, sumLen, joinL]; omega)
  · rfl
  · rfl
theorem wg0_0  (j : Int × Int) : CA 110 f_write_gathered [.tup [.str (litC 63), .int 0, .tup []]] j (.str (litC 64 ++ joinL (litC 62) [] ++ litC 10 ++ litC 65)) j := by
  apply CA.of' (d := d_write_gathered) (ρ := [(34, .tup [.str (litC 63), .int 0, .tup []])]) rfl rfl
  · show EXS 109 d_write_gathered.body _ _ _
    unfold d_write_gathered
    repeat' (first | (first | ((with_reducible show _ = _); exact rfl) | with_reducible apply EVS.cons | with_reducible exact EVS.nil | with_reducible apply EV.loc | with_reducible exact EV.str | with_reducible exact EV.int | with_reducible apply EV.add | with_reducible apply AddV.s | with_reducible exact AddV.i | with_reducible apply AddV.t | with_reducible apply EV.sub | with_reducible apply EV.call' | with_reducible apply EV.cmp | with_reducible apply EV.tup | with_reducible apply EV.isNone | with_reducible apply EV.ite' | with_reducible apply EVc.t | with_reducible apply EVc.f | exact IsB.t | exact IsB.f | with_reducible exact EV.none | with_reducible exact EV.bool | with_reducible exact EV.cel | with_reducible apply EV.bi | with_reducible apply EV.glob | with_reducible apply EV.and | with_reducible apply EV.or | with_reducible apply AN.step | with_reducible apply AN.one | with_reducible apply ANc.t | with_reducible exact ANc.f | with_reducible apply OR.step | with_reducible apply OR.one | with_reducible exact ORc.t | with_reducible apply ORc.f | with_reducible apply EV.not | with_reducible apply EV.lst | with_reducible apply EV.bin | with_reducible exact EV.neg | with_reducible apply EV.lev | with_reducible apply EV.joinS | with_reducible apply EV.comp | with_reducible apply CV.of' | with_reducible exact CL.nil | with_reducible apply CL.cons' | with_reducible apply EXS.cons | with_reducible exact EXS.nil | with_reducible apply EXc.next | with_reducible exact EXc.ret | with_reducible apply EX.ret | with_reducible apply EX.asg' | with_reducible exact SetTo.none | with_reducible apply SetTo.ne | with_reducible apply SetTo.eq | with_reducible apply SetAllTo.cons | with_reducible exact SetAllTo.nil | with_reducible apply BindTo.one | with_reducible apply BindTo.tup | with_reducible apply EX.ite' | with_reducible apply EXSc.t | with_reducible apply EXSc.f | with_reducible apply EX.app' | with_reducible apply EX.unp' | with_reducible apply EX.tasg' | with_reducible exact EX.own' | with_reducible apply EX.ownC' | with_reducible apply EX.tasgO0 | with_reducible apply EX.tasgO1 | with_reducible apply EX.setJ0 | with_reducible apply EX.setJ1 | with_reducible apply EX.whl | with_reducible apply WH.t | with_reducible exact WH.f | with_reducible apply EX.for | with_reducible exact FO.nil | with_reducible apply FO.cons' | with_reducible apply FOc.next | with_reducible exact FOc.ret | apply FO.cons' | exact FO.nil | apply CL.cons' | exact CL.nil) | exact (wrow_0   _).mono (by decide))
  · rfl
  · rfl
theorem wg1_0  (j : Int × Int) : CA 110 f_write_gathered [.tup [.str (litC 66), .int 0, .tup []]] j (.str (litC 67 ++ joinL (litC 62) [] ++ litC 68)) j := by
  obtain ⟨z10, z62, z56, z64, z65, z67, z68, z70, z71, z73, z7, z74, z75, z76, z78, z79, z80, z81, z82, z83⟩ := zl

  apply CA.of' (d := d_write_gathered) (ρ := [(34, .tup [.str (litC 66), .int 0, .tup []])]) rfl rfl
  · show EXS 109 d_write_gathered.body _ _ _
    unfold d_write_gathered
    repeat' (first | (first | ((with_reducible show _ = _); exact rfl) | with_reducible apply EVS.cons | with_reducible exact EVS.nil | with_reducible apply EV.loc | with_reducible exact EV.str | with_reducible exact EV.int | with_reducible apply EV.add | with_reducible apply AddV.s | with_reducible exact AddV.i | with_reducible apply AddV.t | with_reducible apply EV.sub | with_reducible apply EV.call' | with_reducible apply EV.cmp | with_reducible apply EV.tup | with_reducible apply EV.isNone | with_reducible apply EV.ite' | with_reducible apply EVc.t | with_reducible apply EVc.f | exact IsB.t | exact IsB.f | with_reducible exact EV.none | with_reducible exact EV.bool | with_reducible exact EV.cel | with_reducible apply EV.bi | with_reducible apply EV.glob | with_reducible apply EV.and | with_reducible apply EV.or | with_reducible apply AN.step | with_reducible apply AN.one | with_reducible apply ANc.t | with_reducible exact ANc.f | with_reducible apply OR.step | with_reducible apply OR.one | with_reducible exact ORc.t | with_reducible apply ORc.f | with_reducible apply EV.not | with_reducible apply EV.lst | with_reducible apply EV.bin | with_reducible exact EV.neg | with_reducible apply EV.lev | with_reducible apply EV.joinS | with_reducible apply EV.comp | with_reducible apply CV.of' | with_reducible exact CL.nil | with_reducible apply CL.cons' | with_reducible apply EXS.cons | with_reducible exact EXS.nil | with_reducible apply EXc.next | with_reducible exact EXc.ret | with_reducible apply EX.ret | with_reducible apply EX.asg' | with_reducible exact SetTo.none | with_reducible apply SetTo.ne | with_reducible apply SetTo.eq | with_reducible apply SetAllTo.cons | with_reducible exact SetAllTo.nil | with_reducible apply BindTo.one | with_reducible apply BindTo.tup | with_reducible apply EX.ite' | with_reducible apply EXSc.t | with_reducible apply EXSc.f | with_reducible apply EX.app' | with_reducible apply EX.unp' | with_reducible apply EX.tasg' | with_reducible exact EX.own' | with_reducible apply EX.ownC' | with_reducible apply EX.tasgO0 | with_reducible apply EX.tasgO1 | with_reducible apply EX.setJ0 | with_reducible apply EX.setJ1 | with_reducible apply EX.whl | with_reducible apply WH.t | with_reducible exact WH.f | with_reducible apply EX.for | with_reducible exact FO.nil | with_reducible apply FO.cons' | with_reducible apply FOc.next | with_reducible exact FOc.ret | apply FO.cons' | exact FO.nil | apply CL.cons' | exact CL.nil) | exact (wlist_0   _).mono (by decide))
    all_goals first | (apply le_by; (focus repeat' first | with_reducible apply app_le | with_reducible apply cons_le | with_reducible exact nil_le | with_reducible apply sum_cons_le | with_reducible exact sum_nil_le | with_reducible exact join_nil_le | with_reducible apply join_one_le | with_reducible apply join_cons_le | with_reducible apply Nat.add_le_add | with_reducible assumption | with_reducible exact Nat.le_of_eq (by assumption) | exact Nat.le_refl _); kernel_rfl!) | omega | (simp only [List.length_append, List.length_cons, List.length_nil, sumLen, joinL]; omega)
  · rfl
  · rfl
theorem wg2_0  (j : Int × Int) : CA 110 f_write_gathered [.tup [.str (litC 69), .int 0, .str (litC 70), .tup []]] j (.str (litC 70 ++ litC 83 ++ joinL (litC 62) [] ++ litC 65)) j := by
  obtain ⟨z10, z62, z56, z64, z65, z67, z68, z70, z71, z73, z7, z74, z75, z76, z78, z79, z80, z81, z82, z83⟩ := zl

  apply CA.of' (d := d_write_gathered) (ρ := [(34, .tup [.str (litC 69), .int 0, .str (litC 70), .tup []])]) rfl rfl
  · show EXS 109 d_write_gathered.body _ _ _
    unfold d_write_gathered
    repeat' (first | (first | ((with_reducible show _ = _); exact rfl) | with_reducible apply EVS.cons | with_reducible exact EVS.nil | with_reducible apply EV.loc | with_reducible exact EV.str | with_reducible exact EV.int | with_reducible apply EV.add | with_reducible apply AddV.s | with_reducible exact AddV.i | with_reducible apply AddV.t | with_reducible apply EV.sub | with_reducible apply EV.call' | with_reducible apply EV.cmp | with_reducible apply EV.tup | with_reducible apply EV.isNone | with_reducible apply EV.ite' | with_reducible apply EVc.t | with_reducible apply EVc.f | exact IsB.t | exact IsB.f | with_reducible exact EV.none | with_reducible exact EV.bool | with_reducible exact EV.cel | with_reducible apply EV.bi | with_reducible apply EV.glob | with_reducible apply EV.and | with_reducible apply EV.or | with_reducible apply AN.step | with_reducible apply AN.one | with_reducible apply ANc.t | with_reducible exact ANc.f | with_reducible apply OR.step | with_reducible apply OR.one | with_reducible exact ORc.t | with_reducible apply ORc.f | with_reducible apply EV.not | with_reducible apply EV.lst | with_reducible apply EV.bin | with_reducible exact EV.neg | with_reducible apply EV.lev | with_reducible apply EV.joinS | with_reducible apply EV.comp | with_reducible apply CV.of' | with_reducible exact CL.nil | with_reducible apply CL.cons' | with_reducible apply EXS.cons | with_reducible exact EXS.nil | with_reducible apply EXc.next | with_reducible exact EXc.ret | with_reducible apply EX.ret | with_reducible apply EX.asg' | with_reducible exact SetTo.none | with_reducible apply SetTo.ne | with_reducible apply SetTo.eq | with_reducible apply SetAllTo.cons | with_reducible exact SetAllTo.nil | with_reducible apply BindTo.one | with_reducible apply BindTo.tup | with_reducible apply EX.ite' | with_reducible apply EXSc.t | with_reducible apply EXSc.f | with_reducible apply EX.app' | with_reducible apply EX.unp' | with_reducible apply EX.tasg' | with_reducible exact EX.own' | with_reducible apply EX.ownC' | with_reducible apply EX.tasgO0 | with_reducible apply EX.tasgO1 | with_reducible apply EX.setJ0 | with_reducible apply EX.setJ1 | with_reducible apply EX.whl | with_reducible apply WH.t | with_reducible exact WH.f | with_reducible apply EX.for | with_reducible exact FO.nil | with_reducible apply FO.cons' | with_reducible apply FOc.next | with_reducible exact FOc.ret | apply FO.cons' | exact FO.nil | apply CL.cons' | exact CL.nil) | exact (wlist_0   _).mono (by decide))
    all_goals first | (apply le_by; (focus repeat' first | with_reducible apply app_le | with_reducible apply cons_le | with_reducible exact nil_le | with_reducible apply sum_cons_le | with_reducible exact sum_nil_le | with_reducible exact join_nil_le | with_reducible apply join_one_le | with_reducible apply join_cons_le | with_reducible apply Nat.add_le_add | with_reducible assumption | with_reducible exact Nat.le_of_eq (by assumption) | exact Nat.le_refl _); kernel_rfl!) | omega | (simp only [List.length_append, List.length_cons, List.length_nil, sumLen, joinL]; omega)
  · rfl
  · rfl
theorem wg4_0  (j : Int × Int) : CA 110 f_write_gathered [.tup [.str (litC 21), .int 0, pathV, .tup []]] j (.str (litC 78 ++ litC 81)) j := by
  obtain ⟨z10, z62, z56, z64, z65, z67, z68, z70, z71, z73, z7, z74, z75, z76, z78, z79, z80, z81, z82, z83⟩ := zl

  apply CA.of' (d := d_write_gathered) (ρ := [(34, .tup [.str (litC 21), .int 0, pathV, .tup []])]) rfl rfl
  · show EXS 109 d_write_gathered.body _ _ _
    unfold d_write_gathered
    repeat' (first | (first | ((with_reducible show _ = _); exact rfl) | with_reducible apply EVS.cons | with_reducible exact EVS.nil | with_reducible apply EV.loc | with_reducible exact EV.str | with_reducible exact EV.int | with_reducible apply EV.add | with_reducible apply AddV.s | with_reducible exact AddV.i | with_reducible apply AddV.t | with_reducible apply EV.sub | with_reducible apply EV.call' | with_reducible apply EV.cmp | with_reducible apply EV.tup | with_reducible apply EV.isNone | with_reducible apply EV.ite' | with_reducible apply EVc.t | with_reducible apply EVc.f | exact IsB.t | exact IsB.f | with_reducible exact EV.none | with_reducible exact EV.bool | with_reducible exact EV.cel | with_reducible apply EV.bi | with_reducible apply EV.glob | with_reducible apply EV.and | with_reducible apply EV.or | with_reducible apply AN.step | with_reducible apply AN.one | with_reducible apply ANc.t | with_reducible exact ANc.f | with_reducible apply OR.step | with_reducible apply OR.one | with_reducible exact ORc.t | with_reducible apply ORc.f | with_reducible apply EV.not | with_reducible apply EV.lst | with_reducible apply EV.bin | with_reducible exact EV.neg | with_reducible apply EV.lev | with_reducible apply EV.joinS | with_reducible apply EV.comp | with_reducible apply CV.of' | with_reducible exact CL.nil | with_reducible apply CL.cons' | with_reducible apply EXS.cons | with_reducible exact EXS.nil | with_reducible apply EXc.next | with_reducible exact EXc.ret | with_reducible apply EX.ret | with_reducible apply EX.asg' | with_reducible exact SetTo.none | with_reducible apply SetTo.ne | with_reducible apply SetTo.eq | with_reducible apply SetAllTo.cons | with_reducible exact SetAllTo.nil | with_reducible apply BindTo.one | with_reducible apply BindTo.tup | with_reducible apply EX.ite' | with_reducible apply EXSc.t | with_reducible apply EXSc.f | with_reducible apply EX.app' | with_reducible apply EX.unp' | with_reducible apply EX.tasg' | with_reducible exact EX.own' | with_reducible apply EX.ownC' | with_reducible apply EX.tasgO0 | with_reducible apply EX.tasgO1 | with_reducible apply EX.setJ0 | with_reducible apply EX.setJ1 | with_reducible apply EX.whl | with_reducible apply WH.t | with_reducible exact WH.f | with_reducible apply EX.for | with_reducible exact FO.nil | with_reducible apply FO.cons' | with_reducible apply FOc.next | with_reducible exact FOc.ret | apply FO.cons' | exact FO.nil | apply CL.cons' | exact CL.nil) | exact (pathV_ok _).mono (by decide))
    all_goals first | (apply le_by; (focus repeat' first | with_reducible apply app_le | with_reducible apply cons_le | with_reducible exact nil_le | with_reducible apply sum_cons_le | with_reducible exact sum_nil_le | with_reducible exact join_nil_le | with_reducible apply join_one_le | with_reducible apply join_cons_le | with_reducible apply Nat.add_le_add | with_reducible assumption | with_reducible exact Nat.le_of_eq (by assumption) | exact Nat.le_refl _); kernel_rfl!) | omega | (simp only [List.length_append, List.length_cons, List.length_nil, sumLen, joinL]; omega)
  · rfl
  · rfl
theorem wlist_1 (p0 : TD) (h0 : p0 ∈ toldL) (j : Int × Int) : CA 90 f_write_list [.tup [p0.1]] j (.str (joinL (litC 62) [p0.2.1])) j := by
  obtain ⟨z10, z62, z56, z64, z65, z67, z68, z70, z71, z73, z7, z74, z75, z76, z78, z79, z80, z81, z82, z83⟩ := zl
  have s0 := (told_short p0 h0).1
  apply CA.of' (d := d_write_list) (ρ := [(43, .tup [p0.1])]) rfl rfl
  · show EXS 89 d_write_list.body _ _ _
    unfold d_write_list
    repeat' (first | (first | ((with_reducible show _ = _); exact rfl) | with_reducible apply EVS.cons | with_reducible exact EVS.nil | with_reducible apply EV.loc | with_reducible exact EV.str | with_reducible exact EV.int | with_reducible apply EV.add | with_reducible apply AddV.s | with_reducible exact AddV.i | with_reducible apply AddV.t | with_reducible apply EV.sub | with_reducible apply EV.call' | with_reducible apply EV.cmp | with_reducible apply EV.tup | with_reducible apply EV.isNone | with_reducible apply EV.ite' | with_reducible apply EVc.t | with_reducible apply EVc.f | exact IsB.t | exact IsB.f | with_reducible exact EV.none | with_reducible exact EV.bool | with_reducible exact EV.cel | with_reducible apply EV.bi | with_reducible apply EV.glob | with_reducible apply EV.and | with_reducible apply EV.or | with_reducible apply AN.step | with_reducible apply AN.one | with_reducible apply ANc.t | with_reducible exact ANc.f | with_reducible apply OR.step | with_reducible apply OR.one | with_reducible exact ORc.t | with_reducible apply ORc.f | with_reducible apply EV.not | with_reducible apply EV.lst | with_reducible apply EV.bin | with_reducible exact EV.neg | with_reducible apply EV.lev | with_reducible apply EV.joinS | with_reducible apply EV.comp | with_reducible apply CV.of' | with_reducible exact CL.nil | with_reducible apply CL.cons' | with_reducible apply EXS.cons | with_reducible exact EXS.nil | with_reducible apply EXc.next | with_reducible exact EXc.ret | with_reducible apply EX.ret | with_reducible apply EX.asg' | with_reducible exact SetTo.none | with_reducible apply SetTo.ne | with_reducible apply SetTo.eq | with_reducible apply SetAllTo.cons | with_reducible exact SetAllTo.nil | with_reducible apply BindTo.one | with_reducible apply BindTo.tup | with_reducible apply EX.ite' | with_reducible apply EXSc.t | with_reducible apply EXSc.f | with_reducible apply EX.app' | with_reducible apply EX.unp' | with_reducible apply EX.tasg' | with_reducible exact EX.own' | with_reducible apply EX.ownC' | with_reducible apply EX.tasgO0 | with_reducible apply EX.tasgO1 | with_reducible apply EX.setJ0 | with_reducible apply EX.setJ1 | with_reducible apply EX.whl | with_reducible apply WH.t | with_reducible exact WH.f | with_reducible apply EX.for | with_reducible exact FO.nil | with_reducible apply FO.cons' | with_reducible apply FOc.next | with_reducible exact FOc.ret | apply FO.cons' | exact FO.nil | apply CL.cons' | exact CL.nil) | exact (told_expr p0 h0 _).mono (by decide))
    all_goals first | (apply le_by; (focus repeat' first | with_reducible apply app_le | with_reducible apply cons_le | with_reducible exact nil_le | with_reducible apply sum_cons_le | with_reducible exact sum_nil_le | with_reducible exact join_nil_le | with_reducible apply join_one_le | with_reducible apply join_cons_le | with_reducible apply Nat.add_le_add | with_reducible assumption | with_reducible exact Nat.le_of_eq (by assumption) | exact Nat.le_refl _); kernel_rfl!) | omega | (simp only [List.length_append, List.length_cons, List.length_nil, sumLen, joinL]; omega)
  · rfl
  · rfl
theorem wrow_1 (p0 : TD) (h0 : p0 ∈ toldL) (j : Int × Int) : CA 60 f_write_row [.lst [.str p0.2.1]] j (.str (litC 64 ++ joinL (litC 62) [p0.2.1] ++ litC 56 ++ litC 65)) j := by
  obtain ⟨z10, z62, z56, z64, z65, z67, z68, z70, z71, z73, z7, z74, z75, z76, z78, z79, z80, z81, z82, z83⟩ := zl
  have s0 := (told_short p0 h0).1
  apply CA.of' (d := d_write_row) (ρ := [(43, .lst [.str p0.2.1])]) rfl rfl
  · show EXS 59 d_write_row.body _ _ _
    unfold d_write_row
    repeat' (first | ((with_reducible show _ = _); exact rfl) | with_reducible apply EVS.cons | with_reducible exact EVS.nil | with_reducible apply EV.loc | with_reducible exact EV.str | with_reducible exact EV.int | with_reducible apply EV.add | with_reducible apply AddV.s | with_reducible exact AddV.i | with_reducible apply AddV.t | with_reducible apply EV.sub | with_reducible apply EV.call' | with_reducible apply EV.cmp | with_reducible apply EV.tup | with_reducible apply EV.isNone | with_reducible apply EV.ite' | with_reducible apply EVc.t | with_reducible apply EVc.f | exact IsB.t | exact IsB.f | with_reducible exact EV.none | with_reducible exact EV.bool | with_reducible exact EV.cel | with_reducible apply EV.bi | with_reducible apply EV.glob | with_reducible apply EV.and | with_reducible apply EV.or | with_reducible apply AN.step | with_reducible apply AN.one | with_reducible apply ANc.t | with_reducible exact ANc.f | with_reducible apply OR.step | with_reducible apply OR.one | with_reducible exact ORc.t | with_reducible apply ORc.f | with_reducible apply EV.not | with_reducible apply EV.lst | with_reducible apply EV.bin | with_reducible exact EV.neg | with_reducible apply EV.lev | with_reducible apply EV.joinS | with_reducible apply EV.comp | with_reducible apply CV.of' | with_reducible exact CL.nil | with_reducible apply CL.cons' | with_reducible apply EXS.cons | with_reducible exact EXS.nil | with_reducible apply EXc.next | with_reducible exact EXc.ret | with_reducible apply EX.ret | with_reducible apply EX.asg' | with_reducible exact SetTo.none | with_reducible apply SetTo.ne | with_reducible apply SetTo.eq | with_reducible apply SetAllTo.cons | with_reducible exact SetAllTo.nil | with_reducible apply BindTo.one | with_reducible apply BindTo.tup | with_reducible apply EX.ite' | with_reducible apply EXSc.t | with_reducible apply EXSc.f | with_reducible apply EX.app' | with_reducible apply EX.unp' | with_reducible apply EX.tasg' | with_reducible exact EX.own' | with_reducible apply EX.ownC' | with_reducible apply EX.tasgO0 | with_reducible apply EX.tasgO1 | with_reducible apply EX.setJ0 | with_reducible apply EX.setJ1 | with_reducible apply EX.whl | with_reducible apply WH.t | with_reducible exact WH.f | with_reducible apply EX.for | with_reducible exact FO.nil | with_reducible apply FO.cons' | with_reducible apply FOc.next | with_reducible exact FOc.ret | apply FO.cons' | exact FO.nil | apply CL.cons' | exact CL.nil)
    all_goals first | (apply le_by; (focus repeat' first | with_reducible apply app_le | with_reducible apply cons_le | with_reducible exact nil_le | with_reducible apply sum_cons_le | with_reducible exact sum_nil_le | with_reducible exact join_nil_le | with_reducible apply join_one_le | with_reducible apply join_cons_le | with_reducible apply Nat.add_le_add | with_reducible assumption | with_reducible exact Nat.le_of_eq (by assumption) | exact Nat.le_refl _); kernel_rfl!) | omega | (simp only [List.length_append, List.length_cons, List.length_nil, sumLen, joinL]; omega)
  · rfl
  · rfl
theorem wg0_1 (p0 : TD) (h0 : p0 ∈ toldL) (j : Int × Int) : CA 110 f_write_gathered [.tup [.str (litC 63), .int 0, .tup [p0.1]]] j (.str (litC 64 ++ joinL (litC 62) [p0.2.1] ++ litC 56 ++ litC 65)) j := by
  apply CA.of' (d := d_write_gathered) (ρ := [(34, .tup [.str (litC 63), .int 0, .tup [p0.1]])]) rfl rfl
  · show EXS 109 d_write_gathered.body _ _ _
    unfold d_write_gathered
    repeat' (first | (first | ((with_reducible show _ = _); exact rfl) | with_reducible apply EVS.cons | with_reducible exact EVS.nil | with_reducible apply EV.loc | with_reducible exact EV.str | with_reducible exact EV.int | with_reducible apply EV.add | with_reducible apply AddV.s | with_reducible exact AddV.i | with_reducible apply AddV.t | with_reducible apply EV.sub | with_reducible apply EV.call' | with_reducible apply EV.cmp | with_reducible apply EV.tup | with_reducible apply EV.isNone | with_reducible apply EV.ite' | with_reducible apply EVc.t | with_reducible apply EVc.f | exact IsB.t | exact IsB.f | with_reducible exact EV.none | with_reducible exact EV.bool | with_reducible exact EV.cel | with_reducible apply EV.bi | with_reducible apply EV.glob | with_reducible apply EV.and | with_reducible apply EV.or | with_reducible apply AN.step | with_reducible apply AN.one | with_reducible apply ANc.t | with_reducible exact ANc.f | with_reducible apply OR.step | with_reducible apply OR.one | with_reducible exact ORc.t | with_reducible apply ORc.f | with_reducible apply EV.not | with_reducible apply EV.lst | with_reducible apply EV.bin | with_reducible exact EV.neg | with_reducible apply EV.lev | with_reducible apply EV.joinS | with_reducible apply EV.comp | with_reducible apply CV.of' | with_reducible exact CL.nil | with_reducible apply CL.cons' | with_reducible apply EXS.cons | with_reducible exact EXS.nil | with_reducible apply EXc.next | with_reducible exact EXc.ret | with_reducible apply EX.ret | with_reducible apply EX.asg' | with_reducible exact SetTo.none | with_reducible apply SetTo.ne | with_reducible apply SetTo.eq | with_reducible apply SetAllTo.cons | with_reducible exact SetAllTo.nil | with_reducible apply BindTo.one | with_reducible apply BindTo.tup | with_reducible apply EX.ite' | with_reducible apply EXSc.t | with_reducible apply EXSc.f | with_reducible apply EX.app' | with_reducible apply EX.unp' | with_reducible apply EX.tasg' | with_reducible exact EX.own' | with_reducible apply EX.ownC' | with_reducible apply EX.tasgO0 | with_reducible apply EX.tasgO1 | with_reducible apply EX.setJ0 | with_reducible apply EX.setJ1 | with_reducible apply EX.whl | with_reducible apply WH.t | with_reducible exact WH.f | with_reducible apply EX.for | with_reducible exact FO.nil | with_reducible apply FO.cons' | with_reducible apply FOc.next | with_reducible exact FOc.ret | apply FO.cons' | exact FO.nil | apply CL.cons' | exact CL.nil) | exact (told_expr p0 h0 _).mono (by decide) | exact (wrow_1 p0 h0 _).mono (by decide))
  · rfl
  · rfl
theorem wg1_1 (p0 : TD) (h0 : p0 ∈ toldL) (j : Int × Int) : CA 110 f_write_gathered [.tup [.str (litC 66), .int 0, .tup [p0.1]]] j (.str (litC 67 ++ joinL (litC 62) [p0.2.1] ++ litC 68)) j := by
  obtain ⟨z10, z62, z56, z64, z65, z67, z68, z70, z71, z73, z7, z74, z75, z76, z78, z79, z80, z81, z82, z83⟩ := zl
  have s0 := (told_short p0 h0).1
  apply CA.of' (d := d_write_gathered) (ρ := [(34, .tup [.str (litC 66), .int 0, .tup [p0.1]])]) rfl rfl
  · show EXS 109 d_write_gathered.body _ _ _
    unfold d_write_gathered
    repeat' (first | (first | ((with_reducible show _ = _); exact rfl) | with_reducible apply EVS.cons | with_reducible exact EVS.nil | with_reducible apply EV.loc | with_reducible exact EV.str | with_reducible exact EV.int | with_reducible apply EV.add | with_reducible apply AddV.s | with_reducible exact AddV.i | with_reducible apply AddV.t | with_reducible apply EV.sub | with_reducible apply EV.call' | with_reducible apply EV.cmp | with_reducible apply EV.tup | with_reducible apply EV.isNone | with_reducible apply EV.ite' | with_reducible apply EVc.t | with_reducible apply EVc.f | exact IsB.t | exact IsB.f | with_reducible exact EV.none | with_reducible exact EV.bool | with_reducible exact EV.cel | with_reducible apply EV.bi | with_reducible apply EV.glob | with_reducible apply EV.and | with_reducible apply EV.or | with_reducible apply AN.step | with_reducible apply AN.one | with_reducible apply ANc.t | with_reducible exact ANc.f | with_reducible apply OR.step | with_reducible apply OR.one | with_reducible exact ORc.t | with_reducible apply ORc.f | with_reducible apply EV.not | with_reducible apply EV.lst | with_reducible apply EV.bin | with_reducible exact EV.neg | with_reducible apply EV.lev | with_reducible apply EV.joinS | with_reducible apply EV.comp | with_reducible apply CV.of' | with_reducible exact CL.nil | with_reducible apply CL.cons' | with_reducible apply EXS.cons | with_reducible exact EXS.nil | with_reducible apply EXc.next | with_reducible exact EXc.ret | with_reducible apply EX.ret | with_reducible apply EX.asg' | with_reducible exact SetTo.none | with_reducible apply SetTo.ne | with_reducible apply SetTo.eq | with_reducible apply SetAllTo.cons | with_reducible exact SetAllTo.nil | with_reducible apply BindTo.one | with_reducible apply BindTo.tup | with_reducible apply EX.ite' | with_reducible apply EXSc.t | with_reducible apply EXSc.f | with_reducible apply EX.app' | with_reducible apply EX.unp' | with_reducible apply EX.tasg' | with_reducible exact EX.own' | with_reducible apply EX.ownC' | with_reducible apply EX.tasgO0 | with_reducible apply EX.tasgO1 | with_reducible apply EX.setJ0 | with_reducible apply EX.setJ1 | with_reducible apply EX.whl | with_reducible apply WH.t | with_reducible exact WH.f | with_reducible apply EX.for | with_reducible exact FO.nil | with_reducible apply FO.cons' | with_reducible apply FOc.next | with_reducible exact FOc.ret | apply FO.cons' | exact FO.nil | apply CL.cons' | exact CL.nil) | exact (wlist_1 p0 h0 _).mono (by decide))
    all_goals first | (apply le_by; (focus repeat' first | with_reducible apply app_le | with_reducible apply cons_le | with_reducible exact nil_le | with_reducible apply sum_cons_le | with_reducible exact sum_nil_le | with_reducible exact join_nil_le | with_reducible apply join_one_le | with_reducible apply join_cons_le | with_reducible apply Nat.add_le_add | with_reducible assumption | with_reducible exact Nat.le_of_eq (by assumption) | exact Nat.le_refl _); kernel_rfl!) | omega | (simp only [List.length_append, List.length_cons, List.length_nil, sumLen, joinL]; omega)
  · rfl
  · rfl
theorem wg2_1 (p0 : TD) (h0 : p0 ∈ toldL) (j : Int × Int) : CA 110 f_write_gathered [.tup [.str (litC 69), .int 0, .str (litC 70), .tup [p0.1]]] j (.str (litC 70 ++ litC 83 ++ joinL (litC 62) [p0.2.1] ++ litC 65)) j := by
  obtain ⟨z10, z62, z56, z64, z65, z67, z68, z70, z71, z73, z7, z74, z75, z76, z78, z79, z80, z81, z82, z83⟩ := zl
  have s0 := (told_short p0 h0).1
  apply CA.of' (d := d_write_gathered) (ρ := [(34, .tup [.str (litC 69), .int 0, .str (litC 70), .tup [p0.1]])]) rfl rfl
  · show EXS 109 d_write_gathered.body _ _ _
    unfold d_write_gathered
    repeat' (first | (first | ((with_reducible show _ = _); exact rfl) | with_reducible apply EVS.cons | with_reducible exact EVS.nil | with_reducible apply EV.loc | with_reducible exact EV.str | with_reducible exact EV.int | with_reducible apply EV.add | with_reducible apply AddV.s | with_reducible exact AddV.i | with_reducible apply AddV.t | with_reducible apply EV.sub | with_reducible apply EV.call' | with_reducible apply EV.cmp | with_reducible apply EV.tup | with_reducible apply EV.isNone | with_reducible apply EV.ite' | with_reducible apply EVc.t | with_reducible apply EVc.f | exact IsB.t | exact IsB.f | with_reducible exact EV.none | with_reducible exact EV.bool | with_reducible exact EV.cel | with_reducible apply EV.bi | with_reducible apply EV.glob | with_reducible apply EV.and | with_reducible apply EV.or | with_reducible apply AN.step | with_reducible apply AN.one | with_reducible apply ANc.t | with_reducible exact ANc.f | with_reducible apply OR.step | with_reducible apply OR.one | with_reducible exact ORc.t | with_reducible apply ORc.f | with_reducible apply EV.not | with_reducible apply EV.lst | with_reducible apply EV.bin | with_reducible exact EV.neg | with_reducible apply EV.lev | with_reducible apply EV.joinS | with_reducible apply EV.comp | with_reducible apply CV.of' | with_reducible exact CL.nil | with_reducible apply CL.cons' | with_reducible apply EXS.cons | with_reducible exact EXS.nil | with_reducible apply EXc.next | with_reducible exact EXc.ret | with_reducible apply EX.ret | with_reducible apply EX.asg' | with_reducible exact SetTo.none | with_reducible apply SetTo.ne | with_reducible apply SetTo.eq | with_reducible apply SetAllTo.cons | with_reducible exact SetAllTo.nil | with_reducible apply BindTo.one | with_reducible apply BindTo.tup | with_reducible apply EX.ite' | with_reducible apply EXSc.t | with_reducible apply EXSc.f | with_reducible apply EX.app' | with_reducible apply EX.unp' | with_reducible apply EX.tasg' | with_reducible exact EX.own' | with_reducible apply EX.ownC' | with_reducible apply EX.tasgO0 | with_reducible apply EX.tasgO1 | with_reducible apply EX.setJ0 | with_reducible apply EX.setJ1 | with_reducible apply EX.whl | with_reducible apply WH.t | with_reducible exact WH.f | with_reducible apply EX.for | with_reducible exact FO.nil | with_reducible apply FO.cons' | with_reducible apply FOc.next | with_reducible exact FOc.ret | apply FO.cons' | exact FO.nil | apply CL.cons' | exact CL.nil) | exact (wlist_1 p0 h0 _).mono (by decide))
    all_goals first | (apply le_by; (focus repeat' first | with_reducible apply app_le | with_reducible apply cons_le | with_reducible exact nil_le | with_reducible apply sum_cons_le | with_reducible exact sum_nil_le | with_reducible exact join_nil_le | with_reducible apply join_one_le | with_reducible apply join_cons_le | with_reducible apply Nat.add_le_add | with_reducible assumption | with_reducible exact Nat.le_of_eq (by assumption) | exact Nat.le_refl _); kernel_rfl!) | omega | (simp only [List.length_append, List.length_cons, List.length_nil, sumLen, joinL]; omega)
  · rfl
  · rfl
theorem wg4_1 (p0 : TD) (h0 : p0 ∈ toldL) (j : Int × Int) : CA 110 f_write_gathered [.tup [.str (litC 21), .int 0, pathV, .tup [.tup [.str (litC 7), p0.1]]]] j (.str (litC 78 ++ (litC 79 ++ joinL (litC 62) [litC 7 ++ litC 76 ++ p0.2.1] ++ litC 80))) j := by
  obtain ⟨z10, z62, z56, z64, z65, z67, z68, z70, z71, z73, z7, z74, z75, z76, z78, z79, z80, z81, z82, z83⟩ := zl
  have s0 := (told_short p0 h0).1
  apply CA.of' (d := d_write_gathered) (ρ := [(34, .tup [.str (litC 21), .int 0, pathV, .tup [.tup [.str (litC 7), p0.1]]])]) rfl rfl
  · show EXS 109 d_write_gathered.body _ _ _
    unfold d_write_gathered
    repeat' (first | (first | ((with_reducible show _ = _); exact rfl) | with_reducible apply EVS.cons | with_reducible exact EVS.nil | with_reducible apply EV.loc | with_reducible exact EV.str | with_reducible exact EV.int | with_reducible apply EV.add | with_reducible apply AddV.s | with_reducible exact AddV.i | with_reducible apply AddV.t | with_reducible apply EV.sub | with_reducible apply EV.call' | with_reducible apply EV.cmp | with_reducible apply EV.tup | with_reducible apply EV.isNone | with_reducible apply EV.ite' | with_reducible apply EVc.t | with_reducible apply EVc.f | exact IsB.t | exact IsB.f | with_reducible exact EV.none | with_reducible exact EV.bool | with_reducible exact EV.cel | with_reducible apply EV.bi | with_reducible apply EV.glob | with_reducible apply EV.and | with_reducible apply EV.or | with_reducible apply AN.step | with_reducible apply AN.one | with_reducible apply ANc.t | with_reducible exact ANc.f | with_reducible apply OR.step | with_reducible apply OR.one | with_reducible exact ORc.t | with_reducible apply ORc.f | with_reducible apply EV.not | with_reducible apply EV.lst | with_reducible apply EV.bin | with_reducible exact EV.neg | with_reducible apply EV.lev | with_reducible apply EV.joinS | with_reducible apply EV.comp | with_reducible apply CV.of' | with_reducible exact CL.nil | with_reducible apply CL.cons' | with_reducible apply EXS.cons | with_reducible exact EXS.nil | with_reducible apply EXc.next | with_reducible exact EXc.ret | with_reducible apply EX.ret | with_reducible apply EX.asg' | with_reducible exact SetTo.none | with_reducible apply SetTo.ne | with_reducible apply SetTo.eq | with_reducible apply SetAllTo.cons | with_reducible exact SetAllTo.nil | with_reducible apply BindTo.one | with_reducible apply BindTo.tup | with_reducible apply EX.ite' | with_reducible apply EXSc.t | with_reducible apply EXSc.f | with_reducible apply EX.app' | with_reducible apply EX.unp' | with_reducible apply EX.tasg' | with_reducible exact EX.own' | with_reducible apply EX.ownC' | with_reducible apply EX.tasgO0 | with_reducible apply EX.tasgO1 | with_reducible apply EX.setJ0 | with_reducible apply EX.setJ1 | with_reducible apply EX.whl | with_reducible apply WH.t | with_reducible exact WH.f | with_reducible apply EX.for | with_reducible exact FO.nil | with_reducible apply FO.cons' | with_reducible apply FOc.next | with_reducible exact FOc.ret | apply FO.cons' | exact FO.nil | apply CL.cons' | exact CL.nil) | exact (pathV_ok _).mono (by decide) | exact (told_expr p0 h0 _).mono (by decide))
    all_goals first | (apply le_by; (focus repeat' first | with_reducible apply app_le | with_reducible apply cons_le | with_reducible exact nil_le | with_reducible apply sum_cons_le | with_reducible exact sum_nil_le | with_reducible exact join_nil_le | with_reducible apply join_one_le | with_reducible apply join_cons_le | with_reducible apply Nat.add_le_add | with_reducible assumption | with_reducible exact Nat.le_of_eq (by assumption) | exact Nat.le_refl _); kernel_rfl!) | omega | (simp only [List.length_append, List.length_cons, List.length_nil, sumLen, joinL]; omega)
  · rfl
  · rfl
theorem wlist_2 (p0 p1 : TD) (h0 : p0 ∈ toldL) (h1 : p1 ∈ toldL) (j : Int × Int) : CA 90 f_write_list [.tup [p0.1, p1.1]] j (.str (joinL (litC 62) [p0.2.1, p1.2.1])) j := by
  obtain ⟨z10, z62, z56, z64, z65, z67, z68, z70, z71, z73, z7, z74, z75, z76, z78, z79, z80, z81, z82, z83⟩ := zl
  have s0 := (told_short p0 h0).1
  have s1 := (told_short p1 h1).1
  apply CA.of' (d := d_write_list) (ρ := [(43, .tup [p0.1, p1.1])]) rfl rfl
  · show EXS 89 d_write_list.body _ _ _
    unfold d_write_list
    repeat' (first | (first | ((with_reducible show _ = _); exact rfl) | with_reducible apply EVS.cons | with_reducible exact EVS.nil | with_reducible apply EV.loc | with_reducible exact EV.str | with_reducible exact EV.int | with_reducible apply EV.add | with_reducible apply AddV.s | with_reducible exact AddV.i | with_reducible apply AddV.t | with_reducible apply EV.sub | with_reducible apply EV.call' | with_reducible apply EV.cmp | with_reducible apply EV.tup | with_reducible apply EV.isNone | with_reducible apply EV.ite' | with_reducible apply EVc.t | with_reducible apply EVc.f | exact IsB.t | exact IsB.f | with_reducible exact EV.none | with_reducible exact EV.bool | with_reducible exact EV.cel | with_reducible apply EV.bi | with_reducible apply EV.glob | with_reducible apply EV.and | with_reducible apply EV.or | with_reducible apply AN.step | with_reducible apply AN.one | with_reducible apply ANc.t | with_reducible exact ANc.f | with_reducible apply OR.step | with_reducible apply OR.one | with_reducible exact ORc.t | with_reducible apply ORc.f | with_reducible apply EV.not | with_reducible apply EV.lst | with_reducible apply EV.bin | with_reducible exact EV.neg | with_reducible apply EV.lev | with_reducible apply EV.joinS | with_reducible apply EV.comp | with_reducible apply CV.of' | with_reducible exact CL.nil | with_reducible apply CL.cons' | with_reducible apply EXS.cons | with_reducible exact EXS.nil | with_reducible apply EXc.next | with_reducible exact EXc.ret | with_reducible apply EX.ret | with_reducible apply EX.asg' | with_reducible exact SetTo.none | with_reducible apply SetTo.ne | with_reducible apply SetTo.eq | with_reducible apply SetAllTo.cons | with_reducible exact SetAllTo.nil | with_reducible apply BindTo.one | with_reducible apply BindTo.tup | with_reducible apply EX.ite' | with_reducible apply EXSc.t | with_reducible apply EXSc.f | with_reducible apply EX.app' | with_reducible apply EX.unp' | with_reducible apply EX.tasg' | with_reducible exact EX.own' | with_reducible apply EX.ownC' | with_reducible apply EX.tasgO0 | with_reducible apply EX.tasgO1 | with_reducible apply EX.setJ0 | with_reducible apply EX.setJ1 | with_reducible apply EX.whl | with_reducible apply WH.t | with_reducible exact WH.f | with_reducible apply EX.for | with_reducible exact FO.nil | with_reducible apply FO.cons' | with_reducible apply FOc.next | with_reducible exact FOc.ret | apply FO.cons' | exact FO.nil | apply CL.cons' | exact CL.nil) | exact (told_expr p0 h0 _).mono (by decide) | exact (told_expr p1 h1 _).mono (by decide))
    all_goals first | (apply le_by; (focus repeat' first | with_reducible apply app_le | with_reducible apply cons_le | with_reducible exact nil_le | with_reducible apply sum_cons_le | with_reducible exact sum_nil_le | with_reducible exact join_nil_le | with_reducible apply join_one_le | with_reducible apply join_cons_le | with_reducible apply Nat.add_le_add | with_reducible assumption | with_reducible exact Nat.le_of_eq (by assumption) | exact Nat.le_refl _); kernel_rfl!) | omega | (simp only [List.length_append, List.length_cons, List.length_nil, sumLen, joinL]; omega)
  · rfl
  · rfl
theorem wrow_2 (p0 p1 : TD) (h0 : p0 ∈ toldL) (h1 : p1 ∈ toldL) (j : Int × Int) : CA 60 f_write_row [.lst [.str p0.2.1, .str p1.2.1]] j (.str (litC 64 ++ joinL (litC 62) [p0.2.1, p1.2.1] ++ litC 10 ++ litC 65)) j := by
  obtain ⟨z10, z62, z56, z64, z65, z67, z68, z70, z71, z73, z7, z74, z75, z76, z78, z79, z80, z81, z82, z83⟩ := zl
  have s0 := (told_short p0 h0).1
  have s1 := (told_short p1 h1).1
  apply CA.of' (d := d_write_row) (ρ := [(43, .lst [.str p0.2.1, .str p1.2.1])]) rfl rfl
  · show EXS 59 d_write_row.body _ _ _
    unfold d_write_row
    repeat' (first | ((with_reducible show _ = _); exact rfl) | with_reducible apply EVS.cons | with_reducible exact EVS.nil | with_reducible apply EV.loc | with_reducible exact EV.str | with_reducible exact EV.int | with_reducible apply EV.add | with_reducible apply AddV.s | with_reducible exact AddV.i | with_reducible apply AddV.t | with_reducible apply EV.sub | with_reducible apply EV.call' | with_reducible apply EV.cmp | with_reducible apply EV.tup | with_reducible apply EV.isNone | with_reducible apply EV.ite' | with_reducible apply EVc.t | with_reducible apply EVc.f | exact IsB.t | exact IsB.f | with_reducible exact EV.none | with_reducible exact EV.bool | with_reducible exact EV.cel | with_reducible apply EV.bi | with_reducible apply EV.glob | with_reducible apply EV.and | with_reducible apply EV.or | with_reducible apply AN.step | with_reducible apply AN.one | with_reducible apply ANc.t | with_reducible exact ANc.f | with_reducible apply OR.step | with_reducible apply OR.one | with_reducible exact ORc.t | with_reducible apply ORc.f | with_reducible apply EV.not | with_reducible apply EV.lst | with_reducible apply EV.bin | with_reducible exact EV.neg | with_reducible apply EV.lev | with_reducible apply EV.joinS | with_reducible apply EV.comp | with_reducible apply CV.of' | with_reducible exact CL.nil | with_reducible apply CL.cons' | with_reducible apply EXS.cons | with_reducible exact EXS.nil | with_reducible apply EXc.next | with_reducible exact EXc.ret | with_reducible apply EX.ret | with_reducible apply EX.asg' | with_reducible exact SetTo.none | with_reducible apply SetTo.ne | with_reducible apply SetTo.eq | with_reducible apply SetAllTo.cons | with_reducible exact SetAllTo.nil | with_reducible apply BindTo.one | with_reducible apply BindTo.tup | with_reducible apply EX.ite' | with_reducible apply EXSc.t | with_reducible apply EXSc.f | with_reducible apply EX.app' | with_reducible apply EX.unp' | with_reducible apply EX.tasg' | with_reducible exact EX.own' | with_reducible apply EX.ownC' | with_reducible apply EX.tasgO0 | with_reducible apply EX.tasgO1 | with_reducible apply EX.setJ0 | with_reducible apply EX.setJ1 | with_reducible apply EX.whl | with_reducible apply WH.t | with_reducible exact WH.f | with_reducible apply EX.for | with_reducible exact FO.nil | with_reducible apply FO.cons' | with_reducible apply FOc.next | with_reducible exact FOc.ret | apply FO.cons' | exact FO.nil | apply CL.cons' | exact CL.nil)
    all_goals first | (apply le_by; (focus repeat' first | with_reducible apply app_le | with_reducible apply cons_le | with_reducible exact nil_le | with_reducible apply sum_cons_le | with_reducible exact sum_nil_le | with_reducible exact join_nil_le | with_reducible apply join_one_le | with_reducible apply join_cons_le | with_reducible apply Nat.add_le_add | with_reducible assumption | with_reducible exact Nat.le_of_eq (by assumption) | exact Nat.le_refl _); kernel_rfl!) | omega | (simp only [List.length_append, List.length_cons, List.length_nil, sumLen, joinL]; omega)
  · rfl
  · rfl
theorem wg0_2 (p0 p1 : TD) (h0 : p0 ∈ toldL) (h1 : p1 ∈ toldL) (j : Int × Int) : CA 110 f_write_gathered [.tup [.str (litC 63), .int 0, .tup [p0.1, p1.1]]] j (.str (litC 64 ++ joinL (litC 62) [p0.2.1, p1.2.1] ++ litC 10 ++ litC 65)) j := by
  apply CA.of' (d := d_write_gathered) (ρ := [(34, .tup [.str (litC 63), .int 0, .tup [p0.1, p1.1]])]) rfl rfl
  · show EXS 109 d_write_gathered.body _ _ _
    unfold d_write_gathered
    repeat' (first | (first | ((with_reducible show _ = _); exact rfl) | with_reducible apply EVS.cons | with_reducible exact EVS.nil | with_reducible apply EV.loc | with_reducible exact EV.str | with_reducible exact EV.int | with_reducible apply EV.add | with_reducible apply AddV.s | with_reducible exact AddV.i | with_reducible apply AddV.t | with_reducible apply EV.sub | with_reducible apply EV.call' | with_reducible apply EV.cmp | with_reducible apply EV.tup | with_reducible apply EV.isNone | with_reducible apply EV.ite' | with_reducible apply EVc.t | with_reducible apply EVc.f | exact IsB.t | exact IsB.f | with_reducible exact EV.none | with_reducible exact EV.bool | with_reducible exact EV.cel | with_reducible apply EV.bi | with_reducible apply EV.glob | with_reducible apply EV.and | with_reducible apply EV.or | with_reducible apply AN.step | with_reducible apply AN.one | with_reducible apply ANc.t | with_reducible exact ANc.f | with_reducible apply OR.step | with_reducible apply OR.one | with_reducible exact ORc.t | with_reducible apply ORc.f | with_reducible apply EV.not | with_reducible apply EV.lst | with_reducible apply EV.bin | with_reducible exact EV.neg | with_reducible apply EV.lev | with_reducible apply EV.joinS | with_reducible apply EV.comp | with_reducible apply CV.of' | with_reducible exact CL.nil | with_reducible apply CL.cons' | with_reducible apply EXS.cons | with_reducible exact EXS.nil | with_reducible apply EXc.next | with_reducible exact EXc.ret | with_reducible apply EX.ret | with_reducible apply EX.asg' | with_reducible exact SetTo.none | with_reducible apply SetTo.ne | with_reducible apply SetTo.eq | with_reducible apply SetAllTo.cons | with_reducible exact SetAllTo.nil | with_reducible apply BindTo.one | with_reducible apply BindTo.tup | with_reducible apply EX.ite' | with_reducible apply EXSc.t | with_reducible apply EXSc.f | with_reducible apply EX.app' | with_reducible apply EX.unp' | with_reducible apply EX.tasg' | with_reducible exact EX.own' | with_reducible apply EX.ownC' | with_reducible apply EX.tasgO0 | with_reducible apply EX.tasgO1 | with_reducible apply EX.setJ0 | with_reducible apply EX.setJ1 | with_reducible apply EX.whl | with_reducible apply WH.t | with_reducible exact WH.f | with_reducible apply EX.for | with_reducible exact FO.nil | with_reducible apply FO.cons' | with_reducible apply FOc.next | with_reducible exact FOc.ret | apply FO.cons' | exact FO.nil | apply CL.cons' | exact CL.nil) | exact (told_expr p0 h0 _).mono (by decide) | exact (told_expr p1 h1 _).mono (by decide) | exact (wrow_2 p0 p1 h0 h1 _).mono (by decide))
  · rfl
  · rfl
theorem wg1_2 (p0 p1 : TD) (h0 : p0 ∈ toldL) (h1 : p1 ∈ toldL) (j : Int × Int) : CA 110 f_write_gathered [.tup [.str (litC 66), .int 0, .tup [p0.1, p1.1]]] j (.str (litC 67 ++ joinL (litC 62) [p0.2.1, p1.2.1] ++ litC 68)) j := by
  obtain ⟨z10, z62, z56, z64, z65, z67, z68, z70, z71, z73, z7, z74, z75, z76, z78, z79, z80, z81, z82, z83⟩ := zl
  have s0 := (told_short p0 h0).1
  have s1 := (told_short p1 h1).1
  apply CA.of' (d := d_write_gathered) (ρ := [(34, .tup [.str (litC 66), .int 0, .tup [p0.1, p1.1]])]) rfl rfl
  · show EXS 109 d_write_gathered.body _ _ _
    unfold d_write_gathered
    repeat' (first | (first | ((with_reducible show _ = _); exact rfl) | with_reducible apply EVS.cons | with_reducible exact EVS.nil | with_reducible apply EV.loc | with_reducible exact EV.str | with_reducible exact EV.int | with_reducible apply EV.add | with_reducible apply AddV.s | with_reducible exact AddV.i | with_reducible apply AddV.t | with_reducible apply EV.sub | with_reducible apply EV.call' | with_reducible apply EV.cmp | with_reducible apply EV.tup | with_reducible apply EV.isNone | with_reducible apply EV.ite' | with_reducible apply EVc.t | with_reducible apply EVc.f | exact IsB.t | exact IsB.f | with_reducible exact EV.none | with_reducible exact EV.bool | with_reducible exact EV.cel | with_reducible apply EV.bi | with_reducible apply EV.glob | with_reducible apply EV.and | with_reducible apply EV.or | with_reducible apply AN.step | with_reducible apply AN.one | with_reducible apply ANc.t | with_reducible exact ANc.f | with_reducible apply OR.step | with_reducible apply OR.one | with_reducible exact ORc.t | with_reducible apply ORc.f | with_reducible apply EV.not | with_reducible apply EV.lst | with_reducible apply EV.bin | with_reducible exact EV.neg | with_reducible apply EV.lev | with_reducible apply EV.joinS | with_reducible apply EV.comp | with_reducible apply CV.of' | with_reducible exact CL.nil | with_reducible apply CL.cons' | with_reducible apply EXS.cons | with_reducible exact EXS.nil | with_reducible apply EXc.next | with_reducible exact EXc.ret | with_reducible apply EX.ret | with_reducible apply EX.asg' | with_reducible exact SetTo.none | with_reducible apply SetTo.ne | with_reducible apply SetTo.eq | with_reducible apply SetAllTo.cons | with_reducible exact SetAllTo.nil | with_reducible apply BindTo.one | with_reducible apply BindTo.tup | with_reducible apply EX.ite' | with_reducible apply EXSc.t | with_reducible apply EXSc.f | with_reducible apply EX.app' | with_reducible apply EX.unp' | with_reducible apply EX.tasg' | with_reducible exact EX.own' | with_reducible apply EX.ownC' | with_reducible apply EX.tasgO0 | with_reducible apply EX.tasgO1 | with_reducible apply EX.setJ0 | with_reducible apply EX.setJ1 | with_reducible apply EX.whl | with_reducible apply WH.t | with_reducible exact WH.f | with_reducible apply EX.for | with_reducible exact FO.nil | with_reducible apply FO.cons' | with_reducible apply FOc.next | with_reducible exact FOc.ret | apply FO.cons' | exact FO.nil | apply CL.cons' | exact CL.nil) | exact (wlist_2 p0 p1 h0 h1 _).mono (by decide))
    all_goals first | (apply le_by; (focus repeat' first | with_reducible apply app_le | with_reducible apply cons_le | with_reducible exact nil_le | with_reducible apply sum_cons_le | with_reducible exact sum_nil_le | with_reducible exact join_nil_le | with_reducible apply join_one_le | with_reducible apply join_cons_le | with_reducible apply Nat.add_le_add | with_reducible assumption | with_reducible exact Nat.le_of_eq (by assumption) | exact Nat.le_refl _); kernel_rfl!) | omega | (simp only [List.length_append, List.length_cons, List.length_nil, sumLen, joinL]; omega)
  · rfl
  · rfl
theorem wg2_2 (p0 p1 : TD) (h0 : p0 ∈ toldL) (h1 : p1 ∈ toldL) (j : Int × Int) : CA 110 f_write_gathered [.tup [.str (litC 69), .int 0, .str (litC 70), .tup [p0.1, p1.1]]] j (.str (litC 70 ++ litC 83 ++ joinL (litC 62) [p0.2.1, p1.2.1] ++ litC 65)) j := by
  obtain ⟨z10, z62, z56, z64, z65, z67, z68, z70, z71, z73, z7, z74, z75, z76, z78, z79, z80, z81, z82, z83⟩ := zl
  have s0 := (told_short p0 h0).1
  have s1 := (told_short p1 h1).1
  apply CA.of' (d := d_write_gathered) (ρ := [(34, .tup [.str (litC 69), .int 0, .str (litC 70), .tup [p0.1, p1.1]])]) rfl rfl
  · show EXS 109 d_write_gathered.body _ _ _
    unfold d_write_gathered
    repeat' (first | (first | ((with_reducible show _ = _); exact rfl) | with_reducible apply EVS.cons | with_reducible exact EVS.nil | with_reducible apply EV.loc | with_reducible exact EV.str | with_reducible exact EV.int | with_reducible apply EV.add | with_reducible apply AddV.s | with_reducible exact AddV.i | with_reducible apply AddV.t | with_reducible apply EV.sub | with_reducible apply EV.call' | with_reducible apply EV.cmp | with_reducible apply EV.tup | with_reducible apply EV.isNone | with_reducible apply EV.ite' | with_reducible apply EVc.t | with_reducible apply EVc.f | exact IsB.t | exact IsB.f | with_reducible exact EV.none | with_reducible exact EV.bool | with_reducible exact EV.cel | with_reducible apply EV.bi | with_reducible apply EV.glob | with_reducible apply EV.and | with_reducible apply EV.or | with_reducible apply AN.step | with_reducible apply AN.one | with_reducible apply ANc.t | with_reducible exact ANc.f | with_reducible apply OR.step | with_reducible apply OR.one | with_reducible exact ORc.t | with_reducible apply ORc.f | with_reducible apply EV.not | with_reducible apply EV.lst | with_reducible apply EV.bin | with_reducible exact EV.neg | with_reducible apply EV.lev | with_reducible apply EV.joinS | with_reducible apply EV.comp | with_reducible apply CV.of' | with_reducible exact CL.nil | with_reducible apply CL.cons' | with_reducible apply EXS.cons | with_reducible exact EXS.nil | with_reducible apply EXc.next | with_reducible exact EXc.ret | with_reducible apply EX.ret | with_reducible apply EX.asg' | with_reducible exact SetTo.none | with_reducible apply SetTo.ne | with_reducible apply SetTo.eq | with_reducible apply SetAllTo.cons | with_reducible exact SetAllTo.nil | with_reducible apply BindTo.one | with_reducible apply BindTo.tup | with_reducible apply EX.ite' | with_reducible apply EXSc.t | with_reducible apply EXSc.f | with_reducible apply EX.app' | with_reducible apply EX.unp' | with_reducible apply EX.tasg' | with_reducible exact EX.own' | with_reducible apply EX.ownC' | with_reducible apply EX.tasgO0 | with_reducible apply EX.tasgO1 | with_reducible apply EX.setJ0 | with_reducible apply EX.setJ1 | with_reducible apply EX.whl | with_reducible apply WH.t | with_reducible exact WH.f | with_reducible apply EX.for | with_reducible exact FO.nil | with_reducible apply FO.cons' | with_reducible apply FOc.next | with_reducible exact FOc.ret | apply FO.cons' | exact FO.nil | apply CL.cons' | exact CL.nil) | exact (wlist_2 p0 p1 h0 h1 _).mono (by decide))
    all_goals first | (apply le_by; (focus repeat' first | with_reducible apply app_le | with_reducible apply cons_le | with_reducible exact nil_le | with_reducible apply sum_cons_le | with_reducible exact sum_nil_le | with_reducible exact join_nil_le | with_reducible apply join_one_le | with_reducible apply join_cons_le | with_reducible apply Nat.add_le_add | with_reducible assumption | with_reducible exact Nat.le_of_eq (by assumption) | exact Nat.le_refl _); kernel_rfl!) | omega | (simp only [List.length_append, List.length_cons, List.length_nil, sumLen, joinL]; omega)
  · rfl
  · rfl
theorem wg4_2 (p0 p1 : TD) (h0 : p0 ∈ toldL) (h1 : p1 ∈ toldL) (j : Int × Int) : CA 110 f_write_gathered [.tup [.str (litC 21), .int 0, pathV, .tup [.tup [.str (litC 7), p0.1], .tup [.str (litC 74), p1.1]]]] j (.str (litC 78 ++ (litC 79 ++ joinL (litC 62) [litC 7 ++ litC 76 ++ p0.2.1, litC 74 ++ litC 76 ++ p1.2.1] ++ litC 80))) j := by
  obtain ⟨z10, z62, z56, z64, z65, z67, z68, z70, z71, z73, z7, z74, z75, z76, z78, z79, z80, z81, z82, z83⟩ := zl
  have s0 := (told_short p0 h0).1
  have s1 := (told_short p1 h1).1
  apply CA.of' (d := d_write_gathered) (ρ := [(34, .tup [.str (litC 21), .int 0, pathV, .tup [.tup [.str (litC 7), p0.1], .tup [.str (litC 74), p1.1]]])]) rfl rfl
  · show EXS 109 d_write_gathered.body _ _ _
    unfold d_write_gathered
    repeat' (first | (first | ((with_reducible show _ = _); exact rfl) | with_reducible apply EVS.cons | with_reducible exact EVS.nil | with_reducible apply EV.loc | with_reducible exact EV.str | with_reducible exact EV.int | with_reducible apply EV.add | with_reducible apply AddV.s | with_reducible exact AddV.i | with_reducible apply AddV.t | with_reducible apply EV.sub | with_reducible apply EV.call' | with_reducible apply EV.cmp | with_reducible apply EV.tup | with_reducible apply EV.isNone | with_reducible apply EV.ite' | with_reducible apply EVc.t | with_reducible apply EVc.f | exact IsB.t | exact IsB.f | with_reducible exact EV.none | with_reducible exact EV.bool | with_reducible exact EV.cel | with_reducible apply EV.bi | with_reducible apply EV.glob | with_reducible apply EV.and | with_reducible apply EV.or | with_reducible apply AN.step | with_reducible apply AN.one | with_reducible apply ANc.t | with_reducible exact ANc.f | with_reducible apply OR.step | with_reducible apply OR.one | with_reducible exact ORc.t | with_reducible apply ORc.f | with_reducible apply EV.not | with_reducible apply EV.lst | with_reducible apply EV.bin | with_reducible exact EV.neg | with_reducible apply EV.lev | with_reducible apply EV.joinS | with_reducible apply EV.comp | with_reducible apply CV.of' | with_reducible exact CL.nil | with_reducible apply CL.cons' | with_reducible apply EXS.cons | with_reducible exact EXS.nil | with_reducible apply EXc.next | with_reducible exact EXc.ret | with_reducible apply EX.ret | with_reducible apply EX.asg' | with_reducible exact SetTo.none | with_reducible apply SetTo.ne | with_reducible apply SetTo.eq | with_reducible apply SetAllTo.cons | with_reducible exact SetAllTo.nil | with_reducible apply BindTo.one | with_reducible apply BindTo.tup | with_reducible apply EX.ite' | with_reducible apply EXSc.t | with_reducible apply EXSc.f | with_reducible apply EX.app' | with_reducible apply EX.unp' | with_reducible apply EX.tasg' | with_reducible exact EX.own' | with_reducible apply EX.ownC' | with_reducible apply EX.tasgO0 | with_reducible apply EX.tasgO1 | with_reducible apply EX.setJ0 | with_reducible apply EX.setJ1 | with_reducible apply EX.whl | with_reducible apply WH.t | with_reducible exact WH.f | with_reducible apply EX.for | with_reducible exact FO.nil | with_reducible apply FO.cons' | with_reducible apply FOc.next | with_reducible exact FOc.ret | apply FO.cons' | exact FO.nil | apply CL.cons' | exact CL.nil) | exact (pathV_ok _).mono (by decide) | exact (told_expr p0 h0 _).mono (by decide) | exact (told_expr p1 h1 _).mono (by decide))
    all_goals first | (apply le_by; (focus repeat' first | with_reducible apply app_le | with_reducible apply cons_le | with_reducible exact nil_le | with_reducible apply sum_cons_le | with_reducible exact sum_nil_le | with_reducible exact join_nil_le | with_reducible apply join_one_le | with_reducible apply join_cons_le | with_reducible apply Nat.add_le_add | with_reducible assumption | with_reducible exact Nat.le_of_eq (by assumption) | exact Nat.le_refl _); kernel_rfl!) | omega | (simp only [List.length_append, List.length_cons, List.length_nil, sumLen, joinL]; omega)
  · rfl
  · rfl
theorem wlist_3 (p0 p1 p2 : TD) (h0 : p0 ∈ toldL) (h1 : p1 ∈ toldL) (h2 : p2 ∈ toldL) (j : Int × Int) : CA 90 f_write_list [.tup [p0.1, p1.1, p2.1]] j (.str (joinL (litC 62) [p0.2.1, p1.2.1, p2.2.1])) j := by
  obtain ⟨z10, z62, z56, z64, z65, z67, z68, z70, z71, z73, z7, z74, z75, z76, z78, z79, z80, z81, z82, z83⟩ := zl
  have s0 := (told_short p0 h0).1
  have s1 := (told_short p1 h1).1
  have s2 := (told_short p2 h2).1
  apply CA.of' (d := d_write_list) (ρ := [(43, .tup [p0.1, p1.1, p2.1])]) rfl rfl
  · show EXS 89 d_write_list.body _ _ _
    unfold d_write_list
    repeat' (first | (first | ((with_reducible show _ = _); exact rfl) | with_reducible apply EVS.cons | with_reducible exact EVS.nil | with_reducible apply EV.loc | with_reducible exact EV.str | with_reducible exact EV.int | with_reducible apply EV.add | with_reducible apply AddV.s | with_reducible exact AddV.i | with_reducible apply AddV.t | with_reducible apply EV.sub | with_reducible apply EV.call' | with_reducible apply EV.cmp | with_reducible apply EV.tup | with_reducible apply EV.isNone | with_reducible apply EV.ite' | with_reducible apply EVc.t | with_reducible apply EVc.f | exact IsB.t | exact IsB.f | with_reducible exact EV.none | with_reducible exact EV.bool | with_reducible exact EV.cel | with_reducible apply EV.bi | with_reducible apply EV.glob | with_reducible apply EV.and | with_reducible apply EV.or | with_reducible apply AN.step | with_reducible apply AN.one | with_reducible apply ANc.t | with_reducible exact ANc.f | with_reducible apply OR.step | with_reducible apply OR.one | with_reducible exact ORc.t | with_reducible apply ORc.f | with_reducible apply EV.not | with_reducible apply EV.lst | with_reducible apply EV.bin | with_reducible exact EV.neg | with_reducible apply EV.lev | with_reducible apply EV.joinS | with_reducible apply EV.comp | with_reducible apply CV.of' | with_reducible exact CL.nil | with_reducible apply CL.cons' | with_reducible apply EXS.cons | with_reducible exact EXS.nil | with_reducible apply EXc.next | with_reducible exact EXc.ret | with_reducible apply EX.ret | with_reducible apply EX.asg' | with_reducible exact SetTo.none | with_reducible apply SetTo.ne | with_reducible apply SetTo.eq | with_reducible apply SetAllTo.cons | with_reducible exact SetAllTo.nil | with_reducible apply BindTo.one | with_reducible apply BindTo.tup | with_reducible apply EX.ite' | with_reducible apply EXSc.t | with_reducible apply EXSc.f | with_reducible apply EX.app' | with_reducible apply EX.unp' | with_reducible apply EX.tasg' | with_reducible exact EX.own' | with_reducible apply EX.ownC' | with_reducible apply EX.tasgO0 | with_reducible apply EX.tasgO1 | with_reducible apply EX.setJ0 | with_reducible apply EX.setJ1 | with_reducible apply EX.whl | with_reducible apply WH.t | with_reducible exact WH.f | with_reducible apply EX.for | with_reducible exact FO.nil | with_reducible apply FO.cons' | with_reducible apply FOc.next | with_reducible exact FOc.ret | apply FO.cons' | exact FO.nil | apply CL.cons' | exact CL.nil) | exact (told_expr p0 h0 _).mono (by decide) | exact (told_expr p1 h1 _).mono (by decide) | exact (told_expr p2 h2 _).mono (by decide))
    all_goals first | (apply le_by; (focus repeat' first | with_reducible apply app_le | with_reducible apply cons_le | with_reducible exact nil_le | with_reducible apply sum_cons_le | with_reducible exact sum_nil_le | with_reducible exact join_nil_le | with_reducible apply join_one_le | with_reducible apply join_cons_le | with_reducible apply Nat.add_le_add | with_reducible assumption | with_reducible exact Nat.le_of_eq (by assumption) | exact Nat.le_refl _); kernel_rfl!) | omega | (simp only [List.length_append, List.length_cons, List.length_nil, sumLen, joinL]; omega)
  · rfl
  · rfl
theorem wrow_3 (p0 p1 p2 : TD) (h0 : p0 ∈ toldL) (h1 : p1 ∈ toldL) (h2 : p2 ∈ toldL) (j : Int × Int) : CA 60 f_write_row [.lst [.str p0.2.1, .str p1.2.1, .str p2.2.1]] j (.str (litC 64 ++ joinL (litC 62) [p0.2.1, p1.2.1, p2.2.1] ++ litC 10 ++ litC 65)) j := by
  obtain ⟨z10, z62, z56, z64, z65, z67, z68, z70, z71, z73, z7, z74, z75, z76, z78, z79, z80, z81, z82, z83⟩ := zl
  have s0 := (told_short p0 h0).1
  have s1 := (told_short p1 h1).1
  have s2 := (told_short p2 h2).1
  apply CA.of' (d := d_write_row) (ρ := [(43, .lst [.str p0.2.1, .str p1.2.1, .str p2.2.1])]) rfl rfl
  · show EXS 59 d_write_row.body _ _ _
    unfold d_write_row
    repeat' (first | ((with_reducible show _ = _); exact rfl) | with_reducible apply EVS.cons | with_reducible exact EVS.nil | with_reducible apply EV.loc | with_reducible exact EV.str | with_reducible exact EV.int | with_reducible apply EV.add | with_reducible apply AddV.s | with_reducible exact AddV.i | with_reducible apply AddV.t | with_reducible apply EV.sub | with_reducible apply EV.call' | with_reducible apply EV.cmp | with_reducible apply EV.tup | with_reducible apply EV.isNone | with_reducible apply EV.ite' | with_reducible apply EVc.t | with_reducible apply EVc.f | exact IsB.t | exact IsB.f | with_reducible exact EV.none | with_reducible exact EV.bool | with_reducible exact EV.cel | with_reducible apply EV.bi | with_reducible apply EV.glob | with_reducible apply EV.and | with_reducible apply EV.or | with_reducible apply AN.step | with_reducible apply AN.one | with_reducible apply ANc.t | with_reducible exact ANc.f | with_reducible apply OR.step | with_reducible apply OR.one | with_reducible exact ORc.t | with_reducible apply ORc.f | with_reducible apply EV.not | with_reducible apply EV.lst | with_reducible apply EV.bin | with_reducible exact EV.neg | with_reducible apply EV.lev | with_reducible apply EV.joinS | with_reducible apply EV.comp | with_reducible apply CV.of' | with_reducible exact CL.nil | with_reducible apply CL.cons' | with_reducible apply EXS.cons | with_reducible exact EXS.nil | with_reducible apply EXc.next | with_reducible exact EXc.ret | with_reducible apply EX.ret | with_reducible apply EX.asg' | with_reducible exact SetTo.none | with_reducible apply SetTo.ne | with_reducible apply SetTo.eq | with_reducible apply SetAllTo.cons | with_reducible exact SetAllTo.nil | with_reducible apply BindTo.one | with_reducible apply BindTo.tup | with_reducible apply EX.ite' | with_reducible apply EXSc.t | with_reducible apply EXSc.f | with_reducible apply EX.app' | with_reducible apply EX.unp' | with_reducible apply EX.tasg' | with_reducible exact EX.own' | with_reducible apply EX.ownC' | with_reducible apply EX.tasgO0 | with_reducible apply EX.tasgO1 | with_reducible apply EX.setJ0 | with_reducible apply EX.setJ1 | with_reducible apply EX.whl | with_reducible apply WH.t | with_reducible exact WH.f | with_reducible apply EX.for | with_reducible exact FO.nil | with_reducible apply FO.cons' | with_reducible apply FOc.next | with_reducible exact FOc.ret | apply FO.cons' | exact FO.nil | apply CL.cons' | exact CL.nil)
    all_goals first | (apply le_by; (focus repeat' first | with_reducible apply app_le | with_reducible apply cons_le | with_reducible exact nil_le | with_reducible apply sum_cons_le | with_reducible exact sum_nil_le | with_reducible exact join_nil_le | with_reducible apply join_one_le | with_reducible apply join_cons_le | with_reducible apply Nat.add_le_add | with_reducible assumption | with_reducible exact Nat.le_of_eq (by assumption) | exact Nat.le_refl _); kernel_rfl!) | omega | (simp only [List.length_append, List.length_cons, List.length_nil, sumLen, joinL]; omega)
  · rfl
  · rfl
theorem wg0_3 (p0 p1 p2 : TD) (h0 : p0 ∈ toldL) (h1 : p1 ∈ toldL) (h2 : p2 ∈ toldL) (j : Int × Int) : CA 110 f_write_gathered [.tup [.str (litC 63), .int 0, .tup [p0.1, p1.1, p2.1]]] j (.str (litC 64 ++ joinL (litC 62) [p0.2.1, p1.2.1, p2.2.1] ++ litC 10 ++ litC 65)) j := by
  apply CA.of' (d := d_write_gathered) (ρ := [(34, .tup [.str (litC 63), .int 0, .tup [p0.1, p1.1, p2.1]])]) rfl rfl
  · show EXS 109 d_write_gathered.body _ _ _
    unfold d_write_gathered
    repeat' (first | (first | ((with_reducible show _ = _); exact rfl) | with_reducible apply EVS.cons | with_reducible exact EVS.nil | with_reducible apply EV.loc | with_reducible exact EV.str | with_reducible exact EV.int | with_reducible apply EV.add | with_reducible apply AddV.s | with_reducible exact AddV.i | with_reducible apply AddV.t | with_reducible apply EV.sub | with_reducible apply EV.call' | with_reducible apply EV.cmp | with_reducible apply EV.tup | with_reducible apply EV.isNone | with_reducible apply EV.ite' | with_reducible apply EVc.t | with_reducible apply EVc.f | exact IsB.t | exact IsB.f | with_reducible exact EV.none | with_reducible exact EV.bool | with_reducible exact EV.cel | with_reducible apply EV.bi | with_reducible apply EV.glob | with_reducible apply EV.and | with_reducible apply EV.or | with_reducible apply AN.step | with_reducible apply AN.one | with_reducible apply ANc.t | with_reducible exact ANc.f | with_reducible apply OR.step | with_reducible apply OR.one | with_reducible exact ORc.t | with_reducible apply ORc.f | with_reducible apply EV.not | with_reducible apply EV.lst | with_reducible apply EV.bin | with_reducible exact EV.neg | with_reducible apply EV.lev | with_reducible apply EV.joinS | with_reducible apply EV.comp | with_reducible apply CV.of' | with_reducible exact CL.nil | with_reducible apply CL.cons' | with_reducible apply EXS.cons | with_reducible exact EXS.nil | with_reducible apply EXc.next | with_reducible exact EXc.ret | with_reducible apply EX.ret | with_reducible apply EX.asg' | with_reducible exact SetTo.none | with_reducible apply SetTo.ne | with_reducible apply SetTo.eq | with_reducible apply SetAllTo.cons | with_reducible exact SetAllTo.nil | with_reducible apply BindTo.one | with_reducible apply BindTo.tup | with_reducible apply EX.ite' | with_reducible apply EXSc.t | with_reducible apply EXSc.f | with_reducible apply EX.app' | with_reducible apply EX.unp' | with_reducible apply EX.tasg' | with_reducible exact EX.own' | with_reducible apply EX.ownC' | with_reducible apply EX.tasgO0 | with_reducible apply EX.tasgO1 | with_reducible apply EX.setJ0 | with_reducible apply EX.setJ1 | with_reducible apply EX.whl | with_reducible apply WH.t | with_reducible exact WH.f | with_reducible apply EX.for | with_reducible exact FO.nil | with_reducible apply FO.cons' | with_reducible apply FOc.next | with_reducible exact FOc.ret | apply FO.cons' | exact FO.nil | apply CL.cons' | exact CL.nil) | exact (told_expr p0 h0 _).mono (by decide) | exact (told_expr p1 h1 _).mono (by decide) | exact (told_expr p2 h2 _).mono (by decide) | exact (wrow_3 p0 p1 p2 h0 h1 h2 _).mono (by decide))
  · rfl
  · rfl
theorem wg1_3 (p0 p1 p2 : TD) (h0 : p0 ∈ toldL) (h1 : p1 ∈ toldL) (h2 : p2 ∈ toldL) (j : Int × Int) : CA 110 f_write_gathered [.tup [.str (litC 66), .int 0, .tup [p0.1, p1.1, p2.1]]] j (.str (litC 67 ++ joinL (litC 62) [p0.2.1, p1.2.1, p2.2.1] ++ litC 68)) j := by
  obtain ⟨z10, z62, z56, z64, z65, z67, z68, z70, z71, z73, z7, z74, z75, z76, z78, z79, z80, z81, z82, z83⟩ := zl
  have s0 := (told_short p0 h0).1
  have s1 := (told_short p1 h1).1
  have s2 := (told_short p2 h2).1
  apply CA.of' (d := d_write_gathered) (ρ := [(34, .tup [.str (litC 66), .int 0, .tup [p0.1, p1.1, p2.1]])]) rfl rfl
  · show EXS 109 d_write_gathered.body _ _ _
    unfold d_write_gathered
    repeat' (first | (first | ((with_reducible show _ = _); exact rfl) | with_reducible apply EVS.cons | with_reducible exact EVS.nil | with_reducible apply EV.loc | with_reducible exact EV.str | with_reducible exact EV.int | with_reducible apply EV.add | with_reducible apply AddV.s | with_reducible exact AddV.i | with_reducible apply AddV.t | with_reducible apply EV.sub | with_reducible apply EV.call' | with_reducible apply EV.cmp | with_reducible apply EV.tup | with_reducible apply EV.isNone | with_reducible apply EV.ite' | with_reducible apply EVc.t | with_reducible apply EVc.f | exact IsB.t | exact IsB.f | with_reducible exact EV.none | with_reducible exact EV.bool | with_reducible exact EV.cel | with_reducible apply EV.bi | with_reducible apply EV.glob | with_reducible apply EV.and | with_reducible apply EV.or | with_reducible apply AN.step | with_reducible apply AN.one | with_reducible apply ANc.t | with_reducible exact ANc.f | with_reducible apply OR.step | with_reducible apply OR.one | with_reducible exact ORc.t | with_reducible apply ORc.f | with_reducible apply EV.not | with_reducible apply EV.lst | with_reducible apply EV.bin | with_reducible exact EV.neg | with_reducible apply EV.lev | with_reducible apply EV.joinS | with_reducible apply EV.comp | with_reducible apply CV.of' | with_reducible exact CL.nil | with_reducible apply CL.cons' | with_reducible apply EXS.cons | with_reducible exact EXS.nil | with_reducible apply EXc.next | with_reducible exact EXc.ret | with_reducible apply EX.ret | with_reducible apply EX.asg' | with_reducible exact SetTo.none | with_reducible apply SetTo.ne | with_reducible apply SetTo.eq | with_reducible apply SetAllTo.cons | with_reducible exact SetAllTo.nil | with_reducible apply BindTo.one | with_reducible apply BindTo.tup | with_reducible apply EX.ite' | with_reducible apply EXSc.t | with_reducible apply EXSc.f | with_reducible apply EX.app' | with_reducible apply EX.unp' | with_reducible apply EX.tasg' | with_reducible exact EX.own' | with_reducible apply EX.ownC' | with_reducible apply EX.tasgO0 | with_reducible apply EX.tasgO1 | with_reducible apply EX.setJ0 | with_reducible apply EX.setJ1 | with_reducible apply EX.whl | with_reducible apply WH.t | with_reducible exact WH.f | with_reducible apply EX.for | with_reducible exact FO.nil | with_reducible apply FO.cons' | with_reducible apply FOc.next | with_reducible exact FOc.ret | apply FO.cons' | exact FO.nil | apply CL.cons' | exact CL.nil) | exact (wlist_3 p0 p1 p2 h0 h1 h2 _).mono (by decide))
    all_goals first | (apply le_by; (focus repeat' first | with_reducible apply app_le | with_reducible apply cons_le | with_reducible exact nil_le | with_reducible apply sum_cons_le | with_reducible exact sum_nil_le | with_reducible exact join_nil_le | with_reducible apply join_one_le | with_reducible apply join_cons_le | with_reducible apply Nat.add_le_add | with_reducible assumption | with_reducible exact Nat.le_of_eq (by assumption) | exact Nat.le_refl _); kernel_rfl!) | omega | (simp only [List.length_append, List.length_cons, List.length_nil, sumLen, joinL]; omega)
  · rfl
  · rfl
theorem wg2_3 (p0 p1 p2 : TD) (h0 : p0 ∈ toldL) (h1 : p1 ∈ toldL) (h2 : p2 ∈ toldL) (j : Int × Int) : CA 110 f_write_gathered [.tup [.str (litC 69), .int 0, .str (litC 70), .tup [p0.1, p1.1, p2.1]]] j (.str (litC 70 ++ litC 83 ++ joinL (litC 62) [p0.2.1, p1.2.1, p2.2.1] ++ litC 65)) j := by
  obtain ⟨z10, z62, z56, z64, z65, z67, z68, z70, z71, z73, z7, z74, z75, z76, z78, z79, z80, z81, z82, z83⟩ := zl
  have s0 := (told_short p0 h0).1
  have s1 := (told_short p1 h1).1
  have s2 := (told_short p2 h2).1
  apply CA.of' (d := d_write_gathered) (ρ := [(34, .tup [.str (litC 69), .int 0, .str (litC 70), .tup [p0.1, p1.1, p2.1]])]) rfl rfl
  · show EXS 109 d_write_gathered.body _ _ _
    unfold d_write_gathered
    repeat' (first | (first | ((with_reducible show _ = _); exact rfl) | with_reducible apply EVS.cons | with_reducible exact EVS.nil | with_reducible apply EV.loc | with_reducible exact EV.str | with_reducible exact EV.int | with_reducible apply EV.add | with_reducible apply AddV.s | with_reducible exact AddV.i | with_reducible apply AddV.t | with_reducible apply EV.sub | with_reducible apply EV.call' | with_reducible apply EV.cmp | with_reducible apply EV.tup | with_reducible apply EV.isNone | with_reducible apply EV.ite' | with_reducible apply EVc.t | with_reducible apply EVc.f | exact IsB.t | exact IsB.f | with_reducible exact EV.none | with_reducible exact EV.bool | with_reducible exact EV.cel | with_reducible apply EV.bi | with_reducible apply EV.glob | with_reducible apply EV.and | with_reducible apply EV.or | with_reducible apply AN.step | with_reducible apply AN.one | with_reducible apply ANc.t | with_reducible exact ANc.f | with_reducible apply OR.step | with_reducible apply OR.one | with_reducible exact ORc.t | with_reducible apply ORc.f | with_reducible apply EV.not | with_reducible apply EV.lst | with_reducible apply EV.bin | with_reducible exact EV.neg | with_reducible apply EV.lev | with_reducible apply EV.joinS | with_reducible apply EV.comp | with_reducible apply CV.of' | with_reducible exact CL.nil | with_reducible apply CL.cons' | with_reducible apply EXS.cons | with_reducible exact EXS.nil | with_reducible apply EXc.next | with_reducible exact EXc.ret | with_reducible apply EX.ret | with_reducible apply EX.asg' | with_reducible exact SetTo.none | with_reducible apply SetTo.ne | with_reducible apply SetTo.eq | with_reducible apply SetAllTo.cons | with_reducible exact SetAllTo.nil | with_reducible apply BindTo.one | with_reducible apply BindTo.tup | with_reducible apply EX.ite' | with_reducible apply EXSc.t | with_reducible apply EXSc.f | with_reducible apply EX.app' | with_reducible apply EX.unp' | with_reducible apply EX.tasg' | with_reducible exact EX.own' | with_reducible apply EX.ownC' | with_reducible apply EX.tasgO0 | with_reducible apply EX.tasgO1 | with_reducible apply EX.setJ0 | with_reducible apply EX.setJ1 | with_reducible apply EX.whl | with_reducible apply WH.t | with_reducible exact WH.f | with_reducible apply EX.for | with_reducible exact FO.nil | with_reducible apply FO.cons' | with_reducible apply FOc.next | with_reducible exact FOc.ret | apply FO.cons' | exact FO.nil | apply CL.cons' | exact CL.nil) | exact (wlist_3 p0 p1 p2 h0 h1 h2 _).mono (by decide))
    all_goals first | (apply le_by; (focus repeat' first | with_reducible apply app_le | with_reducible apply cons_le | with_reducible exact nil_le | with_reducible apply sum_cons_le | with_reducible exact sum_nil_le | with_reducible exact join_nil_le | with_reducible apply join_one_le | with_reducible apply join_cons_le | with_reducible apply Nat.add_le_add | with_reducible assumption | with_reducible exact Nat.le_of_eq (by assumption) | exact Nat.le_refl _); kernel_rfl!) | omega | (simp only [List.length_append, List.length_cons, List.length_nil, sumLen, joinL]; omega)
  · rfl
  · rfl
theorem wg4_3 (p0 p1 p2 : TD) (h0 : p0 ∈ toldL) (h1 : p1 ∈ toldL) (h2 : p2 ∈ toldL) (j : Int × Int) : CA 110 f_write_gathered [.tup [.str (litC 21), .int 0, pathV, .tup [.tup [.str (litC 7), p0.1], .tup [.str (litC 74), p1.1], .tup [.str (litC 75), p2.1]]]] j (.str (litC 78 ++ (litC 79 ++ joinL (litC 62) [litC 7 ++ litC 76 ++ p0.2.1, litC 74 ++ litC 76 ++ p1.2.1, litC 75 ++ litC 76 ++ p2.2.1] ++ litC 80))) j := by
  obtain ⟨z10, z62, z56, z64, z65, z67, z68, z70, z71, z73, z7, z74, z75, z76, z78, z79, z80, z81, z82, z83⟩ := zl
  have s0 := (told_short p0 h0).1
  have s1 := (told_short p1 h1).1
  have s2 := (told_short p2 h2).1
  apply CA.of' (d := d_write_gathered) (ρ := [(34, .tup [.str (litC 21), .int 0, pathV, .tup [.tup [.str (litC 7), p0.1], .tup [.str (litC 74), p1.1], .tup [.str (litC 75), p2.1]]])]) rfl rfl
  · show EXS 109 d_write_gathered.body _ _ _
    unfold d_write_gathered
    repeat' (first | (first | ((with_reducible show _ = _); exact rfl) | with_reducible apply EVS.cons | with_reducible exact EVS.nil | with_reducible apply EV.loc | with_reducible exact EV.str | with_reducible exact EV.int | with_reducible apply EV.add | with_reducible apply AddV.s | with_reducible exact AddV.i | with_reducible apply AddV.t | with_reducible apply EV.sub | with_reducible apply EV.call' | with_reducible apply EV.cmp | with_reducible apply EV.tup | with_reducible apply EV.isNone | with_reducible apply EV.ite' | with_reducible apply EVc.t | with_reducible apply EVc.f | exact IsB.t | exact IsB.f | with_reducible exact EV.none | with_reducible exact EV.bool | with_reducible exact EV.cel | with_reducible apply EV.bi | with_reducible apply EV.glob | with_reducible apply EV.and | with_reducible apply EV.or | with_reducible apply AN.step | with_reducible apply AN.one | with_reducible apply ANc.t | with_reducible exact ANc.f | with_reducible apply OR.step | with_reducible apply OR.one | with_reducible exact ORc.t | with_reducible apply ORc.f | with_reducible apply EV.not | with_reducible apply EV.lst | with_reducible apply EV.bin | with_reducible exact EV.neg | with_reducible apply EV.lev | with_reducible apply EV.joinS | with_reducible apply EV.comp | with_reducible apply CV.of' | with_reducible exact CL.nil | with_reducible apply CL.cons' | with_reducible apply EXS.cons | with_reducible exact EXS.nil | with_reducible apply EXc.next | with_reducible exact EXc.ret | with_reducible apply EX.ret | with_reducible apply EX.asg' | with_reducible exact SetTo.none | with_reducible apply SetTo.ne | with_reducible apply SetTo.eq | with_reducible apply SetAllTo.cons | with_reducible exact SetAllTo.nil | with_reducible apply BindTo.one | with_reducible apply BindTo.tup | with_reducible apply EX.ite' | with_reducible apply EXSc.t | with_reducible apply EXSc.f | with_reducible apply EX.app' | with_reducible apply EX.unp' | with_reducible apply EX.tasg' | with_reducible exact EX.own' | with_reducible apply EX.ownC' | with_reducible apply EX.tasgO0 | with_reducible apply EX.tasgO1 | with_reducible apply EX.setJ0 | with_reducible apply EX.setJ1 | with_reducible apply EX.whl | with_reducible apply WH.t | with_reducible exact WH.f | with_reducible apply EX.for | with_reducible exact FO.nil | with_reducible apply FO.cons' | with_reducible apply FOc.next | with_reducible exact FOc.ret | apply FO.cons' | exact FO.nil | apply CL.cons' | exact CL.nil) | exact (pathV_ok _).mono (by decide) | exact (told_expr p0 h0 _).mono (by decide) | exact (told_expr p1 h1 _).mono (by decide) | exact (told_expr p2 h2 _).mono (by decide))
    all_goals first | (apply le_by; (focus repeat' first | with_reducible apply app_le | with_reducible apply cons_le | with_reducible exact nil_le | with_reducible apply sum_cons_le | with_reducible exact sum_nil_le | with_reducible exact join_nil_le | with_reducible apply join_one_le | with_reducible apply join_cons_le | with_reducible apply Nat.add_le_add | with_reducible assumption | with_reducible exact Nat.le_of_eq (by assumption) | exact Nat.le_refl _); kernel_rfl!) | omega | (simp only [List.length_append, List.length_cons, List.length_nil, sumLen, joinL]; omega)
  · rfl
  · rfl
theorem wg3 (p : TD) (h : p ∈ toldL) (j : Int × Int) : CA 110 f_write_gathered [.tup [.str (litC 72), .int 0, p.1, .int 12]] j (.str (litC 67 ++ p.2.1 ++ litC 82 ++ [49, 50] ++ litC 68)) j := by
  obtain ⟨z10, z62, z56, z64, z65, z67, z68, z70, z71, z73, z7, z74, z75, z76, z78, z79, z80, z81, z82, z83⟩ := zl
  have s := (told_short p h).1
  apply CA.of' (d := d_write_gathered) (ρ := [(34, .tup [.str (litC 72), .int 0, p.1, .int 12])]) rfl rfl
  · show EXS 109 d_write_gathered.body _ _ _
    unfold d_write_gathered
    repeat' (first | (first | ((with_reducible show _ = _); exact rfl) | with_reducible apply EVS.cons | with_reducible exact EVS.nil | with_reducible apply EV.loc | with_reducible exact EV.str | with_reducible exact EV.int | with_reducible apply EV.add | with_reducible apply AddV.s | with_reducible exact AddV.i | with_reducible apply AddV.t | with_reducible apply EV.sub | with_reducible apply EV.call' | with_reducible apply EV.cmp | with_reducible apply EV.tup | with_reducible apply EV.isNone | with_reducible apply EV.ite' | with_reducible apply EVc.t | with_reducible apply EVc.f | exact IsB.t | exact IsB.f | with_reducible exact EV.none | with_reducible exact EV.bool | with_reducible exact EV.cel | with_reducible apply EV.bi | with_reducible apply EV.glob | with_reducible apply EV.and | with_reducible apply EV.or | with_reducible apply AN.step | with_reducible apply AN.one | with_reducible apply ANc.t | with_reducible exact ANc.f | with_reducible apply OR.step | with_reducible apply OR.one | with_reducible exact ORc.t | with_reducible apply ORc.f | with_reducible apply EV.not | with_reducible apply EV.lst | with_reducible apply EV.bin | with_reducible exact EV.neg | with_reducible apply EV.lev | with_reducible apply EV.joinS | with_reducible apply EV.comp | with_reducible apply CV.of' | with_reducible exact CL.nil | with_reducible apply CL.cons' | with_reducible apply EXS.cons | with_reducible exact EXS.nil | with_reducible apply EXc.next | with_reducible exact EXc.ret | with_reducible apply EX.ret | with_reducible apply EX.asg' | with_reducible exact SetTo.none | with_reducible apply SetTo.ne | with_reducible apply SetTo.eq | with_reducible apply SetAllTo.cons | with_reducible exact SetAllTo.nil | with_reducible apply BindTo.one | with_reducible apply BindTo.tup | with_reducible apply EX.ite' | with_reducible apply EXSc.t | with_reducible apply EXSc.f | with_reducible apply EX.app' | with_reducible apply EX.unp' | with_reducible apply EX.tasg' | with_reducible exact EX.own' | with_reducible apply EX.ownC' | with_reducible apply EX.tasgO0 | with_reducible apply EX.tasgO1 | with_reducible apply EX.setJ0 | with_reducible apply EX.setJ1 | with_reducible apply EX.whl | with_reducible apply WH.t | with_reducible exact WH.f | with_reducible apply EX.for | with_reducible exact FO.nil | with_reducible apply FO.cons' | with_reducible apply FOc.next | with_reducible exact FOc.ret | apply FO.cons' | exact FO.nil | apply CL.cons' | exact CL.nil) | exact (told_expr p h _).mono (by decide))
    all_goals first | (apply le_by; (focus repeat' first | with_reducible apply app_le | with_reducible apply cons_le | with_reducible exact nil_le | with_reducible apply sum_cons_le | with_reducible exact sum_nil_le | with_reducible exact join_nil_le | with_reducible apply join_one_le | with_reducible apply join_cons_le | with_reducible apply Nat.add_le_add | with_reducible assumption | with_reducible exact Nat.le_of_eq (by assumption) | exact Nat.le_refl _); kernel_rfl!) | omega | (simp only [List.length_append, List.length_cons, List.length_nil, sumLen, joinL]; omega)
  · rfl
  · rfl
end Mine
end PIpart

section PJpart
namespace Mine
theorem exsL_app {f : S → St → Option (Fl × St)} : ∀ {a b : List S} {σ σ₁ : St} {r : Option (Fl × St)}, exsL f a σ = some (.next, σ₁) → exsL f b σ₁ = r → exsL f (a ++ b) σ = r
  | [], b, σ, σ₁, r, h, h' => by cases h; exact h'
  | s :: a, b, σ, σ₁, r, h, h' => by
    show exsL f (s :: (a ++ b)) σ = r
    rw [exsL] at h ⊢
    cases e : f s σ with
    | none => rw [e] at h; cases h
    | some p =>
      obtain ⟨fl, τ⟩ := p
      rw [e] at h
      cases fl with
      | ret v => cases h
      | next => exact exsL_app h h'
theorem EXS.pre {n : Nat} {ss : List S} {σ σ₁ σ₂ : St} {fl : Fl} (k : Nat) (h : EXS n (ss.take k) σ .next σ₁) (h' : EXS n (ss.drop k) σ₁ fl σ₂) : EXS n ss σ fl σ₂ := by
  have := exsL_app h h'
  rw [List.take_append_drop] at this
  exact this
theorem gp_0 {j j₁ j₂ j₃ : Int × Int} {d : Nat} (hM : CA 20 f_law_dip [.jar, .int ((4 : Nat) : Int)] j (.int ((0 : Nat) : Int)) j₁)
    (hC : CL 157 (.call 58 [.cel]) (.one 4) ((List.range 0).map fun i => .int (Int.ofNat i)) j₁ ([].map toldV) j₂) (hD : CA 20 f_law_dip [.jar, .int ((5 : Nat) : Int)] j₂ (.int (d : Int)) j₃) :
    EXS 159 (d_law_gathered_right.body.take 3) ⟨[], none, j⟩ .next ⟨[(17, .str (litC 10)), (30, .tup []), (25, .int (d : Int)), (29, .lst ([].map toldV))], none, j₃⟩ := by
  obtain ⟨z10, z62, z56, z64, z65, z67, z68, z70, z71, z73, z7, z74, z75, z76, z78, z79, z80, z81, z82, z83⟩ := zl
  have hi : itemsOf .range (.int ((0 : Nat) : Int)) = some ((List.range 0).map fun i => .int (Int.ofNat i)) := rfl
  unfold d_law_gathered_right
  dsimp only [List.take]
  repeat' (first | with_reducible exact hi | with_reducible exact hC | (first | ((with_reducible show _ = _); exact rfl) | with_reducible apply EVS.cons | with_reducible exact EVS.nil | with_reducible apply EV.loc | with_reducible exact EV.str | with_reducible exact EV.int | with_reducible apply EV.add | with_reducible apply AddV.s | with_reducible exact AddV.i | with_reducible apply AddV.t | with_reducible apply EV.sub | with_reducible apply EV.call' | with_reducible apply EV.cmp | with_reducible apply EV.tup | with_reducible apply EV.isNone | with_reducible apply EV.ite' | with_reducible apply EVc.t | with_reducible apply EVc.f | exact IsB.t | exact IsB.f | with_reducible exact EV.none | with_reducible exact EV.bool | with_reducible exact EV.cel | with_reducible apply EV.bi | with_reducible apply EV.glob | with_reducible apply EV.and | with_reducible apply EV.or | with_reducible apply AN.step | with_reducible apply AN.one | with_reducible apply ANc.t | with_reducible exact ANc.f | with_reducible apply OR.step | with_reducible apply OR.one | with_reducible exact ORc.t | with_reducible apply ORc.f | with_reducible apply EV.not | with_reducible apply EV.lst | with_reducible apply EV.bin | with_reducible exact EV.neg | with_reducible apply EV.lev | with_reducible apply EV.joinS | with_reducible apply EV.comp | with_reducible apply CV.of' | with_reducible exact CL.nil | with_reducible apply CL.cons' | with_reducible apply EXS.cons | with_reducible exact EXS.nil | with_reducible apply EXc.next | with_reducible exact EXc.ret | with_reducible apply EX.ret | with_reducible apply EX.asg' | with_reducible exact SetTo.none | with_reducible apply SetTo.ne | with_reducible apply SetTo.eq | with_reducible apply SetAllTo.cons | with_reducible exact SetAllTo.nil | with_reducible apply BindTo.one | with_reducible apply BindTo.tup | with_reducible apply EX.ite' | with_reducible apply EXSc.t | with_reducible apply EXSc.f | with_reducible apply EX.app' | with_reducible apply EX.unp' | with_reducible apply EX.tasg' | with_reducible exact EX.own' | with_reducible apply EX.ownC' | with_reducible apply EX.tasgO0 | with_reducible apply EX.tasgO1 | with_reducible apply EX.setJ0 | with_reducible apply EX.setJ1 | with_reducible apply EX.whl | with_reducible apply WH.t | with_reducible exact WH.f | with_reducible apply EX.for | with_reducible exact FO.nil | with_reducible apply FO.cons' | with_reducible apply FOc.next | with_reducible exact FOc.ret | apply FO.cons' | exact FO.nil | apply CL.cons' | exact CL.nil) | exact hM.mono (by decide) | exact hD.mono (by decide))
  all_goals first | (apply le_by; (focus repeat' first | with_reducible apply app_le | with_reducible apply cons_le | with_reducible exact nil_le | with_reducible apply sum_cons_le | with_reducible exact sum_nil_le | with_reducible exact join_nil_le | with_reducible apply join_one_le | with_reducible apply join_cons_le | with_reducible apply Nat.add_le_add | with_reducible assumption | with_reducible exact Nat.le_of_eq (by assumption) | exact Nat.le_refl _); kernel_rfl!) | omega
theorem gp_1 {j j₁ j₂ j₃ : Int × Int} {d : Nat} {p0 : TD} (h0 : p0 ∈ toldL) (hM : CA 20 f_law_dip [.jar, .int ((4 : Nat) : Int)] j (.int ((1 : Nat) : Int)) j₁)
    (hC : CL 157 (.call 58 [.cel]) (.one 4) ((List.range 1).map fun i => .int (Int.ofNat i)) j₁ ([p0].map toldV) j₂) (hD : CA 20 f_law_dip [.jar, .int ((5 : Nat) : Int)] j₂ (.int (d : Int)) j₃) :
    EXS 159 (d_law_gathered_right.body.take 3) ⟨[], none, j⟩ .next ⟨[(17, .str (litC 10 ++ litC 10 ++ p0.2.1)), (3, (toldV p0, 0).1), (31, .int (Int.ofNat (toldV p0, 0).2)), (17, .str (litC 10)), (30, .tup [p0.1]), (25, .int (d : Int)), (29, .lst ([p0].map toldV))], none, j₃⟩ := by
  obtain ⟨z10, z62, z56, z64, z65, z67, z68, z70, z71, z73, z7, z74, z75, z76, z78, z79, z80, z81, z82, z83⟩ := zl
  have s0 := (told_short p0 h0).1
  have hi : itemsOf .range (.int ((1 : Nat) : Int)) = some ((List.range 1).map fun i => .int (Int.ofNat i)) := rfl
  unfold d_law_gathered_right
  dsimp only [List.take]
  repeat' (first | with_reducible exact hi | with_reducible exact hC | (first | ((with_reducible show _ = _); exact rfl) | with_reducible apply EVS.cons | with_reducible exact EVS.nil | with_reducible apply EV.loc | with_reducible exact EV.str | with_reducible exact EV.int | with_reducible apply EV.add | with_reducible apply AddV.s | with_reducible exact AddV.i | with_reducible apply AddV.t | with_reducible apply EV.sub | with_reducible apply EV.call' | with_reducible apply EV.cmp | with_reducible apply EV.tup | with_reducible apply EV.isNone | with_reducible apply EV.ite' | with_reducible apply EVc.t | with_reducible apply EVc.f | exact IsB.t | exact IsB.f | with_reducible exact EV.none | with_reducible exact EV.bool | with_reducible exact EV.cel | with_reducible apply EV.bi | with_reducible apply EV.glob | with_reducible apply EV.and | with_reducible apply EV.or | with_reducible apply AN.step | with_reducible apply AN.one | with_reducible apply ANc.t | with_reducible exact ANc.f | with_reducible apply OR.step | with_reducible apply OR.one | with_reducible exact ORc.t | with_reducible apply ORc.f | with_reducible apply EV.not | with_reducible apply EV.lst | with_reducible apply EV.bin | with_reducible exact EV.neg | with_reducible apply EV.lev | with_reducible apply EV.joinS | with_reducible apply EV.comp | with_reducible apply CV.of' | with_reducible exact CL.nil | with_reducible apply CL.cons' | with_reducible apply EXS.cons | with_reducible exact EXS.nil | with_reducible apply EXc.next | with_reducible exact EXc.ret | with_reducible apply EX.ret | with_reducible apply EX.asg' | with_reducible exact SetTo.none | with_reducible apply SetTo.ne | with_reducible apply SetTo.eq | with_reducible apply SetAllTo.cons | with_reducible exact SetAllTo.nil | with_reducible apply BindTo.one | with_reducible apply BindTo.tup | with_reducible apply EX.ite' | with_reducible apply EXSc.t | with_reducible apply EXSc.f | with_reducible apply EX.app' | with_reducible apply EX.unp' | with_reducible apply EX.tasg' | with_reducible exact EX.own' | with_reducible apply EX.ownC' | with_reducible apply EX.tasgO0 | with_reducible apply EX.tasgO1 | with_reducible apply EX.setJ0 | with_reducible apply EX.setJ1 | with_reducible apply EX.whl | with_reducible apply WH.t | with_reducible exact WH.f | with_reducible apply EX.for | with_reducible exact FO.nil | with_reducible apply FO.cons' | with_reducible apply FOc.next | with_reducible exact FOc.ret | apply FO.cons' | exact FO.nil | apply CL.cons' | exact CL.nil) | exact hM.mono (by decide) | exact hD.mono (by decide))
  all_goals first | (apply le_by; (focus repeat' first | with_reducible apply app_le | with_reducible apply cons_le | with_reducible exact nil_le | with_reducible apply sum_cons_le | with_reducible exact sum_nil_le | with_reducible exact join_nil_le | with_reducible apply join_one_le | with_reducible apply join_cons_le | with_reducible apply Nat.add_le_add | with_reducible assumption | with_reducible exact Nat.le_of_eq (by assumption) | exact Nat.le_refl _); kernel_rfl!) | omega
theorem gp_2 {j j₁ j₂ j₃ : Int × Int} {d : Nat} {p0 : TD} (h0 : p0 ∈ toldL) {p1 : TD} (h1 : p1 ∈ toldL) (hM : CA 20 f_law_dip [.jar, .int ((4 : Nat) : Int)] j (.int ((2 : Nat) : Int)) j₁)
    (hC : CL 157 (.call 58 [.cel]) (.one 4) ((List.range 2).map fun i => .int (Int.ofNat i)) j₁ ([p0, p1].map toldV) j₂) (hD : CA 20 f_law_dip [.jar, .int ((5 : Nat) : Int)] j₂ (.int (d : Int)) j₃) :
    EXS 159 (d_law_gathered_right.body.take 3) ⟨[], none, j⟩ .next ⟨[(17, .str (litC 10 ++ litC 10 ++ p0.2.1 ++ litC 62 ++ p1.2.1)), (3, (toldV p1, 0 + 1).1), (31, .int (Int.ofNat (toldV p1, 0 + 1).2)), (17, .str (litC 10 ++ litC 10 ++ p0.2.1)), (3, (toldV p0, 0).1), (31, .int (Int.ofNat (toldV p0, 0).2)), (17, .str (litC 10)), (30, .tup [p0.1, p1.1]), (25, .int (d : Int)), (29, .lst ([p0, p1].map toldV))], none, j₃⟩ := by
  obtain ⟨z10, z62, z56, z64, z65, z67, z68, z70, z71, z73, z7, z74, z75, z76, z78, z79, z80, z81, z82, z83⟩ := zl
  have s0 := (told_short p0 h0).1
  have s1 := (told_short p1 h1).1
  have hi : itemsOf .range (.int ((2 : Nat) : Int)) = some ((List.range 2).map fun i => .int (Int.ofNat i)) := rfl
  unfold d_law_gathered_right
  dsimp only [List.take]
  repeat' (first | with_reducible exact hi | with_reducible exact hC | (first | ((with_reducible show _ = _); exact rfl) | with_reducible apply EVS.cons | with_reducible exact EVS.nil | with_reducible apply EV.loc | with_reducible exact EV.str | with_reducible exact EV.int | with_reducible apply EV.add | with_reducible apply AddV.s | with_reducible exact AddV.i | with_reducible apply AddV.t | with_reducible apply EV.sub | with_reducible apply EV.call' | with_reducible apply EV.cmp | with_reducible apply EV.tup | with_reducible apply EV.isNone | with_reducible apply EV.ite' | with_reducible apply EVc.t | with_reducible apply EVc.f | exact IsB.t | exact IsB.f | with_reducible exact EV.none | with_reducible exact EV.bool | with_reducible exact EV.cel | with_reducible apply EV.bi | with_reducible apply EV.glob | with_reducible apply EV.and | with_reducible apply EV.or | with_reducible apply AN.step | with_reducible apply AN.one | with_reducible apply ANc.t | with_reducible exact ANc.f | with_reducible apply OR.step | with_reducible apply OR.one | with_reducible exact ORc.t | with_reducible apply ORc.f | with_reducible apply EV.not | with_reducible apply EV.lst | with_reducible apply EV.bin | with_reducible exact EV.neg | with_reducible apply EV.lev | with_reducible apply EV.joinS | with_reducible apply EV.comp | with_reducible apply CV.of' | with_reducible exact CL.nil | with_reducible apply CL.cons' | with_reducible apply EXS.cons | with_reducible exact EXS.nil | with_reducible apply EXc.next | with_reducible exact EXc.ret | with_reducible apply EX.ret | with_reducible apply EX.asg' | with_reducible exact SetTo.none | with_reducible apply SetTo.ne | with_reducible apply SetTo.eq | with_reducible apply SetAllTo.cons | with_reducible exact SetAllTo.nil | with_reducible apply BindTo.one | with_reducible apply BindTo.tup | with_reducible apply EX.ite' | with_reducible apply EXSc.t | with_reducible apply EXSc.f | with_reducible apply EX.app' | with_reducible apply EX.unp' | with_reducible apply EX.tasg' | with_reducible exact EX.own' | with_reducible apply EX.ownC' | with_reducible apply EX.tasgO0 | with_reducible apply EX.tasgO1 | with_reducible apply EX.setJ0 | with_reducible apply EX.setJ1 | with_reducible apply EX.whl | with_reducible apply WH.t | with_reducible exact WH.f | with_reducible apply EX.for | with_reducible exact FO.nil | with_reducible apply FO.cons' | with_reducible apply FOc.next | with_reducible exact FOc.ret | apply FO.cons' | exact FO.nil | apply CL.cons' | exact CL.nil) | exact hM.mono (by decide) | exact hD.mono (by decide))
  all_goals first | (apply le_by; (focus repeat' first | with_reducible apply app_le | with_reducible apply cons_le | with_reducible exact nil_le | with_reducible apply sum_cons_le | with_reducible exact sum_nil_le | with_reducible exact join_nil_le | with_reducible apply join_one_le | with_reducible apply join_cons_le | with_reducible apply Nat.add_le_add | with_reducible assumption | with_reducible exact Nat.le_of_eq (by assumption) | exact Nat.le_refl _); kernel_rfl!) | omega
theorem gp_3 {j j₁ j₂ j₃ : Int × Int} {d : Nat} {p0 : TD} (h0 : p0 ∈ toldL) {p1 : TD} (h1 : p1 ∈ toldL) {p2 : TD} (h2 : p2 ∈ toldL) (hM : CA 20 f_law_dip [.jar, .int ((4 : Nat) : Int)] j (.int ((3 : Nat) : Int)) j₁)
    (hC : CL 157 (.call 58 [.cel]) (.one 4) ((List.range 3).map fun i => .int (Int.ofNat i)) j₁ ([p0, p1, p2].map toldV) j₂) (hD : CA 20 f_law_dip [.jar, .int ((5 : Nat) : Int)] j₂ (.int (d : Int)) j₃) :
    EXS 159 (d_law_gathered_right.body.take 3) ⟨[], none, j⟩ .next ⟨[(17, .str (litC 10 ++ litC 10 ++ p0.2.1 ++ litC 62 ++ p1.2.1 ++ litC 62 ++ p2.2.1)), (3, (toldV p2, 0 + 1 + 1).1), (31, .int (Int.ofNat (toldV p2, 0 + 1 + 1).2)), (17, .str (litC 10 ++ litC 10 ++ p0.2.1 ++ litC 62 ++ p1.2.1)), (3, (toldV p1, 0 + 1).1), (31, .int (Int.ofNat (toldV p1, 0 + 1).2)), (17, .str (litC 10 ++ litC 10 ++ p0.2.1)), (3, (toldV p0, 0).1), (31, .int (Int.ofNat (toldV p0, 0).2)), (17, .str (litC 10)), (30, .tup [p0.1, p1.1, p2.1]), (25, .int (d : Int)), (29, .lst ([p0, p1, p2].map toldV))], none, j₃⟩ := by
  obtain ⟨z10, z62, z56, z64, z65, z67, z68, z70, z71, z73, z7, z74, z75, z76, z78, z79, z80, z81, z82, z83⟩ := zl
  have s0 := (told_short p0 h0).1
  have s1 := (told_short p1 h1).1
  have s2 := (told_short p2 h2).1
  have hi : itemsOf .range (.int ((3 : Nat) : Int)) = some ((List.range 3).map fun i => .int (Int.ofNat i)) := rfl
  unfold d_law_gathered_right
  dsimp only [List.take]
  repeat' (first | with_reducible exact hi | with_reducible exact hC | (first | ((with_reducible show _ = _); exact rfl) | with_reducible apply EVS.cons | with_reducible exact EVS.nil | with_reducible apply EV.loc | with_reducible exact EV.str | with_reducible exact EV.int | with_reducible apply EV.add | with_reducible apply AddV.s | with_reducible exact AddV.i | with_reducible apply AddV.t | with_reducible apply EV.sub | with_reducible apply EV.call' | with_reducible apply EV.cmp | with_reducible apply EV.tup | with_reducible apply EV.isNone | with_reducible apply EV.ite' | with_reducible apply EVc.t | with_reducible apply EVc.f | exact IsB.t | exact IsB.f | with_reducible exact EV.none | with_reducible exact EV.bool | with_reducible exact EV.cel | with_reducible apply EV.bi | with_reducible apply EV.glob | with_reducible apply EV.and | with_reducible apply EV.or | with_reducible apply AN.step | with_reducible apply AN.one | with_reducible apply ANc.t | with_reducible exact ANc.f | with_reducible apply OR.step | with_reducible apply OR.one | with_reducible exact ORc.t | with_reducible apply ORc.f | with_reducible apply EV.not | with_reducible apply EV.lst | with_reducible apply EV.bin | with_reducible exact EV.neg | with_reducible apply EV.lev | with_reducible apply EV.joinS | with_reducible apply EV.comp | with_reducible apply CV.of' | with_reducible exact CL.nil | with_reducible apply CL.cons' | with_reducible apply EXS.cons | with_reducible exact EXS.nil | with_reducible apply EXc.next | with_reducible exact EXc.ret | with_reducible apply EX.ret | with_reducible apply EX.asg' | with_reducible exact SetTo.none | with_reducible apply SetTo.ne | with_reducible apply SetTo.eq | with_reducible apply SetAllTo.cons | with_reducible exact SetAllTo.nil | with_reducible apply BindTo.one | with_reducible apply BindTo.tup | with_reducible apply EX.ite' | with_reducible apply EXSc.t | with_reducible apply EXSc.f | with_reducible apply EX.app' | with_reducible apply EX.unp' | with_reducible apply EX.tasg' | with_reducible exact EX.own' | with_reducible apply EX.ownC' | with_reducible apply EX.tasgO0 | with_reducible apply EX.tasgO1 | with_reducible apply EX.setJ0 | with_reducible apply EX.setJ1 | with_reducible apply EX.whl | with_reducible apply WH.t | with_reducible exact WH.f | with_reducible apply EX.for | with_reducible exact FO.nil | with_reducible apply FO.cons' | with_reducible apply FOc.next | with_reducible exact FOc.ret | apply FO.cons' | exact FO.nil | apply CL.cons' | exact CL.nil) | exact hM.mono (by decide) | exact hD.mono (by decide))
  all_goals first | (apply le_by; (focus repeat' first | with_reducible apply app_le | with_reducible apply cons_le | with_reducible exact nil_le | with_reducible apply sum_cons_le | with_reducible exact sum_nil_le | with_reducible exact join_nil_le | with_reducible apply join_one_le | with_reducible apply join_cons_le | with_reducible apply Nat.add_le_add | with_reducible assumption | with_reducible exact Nat.le_of_eq (by assumption) | exact Nat.le_refl _); kernel_rfl!) | omega

theorem gr_0_0 {j j₁ j₂ j₃ j₄ : Int × Int} {q : TD} (hq : q ∈ toldL) (hM : CA 20 f_law_dip [.jar, .int ((4 : Nat) : Int)] j (.int ((0 : Nat) : Int)) j₁)
    (hC : CL 157 (.call 58 [.cel]) (.one 4) ((List.range 0).map fun i => .int (Int.ofNat i)) j₁ ([].map toldV) j₂) (hD : CA 20 f_law_dip [.jar, .int ((5 : Nat) : Int)] j₂ (.int ((0 : Nat) : Int)) j₃) (hQ : CA 60 f_law_expr [.jar] j₃ (toldV q) j₄) :
    CA 160 f_law_gathered_right [.jar] j (.bool true) j₃ := by
  obtain ⟨z10, z62, z56, z64, z65, z67, z68, z70, z71, z73, z7, z74, z75, z76, z78, z79, z80, z81, z82, z83⟩ := zl
  have sq := (told_short q hq).1
  apply CA.of' (d := d_law_gathered_right) (ρ := []) rfl rfl
  · show EXS 159 d_law_gathered_right.body _ _ _
    apply EXS.pre 3 (gp_0 hM hC hD)
    unfold d_law_gathered_right
    dsimp only [List.drop]
    repeat' (first | (first | ((with_reducible show _ = _); exact rfl) | with_reducible apply EVS.cons | with_reducible exact EVS.nil | with_reducible apply EV.loc | with_reducible exact EV.str | with_reducible exact EV.int | with_reducible apply EV.add | with_reducible apply AddV.s | with_reducible exact AddV.i | with_reducible apply AddV.t | with_reducible apply EV.sub | with_reducible apply EV.call' | with_reducible apply EV.cmp | with_reducible apply EV.tup | with_reducible apply EV.isNone | with_reducible apply EV.ite' | with_reducible apply EVc.t | with_reducible apply EVc.f | exact IsB.t | exact IsB.f | with_reducible exact EV.none | with_reducible exact EV.bool | with_reducible exact EV.cel | with_reducible apply EV.bi | with_reducible apply EV.glob | with_reducible apply EV.and | with_reducible apply EV.or | with_reducible apply AN.step | with_reducible apply AN.one | with_reducible apply ANc.t | with_reducible exact ANc.f | with_reducible apply OR.step | with_reducible apply OR.one | with_reducible exact ORc.t | with_reducible apply ORc.f | with_reducible apply EV.not | with_reducible apply EV.lst | with_reducible apply EV.bin | with_reducible exact EV.neg | with_reducible apply EV.lev | with_reducible apply EV.joinS | with_reducible apply EV.comp | with_reducible apply CV.of' | with_reducible exact CL.nil | with_reducible apply CL.cons' | with_reducible apply EXS.cons | with_reducible exact EXS.nil | with_reducible apply EXc.next | with_reducible exact EXc.ret | with_reducible apply EX.ret | with_reducible apply EX.asg' | with_reducible exact SetTo.none | with_reducible apply SetTo.ne | with_reducible apply SetTo.eq | with_reducible apply SetAllTo.cons | with_reducible exact SetAllTo.nil | with_reducible apply BindTo.one | with_reducible apply BindTo.tup | with_reducible apply EX.ite' | with_reducible apply EXSc.t | with_reducible apply EXSc.f | with_reducible apply EX.app' | with_reducible apply EX.unp' | with_reducible apply EX.tasg' | with_reducible exact EX.own' | with_reducible apply EX.ownC' | with_reducible apply EX.tasgO0 | with_reducible apply EX.tasgO1 | with_reducible apply EX.setJ0 | with_reducible apply EX.setJ1 | with_reducible apply EX.whl | with_reducible apply WH.t | with_reducible exact WH.f | with_reducible apply EX.for | with_reducible exact FO.nil | with_reducible apply FO.cons' | with_reducible apply FOc.next | with_reducible exact FOc.ret | apply FO.cons' | exact FO.nil | apply CL.cons' | exact CL.nil) | exact hQ.mono (by decide) | exact (path_ok _ _).mono (by decide) | exact (wg0_0   _).mono (by decide))
    all_goals first | (apply le_by; (focus repeat' first | with_reducible apply app_le | with_reducible apply cons_le | with_reducible exact nil_le | with_reducible apply sum_cons_le | with_reducible exact sum_nil_le | with_reducible exact join_nil_le | with_reducible apply join_one_le | with_reducible apply join_cons_le | with_reducible apply Nat.add_le_add | with_reducible assumption | with_reducible exact Nat.le_of_eq (by assumption) | exact Nat.le_refl _); kernel_rfl!) | omega | (simp only [List.length_append, List.length_cons, List.length_nil, sumLen, joinL]; omega)
  · refine beqV_of_eq ?_
    first | rfl | (simp [joinL, show litC 10 = [] from rfl, show litC 70 ++ litC 83 = litC 71 from rfl, show litC 73 = litC 82 ++ [49, 50] ++ litC 68 from rfl])
  · rfl

theorem gr_0_1 {j j₁ j₂ j₃ j₄ : Int × Int} {q : TD} (hq : q ∈ toldL) (hM : CA 20 f_law_dip [.jar, .int ((4 : Nat) : Int)] j (.int ((0 : Nat) : Int)) j₁)
    (hC : CL 157 (.call 58 [.cel]) (.one 4) ((List.range 0).map fun i => .int (Int.ofNat i)) j₁ ([].map toldV) j₂) (hD : CA 20 f_law_dip [.jar, .int ((5 : Nat) : Int)] j₂ (.int ((1 : Nat) : Int)) j₃) (hQ : CA 60 f_law_expr [.jar] j₃ (toldV q) j₄) :
    CA 160 f_law_gathered_right [.jar] j (.bool true) j₃ := by
  obtain ⟨z10, z62, z56, z64, z65, z67, z68, z70, z71, z73, z7, z74, z75, z76, z78, z79, z80, z81, z82, z83⟩ := zl
  have sq := (told_short q hq).1
  apply CA.of' (d := d_law_gathered_right) (ρ := []) rfl rfl
  · show EXS 159 d_law_gathered_right.body _ _ _
    apply EXS.pre 3 (gp_0 hM hC hD)
    unfold d_law_gathered_right
    dsimp only [List.drop]
    repeat' (first | (first | ((with_reducible show _ = _); exact rfl) | with_reducible apply EVS.cons | with_reducible exact EVS.nil | with_reducible apply EV.loc | with_reducible exact EV.str | with_reducible exact EV.int | with_reducible apply EV.add | with_reducible apply AddV.s | with_reducible exact AddV.i | with_reducible apply AddV.t | with_reducible apply EV.sub | with_reducible apply EV.call' | with_reducible apply EV.cmp | with_reducible apply EV.tup | with_reducible apply EV.isNone | with_reducible apply EV.ite' | with_reducible apply EVc.t | with_reducible apply EVc.f | exact IsB.t | exact IsB.f | with_reducible exact EV.none | with_reducible exact EV.bool | with_reducible exact EV.cel | with_reducible apply EV.bi | with_reducible apply EV.glob | with_reducible apply EV.and | with_reducible apply EV.or | with_reducible apply AN.step | with_reducible apply AN.one | with_reducible apply ANc.t | with_reducible exact ANc.f | with_reducible apply OR.step | with_reducible apply OR.one | with_reducible exact ORc.t | with_reducible apply ORc.f | with_reducible apply EV.not | with_reducible apply EV.lst | with_reducible apply EV.bin | with_reducible exact EV.neg | with_reducible apply EV.lev | with_reducible apply EV.joinS | with_reducible apply EV.comp | with_reducible apply CV.of' | with_reducible exact CL.nil | with_reducible apply CL.cons' | with_reducible apply EXS.cons | with_reducible exact EXS.nil | with_reducible apply EXc.next | with_reducible exact EXc.ret | with_reducible apply EX.ret | with_reducible apply EX.asg' | with_reducible exact SetTo.none | with_reducible apply SetTo.ne | with_reducible apply SetTo.eq | with_reducible apply SetAllTo.cons | with_reducible exact SetAllTo.nil | with_reducible apply BindTo.one | with_reducible apply BindTo.tup | with_reducible apply EX.ite' | with_reducible apply EXSc.t | with_reducible apply EXSc.f | with_reducible apply EX.app' | with_reducible apply EX.unp' | with_reducible apply EX.tasg' | with_reducible exact EX.own' | with_reducible apply EX.ownC' | with_reducible apply EX.tasgO0 | with_reducible apply EX.tasgO1 | with_reducible apply EX.setJ0 | with_reducible apply EX.setJ1 | with_reducible apply EX.whl | with_reducible apply WH.t | with_reducible exact WH.f | with_reducible apply EX.for | with_reducible exact FO.nil | with_reducible apply FO.cons' | with_reducible apply FOc.next | with_reducible exact FOc.ret | apply FO.cons' | exact FO.nil | apply CL.cons' | exact CL.nil) | exact hQ.mono (by decide) | exact (path_ok _ _).mono (by decide) | exact (wg1_0   _).mono (by decide))
    all_goals first | (apply le_by; (focus repeat' first | with_reducible apply app_le | with_reducible apply cons_le | with_reducible exact nil_le | with_reducible apply sum_cons_le | with_reducible exact sum_nil_le | with_reducible exact join_nil_le | with_reducible apply join_one_le | with_reducible apply join_cons_le | with_reducible apply Nat.add_le_add | with_reducible assumption | with_reducible exact Nat.le_of_eq (by assumption) | exact Nat.le_refl _); kernel_rfl!) | omega | (simp only [List.length_append, List.length_cons, List.length_nil, sumLen, joinL]; omega)
  · refine beqV_of_eq ?_
    first | rfl | (simp [joinL, show litC 10 = [] from rfl, show litC 70 ++ litC 83 = litC 71 from rfl, show litC 73 = litC 82 ++ [49, 50] ++ litC 68 from rfl])
  · rfl

theorem gr_0_2 {j j₁ j₂ j₃ j₄ : Int × Int} {q : TD} (hq : q ∈ toldL) (hM : CA 20 f_law_dip [.jar, .int ((4 : Nat) : Int)] j (.int ((0 : Nat) : Int)) j₁)
    (hC : CL 157 (.call 58 [.cel]) (.one 4) ((List.range 0).map fun i => .int (Int.ofNat i)) j₁ ([].map toldV) j₂) (hD : CA 20 f_law_dip [.jar, .int ((5 : Nat) : Int)] j₂ (.int ((2 : Nat) : Int)) j₃) (hQ : CA 60 f_law_expr [.jar] j₃ (toldV q) j₄) :
    CA 160 f_law_gathered_right [.jar] j (.bool true) j₃ := by
  obtain ⟨z10, z62, z56, z64, z65, z67, z68, z70, z71, z73, z7, z74, z75, z76, z78, z79, z80, z81, z82, z83⟩ := zl
  have sq := (told_short q hq).1
  apply CA.of' (d := d_law_gathered_right) (ρ := []) rfl rfl
  · show EXS 159 d_law_gathered_right.body _ _ _
    apply EXS.pre 3 (gp_0 hM hC hD)
    unfold d_law_gathered_right
    dsimp only [List.drop]
    repeat' (first | (first | ((with_reducible show _ = _); exact rfl) | with_reducible apply EVS.cons | with_reducible exact EVS.nil | with_reducible apply EV.loc | with_reducible exact EV.str | with_reducible exact EV.int | with_reducible apply EV.add | with_reducible apply AddV.s | with_reducible exact AddV.i | with_reducible apply AddV.t | with_reducible apply EV.sub | with_reducible apply EV.call' | with_reducible apply EV.cmp | with_reducible apply EV.tup | with_reducible apply EV.isNone | with_reducible apply EV.ite' | with_reducible apply EVc.t | with_reducible apply EVc.f | exact IsB.t | exact IsB.f | with_reducible exact EV.none | with_reducible exact EV.bool | with_reducible exact EV.cel | with_reducible apply EV.bi | with_reducible apply EV.glob | with_reducible apply EV.and | with_reducible apply EV.or | with_reducible apply AN.step | with_reducible apply AN.one | with_reducible apply ANc.t | with_reducible exact ANc.f | with_reducible apply OR.step | with_reducible apply OR.one | with_reducible exact ORc.t | with_reducible apply ORc.f | with_reducible apply EV.not | with_reducible apply EV.lst | with_reducible apply EV.bin | with_reducible exact EV.neg | with_reducible apply EV.lev | with_reducible apply EV.joinS | with_reducible apply EV.comp | with_reducible apply CV.of' | with_reducible exact CL.nil | with_reducible apply CL.cons' | with_reducible apply EXS.cons | with_reducible exact EXS.nil | with_reducible apply EXc.next | with_reducible exact EXc.ret | with_reducible apply EX.ret | with_reducible apply EX.asg' | with_reducible exact SetTo.none | with_reducible apply SetTo.ne | with_reducible apply SetTo.eq | with_reducible apply SetAllTo.cons | with_reducible exact SetAllTo.nil | with_reducible apply BindTo.one | with_reducible apply BindTo.tup | with_reducible apply EX.ite' | with_reducible apply EXSc.t | with_reducible apply EXSc.f | with_reducible apply EX.app' | with_reducible apply EX.unp' | with_reducible apply EX.tasg' | with_reducible exact EX.own' | with_reducible apply EX.ownC' | with_reducible apply EX.tasgO0 | with_reducible apply EX.tasgO1 | with_reducible apply EX.setJ0 | with_reducible apply EX.setJ1 | with_reducible apply EX.whl | with_reducible apply WH.t | with_reducible exact WH.f | with_reducible apply EX.for | with_reducible exact FO.nil | with_reducible apply FO.cons' | with_reducible apply FOc.next | with_reducible exact FOc.ret | apply FO.cons' | exact FO.nil | apply CL.cons' | exact CL.nil) | exact hQ.mono (by decide) | exact (path_ok _ _).mono (by decide) | exact (wg2_0   _).mono (by decide))
    all_goals first | (apply le_by; (focus repeat' first | with_reducible apply app_le | with_reducible apply cons_le | with_reducible exact nil_le | with_reducible apply sum_cons_le | with_reducible exact sum_nil_le | with_reducible exact join_nil_le | with_reducible apply join_one_le | with_reducible apply join_cons_le | with_reducible apply Nat.add_le_add | with_reducible assumption | with_reducible exact Nat.le_of_eq (by assumption) | exact Nat.le_refl _); kernel_rfl!) | omega | (simp only [List.length_append, List.length_cons, List.length_nil, sumLen, joinL]; omega)
  · refine beqV_of_eq ?_
    first | rfl | (simp [joinL, show litC 10 = [] from rfl, show litC 70 ++ litC 83 = litC 71 from rfl, show litC 73 = litC 82 ++ [49, 50] ++ litC 68 from rfl])
  · rfl

theorem gr_0_3 {j j₁ j₂ j₃ j₄ : Int × Int} {q : TD} (hq : q ∈ toldL) (hM : CA 20 f_law_dip [.jar, .int ((4 : Nat) : Int)] j (.int ((0 : Nat) : Int)) j₁)
    (hC : CL 157 (.call 58 [.cel]) (.one 4) ((List.range 0).map fun i => .int (Int.ofNat i)) j₁ ([].map toldV) j₂) (hD : CA 20 f_law_dip [.jar, .int ((5 : Nat) : Int)] j₂ (.int ((3 : Nat) : Int)) j₃) (hQ : CA 60 f_law_expr [.jar] j₃ (toldV q) j₄) :
    CA 160 f_law_gathered_right [.jar] j (.bool true) j₄ := by
  obtain ⟨z10, z62, z56, z64, z65, z67, z68, z70, z71, z73, z7, z74, z75, z76, z78, z79, z80, z81, z82, z83⟩ := zl
  have sq := (told_short q hq).1
  apply CA.of' (d := d_law_gathered_right) (ρ := []) rfl rfl
  · show EXS 159 d_law_gathered_right.body _ _ _
    apply EXS.pre 3 (gp_0 hM hC hD)
    unfold d_law_gathered_right
    dsimp only [List.drop]
    repeat' (first | (first | ((with_reducible show _ = _); exact rfl) | with_reducible apply EVS.cons | with_reducible exact EVS.nil | with_reducible apply EV.loc | with_reducible exact EV.str | with_reducible exact EV.int | with_reducible apply EV.add | with_reducible apply AddV.s | with_reducible exact AddV.i | with_reducible apply AddV.t | with_reducible apply EV.sub | with_reducible apply EV.call' | with_reducible apply EV.cmp | with_reducible apply EV.tup | with_reducible apply EV.isNone | with_reducible apply EV.ite' | with_reducible apply EVc.t | with_reducible apply EVc.f | exact IsB.t | exact IsB.f | with_reducible exact EV.none | with_reducible exact EV.bool | with_reducible exact EV.cel | with_reducible apply EV.bi | with_reducible apply EV.glob | with_reducible apply EV.and | with_reducible apply EV.or | with_reducible apply AN.step | with_reducible apply AN.one | with_reducible apply ANc.t | with_reducible exact ANc.f | with_reducible apply OR.step | with_reducible apply OR.one | with_reducible exact ORc.t | with_reducible apply ORc.f | with_reducible apply EV.not | with_reducible apply EV.lst | with_reducible apply EV.bin | with_reducible exact EV.neg | with_reducible apply EV.lev | with_reducible apply EV.joinS | with_reducible apply EV.comp | with_reducible apply CV.of' | with_reducible exact CL.nil | with_reducible apply CL.cons' | with_reducible apply EXS.cons | with_reducible exact EXS.nil | with_reducible apply EXc.next | with_reducible exact EXc.ret | with_reducible apply EX.ret | with_reducible apply EX.asg' | with_reducible exact SetTo.none | with_reducible apply SetTo.ne | with_reducible apply SetTo.eq | with_reducible apply SetAllTo.cons | with_reducible exact SetAllTo.nil | with_reducible apply BindTo.one | with_reducible apply BindTo.tup | with_reducible apply EX.ite' | with_reducible apply EXSc.t | with_reducible apply EXSc.f | with_reducible apply EX.app' | with_reducible apply EX.unp' | with_reducible apply EX.tasg' | with_reducible exact EX.own' | with_reducible apply EX.ownC' | with_reducible apply EX.tasgO0 | with_reducible apply EX.tasgO1 | with_reducible apply EX.setJ0 | with_reducible apply EX.setJ1 | with_reducible apply EX.whl | with_reducible apply WH.t | with_reducible exact WH.f | with_reducible apply EX.for | with_reducible exact FO.nil | with_reducible apply FO.cons' | with_reducible apply FOc.next | with_reducible exact FOc.ret | apply FO.cons' | exact FO.nil | apply CL.cons' | exact CL.nil) | exact hQ.mono (by decide) | exact (path_ok _ _).mono (by decide) | exact (wg3 q hq _).mono (by decide))
    all_goals first | (apply le_by; (focus repeat' first | with_reducible apply app_le | with_reducible apply cons_le | with_reducible exact nil_le | with_reducible apply sum_cons_le | with_reducible exact sum_nil_le | with_reducible exact join_nil_le | with_reducible apply join_one_le | with_reducible apply join_cons_le | with_reducible apply Nat.add_le_add | with_reducible assumption | with_reducible exact Nat.le_of_eq (by assumption) | exact Nat.le_refl _); kernel_rfl!) | omega | (simp only [List.length_append, List.length_cons, List.length_nil, sumLen, joinL]; omega)
  · refine beqV_of_eq ?_
    first | rfl | (simp [joinL, show litC 10 = [] from rfl, show litC 70 ++ litC 83 = litC 71 from rfl, show litC 73 = litC 82 ++ [49, 50] ++ litC 68 from rfl])
  · rfl

theorem gr_0_4 {j j₁ j₂ j₃ j₄ : Int × Int} {q : TD} (hq : q ∈ toldL) (hM : CA 20 f_law_dip [.jar, .int ((4 : Nat) : Int)] j (.int ((0 : Nat) : Int)) j₁)
    (hC : CL 157 (.call 58 [.cel]) (.one 4) ((List.range 0).map fun i => .int (Int.ofNat i)) j₁ ([].map toldV) j₂) (hD : CA 20 f_law_dip [.jar, .int ((5 : Nat) : Int)] j₂ (.int ((4 : Nat) : Int)) j₃) (hQ : CA 60 f_law_expr [.jar] j₃ (toldV q) j₄) :
    CA 160 f_law_gathered_right [.jar] j (.bool true) j₃ := by
  obtain ⟨z10, z62, z56, z64, z65, z67, z68, z70, z71, z73, z7, z74, z75, z76, z78, z79, z80, z81, z82, z83⟩ := zl
  have sq := (told_short q hq).1
  apply CA.of' (d := d_law_gathered_right) (ρ := []) rfl rfl
  · show EXS 159 d_law_gathered_right.body _ _ _
    apply EXS.pre 3 (gp_0 hM hC hD)
    unfold d_law_gathered_right
    dsimp only [List.drop]
    repeat' (first | (first | ((with_reducible show _ = _); exact rfl) | with_reducible apply EVS.cons | with_reducible exact EVS.nil | with_reducible apply EV.loc | with_reducible exact EV.str | with_reducible exact EV.int | with_reducible apply EV.add | with_reducible apply AddV.s | with_reducible exact AddV.i | with_reducible apply AddV.t | with_reducible apply EV.sub | with_reducible apply EV.call' | with_reducible apply EV.cmp | with_reducible apply EV.tup | with_reducible apply EV.isNone | with_reducible apply EV.ite' | with_reducible apply EVc.t | with_reducible apply EVc.f | exact IsB.t | exact IsB.f | with_reducible exact EV.none | with_reducible exact EV.bool | with_reducible exact EV.cel | with_reducible apply EV.bi | with_reducible apply EV.glob | with_reducible apply EV.and | with_reducible apply EV.or | with_reducible apply AN.step | with_reducible apply AN.one | with_reducible apply ANc.t | with_reducible exact ANc.f | with_reducible apply OR.step | with_reducible apply OR.one | with_reducible exact ORc.t | with_reducible apply ORc.f | with_reducible apply EV.not | with_reducible apply EV.lst | with_reducible apply EV.bin | with_reducible exact EV.neg | with_reducible apply EV.lev | with_reducible apply EV.joinS | with_reducible apply EV.comp | with_reducible apply CV.of' | with_reducible exact CL.nil | with_reducible apply CL.cons' | with_reducible apply EXS.cons | with_reducible exact EXS.nil | with_reducible apply EXc.next | with_reducible exact EXc.ret | with_reducible apply EX.ret | with_reducible apply EX.asg' | with_reducible exact SetTo.none | with_reducible apply SetTo.ne | with_reducible apply SetTo.eq | with_reducible apply SetAllTo.cons | with_reducible exact SetAllTo.nil | with_reducible apply BindTo.one | with_reducible apply BindTo.tup | with_reducible apply EX.ite' | with_reducible apply EXSc.t | with_reducible apply EXSc.f | with_reducible apply EX.app' | with_reducible apply EX.unp' | with_reducible apply EX.tasg' | with_reducible exact EX.own' | with_reducible apply EX.ownC' | with_reducible apply EX.tasgO0 | with_reducible apply EX.tasgO1 | with_reducible apply EX.setJ0 | with_reducible apply EX.setJ1 | with_reducible apply EX.whl | with_reducible apply WH.t | with_reducible exact WH.f | with_reducible apply EX.for | with_reducible exact FO.nil | with_reducible apply FO.cons' | with_reducible apply FOc.next | with_reducible exact FOc.ret | apply FO.cons' | exact FO.nil | apply CL.cons' | exact CL.nil) | exact hQ.mono (by decide) | exact (path_ok _ _).mono (by decide) | exact (wg4_0   _).mono (by decide))
    all_goals first | (apply le_by; (focus repeat' first | with_reducible apply app_le | with_reducible apply cons_le | with_reducible exact nil_le | with_reducible apply sum_cons_le | with_reducible exact sum_nil_le | with_reducible exact join_nil_le | with_reducible apply join_one_le | with_reducible apply join_cons_le | with_reducible apply Nat.add_le_add | with_reducible assumption | with_reducible exact Nat.le_of_eq (by assumption) | exact Nat.le_refl _); kernel_rfl!) | omega | (simp only [List.length_append, List.length_cons, List.length_nil, sumLen, joinL]; omega)
  · refine beqV_of_eq ?_
    first | rfl | (simp [joinL, show litC 10 = [] from rfl, show litC 70 ++ litC 83 = litC 71 from rfl, show litC 73 = litC 82 ++ [49, 50] ++ litC 68 from rfl])
  · rfl

theorem gr_1_0 {j j₁ j₂ j₃ j₄ : Int × Int} {q : TD} (hq : q ∈ toldL) {p0 : TD} (h0 : p0 ∈ toldL) (hM : CA 20 f_law_dip [.jar, .int ((4 : Nat) : Int)] j (.int ((1 : Nat) : Int)) j₁)
    (hC : CL 157 (.call 58 [.cel]) (.one 4) ((List.range 1).map fun i => .int (Int.ofNat i)) j₁ ([p0].map toldV) j₂) (hD : CA 20 f_law_dip [.jar, .int ((5 : Nat) : Int)] j₂ (.int ((0 : Nat) : Int)) j₃) (hQ : CA 60 f_law_expr [.jar] j₃ (toldV q) j₄) :
    CA 160 f_law_gathered_right [.jar] j (.bool true) j₃ := by
  obtain ⟨z10, z62, z56, z64, z65, z67, z68, z70, z71, z73, z7, z74, z75, z76, z78, z79, z80, z81, z82, z83⟩ := zl
  have sq := (told_short q hq).1
  have s0 := (told_short p0 h0).1
  apply CA.of' (d := d_law_gathered_right) (ρ := []) rfl rfl
  · show EXS 159 d_law_gathered_right.body _ _ _
    apply EXS.pre 3 (gp_1 h0 hM hC hD)
    unfold d_law_gathered_right
    dsimp only [List.drop]
    repeat' (first | (first | ((with_reducible show _ = _); exact rfl) | with_reducible apply EVS.cons | with_reducible exact EVS.nil | with_reducible apply EV.loc | with_reducible exact EV.str | with_reducible exact EV.int | with_reducible apply EV.add | with_reducible apply AddV.s | with_reducible exact AddV.i | with_reducible apply AddV.t | with_reducible apply EV.sub | with_reducible apply EV.call' | with_reducible apply EV.cmp | with_reducible apply EV.tup | with_reducible apply EV.isNone | with_reducible apply EV.ite' | with_reducible apply EVc.t | with_reducible apply EVc.f | exact IsB.t | exact IsB.f | with_reducible exact EV.none | with_reducible exact EV.bool | with_reducible exact EV.cel | with_reducible apply EV.bi | with_reducible apply EV.glob | with_reducible apply EV.and | with_reducible apply EV.or | with_reducible apply AN.step | with_reducible apply AN.one | with_reducible apply ANc.t | with_reducible exact ANc.f | with_reducible apply OR.step | with_reducible apply OR.one | with_reducible exact ORc.t | with_reducible apply ORc.f | with_reducible apply EV.not | with_reducible apply EV.lst | with_reducible apply EV.bin | with_reducible exact EV.neg | with_reducible apply EV.lev | with_reducible apply EV.joinS | with_reducible apply EV.comp | with_reducible apply CV.of' | with_reducible exact CL.nil | with_reducible apply CL.cons' | with_reducible apply EXS.cons | with_reducible exact EXS.nil | with_reducible apply EXc.next | with_reducible exact EXc.ret | with_reducible apply EX.ret | with_reducible apply EX.asg' | with_reducible exact SetTo.none | with_reducible apply SetTo.ne | with_reducible apply SetTo.eq | with_reducible apply SetAllTo.cons | with_reducible exact SetAllTo.nil | with_reducible apply BindTo.one | with_reducible apply BindTo.tup | with_reducible apply EX.ite' | with_reducible apply EXSc.t | with_reducible apply EXSc.f | with_reducible apply EX.app' | with_reducible apply EX.unp' | with_reducible apply EX.tasg' | with_reducible exact EX.own' | with_reducible apply EX.ownC' | with_reducible apply EX.tasgO0 | with_reducible apply EX.tasgO1 | with_reducible apply EX.setJ0 | with_reducible apply EX.setJ1 | with_reducible apply EX.whl | with_reducible apply WH.t | with_reducible exact WH.f | with_reducible apply EX.for | with_reducible exact FO.nil | with_reducible apply FO.cons' | with_reducible apply FOc.next | with_reducible exact FOc.ret | apply FO.cons' | exact FO.nil | apply CL.cons' | exact CL.nil) | exact hQ.mono (by decide) | exact (path_ok _ _).mono (by decide) | exact (wg0_1 p0 h0 _).mono (by decide))
    all_goals first | (apply le_by; (focus repeat' first | with_reducible apply app_le | with_reducible apply cons_le | with_reducible exact nil_le | with_reducible apply sum_cons_le | with_reducible exact sum_nil_le | with_reducible exact join_nil_le | with_reducible apply join_one_le | with_reducible apply join_cons_le | with_reducible apply Nat.add_le_add | with_reducible assumption | with_reducible exact Nat.le_of_eq (by assumption) | exact Nat.le_refl _); kernel_rfl!) | omega | (simp only [List.length_append, List.length_cons, List.length_nil, sumLen, joinL]; omega)
  · refine beqV_of_eq ?_
    first | rfl | (simp [joinL, show litC 10 = [] from rfl, show litC 70 ++ litC 83 = litC 71 from rfl, show litC 73 = litC 82 ++ [49, 50] ++ litC 68 from rfl])
  · rfl

theorem gr_1_1 {j j₁ j₂ j₃ j₄ : Int × Int} {q : TD} (hq : q ∈ toldL) {p0 : TD} (h0 : p0 ∈ toldL) (hM : CA 20 f_law_dip [.jar, .int ((4 : Nat) : Int)] j (.int ((1 : Nat) : Int)) j₁)
    (hC : CL 157 (.call 58 [.cel]) (.one 4) ((List.range 1).map fun i => .int (Int.ofNat i)) j₁ ([p0].map toldV) j₂) (hD : CA 20 f_law_dip [.jar, .int ((5 : Nat) : Int)] j₂ (.int ((1 : Nat) : Int)) j₃) (hQ : CA 60 f_law_expr [.jar] j₃ (toldV q) j₄) :
    CA 160 f_law_gathered_right [.jar] j (.bool true) j₃ := by
  obtain ⟨z10, z62, z56, z64, z65, z67, z68, z70, z71, z73, z7, z74, z75, z76, z78, z79, z80, z81, z82, z83⟩ := zl
  have sq := (told_short q hq).1
  have s0 := (told_short p0 h0).1
  apply CA.of' (d := d_law_gathered_right) (ρ := []) rfl rfl
  · show EXS 159 d_law_gathered_right.body _ _ _
    apply EXS.pre 3 (gp_1 h0 hM hC hD)
    unfold d_law_gathered_right
    dsimp only [List.drop]
    repeat' (first | (first | ((with_reducible show _ = _); exact rfl) | with_reducible apply EVS.cons | with_reducible exact EVS.nil | with_reducible apply EV.loc | with_reducible exact EV.str | with_reducible exact EV.int | with_reducible apply EV.add | with_reducible apply AddV.s | with_reducible exact AddV.i | with_reducible apply AddV.t | with_reducible apply EV.sub | with_reducible apply EV.call' | with_reducible apply EV.cmp | with_reducible apply EV.tup | with_reducible apply EV.isNone | with_reducible apply EV.ite' | with_reducible apply EVc.t | with_reducible apply EVc.f | exact IsB.t | exact IsB.f | with_reducible exact EV.none | with_reducible exact EV.bool | with_reducible exact EV.cel | with_reducible apply EV.bi | with_reducible apply EV.glob | with_reducible apply EV.and | with_reducible apply EV.or | with_reducible apply AN.step | with_reducible apply AN.one | with_reducible apply ANc.t | with_reducible exact ANc.f | with_reducible apply OR.step | with_reducible apply OR.one | with_reducible exact ORc.t | with_reducible apply ORc.f | with_reducible apply EV.not | with_reducible apply EV.lst | with_reducible apply EV.bin | with_reducible exact EV.neg | with_reducible apply EV.lev | with_reducible apply EV.joinS | with_reducible apply EV.comp | with_reducible apply CV.of' | with_reducible exact CL.nil | with_reducible apply CL.cons' | with_reducible apply EXS.cons | with_reducible exact EXS.nil | with_reducible apply EXc.next | with_reducible exact EXc.ret | with_reducible apply EX.ret | with_reducible apply EX.asg' | with_reducible exact SetTo.none | with_reducible apply SetTo.ne | with_reducible apply SetTo.eq | with_reducible apply SetAllTo.cons | with_reducible exact SetAllTo.nil | with_reducible apply BindTo.one | with_reducible apply BindTo.tup | with_reducible apply EX.ite' | with_reducible apply EXSc.t | with_reducible apply EXSc.f | with_reducible apply EX.app' | with_reducible apply EX.unp' | with_reducible apply EX.tasg' | with_reducible exact EX.own' | with_reducible apply EX.ownC' | with_reducible apply EX.tasgO0 | with_reducible apply EX.tasgO1 | with_reducible apply EX.setJ0 | with_reducible apply EX.setJ1 | with_reducible apply EX.whl | with_reducible apply WH.t | with_reducible exact WH.f | with_reducible apply EX.for | with_reducible exact FO.nil | with_reducible apply FO.cons' | with_reducible apply FOc.next | with_reducible exact FOc.ret | apply FO.cons' | exact FO.nil | apply CL.cons' | exact CL.nil) | exact hQ.mono (by decide) | exact (path_ok _ _).mono (by decide) | exact (wg1_1 p0 h0 _).mono (by decide))
    all_goals first | (apply le_by; (focus repeat' first | with_reducible apply app_le | with_reducible apply cons_le | with_reducible exact nil_le | with_reducible apply sum_cons_le | with_reducible exact sum_nil_le | with_reducible exact join_nil_le | with_reducible apply join_one_le | with_reducible apply join_cons_le | with_reducible apply Nat.add_le_add | with_reducible assumption | with_reducible exact Nat.le_of_eq (by assumption) | exact Nat.le_refl _); kernel_rfl!) | omega | (simp only [List.length_append, List.length_cons, List.length_nil, sumLen, joinL]; omega)
  · refine beqV_of_eq ?_
    first | rfl | (simp [joinL, show litC 10 = [] from rfl, show litC 70 ++ litC 83 = litC 71 from rfl, show litC 73 = litC 82 ++ [49, 50] ++ litC 68 from rfl])
  · rfl

theorem gr_1_2 {j j₁ j₂ j₃ j₄ : Int × Int} {q : TD} (hq : q ∈ toldL) {p0 : TD} (h0 : p0 ∈ toldL) (hM : CA 20 f_law_dip [.jar, .int ((4 : Nat) : Int)] j (.int ((1 : Nat) : Int)) j₁)
    (hC : CL 157 (.call 58 [.cel]) (.one 4) ((List.range 1).map fun i => .int (Int.ofNat i)) j₁ ([p0].map toldV) j₂) (hD : CA 20 f_law_dip [.jar, .int ((5 : Nat) : Int)] j₂ (.int ((2 : Nat) : Int)) j₃) (hQ : CA 60 f_law_expr [.jar] j₃ (toldV q) j₄) :
    CA 160 f_law_gathered_right [.jar] j (.bool true) j₃ := by
  obtain ⟨z10, z62, z56, z64, z65, z67, z68, z70, z71, z73, z7, z74, z75, z76, z78, z79, z80, z81, z82, z83⟩ := zl
  have sq := (told_short q hq).1
  have s0 := (told_short p0 h0).1
  apply CA.of' (d := d_law_gathered_right) (ρ := []) rfl rfl
  · show EXS 159 d_law_gathered_right.body _ _ _
    apply EXS.pre 3 (gp_1 h0 hM hC hD)
    unfold d_law_gathered_right
    dsimp only [List.drop]
    repeat' (first | (first | ((with_reducible show _ = _); exact rfl) | with_reducible apply EVS.cons | with_reducible exact EVS.nil | with_reducible apply EV.loc | with_reducible exact EV.str | with_reducible exact EV.int | with_reducible apply EV.add | with_reducible apply AddV.s | with_reducible exact AddV.i | with_reducible apply AddV.t | with_reducible apply EV.sub | with_reducible apply EV.call' | with_reducible apply EV.cmp | with_reducible apply EV.tup | with_reducible apply EV.isNone | with_reducible apply EV.ite' | with_reducible apply EVc.t | with_reducible apply EVc.f | exact IsB.t | exact IsB.f | with_reducible exact EV.none | with_reducible exact EV.bool | with_reducible exact EV.cel | with_reducible apply EV.bi | with_reducible apply EV.glob | with_reducible apply EV.and | with_reducible apply EV.or | with_reducible apply AN.step | with_reducible apply AN.one | with_reducible apply ANc.t | with_reducible exact ANc.f | with_reducible apply OR.step | with_reducible apply OR.one | with_reducible exact ORc.t | with_reducible apply ORc.f | with_reducible apply EV.not | with_reducible apply EV.lst | with_reducible apply EV.bin | with_reducible exact EV.neg | with_reducible apply EV.lev | with_reducible apply EV.joinS | with_reducible apply EV.comp | with_reducible apply CV.of' | with_reducible exact CL.nil | with_reducible apply CL.cons' | with_reducible apply EXS.cons | with_reducible exact EXS.nil | with_reducible apply EXc.next | with_reducible exact EXc.ret | with_reducible apply EX.ret | with_reducible apply EX.asg' | with_reducible exact SetTo.none | with_reducible apply SetTo.ne | with_reducible apply SetTo.eq | with_reducible apply SetAllTo.cons | with_reducible exact SetAllTo.nil | with_reducible apply BindTo.one | with_reducible apply BindTo.tup | with_reducible apply EX.ite' | with_reducible apply EXSc.t | with_reducible apply EXSc.f | with_reducible apply EX.app' | with_reducible apply EX.unp' | with_reducible apply EX.tasg' | with_reducible exact EX.own' | with_reducible apply EX.ownC' | with_reducible apply EX.tasgO0 | with_reducible apply EX.tasgO1 | with_reducible apply EX.setJ0 | with_reducible apply EX.setJ1 | with_reducible apply EX.whl | with_reducible apply WH.t | with_reducible exact WH.f | with_reducible apply EX.for | with_reducible exact FO.nil | with_reducible apply FO.cons' | with_reducible apply FOc.next | with_reducible exact FOc.ret | apply FO.cons' | exact FO.nil | apply CL.cons' | exact CL.nil) | exact hQ.mono (by decide) | exact (path_ok _ _).mono (by decide) | exact (wg2_1 p0 h0 _).mono (by decide))
    all_goals first | (apply le_by; (focus repeat' first | with_reducible apply app_le | with_reducible apply cons_le | with_reducible exact nil_le | with_reducible apply sum_cons_le | with_reducible exact sum_nil_le | with_reducible exact join_nil_le | with_reducible apply join_one_le | with_reducible apply join_cons_le | with_reducible apply Nat.add_le_add | with_reducible assumption | with_reducible exact Nat.le_of_eq (by assumption) | exact Nat.le_refl _); kernel_rfl!) | omega | (simp only [List.length_append, List.length_cons, List.length_nil, sumLen, joinL]; omega)
  · refine beqV_of_eq ?_
    first | rfl | (simp [joinL, show litC 10 = [] from rfl, show litC 70 ++ litC 83 = litC 71 from rfl, show litC 73 = litC 82 ++ [49, 50] ++ litC 68 from rfl])
  · rfl

theorem gr_1_3 {j j₁ j₂ j₃ j₄ : Int × Int} {q : TD} (hq : q ∈ toldL) {p0 : TD} (h0 : p0 ∈ toldL) (hM : CA 20 f_law_dip [.jar, .int ((4 : Nat) : Int)] j (.int ((1 : Nat) : Int)) j₁)
    (hC : CL 157 (.call 58 [.cel]) (.one 4) ((List.range 1).map fun i => .int (Int.ofNat i)) j₁ ([p0].map toldV) j₂) (hD : CA 20 f_law_dip [.jar, .int ((5 : Nat) : Int)] j₂ (.int ((3 : Nat) : Int)) j₃) (hQ : CA 60 f_law_expr [.jar] j₃ (toldV q) j₄) :
    CA 160 f_law_gathered_right [.jar] j (.bool true) j₄ := by
  obtain ⟨z10, z62, z56, z64, z65, z67, z68, z70, z71, z73, z7, z74, z75, z76, z78, z79, z80, z81, z82, z83⟩ := zl
  have sq := (told_short q hq).1
  have s0 := (told_short p0 h0).1
  apply CA.of' (d := d_law_gathered_right) (ρ := []) rfl rfl
  · show EXS 159 d_law_gathered_right.body _ _ _
    apply EXS.pre 3 (gp_1 h0 hM hC hD)
    unfold d_law_gathered_right
    dsimp only [List.drop]
    repeat' (first | (first | ((with_reducible show _ = _); exact rfl) | with_reducible apply EVS.cons | with_reducible exact EVS.nil | with_reducible apply EV.loc | with_reducible exact EV.str | with_reducible exact EV.int | with_reducible apply EV.add | with_reducible apply AddV.s | with_reducible exact AddV.i | with_reducible apply AddV.t | with_reducible apply EV.sub | with_reducible apply EV.call' | with_reducible apply EV.cmp | with_reducible apply EV.tup | with_reducible apply EV.isNone | with_reducible apply EV.ite' | with_reducible apply EVc.t | with_reducible apply EVc.f | exact IsB.t | exact IsB.f | with_reducible exact EV.none | with_reducible exact EV.bool | with_reducible exact EV.cel | with_reducible apply EV.bi | with_reducible apply EV.glob | with_reducible apply EV.and | with_reducible apply EV.or | with_reducible apply AN.step | with_reducible apply AN.one | with_reducible apply ANc.t | with_reducible exact ANc.f | with_reducible apply OR.step | with_reducible apply OR.one | with_reducible exact ORc.t | with_reducible apply ORc.f | with_reducible apply EV.not | with_reducible apply EV.lst | with_reducible apply EV.bin | with_reducible exact EV.neg | with_reducible apply EV.lev | with_reducible apply EV.joinS | with_reducible apply EV.comp | with_reducible apply CV.of' | with_reducible exact CL.nil | with_reducible apply CL.cons' | with_reducible apply EXS.cons | with_reducible exact EXS.nil | with_reducible apply EXc.next | with_reducible exact EXc.ret | with_reducible apply EX.ret | with_reducible apply EX.asg' | with_reducible exact SetTo.none | with_reducible apply SetTo.ne | with_reducible apply SetTo.eq | with_reducible apply SetAllTo.cons | with_reducible exact SetAllTo.nil | with_reducible apply BindTo.one | with_reducible apply BindTo.tup | with_reducible apply EX.ite' | with_reducible apply EXSc.t | with_reducible apply EXSc.f | with_reducible apply EX.app' | with_reducible apply EX.unp' | with_reducible apply EX.tasg' | with_reducible exact EX.own' | with_reducible apply EX.ownC' | with_reducible apply EX.tasgO0 | with_reducible apply EX.tasgO1 | with_reducible apply EX.setJ0 | with_reducible apply EX.setJ1 | with_reducible apply EX.whl | with_reducible apply WH.t | with_reducible exact WH.f | with_reducible apply EX.for | with_reducible exact FO.nil | with_reducible apply FO.cons' | with_reducible apply FOc.next | with_reducible exact FOc.ret | apply FO.cons' | exact FO.nil | apply CL.cons' | exact CL.nil) | exact hQ.mono (by decide) | exact (path_ok _ _).mono (by decide) | exact (wg3 q hq _).mono (by decide))
    all_goals first | (apply le_by; (focus repeat' first | with_reducible apply app_le | with_reducible apply cons_le | with_reducible exact nil_le | with_reducible apply sum_cons_le | with_reducible exact sum_nil_le | with_reducible exact join_nil_le | with_reducible apply join_one_le | with_reducible apply join_cons_le | with_reducible apply Nat.add_le_add | with_reducible assumption | with_reducible exact Nat.le_of_eq (by assumption) | exact Nat.le_refl _); kernel_rfl!) | omega | (simp only [List.length_append, List.length_cons, List.length_nil, sumLen, joinL]; omega)
  · refine beqV_of_eq ?_
    first | rfl | (simp [joinL, show litC 10 = [] from rfl, show litC 70 ++ litC 83 = litC 71 from rfl, show litC 73 = litC 82 ++ [49, 50] ++ litC 68 from rfl])
  · rfl

theorem gr_1_4 {j j₁ j₂ j₃ j₄ : Int × Int} {q : TD} (hq : q ∈ toldL) {p0 : TD} (h0 : p0 ∈ toldL) (hM : CA 20 f_law_dip [.jar, .int ((4 : Nat) : Int)] j (.int ((1 : Nat) : Int)) j₁)
    (hC : CL 157 (.call 58 [.cel]) (.one 4) ((List.range 1).map fun i => .int (Int.ofNat i)) j₁ ([p0].map toldV) j₂) (hD : CA 20 f_law_dip [.jar, .int ((5 : Nat) : Int)] j₂ (.int ((4 : Nat) : Int)) j₃) (hQ : CA 60 f_law_expr [.jar] j₃ (toldV q) j₄) :
    CA 160 f_law_gathered_right [.jar] j (.bool true) j₃ := by
  obtain ⟨z10, z62, z56, z64, z65, z67, z68, z70, z71, z73, z7, z74, z75, z76, z78, z79, z80, z81, z82, z83⟩ := zl
  have sq := (told_short q hq).1
  have s0 := (told_short p0 h0).1
  apply CA.of' (d := d_law_gathered_right) (ρ := []) rfl rfl
  · show EXS 159 d_law_gathered_right.body _ _ _
    apply EXS.pre 3 (gp_1 h0 hM hC hD)
    unfold d_law_gathered_right
    dsimp only [List.drop]
    repeat' (first | (first | ((with_reducible show _ = _); exact rfl) | with_reducible apply EVS.cons | with_reducible exact EVS.nil | with_reducible apply EV.loc | with_reducible exact EV.str | with_reducible exact EV.int | with_reducible apply EV.add | with_reducible apply AddV.s | with_reducible exact AddV.i | with_reducible apply AddV.t | with_reducible apply EV.sub | with_reducible apply EV.call' | with_reducible apply EV.cmp | with_reducible apply EV.tup | with_reducible apply EV.isNone | with_reducible apply EV.ite' | with_reducible apply EVc.t | with_reducible apply EVc.f | exact IsB.t | exact IsB.f | with_reducible exact EV.none | with_reducible exact EV.bool | with_reducible exact EV.cel | with_reducible apply EV.bi | with_reducible apply EV.glob | with_reducible apply EV.and | with_reducible apply EV.or | with_reducible apply AN.step | with_reducible apply AN.one | with_reducible apply ANc.t | with_reducible exact ANc.f | with_reducible apply OR.step | with_reducible apply OR.one | with_reducible exact ORc.t | with_reducible apply ORc.f | with_reducible apply EV.not | with_reducible apply EV.lst | with_reducible apply EV.bin | with_reducible exact EV.neg | with_reducible apply EV.lev | with_reducible apply EV.joinS | with_reducible apply EV.comp | with_reducible apply CV.of' | with_reducible exact CL.nil | with_reducible apply CL.cons' | with_reducible apply EXS.cons | with_reducible exact EXS.nil | with_reducible apply EXc.next | with_reducible exact EXc.ret | with_reducible apply EX.ret | with_reducible apply EX.asg' | with_reducible exact SetTo.none | with_reducible apply SetTo.ne | with_reducible apply SetTo.eq | with_reducible apply SetAllTo.cons | with_reducible exact SetAllTo.nil | with_reducible apply BindTo.one | with_reducible apply BindTo.tup | with_reducible apply EX.ite' | with_reducible apply EXSc.t | with_reducible apply EXSc.f | with_reducible apply EX.app' | with_reducible apply EX.unp' | with_reducible apply EX.tasg' | with_reducible exact EX.own' | with_reducible apply EX.ownC' | with_reducible apply EX.tasgO0 | with_reducible apply EX.tasgO1 | with_reducible apply EX.setJ0 | with_reducible apply EX.setJ1 | with_reducible apply EX.whl | with_reducible apply WH.t | with_reducible exact WH.f | with_reducible apply EX.for | with_reducible exact FO.nil | with_reducible apply FO.cons' | with_reducible apply FOc.next | with_reducible exact FOc.ret | apply FO.cons' | exact FO.nil | apply CL.cons' | exact CL.nil) | exact hQ.mono (by decide) | exact (path_ok _ _).mono (by decide) | exact (wg4_1 p0 h0 _).mono (by decide))
    all_goals first | (apply le_by; (focus repeat' first | with_reducible apply app_le | with_reducible apply cons_le | with_reducible exact nil_le | with_reducible apply sum_cons_le | with_reducible exact sum_nil_le | with_reducible exact join_nil_le | with_reducible apply join_one_le | with_reducible apply join_cons_le | with_reducible apply Nat.add_le_add | with_reducible assumption | with_reducible exact Nat.le_of_eq (by assumption) | exact Nat.le_refl _); kernel_rfl!) | omega | (simp only [List.length_append, List.length_cons, List.length_nil, sumLen, joinL]; omega)
  · refine beqV_of_eq ?_
    first | rfl | (simp [joinL, show litC 10 = [] from rfl, show litC 70 ++ litC 83 = litC 71 from rfl, show litC 73 = litC 82 ++ [49, 50] ++ litC 68 from rfl])
  · rfl

theorem gr_2_0 {j j₁ j₂ j₃ j₄ : Int × Int} {q : TD} (hq : q ∈ toldL) {p0 : TD} (h0 : p0 ∈ toldL) {p1 : TD} (h1 : p1 ∈ toldL) (hM : CA 20 f_law_dip [.jar, .int ((4 : Nat) : Int)] j (.int ((2 : Nat) : Int)) j₁)
    (hC : CL 157 (.call 58 [.cel]) (.one 4) ((List.range 2).map fun i => .int (Int.ofNat i)) j₁ ([p0, p1].map toldV) j₂) (hD : CA 20 f_law_dip [.jar, .int ((5 : Nat) : Int)] j₂ (.int ((0 : Nat) : Int)) j₃) (hQ : CA 60 f_law_expr [.jar] j₃ (toldV q) j₄) :
    CA 160 f_law_gathered_right [.jar] j (.bool true) j₃ := by
  obtain ⟨z10, z62, z56, z64, z65, z67, z68, z70, z71, z73, z7, z74, z75, z76, z78, z79, z80, z81, z82, z83⟩ := zl
  have sq := (told_short q hq).1
  have s0 := (told_short p0 h0).1
  have s1 := (told_short p1 h1).1
  apply CA.of' (d := d_law_gathered_right) (ρ := []) rfl rfl
  · show EXS 159 d_law_gathered_right.body _ _ _
    apply EXS.pre 3 (gp_2 h0 h1 hM hC hD)
    unfold d_law_gathered_right
    dsimp only [List.drop]
    repeat' (first | (first | ((with_reducible show _ = _); exact rfl) | with_reducible apply EVS.cons | with_reducible exact EVS.nil | with_reducible apply EV.loc | with_reducible exact EV.str | with_reducible exact EV.int | with_reducible apply EV.add | with_reducible apply AddV.s | with_reducible exact AddV.i | with_reducible apply AddV.t | with_reducible apply EV.sub | with_reducible apply EV.call' | with_reducible apply EV.cmp | with_reducible apply EV.tup | with_reducible apply EV.isNone | with_reducible apply EV.ite' | with_reducible apply EVc.t | with_reducible apply EVc.f | exact IsB.t | exact IsB.f | with_reducible exact EV.none | with_reducible exact EV.bool | with_reducible exact EV.cel | with_reducible apply EV.bi | with_reducible apply EV.glob | with_reducible apply EV.and | with_reducible apply EV.or | with_reducible apply AN.step | with_reducible apply AN.one | with_reducible apply ANc.t | with_reducible exact ANc.f | with_reducible apply OR.step | with_reducible apply OR.one | with_reducible exact ORc.t | with_reducible apply ORc.f | with_reducible apply EV.not | with_reducible apply EV.lst | with_reducible apply EV.bin | with_reducible exact EV.neg | with_reducible apply EV.lev | with_reducible apply EV.joinS | with_reducible apply EV.comp | with_reducible apply CV.of' | with_reducible exact CL.nil | with_reducible apply CL.cons' | with_reducible apply EXS.cons | with_reducible exact EXS.nil | with_reducible apply EXc.next | with_reducible exact EXc.ret | with_reducible apply EX.ret | with_reducible apply EX.asg' | with_reducible exact SetTo.none | with_reducible apply SetTo.ne | with_reducible apply SetTo.eq | with_reducible apply SetAllTo.cons | with_reducible exact SetAllTo.nil | with_reducible apply BindTo.one | with_reducible apply BindTo.tup | with_reducible apply EX.ite' | with_reducible apply EXSc.t | with_reducible apply EXSc.f | with_reducible apply EX.app' | with_reducible apply EX.unp' | with_reducible apply EX.tasg' | with_reducible exact EX.own' | with_reducible apply EX.ownC' | with_reducible apply EX.tasgO0 | with_reducible apply EX.tasgO1 | with_reducible apply EX.setJ0 | with_reducible apply EX.setJ1 | with_reducible apply EX.whl | with_reducible apply WH.t | with_reducible exact WH.f | with_reducible apply EX.for | with_reducible exact FO.nil | with_reducible apply FO.cons' | with_reducible apply FOc.next | with_reducible exact FOc.ret | apply FO.cons' | exact FO.nil | apply CL.cons' | exact CL.nil) | exact hQ.mono (by decide) | exact (path_ok _ _).mono (by decide) | exact (wg0_2 p0 p1 h0 h1 _).mono (by decide))
    all_goals first | (apply le_by; (focus repeat' first | with_reducible apply app_le | with_reducible apply cons_le | with_reducible exact nil_le | with_reducible apply sum_cons_le | with_reducible exact sum_nil_le | with_reducible exact join_nil_le | with_reducible apply join_one_le | with_reducible apply join_cons_le | with_reducible apply Nat.add_le_add | with_reducible assumption | with_reducible exact Nat.le_of_eq (by assumption) | exact Nat.le_refl _); kernel_rfl!) | omega | (simp only [List.length_append, List.length_cons, List.length_nil, sumLen, joinL]; omega)
  · refine beqV_of_eq ?_
    first | rfl | (simp [joinL, show litC 10 = [] from rfl, show litC 70 ++ litC 83 = litC 71 from rfl, show litC 73 = litC 82 ++ [49, 50] ++ litC 68 from rfl])
  · rfl

theorem gr_2_1 {j j₁ j₂ j₃ j₄ : Int × Int} {q : TD} (hq : q ∈ toldL) {p0 : TD} (h0 : p0 ∈ toldL) {p1 : TD} (h1 : p1 ∈ toldL) (hM : CA 20 f_law_dip [.jar, .int ((4 : Nat) : Int)] j (.int ((2 : Nat) : Int)) j₁)
    (hC : CL 157 (.call 58 [.cel]) (.one 4) ((List.range 2).map fun i => .int (Int.ofNat i)) j₁ ([p0, p1].map toldV) j₂) (hD : CA 20 f_law_dip [.jar, .int ((5 : Nat) : Int)] j₂ (.int ((1 : Nat) : Int)) j₃) (hQ : CA 60 f_law_expr [.jar] j₃ (toldV q) j₄) :
    CA 160 f_law_gathered_right [.jar] j (.bool true) j₃ := by
  obtain ⟨z10, z62, z56, z64, z65, z67, z68, z70, z71, z73, z7, z74, z75, z76, z78, z79, z80, z81, z82, z83⟩ := zl
  have sq := (told_short q hq).1
  have s0 := (told_short p0 h0).1
  have s1 := (told_short p1 h1).1
  apply CA.of' (d := d_law_gathered_right) (ρ := []) rfl rfl
  · show EXS 159 d_law_gathered_right.body _ _ _
    apply EXS.pre 3 (gp_2 h0 h1 hM hC hD)
    unfold d_law_gathered_right
    dsimp only [List.drop]
    repeat' (first | (first | ((with_reducible show _ = _); exact rfl) | with_reducible apply EVS.cons | with_reducible exact EVS.nil | with_reducible apply EV.loc | with_reducible exact EV.str | with_reducible exact EV.int | with_reducible apply EV.add | with_reducible apply AddV.s | with_reducible exact AddV.i | with_reducible apply AddV.t | with_reducible apply EV.sub | with_reducible apply EV.call' | with_reducible apply EV.cmp | with_reducible apply EV.tup | with_reducible apply EV.isNone | with_reducible apply EV.ite' | with_reducible apply EVc.t | with_reducible apply EVc.f | exact IsB.t | exact IsB.f | with_reducible exact EV.none | with_reducible exact EV.bool | with_reducible exact EV.cel | with_reducible apply EV.bi | with_reducible apply EV.glob | with_reducible apply EV.and | with_reducible apply EV.or | with_reducible apply AN.step | with_reducible apply AN.one | with_reducible apply ANc.t | with_reducible exact ANc.f | with_reducible apply OR.step | with_reducible apply OR.one | with_reducible exact ORc.t | with_reducible apply ORc.f | with_reducible apply EV.not | with_reducible apply EV.lst | with_reducible apply EV.bin | with_reducible exact EV.neg | with_reducible apply EV.lev | with_reducible apply EV.joinS | with_reducible apply EV.comp | with_reducible apply CV.of' | with_reducible exact CL.nil | with_reducible apply CL.cons' | with_reducible apply EXS.cons | with_reducible exact EXS.nil | with_reducible apply EXc.next | with_reducible exact EXc.ret | with_reducible apply EX.ret | with_reducible apply EX.asg' | with_reducible exact SetTo.none | with_reducible apply SetTo.ne | with_reducible apply SetTo.eq | with_reducible apply SetAllTo.cons | with_reducible exact SetAllTo.nil | with_reducible apply BindTo.one | with_reducible apply BindTo.tup | with_reducible apply EX.ite' | with_reducible apply EXSc.t | with_reducible apply EXSc.f | with_reducible apply EX.app' | with_reducible apply EX.unp' | with_reducible apply EX.tasg' | with_reducible exact EX.own' | with_reducible apply EX.ownC' | with_reducible apply EX.tasgO0 | with_reducible apply EX.tasgO1 | with_reducible apply EX.setJ0 | with_reducible apply EX.setJ1 | with_reducible apply EX.whl | with_reducible apply WH.t | with_reducible exact WH.f | with_reducible apply EX.for | with_reducible exact FO.nil | with_reducible apply FO.cons' | with_reducible apply FOc.next | with_reducible exact FOc.ret | apply FO.cons' | exact FO.nil | apply CL.cons' | exact CL.nil) | exact hQ.mono (by decide) | exact (path_ok _ _).mono (by decide) | exact (wg1_2 p0 p1 h0 h1 _).mono (by decide))
    all_goals first | (apply le_by; (focus repeat' first | with_reducible apply app_le | with_reducible apply cons_le | with_reducible exact nil_le | with_reducible apply sum_cons_le | with_reducible exact sum_nil_le | with_reducible exact join_nil_le | with_reducible apply join_one_le | with_reducible apply join_cons_le | with_reducible apply Nat.add_le_add | with_reducible assumption | with_reducible exact Nat.le_of_eq (by assumption) | exact Nat.le_refl _); kernel_rfl!) | omega | (simp only [List.length_append, List.length_cons, List.length_nil, sumLen, joinL]; omega)
  · refine beqV_of_eq ?_
    first | rfl | (simp [joinL, show litC 10 = [] from rfl, show litC 70 ++ litC 83 = litC 71 from rfl, show litC 73 = litC 82 ++ [49, 50] ++ litC 68 from rfl])
  · rfl

theorem gr_2_2 {j j₁ j₂ j₃ j₄ : Int × Int} {q : TD} (hq : q ∈ toldL) {p0 : TD} (h0 : p0 ∈ toldL) {p1 : TD} (h1 : p1 ∈ toldL) (hM : CA 20 f_law_dip [.jar, .int ((4 : Nat) : Int)] j (.int ((2 : Nat) : Int)) j₁)
    (hC : CL 157 (.call 58 [.cel]) (.one 4) ((List.range 2).map fun i => .int (Int.ofNat i)) j₁ ([p0, p1].map toldV) j₂) (hD : CA 20 f_law_dip [.jar, .int ((5 : Nat) : Int)] j₂ (.int ((2 : Nat) : Int)) j₃) (hQ : CA 60 f_law_expr [.jar] j₃ (toldV q) j₄) :
    CA 160 f_law_gathered_right [.jar] j (.bool true) j₃ := by
  obtain ⟨z10, z62, z56, z64, z65, z67, z68, z70, z71, z73, z7, z74, z75, z76, z78, z79, z80, z81, z82, z83⟩ := zl
  have sq := (told_short q hq).1
  have s0 := (told_short p0 h0).1
  have s1 := (told_short p1 h1).1
  apply CA.of' (d := d_law_gathered_right) (ρ := []) rfl rfl
  · show EXS 159 d_law_gathered_right.body _ _ _
    apply EXS.pre 3 (gp_2 h0 h1 hM hC hD)
    unfold d_law_gathered_right
    dsimp only [List.drop]
    repeat' (first | (first | ((with_reducible show _ = _); exact rfl) | with_reducible apply EVS.cons | with_reducible exact EVS.nil | with_reducible apply EV.loc | with_reducible exact EV.str | with_reducible exact EV.int | with_reducible apply EV.add | with_reducible apply AddV.s | with_reducible exact AddV.i | with_reducible apply AddV.t | with_reducible apply EV.sub | with_reducible apply EV.call' | with_reducible apply EV.cmp | with_reducible apply EV.tup | with_reducible apply EV.isNone | with_reducible apply EV.ite' | with_reducible apply EVc.t | with_reducible apply EVc.f | exact IsB.t | exact IsB.f | with_reducible exact EV.none | with_reducible exact EV.bool | with_reducible exact EV.cel | with_reducible apply EV.bi | with_reducible apply EV.glob | with_reducible apply EV.and | with_reducible apply EV.or | with_reducible apply AN.step | with_reducible apply AN.one | with_reducible apply ANc.t | with_reducible exact ANc.f | with_reducible apply OR.step | with_reducible apply OR.one | with_reducible exact ORc.t | with_reducible apply ORc.f | with_reducible apply EV.not | with_reducible apply EV.lst | with_reducible apply EV.bin | with_reducible exact EV.neg | with_reducible apply EV.lev | with_reducible apply EV.joinS | with_reducible apply EV.comp | with_reducible apply CV.of' | with_reducible exact CL.nil | with_reducible apply CL.cons' | with_reducible apply EXS.cons | with_reducible exact EXS.nil | with_reducible apply EXc.next | with_reducible exact EXc.ret | with_reducible apply EX.ret | with_reducible apply EX.asg' | with_reducible exact SetTo.none | with_reducible apply SetTo.ne | with_reducible apply SetTo.eq | with_reducible apply SetAllTo.cons | with_reducible exact SetAllTo.nil | with_reducible apply BindTo.one | with_reducible apply BindTo.tup | with_reducible apply EX.ite' | with_reducible apply EXSc.t | with_reducible apply EXSc.f | with_reducible apply EX.app' | with_reducible apply EX.unp' | with_reducible apply EX.tasg' | with_reducible exact EX.own' | with_reducible apply EX.ownC' | with_reducible apply EX.tasgO0 | with_reducible apply EX.tasgO1 | with_reducible apply EX.setJ0 | with_reducible apply EX.setJ1 | with_reducible apply EX.whl | with_reducible apply WH.t | with_reducible exact WH.f | with_reducible apply EX.for | with_reducible exact FO.nil | with_reducible apply FO.cons' | with_reducible apply FOc.next | with_reducible exact FOc.ret | apply FO.cons' | exact FO.nil | apply CL.cons' | exact CL.nil) | exact hQ.mono (by decide) | exact (path_ok _ _).mono (by decide) | exact (wg2_2 p0 p1 h0 h1 _).mono (by decide))
    all_goals first | (apply le_by; (focus repeat' first | with_reducible apply app_le | with_reducible apply cons_le | with_reducible exact nil_le | with_reducible apply sum_cons_le | with_reducible exact sum_nil_le | with_reducible exact join_nil_le | with_reducible apply join_one_le | with_reducible apply join_cons_le | with_reducible apply Nat.add_le_add | with_reducible assumption | with_reducible exact Nat.le_of_eq (by assumption) | exact Nat.le_refl _); kernel_rfl!) | omega | (simp only [List.length_append, List.length_cons, List.length_nil, sumLen, joinL]; omega)
  · refine beqV_of_eq ?_
    first | rfl | (simp [joinL, show litC 10 = [] from rfl, show litC 70 ++ litC 83 = litC 71 from rfl, show litC 73 = litC 82 ++ [49, 50] ++ litC 68 from rfl])
  · rfl

theorem gr_2_3 {j j₁ j₂ j₃ j₄ : Int × Int} {q : TD} (hq : q ∈ toldL) {p0 : TD} (h0 : p0 ∈ toldL) {p1 : TD} (h1 : p1 ∈ toldL) (hM : CA 20 f_law_dip [.jar, .int ((4 : Nat) : Int)] j (.int ((2 : Nat) : Int)) j₁)
    (hC : CL 157 (.call 58 [.cel]) (.one 4) ((List.range 2).map fun i => .int (Int.ofNat i)) j₁ ([p0, p1].map toldV) j₂) (hD : CA 20 f_law_dip [.jar, .int ((5 : Nat) : Int)] j₂ (.int ((3 : Nat) : Int)) j₃) (hQ : CA 60 f_law_expr [.jar] j₃ (toldV q) j₄) :
    CA 160 f_law_gathered_right [.jar] j (.bool true) j₄ := by
  obtain ⟨z10, z62, z56, z64, z65, z67, z68, z70, z71, z73, z7, z74, z75, z76, z78, z79, z80, z81, z82, z83⟩ := zl
  have sq := (told_short q hq).1
  have s0 := (told_short p0 h0).1
  have s1 := (told_short p1 h1).1
  apply CA.of' (d := d_law_gathered_right) (ρ := []) rfl rfl
  · show EXS 159 d_law_gathered_right.body _ _ _
    apply EXS.pre 3 (gp_2 h0 h1 hM hC hD)
    unfold d_law_gathered_right
    dsimp only [List.drop]
    repeat' (first | (first | ((with_reducible show _ = _); exact rfl) | with_reducible apply EVS.cons | with_reducible exact EVS.nil | with_reducible apply EV.loc | with_reducible exact EV.str | with_reducible exact EV.int | with_reducible apply EV.add | with_reducible apply AddV.s | with_reducible exact AddV.i | with_reducible apply AddV.t | with_reducible apply EV.sub | with_reducible apply EV.call' | with_reducible apply EV.cmp | with_reducible apply EV.tup | with_reducible apply EV.isNone | with_reducible apply EV.ite' | with_reducible apply EVc.t | with_reducible apply EVc.f | exact IsB.t | exact IsB.f | with_reducible exact EV.none | with_reducible exact EV.bool | with_reducible exact EV.cel | with_reducible apply EV.bi | with_reducible apply EV.glob | with_reducible apply EV.and | with_reducible apply EV.or | with_reducible apply AN.step | with_reducible apply AN.one | with_reducible apply ANc.t | with_reducible exact ANc.f | with_reducible apply OR.step | with_reducible apply OR.one | with_reducible exact ORc.t | with_reducible apply ORc.f | with_reducible apply EV.not | with_reducible apply EV.lst | with_reducible apply EV.bin | with_reducible exact EV.neg | with_reducible apply EV.lev | with_reducible apply EV.joinS | with_reducible apply EV.comp | with_reducible apply CV.of' | with_reducible exact CL.nil | with_reducible apply CL.cons' | with_reducible apply EXS.cons | with_reducible exact EXS.nil | with_reducible apply EXc.next | with_reducible exact EXc.ret | with_reducible apply EX.ret | with_reducible apply EX.asg' | with_reducible exact SetTo.none | with_reducible apply SetTo.ne | with_reducible apply SetTo.eq | with_reducible apply SetAllTo.cons | with_reducible exact SetAllTo.nil | with_reducible apply BindTo.one | with_reducible apply BindTo.tup | with_reducible apply EX.ite' | with_reducible apply EXSc.t | with_reducible apply EXSc.f | with_reducible apply EX.app' | with_reducible apply EX.unp' | with_reducible apply EX.tasg' | with_reducible exact EX.own' | with_reducible apply EX.ownC' | with_reducible apply EX.tasgO0 | with_reducible apply EX.tasgO1 | with_reducible apply EX.setJ0 | with_reducible apply EX.setJ1 | with_reducible apply EX.whl | with_reducible apply WH.t | with_reducible exact WH.f | with_reducible apply EX.for | with_reducible exact FO.nil | with_reducible apply FO.cons' | with_reducible apply FOc.next | with_reducible exact FOc.ret | apply FO.cons' | exact FO.nil | apply CL.cons' | exact CL.nil) | exact hQ.mono (by decide) | exact (path_ok _ _).mono (by decide) | exact (wg3 q hq _).mono (by decide))
    all_goals first | (apply le_by; (focus repeat' first | with_reducible apply app_le | with_reducible apply cons_le | with_reducible exact nil_le | with_reducible apply sum_cons_le | with_reducible exact sum_nil_le | with_reducible exact join_nil_le | with_reducible apply join_one_le | with_reducible apply join_cons_le | with_reducible apply Nat.add_le_add | with_reducible assumption | with_reducible exact Nat.le_of_eq (by assumption) | exact Nat.le_refl _); kernel_rfl!) | omega | (simp only [List.length_append, List.length_cons, List.length_nil, sumLen, joinL]; omega)
  · refine beqV_of_eq ?_
    first | rfl | (simp [joinL, show litC 10 = [] from rfl, show litC 70 ++ litC 83 = litC 71 from rfl, show litC 73 = litC 82 ++ [49, 50] ++ litC 68 from rfl])
  · rfl

theorem gr_2_4 {j j₁ j₂ j₃ j₄ : Int × Int} {q : TD} (hq : q ∈ toldL) {p0 : TD} (h0 : p0 ∈ toldL) {p1 : TD} (h1 : p1 ∈ toldL) (hM : CA 20 f_law_dip [.jar, .int ((4 : Nat) : Int)] j (.int ((2 : Nat) : Int)) j₁)
    (hC : CL 157 (.call 58 [.cel]) (.one 4) ((List.range 2).map fun i => .int (Int.ofNat i)) j₁ ([p0, p1].map toldV) j₂) (hD : CA 20 f_law_dip [.jar, .int ((5 : Nat) : Int)] j₂ (.int ((4 : Nat) : Int)) j₃) (hQ : CA 60 f_law_expr [.jar] j₃ (toldV q) j₄) :
    CA 160 f_law_gathered_right [.jar] j (.bool true) j₃ := by
  obtain ⟨z10, z62, z56, z64, z65, z67, z68, z70, z71, z73, z7, z74, z75, z76, z78, z79, z80, z81, z82, z83⟩ := zl
  have sq := (told_short q hq).1
  have s0 := (told_short p0 h0).1
  have s1 := (told_short p1 h1).1
  apply CA.of' (d := d_law_gathered_right) (ρ := []) rfl rfl
  · show EXS 159 d_law_gathered_right.body _ _ _
    apply EXS.pre 3 (gp_2 h0 h1 hM hC hD)
    unfold d_law_gathered_right
    dsimp only [List.drop]
    repeat' (first | (first | ((with_reducible show _ = _); exact rfl) | with_reducible apply EVS.cons | with_reducible exact EVS.nil | with_reducible apply EV.loc | with_reducible exact EV.str | with_reducible exact EV.int | with_reducible apply EV.add | with_reducible apply AddV.s | with_reducible exact AddV.i | with_reducible apply AddV.t | with_reducible apply EV.sub | with_reducible apply EV.call' | with_reducible apply EV.cmp | with_reducible apply EV.tup | with_reducible apply EV.isNone | with_reducible apply EV.ite' | with_reducible apply EVc.t | with_reducible apply EVc.f | exact IsB.t | exact IsB.f | with_reducible exact EV.none | with_reducible exact EV.bool | with_reducible exact EV.cel | with_reducible apply EV.bi | with_reducible apply EV.glob | with_reducible apply EV.and | with_reducible apply EV.or | with_reducible apply AN.step | with_reducible apply AN.one | with_reducible apply ANc.t | with_reducible exact ANc.f | with_reducible apply OR.step | with_reducible apply OR.one | with_reducible exact ORc.t | with_reducible apply ORc.f | with_reducible apply EV.not | with_reducible apply EV.lst | with_reducible apply EV.bin | with_reducible exact EV.neg | with_reducible apply EV.lev | with_reducible apply EV.joinS | with_reducible apply EV.comp | with_reducible apply CV.of' | with_reducible exact CL.nil | with_reducible apply CL.cons' | with_reducible apply EXS.cons | with_reducible exact EXS.nil | with_reducible apply EXc.next | with_reducible exact EXc.ret | with_reducible apply EX.ret | with_reducible apply EX.asg' | with_reducible exact SetTo.none | with_reducible apply SetTo.ne | with_reducible apply SetTo.eq | with_reducible apply SetAllTo.cons | with_reducible exact SetAllTo.nil | with_reducible apply BindTo.one | with_reducible apply BindTo.tup | with_reducible apply EX.ite' | with_reducible apply EXSc.t | with_reducible apply EXSc.f | with_reducible apply EX.app' | with_reducible apply EX.unp' | with_reducible apply EX.tasg' | with_reducible exact EX.own' | with_reducible apply EX.ownC' | with_reducible apply EX.tasgO0 | with_reducible apply EX.tasgO1 | with_reducible apply EX.setJ0 | with_reducible apply EX.setJ1 | with_reducible apply EX.whl | with_reducible apply WH.t | with_reducible exact WH.f | with_reducible apply EX.for | with_reducible exact FO.nil | with_reducible apply FO.cons' | with_reducible apply FOc.next | with_reducible exact FOc.ret | apply FO.cons' | exact FO.nil | apply CL.cons' | exact CL.nil) | exact hQ.mono (by decide) | exact (path_ok _ _).mono (by decide) | exact (wg4_2 p0 p1 h0 h1 _).mono (by decide))
    all_goals first | (apply le_by; (focus repeat' first | with_reducible apply app_le | with_reducible apply cons_le | with_reducible exact nil_le | with_reducible apply sum_cons_le | with_reducible exact sum_nil_le | with_reducible exact join_nil_le | with_reducible apply join_one_le | with_reducible apply join_cons_le | with_reducible apply Nat.add_le_add | with_reducible assumption | with_reducible exact Nat.le_of_eq (by assumption) | exact Nat.le_refl _); kernel_rfl!) | omega | (simp only [List.length_append, List.length_cons, List.length_nil, sumLen, joinL]; omega)
  · refine beqV_of_eq ?_
    first | rfl | (simp [joinL, show litC 10 = [] from rfl, show litC 70 ++ litC 83 = litC 71 from rfl, show litC 73 = litC 82 ++ [49, 50] ++ litC 68 from rfl])
  · rfl

theorem gr_3_0 {j j₁ j₂ j₃ j₄ : Int × Int} {q : TD} (hq : q ∈ toldL) {p0 : TD} (h0 : p0 ∈ toldL) {p1 : TD} (h1 : p1 ∈ toldL) {p2 : TD} (h2 : p2 ∈ toldL) (hM : CA 20 f_law_dip [.jar, .int ((4 : Nat) : Int)] j (.int ((3 : Nat) : Int)) j₁)
    (hC : CL 157 (.call 58 [.cel]) (.one 4) ((List.range 3).map fun i => .int (Int.ofNat i)) j₁ ([p0, p1, p2].map toldV) j₂) (hD : CA 20 f_law_dip [.jar, .int ((5 : Nat) : Int)] j₂ (.int ((0 : Nat) : Int)) j₃) (hQ : CA 60 f_law_expr [.jar] j₃ (toldV q) j₄) :
    CA 160 f_law_gathered_right [.jar] j (.bool true) j₃ := by
  obtain ⟨z10, z62, z56, z64, z65, z67, z68, z70, z71, z73, z7, z74, z75, z76, z78, z79, z80, z81, z82, z83⟩ := zl
  have sq := (told_short q hq).1
  have s0 := (told_short p0 h0).1
  have s1 := (told_short p1 h1).1
  have s2 := (told_short p2 h2).1
  apply CA.of' (d := d_law_gathered_right) (ρ := []) rfl rfl
  · show EXS 159 d_law_gathered_right.body _ _ _
    apply EXS.pre 3 (gp_3 h0 h1 h2 hM hC hD)
    unfold d_law_gathered_right
    dsimp only [List.drop]
    repeat' (first | (first | ((with_reducible show _ = _); exact rfl) | with_reducible apply EVS.cons | with_reducible exact EVS.nil | with_reducible apply EV.loc | with_reducible exact EV.str | with_reducible exact EV.int | with_reducible apply EV.add | with_reducible apply AddV.s | with_reducible exact AddV.i | with_reducible apply AddV.t | with_reducible apply EV.sub | with_reducible apply EV.call' | with_reducible apply EV.cmp | with_reducible apply EV.tup | with_reducible apply EV.isNone | with_reducible apply EV.ite' | with_reducible apply EVc.t | with_reducible apply EVc.f | exact IsB.t | exact IsB.f | with_reducible exact EV.none | with_reducible exact EV.bool | with_reducible exact EV.cel | with_reducible apply EV.bi | with_reducible apply EV.glob | with_reducible apply EV.and | with_reducible apply EV.or | with_reducible apply AN.step | with_reducible apply AN.one | with_reducible apply ANc.t | with_reducible exact ANc.f | with_reducible apply OR.step | with_reducible apply OR.one | with_reducible exact ORc.t | with_reducible apply ORc.f | with_reducible apply EV.not | with_reducible apply EV.lst | with_reducible apply EV.bin | with_reducible exact EV.neg | with_reducible apply EV.lev | with_reducible apply EV.joinS | with_reducible apply EV.comp | with_reducible apply CV.of' | with_reducible exact CL.nil | with_reducible apply CL.cons' | with_reducible apply EXS.cons | with_reducible exact EXS.nil | with_reducible apply EXc.next | with_reducible exact EXc.ret | with_reducible apply EX.ret | with_reducible apply EX.asg' | with_reducible exact SetTo.none | with_reducible apply SetTo.ne | with_reducible apply SetTo.eq | with_reducible apply SetAllTo.cons | with_reducible exact SetAllTo.nil | with_reducible apply BindTo.one | with_reducible apply BindTo.tup | with_reducible apply EX.ite' | with_reducible apply EXSc.t | with_reducible apply EXSc.f | with_reducible apply EX.app' | with_reducible apply EX.unp' | with_reducible apply EX.tasg' | with_reducible exact EX.own' | with_reducible apply EX.ownC' | with_reducible apply EX.tasgO0 | with_reducible apply EX.tasgO1 | with_reducible apply EX.setJ0 | with_reducible apply EX.setJ1 | with_reducible apply EX.whl | with_reducible apply WH.t | with_reducible exact WH.f | with_reducible apply EX.for | with_reducible exact FO.nil | with_reducible apply FO.cons' | with_reducible apply FOc.next | with_reducible exact FOc.ret | apply FO.cons' | exact FO.nil | apply CL.cons' | exact CL.nil) | exact hQ.mono (by decide) | exact (path_ok _ _).mono (by decide) | exact (wg0_3 p0 p1 p2 h0 h1 h2 _).mono (by decide))
    all_goals first | (apply le_by; (focus repeat' first | with_reducible apply app_le | with_reducible apply cons_le | with_reducible exact nil_le | with_reducible apply sum_cons_le | with_reducible exact sum_nil_le | with_reducible exact join_nil_le | with_reducible apply join_one_le | with_reducible apply join_cons_le | with_reducible apply Nat.add_le_add | with_reducible assumption | with_reducible exact Nat.le_of_eq (by assumption) | exact Nat.le_refl _); kernel_rfl!) | omega | (simp only [List.length_append, List.length_cons, List.length_nil, sumLen, joinL]; omega)
  · refine beqV_of_eq ?_
    first | rfl | (simp [joinL, show litC 10 = [] from rfl, show litC 70 ++ litC 83 = litC 71 from rfl, show litC 73 = litC 82 ++ [49, 50] ++ litC 68 from rfl])
  · rfl

theorem gr_3_1 {j j₁ j₂ j₃ j₄ : Int × Int} {q : TD} (hq : q ∈ toldL) {p0 : TD} (h0 : p0 ∈ toldL) {p1 : TD} (h1 : p1 ∈ toldL) {p2 : TD} (h2 : p2 ∈ toldL) (hM : CA 20 f_law_dip [.jar, .int ((4 : Nat) : Int)] j (.int ((3 : Nat) : Int)) j₁)
    (hC : CL 157 (.call 58 [.cel]) (.one 4) ((List.range 3).map fun i => .int (Int.ofNat i)) j₁ ([p0, p1, p2].map toldV) j₂) (hD : CA 20 f_law_dip [.jar, .int ((5 : Nat) : Int)] j₂ (.int ((1 : Nat) : Int)) j₃) (hQ : CA 60 f_law_expr [.jar] j₃ (toldV q) j₄) :
    CA 160 f_law_gathered_right [.jar] j (.bool true) j₃ := by
  obtain ⟨z10, z62, z56, z64, z65, z67, z68, z70, z71, z73, z7, z74, z75, z76, z78, z79, z80, z81, z82, z83⟩ := zl
  have sq := (told_short q hq).1
  have s0 := (told_short p0 h0).1
  have s1 := (told_short p1 h1).1
  have s2 := (told_short p2 h2).1
  apply CA.of' (d := d_law_gathered_right) (ρ := []) rfl rfl
  · show EXS 159 d_law_gathered_right.body _ _ _
    apply EXS.pre 3 (gp_3 h0 h1 h2 hM hC hD)
    unfold d_law_gathered_right
    dsimp only [List.drop]
    repeat' (first | (first | ((with_reducible show _ = _); exact rfl) | with_reducible apply EVS.cons | with_reducible exact EVS.nil | with_reducible apply EV.loc | with_reducible exact EV.str | with_reducible exact EV.int | with_reducible apply EV.add | with_reducible apply AddV.s | with_reducible exact AddV.i | with_reducible apply AddV.t | with_reducible apply EV.sub | with_reducible apply EV.call' | with_reducible apply EV.cmp | with_reducible apply EV.tup | with_reducible apply EV.isNone | with_reducible apply EV.ite' | with_reducible apply EVc.t | with_reducible apply EVc.f | exact IsB.t | exact IsB.f | with_reducible exact EV.none | with_reducible exact EV.bool | with_reducible exact EV.cel | with_reducible apply EV.bi | with_reducible apply EV.glob | with_reducible apply EV.and | with_reducible apply EV.or | with_reducible apply AN.step | with_reducible apply AN.one | with_reducible apply ANc.t | with_reducible exact ANc.f | with_reducible apply OR.step | with_reducible apply OR.one | with_reducible exact ORc.t | with_reducible apply ORc.f | with_reducible apply EV.not | with_reducible apply EV.lst | with_reducible apply EV.bin | with_reducible exact EV.neg | with_reducible apply EV.lev | with_reducible apply EV.joinS | with_reducible apply EV.comp | with_reducible apply CV.of' | with_reducible exact CL.nil | with_reducible apply CL.cons' | with_reducible apply EXS.cons | with_reducible exact EXS.nil | with_reducible apply EXc.next | with_reducible exact EXc.ret | with_reducible apply EX.ret | with_reducible apply EX.asg' | with_reducible exact SetTo.none | with_reducible apply SetTo.ne | with_reducible apply SetTo.eq | with_reducible apply SetAllTo.cons | with_reducible exact SetAllTo.nil | with_reducible apply BindTo.one | with_reducible apply BindTo.tup | with_reducible apply EX.ite' | with_reducible apply EXSc.t | with_reducible apply EXSc.f | with_reducible apply EX.app' | with_reducible apply EX.unp' | with_reducible apply EX.tasg' | with_reducible exact EX.own' | with_reducible apply EX.ownC' | with_reducible apply EX.tasgO0 | with_reducible apply EX.tasgO1 | with_reducible apply EX.setJ0 | with_reducible apply EX.setJ1 | with_reducible apply EX.whl | with_reducible apply WH.t | with_reducible exact WH.f | with_reducible apply EX.for | with_reducible exact FO.nil | with_reducible apply FO.cons' | with_reducible apply FOc.next | with_reducible exact FOc.ret | apply FO.cons' | exact FO.nil | apply CL.cons' | exact CL.nil) | exact hQ.mono (by decide) | exact (path_ok _ _).mono (by decide) | exact (wg1_3 p0 p1 p2 h0 h1 h2 _).mono (by decide))
    all_goals first | (apply le_by; (focus repeat' first | with_reducible apply app_le | with_reducible apply cons_le | with_reducible exact nil_le | with_reducible apply sum_cons_le | with_reducible exact sum_nil_le | with_reducible exact join_nil_le | with_reducible apply join_one_le | with_reducible apply join_cons_le | with_reducible apply Nat.add_le_add | with_reducible assumption | with_reducible exact Nat.le_of_eq (by assumption) | exact Nat.le_refl _); kernel_rfl!) | omega | (simp only [List.length_append, List.length_cons, List.length_nil, sumLen, joinL]; omega)
  · refine beqV_of_eq ?_
    first | rfl | (simp [joinL, show litC 10 = [] from rfl, show litC 70 ++ litC 83 = litC 71 from rfl, show litC 73 = litC 82 ++ [49, 50] ++ litC 68 from rfl])
  · rfl

theorem gr_3_2 {j j₁ j₂ j₃ j₄ : Int × Int} {q : TD} (hq : q ∈ toldL) {p0 : TD} (h0 : p0 ∈ toldL) {p1 : TD} (h1 : p1 ∈ toldL) {p2 : TD} (h2 : p2 ∈ toldL) (hM : CA 20 f_law_dip [.jar, .int ((4 : Nat) : Int)] j (.int ((3 : Nat) : Int)) j₁)
    (hC : CL 157 (.call 58 [.cel]) (.one 4) ((List.range 3).map fun i => .int (Int.ofNat i)) j₁ ([p0, p1, p2].map toldV) j₂) (hD : CA 20 f_law_dip [.jar, .int ((5 : Nat) : Int)] j₂ (.int ((2 : Nat) : Int)) j₃) (hQ : CA 60 f_law_expr [.jar] j₃ (toldV q) j₄) :
    CA 160 f_law_gathered_right [.jar] j (.bool true) j₃ := by
  obtain ⟨z10, z62, z56, z64, z65, z67, z68, z70, z71, z73, z7, z74, z75, z76, z78, z79, z80, z81, z82, z83⟩ := zl
  have sq := (told_short q hq).1
  have s0 := (told_short p0 h0).1
  have s1 := (told_short p1 h1).1
  have s2 := (told_short p2 h2).1
  apply CA.of' (d := d_law_gathered_right) (ρ := []) rfl rfl
  · show EXS 159 d_law_gathered_right.body _ _ _
    apply EXS.pre 3 (gp_3 h0 h1 h2 hM hC hD)
    unfold d_law_gathered_right
    dsimp only [List.drop]
    repeat' (first | (first | ((with_reducible show _ = _); exact rfl) | with_reducible apply EVS.cons | with_reducible exact EVS.nil | with_reducible apply EV.loc | with_reducible exact EV.str | with_reducible exact EV.int | with_reducible apply EV.add | with_reducible apply AddV.s | with_reducible exact AddV.i | with_reducible apply AddV.t | with_reducible apply EV.sub | with_reducible apply EV.call' | with_reducible apply EV.cmp | with_reducible apply EV.tup | with_reducible apply EV.isNone | with_reducible apply EV.ite' | with_reducible apply EVc.t | with_reducible apply EVc.f | exact IsB.t | exact IsB.f | with_reducible exact EV.none | with_reducible exact EV.bool | with_reducible exact EV.cel | with_reducible apply EV.bi | with_reducible apply EV.glob | with_reducible apply EV.and | with_reducible apply EV.or | with_reducible apply AN.step | with_reducible apply AN.one | with_reducible apply ANc.t | with_reducible exact ANc.f | with_reducible apply OR.step | with_reducible apply OR.one | with_reducible exact ORc.t | with_reducible apply ORc.f | with_reducible apply EV.not | with_reducible apply EV.lst | with_reducible apply EV.bin | with_reducible exact EV.neg | with_reducible apply EV.lev | with_reducible apply EV.joinS | with_reducible apply EV.comp | with_reducible apply CV.of' | with_reducible exact CL.nil | with_reducible apply CL.cons' | with_reducible apply EXS.cons | with_reducible exact EXS.nil | with_reducible apply EXc.next | with_reducible exact EXc.ret | with_reducible apply EX.ret | with_reducible apply EX.asg' | with_reducible exact SetTo.none | with_reducible apply SetTo.ne | with_reducible apply SetTo.eq | with_reducible apply SetAllTo.cons | with_reducible exact SetAllTo.nil | with_reducible apply BindTo.one | with_reducible apply BindTo.tup | with_reducible apply EX.ite' | with_reducible apply EXSc.t | with_reducible apply EXSc.f | with_reducible apply EX.app' | with_reducible apply EX.unp' | with_reducible apply EX.tasg' | with_reducible exact EX.own' | with_reducible apply EX.ownC' | with_reducible apply EX.tasgO0 | with_reducible apply EX.tasgO1 | with_reducible apply EX.setJ0 | with_reducible apply EX.setJ1 | with_reducible apply EX.whl | with_reducible apply WH.t | with_reducible exact WH.f | with_reducible apply EX.for | with_reducible exact FO.nil | with_reducible apply FO.cons' | with_reducible apply FOc.next | with_reducible exact FOc.ret | apply FO.cons' | exact FO.nil | apply CL.cons' | exact CL.nil) | exact hQ.mono (by decide) | exact (path_ok _ _).mono (by decide) | exact (wg2_3 p0 p1 p2 h0 h1 h2 _).mono (by decide))
    all_goals first | (apply le_by; (focus repeat' first | with_reducible apply app_le | with_reducible apply cons_le | with_reducible exact nil_le | with_reducible apply sum_cons_le | with_reducible exact sum_nil_le | with_reducible exact join_nil_le | with_reducible apply join_one_le | with_reducible apply join_cons_le | with_reducible apply Nat.add_le_add | with_reducible assumption | with_reducible exact Nat.le_of_eq (by assumption) | exact Nat.le_refl _); kernel_rfl!) | omega | (simp only [List.length_append, List.length_cons, List.length_nil, sumLen, joinL]; omega)
  · refine beqV_of_eq ?_
    first | rfl | (simp [joinL, show litC 10 = [] from rfl, show litC 70 ++ litC 83 = litC 71 from rfl, show litC 73 = litC 82 ++ [49, 50] ++ litC 68 from rfl])
  · rfl

theorem gr_3_3 {j j₁ j₂ j₃ j₄ : Int × Int} {q : TD} (hq : q ∈ toldL) {p0 : TD} (h0 : p0 ∈ toldL) {p1 : TD} (h1 : p1 ∈ toldL) {p2 : TD} (h2 : p2 ∈ toldL) (hM : CA 20 f_law_dip [.jar, .int ((4 : Nat) : Int)] j (.int ((3 : Nat) : Int)) j₁)
    (hC : CL 157 (.call 58 [.cel]) (.one 4) ((List.range 3).map fun i => .int (Int.ofNat i)) j₁ ([p0, p1, p2].map toldV) j₂) (hD : CA 20 f_law_dip [.jar, .int ((5 : Nat) : Int)] j₂ (.int ((3 : Nat) : Int)) j₃) (hQ : CA 60 f_law_expr [.jar] j₃ (toldV q) j₄) :
    CA 160 f_law_gathered_right [.jar] j (.bool true) j₄ := by
  obtain ⟨z10, z62, z56, z64, z65, z67, z68, z70, z71, z73, z7, z74, z75, z76, z78, z79, z80, z81, z82, z83⟩ := zl
  have sq := (told_short q hq).1
  have s0 := (told_short p0 h0).1
  have s1 := (told_short p1 h1).1
  have s2 := (told_short p2 h2).1
  apply CA.of' (d := d_law_gathered_right) (ρ := []) rfl rfl
  · show EXS 159 d_law_gathered_right.body _ _ _
    apply EXS.pre 3 (gp_3 h0 h1 h2 hM hC hD)
    unfold d_law_gathered_right
    dsimp only [List.drop]
    repeat' (first | (first | ((with_reducible show _ = _); exact rfl) | with_reducible apply EVS.cons | with_reducible exact EVS.nil | with_reducible apply EV.loc | with_reducible exact EV.str | with_reducible exact EV.int | with_reducible apply EV.add | with_reducible apply AddV.s | with_reducible exact AddV.i | with_reducible apply AddV.t | with_reducible apply EV.sub | with_reducible apply EV.call' | with_reducible apply EV.cmp | with_reducible apply EV.tup | with_reducible apply EV.isNone | with_reducible apply EV.ite' | with_reducible apply EVc.t | with_reducible apply EVc.f | exact IsB.t | exact IsB.f | with_reducible exact EV.none | with_reducible exact EV.bool | with_reducible exact EV.cel | with_reducible apply EV.bi | with_reducible apply EV.glob | with_reducible apply EV.and | with_reducible apply EV.or | with_reducible apply AN.step | with_reducible apply AN.one | with_reducible apply ANc.t | with_reducible exact ANc.f | with_reducible apply OR.step | with_reducible apply OR.one | with_reducible exact ORc.t | with_reducible apply ORc.f | with_reducible apply EV.not | with_reducible apply EV.lst | with_reducible apply EV.bin | with_reducible exact EV.neg | with_reducible apply EV.lev | with_reducible apply EV.joinS | with_reducible apply EV.comp | with_reducible apply CV.of' | with_reducible exact CL.nil | with_reducible apply CL.cons' | with_reducible apply EXS.cons | with_reducible exact EXS.nil | with_reducible apply EXc.next | with_reducible exact EXc.ret | with_reducible apply EX.ret | with_reducible apply EX.asg' | with_reducible exact SetTo.none | with_reducible apply SetTo.ne | with_reducible apply SetTo.eq | with_reducible apply SetAllTo.cons | with_reducible exact SetAllTo.nil | with_reducible apply BindTo.one | with_reducible apply BindTo.tup | with_reducible apply EX.ite' | with_reducible apply EXSc.t | with_reducible apply EXSc.f | with_reducible apply EX.app' | with_reducible apply EX.unp' | with_reducible apply EX.tasg' | with_reducible exact EX.own' | with_reducible apply EX.ownC' | with_reducible apply EX.tasgO0 | with_reducible apply EX.tasgO1 | with_reducible apply EX.setJ0 | with_reducible apply EX.setJ1 | with_reducible apply EX.whl | with_reducible apply WH.t | with_reducible exact WH.f | with_reducible apply EX.for | with_reducible exact FO.nil | with_reducible apply FO.cons' | with_reducible apply FOc.next | with_reducible exact FOc.ret | apply FO.cons' | exact FO.nil | apply CL.cons' | exact CL.nil) | exact hQ.mono (by decide) | exact (path_ok _ _).mono (by decide) | exact (wg3 q hq _).mono (by decide))
    all_goals first | (apply le_by; (focus repeat' first | with_reducible apply app_le | with_reducible apply cons_le | with_reducible exact nil_le | with_reducible apply sum_cons_le | with_reducible exact sum_nil_le | with_reducible exact join_nil_le | with_reducible apply join_one_le | with_reducible apply join_cons_le | with_reducible apply Nat.add_le_add | with_reducible assumption | with_reducible exact Nat.le_of_eq (by assumption) | exact Nat.le_refl _); kernel_rfl!) | omega | (simp only [List.length_append, List.length_cons, List.length_nil, sumLen, joinL]; omega)
  · refine beqV_of_eq ?_
    first | rfl | (simp [joinL, show litC 10 = [] from rfl, show litC 70 ++ litC 83 = litC 71 from rfl, show litC 73 = litC 82 ++ [49, 50] ++ litC 68 from rfl])
  · rfl

theorem gr_3_4 {j j₁ j₂ j₃ j₄ : Int × Int} {q : TD} (hq : q ∈ toldL) {p0 : TD} (h0 : p0 ∈ toldL) {p1 : TD} (h1 : p1 ∈ toldL) {p2 : TD} (h2 : p2 ∈ toldL) (hM : CA 20 f_law_dip [.jar, .int ((4 : Nat) : Int)] j (.int ((3 : Nat) : Int)) j₁)
    (hC : CL 157 (.call 58 [.cel]) (.one 4) ((List.range 3).map fun i => .int (Int.ofNat i)) j₁ ([p0, p1, p2].map toldV) j₂) (hD : CA 20 f_law_dip [.jar, .int ((5 : Nat) : Int)] j₂ (.int ((4 : Nat) : Int)) j₃) (hQ : CA 60 f_law_expr [.jar] j₃ (toldV q) j₄) :
    CA 160 f_law_gathered_right [.jar] j (.bool true) j₃ := by
  obtain ⟨z10, z62, z56, z64, z65, z67, z68, z70, z71, z73, z7, z74, z75, z76, z78, z79, z80, z81, z82, z83⟩ := zl
  have sq := (told_short q hq).1
  have s0 := (told_short p0 h0).1
  have s1 := (told_short p1 h1).1
  have s2 := (told_short p2 h2).1
  apply CA.of' (d := d_law_gathered_right) (ρ := []) rfl rfl
  · show EXS 159 d_law_gathered_right.body _ _ _
    apply EXS.pre 3 (gp_3 h0 h1 h2 hM hC hD)
    unfold d_law_gathered_right
    dsimp only [List.drop]
    repeat' (first | (first | ((with_reducible show _ = _); exact rfl) | with_reducible apply EVS.cons | with_reducible exact EVS.nil | with_reducible apply EV.loc | with_reducible exact EV.str | with_reducible exact EV.int | with_reducible apply EV.add | with_reducible apply AddV.s | with_reducible exact AddV.i | with_reducible apply AddV.t | with_reducible apply EV.sub | with_reducible apply EV.call' | with_reducible apply EV.cmp | with_reducible apply EV.tup | with_reducible apply EV.isNone | with_reducible apply EV.ite' | with_reducible apply EVc.t | with_reducible apply EVc.f | exact IsB.t | exact IsB.f | with_reducible exact EV.none | with_reducible exact EV.bool | with_reducible exact EV.cel | with_reducible apply EV.bi | with_reducible apply EV.glob | with_reducible apply EV.and | with_reducible apply EV.or | with_reducible apply AN.step | with_reducible apply AN.one | with_reducible apply ANc.t | with_reducible exact ANc.f | with_reducible apply OR.step | with_reducible apply OR.one | with_reducible exact ORc.t | with_reducible apply ORc.f | with_reducible apply EV.not | with_reducible apply EV.lst | with_reducible apply EV.bin | with_reducible exact EV.neg | with_reducible apply EV.lev | with_reducible apply EV.joinS | with_reducible apply EV.comp | with_reducible apply CV.of' | with_reducible exact CL.nil | with_reducible apply CL.cons' | with_reducible apply EXS.cons | with_reducible exact EXS.nil | with_reducible apply EXc.next | with_reducible exact EXc.ret | with_reducible apply EX.ret | with_reducible apply EX.asg' | with_reducible exact SetTo.none | with_reducible apply SetTo.ne | with_reducible apply SetTo.eq | with_reducible apply SetAllTo.cons | with_reducible exact SetAllTo.nil | with_reducible apply BindTo.one | with_reducible apply BindTo.tup | with_reducible apply EX.ite' | with_reducible apply EXSc.t | with_reducible apply EXSc.f | with_reducible apply EX.app' | with_reducible apply EX.unp' | with_reducible apply EX.tasg' | with_reducible exact EX.own' | with_reducible apply EX.ownC' | with_reducible apply EX.tasgO0 | with_reducible apply EX.tasgO1 | with_reducible apply EX.setJ0 | with_reducible apply EX.setJ1 | with_reducible apply EX.whl | with_reducible apply WH.t | with_reducible exact WH.f | with_reducible apply EX.for | with_reducible exact FO.nil | with_reducible apply FO.cons' | with_reducible apply FOc.next | with_reducible exact FOc.ret | apply FO.cons' | exact FO.nil | apply CL.cons' | exact CL.nil) | exact hQ.mono (by decide) | exact (path_ok _ _).mono (by decide) | exact (wg4_3 p0 p1 p2 h0 h1 h2 _).mono (by decide))
    all_goals first | (apply le_by; (focus repeat' first | with_reducible apply app_le | with_reducible apply cons_le | with_reducible exact nil_le | with_reducible apply sum_cons_le | with_reducible exact sum_nil_le | with_reducible exact join_nil_le | with_reducible apply join_one_le | with_reducible apply join_cons_le | with_reducible apply Nat.add_le_add | with_reducible assumption | with_reducible exact Nat.le_of_eq (by assumption) | exact Nat.le_refl _); kernel_rfl!) | omega | (simp only [List.length_append, List.length_cons, List.length_nil, sumLen, joinL]; omega)
  · refine beqV_of_eq ?_
    first | rfl | (simp [joinL, show litC 10 = [] from rfl, show litC 70 ++ litC 83 = litC 71 from rfl, show litC 73 = litC 82 ++ [49, 50] ++ litC 68 from rfl])
  · rfl

theorem gathered_right_ok (j : Int × Int) (hj : Jok j) : ∃ j', Jok j' ∧ CA 160 f_law_gathered_right [.jar] j (.bool true) j' := by
  obtain ⟨m, j₁, hm, hj₁, hM⟩ := dip_ok j hj 4 (by decide) (by decide)
  obtain ⟨ps, j₂, hps, hlen, hj₂, hC⟩ := exprs_ok (n := 157) (by decide) ((List.range m).map fun i => .int (Int.ofNat i)) j₁ hj₁
  obtain ⟨d, j₃, hd, hj₃, hD⟩ := dip_ok j₂ hj₂ 5 (by decide) (by decide)
  obtain ⟨q, hq, j₄, hj₄, hQ⟩ := expr_ok j₃ hj₃
  have hd : d = 0 ∨ d = 1 ∨ d = 2 ∨ d = 3 ∨ d = 4 := by omega
  rcases (show m = 0 ∨ m = 1 ∨ m = 2 ∨ m = 3 by omega) with rfl | rfl | rfl | rfl
  · obtain rfl : ps = [] := List.length_eq_zero_iff.mp hlen
    rcases hd with rfl | rfl | rfl | rfl | rfl
    · exact ⟨j₃, hj₃, gr_0_0 hq hM hC hD hQ⟩
    · exact ⟨j₃, hj₃, gr_0_1 hq hM hC hD hQ⟩
    · exact ⟨j₃, hj₃, gr_0_2 hq hM hC hD hQ⟩
    · exact ⟨j₄, hj₄, gr_0_3 hq hM hC hD hQ⟩
    · exact ⟨j₃, hj₃, gr_0_4 hq hM hC hD hQ⟩

  · obtain ⟨p0, rfl⟩ : ∃ p0 : TD, ps = [p0] := by
      match ps, hlen with
      | [p0], _ => exact ⟨p0, rfl⟩
    have h0 : p0 ∈ toldL := hps p0 (by simp)
    rcases hd with rfl | rfl | rfl | rfl | rfl
    · exact ⟨j₃, hj₃, gr_1_0 hq h0 hM hC hD hQ⟩
    · exact ⟨j₃, hj₃, gr_1_1 hq h0 hM hC hD hQ⟩
    · exact ⟨j₃, hj₃, gr_1_2 hq h0 hM hC hD hQ⟩
    · exact ⟨j₄, hj₄, gr_1_3 hq h0 hM hC hD hQ⟩
    · exact ⟨j₃, hj₃, gr_1_4 hq h0 hM hC hD hQ⟩

  · obtain ⟨p0, p1, rfl⟩ : ∃ p0 p1 : TD, ps = [p0, p1] := by
      match ps, hlen with
      | [p0, p1], _ => exact ⟨p0, p1, rfl⟩
    have h0 : p0 ∈ toldL := hps p0 (by simp)
    have h1 : p1 ∈ toldL := hps p1 (by simp)
    rcases hd with rfl | rfl | rfl | rfl | rfl
    · exact ⟨j₃, hj₃, gr_2_0 hq h0 h1 hM hC hD hQ⟩
    · exact ⟨j₃, hj₃, gr_2_1 hq h0 h1 hM hC hD hQ⟩
    · exact ⟨j₃, hj₃, gr_2_2 hq h0 h1 hM hC hD hQ⟩
    · exact ⟨j₄, hj₄, gr_2_3 hq h0 h1 hM hC hD hQ⟩
    · exact ⟨j₃, hj₃, gr_2_4 hq h0 h1 hM hC hD hQ⟩

  · obtain ⟨p0, p1, p2, rfl⟩ : ∃ p0 p1 p2 : TD, ps = [p0, p1, p2] := by
      match ps, hlen with
      | [p0, p1, p2], _ => exact ⟨p0, p1, p2, rfl⟩
    have h0 : p0 ∈ toldL := hps p0 (by simp)
    have h1 : p1 ∈ toldL := hps p1 (by simp)
    have h2 : p2 ∈ toldL := hps p2 (by simp)
    rcases hd with rfl | rfl | rfl | rfl | rfl
    · exact ⟨j₃, hj₃, gr_3_0 hq h0 h1 h2 hM hC hD hQ⟩
    · exact ⟨j₃, hj₃, gr_3_1 hq h0 h1 h2 hM hC hD hQ⟩
    · exact ⟨j₃, hj₃, gr_3_2 hq h0 h1 h2 hM hC hD hQ⟩
    · exact ⟨j₄, hj₄, gr_3_3 hq h0 h1 h2 hM hC hD hQ⟩
    · exact ⟨j₃, hj₃, gr_3_4 hq h0 h1 h2 hM hC hD hQ⟩
end Mine

end PJpart

section PLpart
namespace Mine
noncomputable def jarEs' : List E := match d_law_jar.body with
  | [_, _, .ret (.lst es)] => es
  | _ => []
theorem jar_ok (zs : List Int) (hl : zs.length ≤ 1000) : ∃ x y σ₂ σ₃, EXS 60 (d_law_jar.body.take 2) ⟨[(0, .lst (zs.map .int))], none, (0, 0)⟩ .next σ₂ ∧ EVS 60 jarEs' σ₂ [.int x, .int y] σ₃ ∧ Jok (x, y) := by
  have body : ∀ t : Int, ∃ x y σ₃, EVS 60 jarEs' ⟨[(5, .int (if t < -1 - t then -1 - t else t)), (3, .int t), (0, .lst (zs.map .int))], none, (0, 0)⟩ [.int x, .int y] σ₃ ∧ Jok (x, y) := by
    intro t
    generalize (if t < -1 - t then -1 - t else t) = wd
    have hm0 : 0 ≤ wd.fmod 2147483629 := Int.fmod_nonneg_of_pos _ (by omega)
    have hm1 : wd.fmod 2147483629 < 2147483629 := Int.fmod_lt_of_pos _ (by omega)
    have q1 : binV .mod (.int wd) (.int 2147483629) = some (.int (wd.fmod 2147483629)) := rfl
    generalize wd.fmod 2147483629 = e at *
    have q2 : binV .mul (.int (e + 17)) (.int 48271) = some (.int ((e + 17) * 48271)) := by
      dsimp only [binV, onInts, mulV, addV]
      rw [show (smallI (e + 17) && smallI 48271) = true from by
        rw [show smallI (e + 17) = true from by unfold smallI; exact Nat.ble_eq_true_of_le (by omega)]; rfl]
    have q3 : binV .mod (.int ((e + 17) * 48271)) (.int 2147483647) = some (.int (((e + 17) * 48271).fmod 2147483647)) := rfl
    have y0 : 0 ≤ ((e + 17) * 48271).fmod 2147483647 := Int.fmod_nonneg_of_pos _ (by omega)
    have y1 : ((e + 17) * 48271).fmod 2147483647 < 2147483647 := Int.fmod_lt_of_pos _ (by omega)
    generalize ((e + 17) * 48271).fmod 2147483647 = y at *
    by_cases h : wd ≥ 1000000000000000000
    · have hB : IsB (decide (wd ≥ 1000000000000000000)) true := by rw [decide_eq_true h]; exact .t
      refine ⟨wd, y, ?_, ?_, y0, y1⟩
      rotate_left
      · show EVS 60 [_, _] _ _ _
        repeat' (first | exact q1 | exact q2 | exact q3 | exact hB | (first | ((with_reducible show _ = _); exact rfl) | with_reducible apply EVS.cons | with_reducible exact EVS.nil | with_reducible apply EV.loc | with_reducible exact EV.str | with_reducible exact EV.int | with_reducible apply EV.add | with_reducible apply AddV.s | with_reducible exact AddV.i | with_reducible apply AddV.t | with_reducible apply EV.sub | with_reducible apply EV.call' | with_reducible apply EV.cmp | with_reducible apply EV.tup | with_reducible apply EV.isNone | with_reducible apply EV.ite' | with_reducible apply EVc.t | with_reducible apply EVc.f | exact IsB.t | exact IsB.f | with_reducible exact EV.none | with_reducible exact EV.bool | with_reducible exact EV.cel | with_reducible apply EV.bi | with_reducible apply EV.glob | with_reducible apply EV.and | with_reducible apply EV.or | with_reducible apply AN.step | with_reducible apply AN.one | with_reducible apply ANc.t | with_reducible exact ANc.f | with_reducible apply OR.step | with_reducible apply OR.one | with_reducible exact ORc.t | with_reducible apply ORc.f | with_reducible apply EV.not | with_reducible apply EV.lst | with_reducible apply EV.bin | with_reducible exact EV.neg | with_reducible apply EV.lev | with_reducible apply EV.joinS | with_reducible apply EV.comp | with_reducible apply CV.of' | with_reducible exact CL.nil | with_reducible apply CL.cons' | with_reducible apply EXS.cons | with_reducible exact EXS.nil | with_reducible apply EXc.next | with_reducible exact EXc.ret | with_reducible apply EX.ret | with_reducible apply EX.asg' | with_reducible exact SetTo.none | with_reducible apply SetTo.ne | with_reducible apply SetTo.eq | with_reducible apply SetAllTo.cons | with_reducible exact SetAllTo.nil | with_reducible apply BindTo.one | with_reducible apply BindTo.tup | with_reducible apply EX.ite' | with_reducible apply EXSc.t | with_reducible apply EXSc.f | with_reducible apply EX.app' | with_reducible apply EX.unp' | with_reducible apply EX.tasg' | with_reducible exact EX.own' | with_reducible apply EX.ownC' | with_reducible apply EX.tasgO0 | with_reducible apply EX.tasgO1 | with_reducible apply EX.setJ0 | with_reducible apply EX.setJ1 | with_reducible apply EX.whl | with_reducible apply WH.t | with_reducible exact WH.f | with_reducible apply EX.for | with_reducible exact FO.nil | with_reducible apply FO.cons' | with_reducible apply FOc.next | with_reducible exact FOc.ret | apply FO.cons' | exact FO.nil | apply CL.cons' | exact CL.nil))
    · have hB : IsB (decide (wd ≥ 1000000000000000000)) false := by rw [decide_eq_false h]; exact .f
      refine ⟨0, y, ?_, ?_, y0, y1⟩
      rotate_left
      · show EVS 60 [_, _] _ _ _
        repeat' (first | exact q1 | exact q2 | exact q3 | exact hB | (first | ((with_reducible show _ = _); exact rfl) | with_reducible apply EVS.cons | with_reducible exact EVS.nil | with_reducible apply EV.loc | with_reducible exact EV.str | with_reducible exact EV.int | with_reducible apply EV.add | with_reducible apply AddV.s | with_reducible exact AddV.i | with_reducible apply AddV.t | with_reducible apply EV.sub | with_reducible apply EV.call' | with_reducible apply EV.cmp | with_reducible apply EV.tup | with_reducible apply EV.isNone | with_reducible apply EV.ite' | with_reducible apply EVc.t | with_reducible apply EVc.f | exact IsB.t | exact IsB.f | with_reducible exact EV.none | with_reducible exact EV.bool | with_reducible exact EV.cel | with_reducible apply EV.bi | with_reducible apply EV.glob | with_reducible apply EV.and | with_reducible apply EV.or | with_reducible apply AN.step | with_reducible apply AN.one | with_reducible apply ANc.t | with_reducible exact ANc.f | with_reducible apply OR.step | with_reducible apply OR.one | with_reducible exact ORc.t | with_reducible apply ORc.f | with_reducible apply EV.not | with_reducible apply EV.lst | with_reducible apply EV.bin | with_reducible exact EV.neg | with_reducible apply EV.lev | with_reducible apply EV.joinS | with_reducible apply EV.comp | with_reducible apply CV.of' | with_reducible exact CL.nil | with_reducible apply CL.cons' | with_reducible apply EXS.cons | with_reducible exact EXS.nil | with_reducible apply EXc.next | with_reducible exact EXc.ret | with_reducible apply EX.ret | with_reducible apply EX.asg' | with_reducible exact SetTo.none | with_reducible apply SetTo.ne | with_reducible apply SetTo.eq | with_reducible apply SetAllTo.cons | with_reducible exact SetAllTo.nil | with_reducible apply BindTo.one | with_reducible apply BindTo.tup | with_reducible apply EX.ite' | with_reducible apply EXSc.t | with_reducible apply EXSc.f | with_reducible apply EX.app' | with_reducible apply EX.unp' | with_reducible apply EX.tasg' | with_reducible exact EX.own' | with_reducible apply EX.ownC' | with_reducible apply EX.tasgO0 | with_reducible apply EX.tasgO1 | with_reducible apply EX.setJ0 | with_reducible apply EX.setJ1 | with_reducible apply EX.whl | with_reducible apply WH.t | with_reducible exact WH.f | with_reducible apply EX.for | with_reducible exact FO.nil | with_reducible apply FO.cons' | with_reducible apply FOc.next | with_reducible exact FOc.ret | apply FO.cons' | exact FO.nil | apply CL.cons' | exact CL.nil))
  have key : ∃ t, EXS 60 (d_law_jar.body.take 2) ⟨[(0, .lst (zs.map .int))], none, (0, 0)⟩ .next ⟨[(5, .int (if t < -1 - t then -1 - t else t)), (3, .int t), (0, .lst (zs.map .int))], none, (0, 0)⟩ := by
    cases zs with
    | nil =>
      refine ⟨0, ?_⟩
      show EXS 60 [_, _] _ _ _
      repeat' (first | ((with_reducible show _ = _); exact rfl) | with_reducible apply EVS.cons | with_reducible exact EVS.nil | with_reducible apply EV.loc | with_reducible exact EV.str | with_reducible exact EV.int | with_reducible apply EV.add | with_reducible apply AddV.s | with_reducible exact AddV.i | with_reducible apply AddV.t | with_reducible apply EV.sub | with_reducible apply EV.call' | with_reducible apply EV.cmp | with_reducible apply EV.tup | with_reducible apply EV.isNone | with_reducible apply EV.ite' | with_reducible apply EVc.t | with_reducible apply EVc.f | exact IsB.t | exact IsB.f | with_reducible exact EV.none | with_reducible exact EV.bool | with_reducible exact EV.cel | with_reducible apply EV.bi | with_reducible apply EV.glob | with_reducible apply EV.and | with_reducible apply EV.or | with_reducible apply AN.step | with_reducible apply AN.one | with_reducible apply ANc.t | with_reducible exact ANc.f | with_reducible apply OR.step | with_reducible apply OR.one | with_reducible exact ORc.t | with_reducible apply ORc.f | with_reducible apply EV.not | with_reducible apply EV.lst | with_reducible apply EV.bin | with_reducible exact EV.neg | with_reducible apply EV.lev | with_reducible apply EV.joinS | with_reducible apply EV.comp | with_reducible apply CV.of' | with_reducible exact CL.nil | with_reducible apply CL.cons' | with_reducible apply EXS.cons | with_reducible exact EXS.nil | with_reducible apply EXc.next | with_reducible exact EXc.ret | with_reducible apply EX.ret | with_reducible apply EX.asg' | with_reducible exact SetTo.none | with_reducible apply SetTo.ne | with_reducible apply SetTo.eq | with_reducible apply SetAllTo.cons | with_reducible exact SetAllTo.nil | with_reducible apply BindTo.one | with_reducible apply BindTo.tup | with_reducible apply EX.ite' | with_reducible apply EXSc.t | with_reducible apply EXSc.f | with_reducible apply EX.app' | with_reducible apply EX.unp' | with_reducible apply EX.tasg' | with_reducible exact EX.own' | with_reducible apply EX.ownC' | with_reducible apply EX.tasgO0 | with_reducible apply EX.tasgO1 | with_reducible apply EX.setJ0 | with_reducible apply EX.setJ1 | with_reducible apply EX.whl | with_reducible apply WH.t | with_reducible exact WH.f | with_reducible apply EX.for | with_reducible exact FO.nil | with_reducible apply FO.cons' | with_reducible apply FOc.next | with_reducible exact FOc.ret | apply FO.cons' | exact FO.nil | apply CL.cons' | exact CL.nil)
    | cons i r =>
      have q1 : biV .len [.lst ((i :: r).map .int)] = some (.int (((i :: r).map V.int).length : Nat)) := by
        dsimp only [biV, on1, lenV, tupV]; rw [show fits ((i :: r).map V.int).length = true from Nat.ble_eq_true_of_le (by rw [List.length_map]; unfold LIM; omega)]
      have hB : IsB (decide (((((i :: r).map V.int).length : Nat) : Int) > 0)) true := by
        rw [decide_eq_true (by rw [List.length_map, List.length_cons]; omega)]; exact .t
      refine ⟨i, ?_⟩
      show EXS 60 [_, _] _ _ _
      repeat' (first | exact q1 | exact hB | (first | ((with_reducible show _ = _); exact rfl) | with_reducible apply EVS.cons | with_reducible exact EVS.nil | with_reducible apply EV.loc | with_reducible exact EV.str | with_reducible exact EV.int | with_reducible apply EV.add | with_reducible apply AddV.s | with_reducible exact AddV.i | with_reducible apply AddV.t | with_reducible apply EV.sub | with_reducible apply EV.call' | with_reducible apply EV.cmp | with_reducible apply EV.tup | with_reducible apply EV.isNone | with_reducible apply EV.ite' | with_reducible apply EVc.t | with_reducible apply EVc.f | exact IsB.t | exact IsB.f | with_reducible exact EV.none | with_reducible exact EV.bool | with_reducible exact EV.cel | with_reducible apply EV.bi | with_reducible apply EV.glob | with_reducible apply EV.and | with_reducible apply EV.or | with_reducible apply AN.step | with_reducible apply AN.one | with_reducible apply ANc.t | with_reducible exact ANc.f | with_reducible apply OR.step | with_reducible apply OR.one | with_reducible exact ORc.t | with_reducible apply ORc.f | with_reducible apply EV.not | with_reducible apply EV.lst | with_reducible apply EV.bin | with_reducible exact EV.neg | with_reducible apply EV.lev | with_reducible apply EV.joinS | with_reducible apply EV.comp | with_reducible apply CV.of' | with_reducible exact CL.nil | with_reducible apply CL.cons' | with_reducible apply EXS.cons | with_reducible exact EXS.nil | with_reducible apply EXc.next | with_reducible exact EXc.ret | with_reducible apply EX.ret | with_reducible apply EX.asg' | with_reducible exact SetTo.none | with_reducible apply SetTo.ne | with_reducible apply SetTo.eq | with_reducible apply SetAllTo.cons | with_reducible exact SetAllTo.nil | with_reducible apply BindTo.one | with_reducible apply BindTo.tup | with_reducible apply EX.ite' | with_reducible apply EXSc.t | with_reducible apply EXSc.f | with_reducible apply EX.app' | with_reducible apply EX.unp' | with_reducible apply EX.tasg' | with_reducible exact EX.own' | with_reducible apply EX.ownC' | with_reducible apply EX.tasgO0 | with_reducible apply EX.tasgO1 | with_reducible apply EX.setJ0 | with_reducible apply EX.setJ1 | with_reducible apply EX.whl | with_reducible apply WH.t | with_reducible exact WH.f | with_reducible apply EX.for | with_reducible exact FO.nil | with_reducible apply FO.cons' | with_reducible apply FOc.next | with_reducible exact FOc.ret | apply FO.cons' | exact FO.nil | apply CL.cons' | exact CL.nil))
  obtain ⟨t, ht⟩ := key
  obtain ⟨x, y, σ₃, h1, h2⟩ := body t
  exact ⟨x, y, _, σ₃, ht, h1, h2⟩
theorem law1_ok (vs : List V) : EXS 100 law1 ⟨[(0, .lst vs)], none, (0, 0)⟩ .next ⟨[(0, .lst vs)], none, (0, 0)⟩ := by
  show exsL (run TT 100).ex law1 ⟨[(0, .lst vs)], none, (0, 0)⟩ = some (.next, ⟨[(0, .lst vs)], none, (0, 0)⟩)
  kernel_rfl
end Mine

end PLpart

section PNpart
namespace Mine
theorem allStr_map : ∀ ls : List (List Nat), allStr (ls.map .str) = some ls
  | [] => rfl
  | a :: r => by show (match allStr (r.map .str) with | some ls => some (a :: ls) | none => none) = _; rw [allStr_map r]
theorem strs_ok {n : Nat} (hn : 60 ≤ n) : ∀ (xs : List V) (j : Int × Int), Jok j → ∃ (ls : List (List Nat)) (j' : Int × Int), sumLen [] ls ≤ 3 * xs.length ∧ ls.length = xs.length ∧ Jok j' ∧
    CL n (.call 56 [.cel, .lst [.str 7, .str 8, .str 9, .str 10]]) (.one 4) xs j (ls.map .str) j'
  | [], j, hj => ⟨[], j, by simp [sumLen], rfl, hj, CL.nil⟩
  | x :: xs, j, hj => by
    obtain ⟨v, hv, j₁, hj₁, hE⟩ := one_ok j hj [.str (litC 7), .str (litC 8), .str (litC 9), .str (litC 10)] (by decide) (by decide)
    have hv : ∃ l : List Nat, v = .str l ∧ l.length ≤ 3 := by
      simp only [List.mem_cons, List.not_mem_nil, or_false] at hv
      rcases hv with h | h | h | h <;> exact ⟨_, h, by decide +kernel⟩
    obtain ⟨l, rfl, hl⟩ := hv
    obtain ⟨ls, j₂, h1, h2, hj₂, hC⟩ := strs_ok hn xs j₁ hj₁
    refine ⟨l :: ls, j₂, ?_, by rw [List.length_cons, List.length_cons, h2], hj₂, ?_⟩
    · simp only [sumLen, List.length_cons, List.length_nil]; omega
    refine CL.cons' (ρ := [(4, x)]) (j₁ := j₁) (BindTo.one SetTo.none) (EV.mono hn ?_) hC
    show EV 60 _ _ _ _
    repeat' (first | (first | ((with_reducible show _ = _); exact rfl) | with_reducible apply EVS.cons | with_reducible exact EVS.nil | with_reducible apply EV.loc | with_reducible exact EV.str | with_reducible exact EV.int | with_reducible apply EV.add | with_reducible apply AddV.s | with_reducible exact AddV.i | with_reducible apply AddV.t | with_reducible apply EV.sub | with_reducible apply EV.call' | with_reducible apply EV.cmp | with_reducible apply EV.tup | with_reducible apply EV.isNone | with_reducible apply EV.ite' | with_reducible apply EVc.t | with_reducible apply EVc.f | exact IsB.t | exact IsB.f | with_reducible exact EV.none | with_reducible exact EV.bool | with_reducible exact EV.cel | with_reducible apply EV.bi | with_reducible apply EV.glob | with_reducible apply EV.and | with_reducible apply EV.or | with_reducible apply AN.step | with_reducible apply AN.one | with_reducible apply ANc.t | with_reducible exact ANc.f | with_reducible apply OR.step | with_reducible apply OR.one | with_reducible exact ORc.t | with_reducible apply ORc.f | with_reducible apply EV.not | with_reducible apply EV.lst | with_reducible apply EV.bin | with_reducible exact EV.neg | with_reducible apply EV.lev | with_reducible apply EV.joinS | with_reducible apply EV.comp | with_reducible apply CV.of' | with_reducible exact CL.nil | with_reducible apply CL.cons' | with_reducible apply EXS.cons | with_reducible exact EXS.nil | with_reducible apply EXc.next | with_reducible exact EXc.ret | with_reducible apply EX.ret | with_reducible apply EX.asg' | with_reducible exact SetTo.none | with_reducible apply SetTo.ne | with_reducible apply SetTo.eq | with_reducible apply SetAllTo.cons | with_reducible exact SetAllTo.nil | with_reducible apply BindTo.one | with_reducible apply BindTo.tup | with_reducible apply EX.ite' | with_reducible apply EXSc.t | with_reducible apply EXSc.f | with_reducible apply EX.app' | with_reducible apply EX.unp' | with_reducible apply EX.tasg' | with_reducible exact EX.own' | with_reducible apply EX.ownC' | with_reducible apply EX.tasgO0 | with_reducible apply EX.tasgO1 | with_reducible apply EX.setJ0 | with_reducible apply EX.setJ1 | with_reducible apply EX.whl | with_reducible apply WH.t | with_reducible exact WH.f | with_reducible apply EX.for | with_reducible exact FO.nil | with_reducible apply FO.cons' | with_reducible apply FOc.next | with_reducible exact FOc.ret | apply FO.cons' | exact FO.nil | apply CL.cons' | exact CL.nil) | exact hE.mono (by decide))
theorem ne_false (a : List Nat) : IsB (!(beqL a a)) false := by rw [beqL_self]; exact .f
theorem law2_ok (hMatch : ∀ j, Jok j → ∃ j', Jok j' ∧ CA 200 f_law_match_right [.jar] j (.bool true) j') (j : Int × Int) (hj : Jok j) : ∃ σ, EXS 250 law2 ⟨[], none, j⟩ (.ret (.bool true)) σ := by
  obtain ⟨m, j₁, hm, hj₁, hM⟩ := dip_ok j hj 5 (by decide) (by decide)
  obtain ⟨ls, j₂, hsum, hlen, hj₂, hC⟩ := strs_ok (n := 247) (by decide) ((List.range m).map fun i => .int (Int.ofNat i)) j₁ hj₁
  have hi : itemsOf .range (.int (m : Int)) = some ((List.range m).map fun i => .int (Int.ofNat i)) := by
    dsimp only [itemsOf]
    rw [show (decide (0 ≤ (m : Int)) && decide ((m : Int) ≤ 64)) = true from by simp; omega]
    rfl
  rw [List.length_map, List.length_range] at hsum hlen
  have e10 : litC 10 = [] := rfl
  have hT : (joinL (litC 10) ls).length ≤ 10000 := by
    rw [e10]; have := joinL_len ls; omega
  have h10 : sumLen (litC 10) ls ≤ 1048576 := by rw [e10]; omega
  have hls : ls.length ≤ 1048576 := by omega
  obtain ⟨p, hp, j₃, hj₃, hP⟩ := expr_ok j₂ hj₂
  obtain ⟨j₄, hj₄, h4⟩ := if_right_ok j₃ hj₃
  obtain ⟨j₅, hj₅, h5⟩ := hMatch j₄ hj₄
  obtain ⟨j₆, hj₆, h6⟩ := jump_right_ok j₅ hj₅
  obtain ⟨j₇, hj₇, h7⟩ := gathered_right_ok j₆ hj₆
  have hall := allStr_map ls
  have hI := indented_ok _ hT
  have hR := rows_ok _ hT
  refine ⟨?_, ?_⟩
  rotate_left
  · unfold law2
    repeat' (first | with_reducible exact hi | with_reducible exact hC | with_reducible exact hall | with_reducible exact h10 | with_reducible exact hls | (first | ((with_reducible show _ = _); exact rfl) | with_reducible apply EVS.cons | with_reducible exact EVS.nil | with_reducible apply EV.loc | with_reducible exact EV.str | with_reducible exact EV.int | with_reducible apply EV.add | with_reducible apply AddV.s | with_reducible exact AddV.i | with_reducible apply AddV.t | with_reducible apply EV.sub | with_reducible apply EV.call' | with_reducible apply EV.cmp | with_reducible apply EV.tup | with_reducible apply EV.isNone | with_reducible apply EV.ite' | with_reducible apply EVc.t | with_reducible apply EVc.f | exact IsB.t | exact IsB.f | with_reducible exact EV.none | with_reducible exact EV.bool | with_reducible exact EV.cel | with_reducible apply EV.bi | with_reducible apply EV.glob | with_reducible apply EV.and | with_reducible apply EV.or | with_reducible apply AN.step | with_reducible apply AN.one | with_reducible apply ANc.t | with_reducible exact ANc.f | with_reducible apply OR.step | with_reducible apply OR.one | with_reducible exact ORc.t | with_reducible apply ORc.f | with_reducible apply EV.not | with_reducible apply EV.lst | with_reducible apply EV.bin | with_reducible exact EV.neg | with_reducible apply EV.lev | with_reducible apply EV.joinS | with_reducible apply EV.comp | with_reducible apply CV.of' | with_reducible exact CL.nil | with_reducible apply CL.cons' | with_reducible apply EXS.cons | with_reducible exact EXS.nil | with_reducible apply EXc.next | with_reducible exact EXc.ret | with_reducible apply EX.ret | with_reducible apply EX.asg' | with_reducible exact SetTo.none | with_reducible apply SetTo.ne | with_reducible apply SetTo.eq | with_reducible apply SetAllTo.cons | with_reducible exact SetAllTo.nil | with_reducible apply BindTo.one | with_reducible apply BindTo.tup | with_reducible apply EX.ite' | with_reducible apply EXSc.t | with_reducible apply EXSc.f | with_reducible apply EX.app' | with_reducible apply EX.unp' | with_reducible apply EX.tasg' | with_reducible exact EX.own' | with_reducible apply EX.ownC' | with_reducible apply EX.tasgO0 | with_reducible apply EX.tasgO1 | with_reducible apply EX.setJ0 | with_reducible apply EX.setJ1 | with_reducible apply EX.whl | with_reducible apply WH.t | with_reducible exact WH.f | with_reducible apply EX.for | with_reducible exact FO.nil | with_reducible apply FO.cons' | with_reducible apply FOc.next | with_reducible exact FOc.ret | apply FO.cons' | exact FO.nil | apply CL.cons' | exact CL.nil) | exact hM.mono (by decide) | exact hP.mono (by decide) | exact (hI _).mono (by decide) | exact (hR _).mono (by decide) | exact (told_bound p hp _).mono (by decide) | exact ne_false _ | exact h4.mono (by decide) | exact h5.mono (by decide) | exact h6.mono (by decide) | exact h7.mono (by decide))
end Mine

end PNpart

section PMpart
namespace Mine
noncomputable def patL : List (V × List Nat) := [(.tup [.str (litC 45), .int 0], litC 46), (.tup [.str (litC 47), .int 0, .int 5], litC 48), (.tup [.str (litC 49), .int 0, .tup [.tup [.str (litC 47), .int 0, .bool true], .tup [.str (litC 45), .int 0]]], litC 50), (.tup [.str (litC 51), .int 0, .str (litC 52), .bool true, .bool false, .none], litC 53)]
noncomputable def patV (q : V × List Nat) : V := .tup [q.1, .str q.2]
theorem pat_ok : ∀ q ∈ patL, ∀ j, CA 60 f_write_pattern [q.1] j (.str q.2) j := by
  intro q hq j
  simp only [patL, List.mem_cons, List.not_mem_nil, or_false] at hq
  show (run TT 60).call f_write_pattern [q.1] j = some (.str q.2, j)
  rcases hq with rfl | rfl | rfl | rfl <;> kernel_rfl
theorem pat_short : ∀ q ∈ patL, q.2.length ≤ 20 := by decide +kernel
theorem told_some : ∀ p ∈ toldL, ∀ b, IsB (noneB b p.1) (!b) := by
  intro p hp b
  simp only [toldL, List.mem_cons, List.not_mem_nil, or_false] at hp
  rcases hp with rfl | rfl | rfl | rfl | rfl | rfl | rfl | rfl | rfl | rfl | rfl | rfl <;> cases b <;> first | exact .t | exact .f
noncomputable abbrev Arm := (V × List Nat) × Option TD × TD
noncomputable def armV (a : Arm) : V := .tup [a.1.1, (match a.2.1 with | none => .none | some p => p.1), a.2.2.1]
noncomputable def armT (a : Arm) : List Nat := a.1.2 ++ (match a.2.1 with | none => litC 10 | some p => litC 54 ++ p.2.1) ++ litC 55 ++ a.2.2.2.1 ++ litC 56
noncomputable def ArmOk (a : Arm) : Prop := a.1 ∈ patL ∧ (∀ p, a.2.1 = some p → p ∈ toldL) ∧ a.2.2 ∈ toldL
theorem zm : (litC 10).length = 0 ∧ (litC 54).length = 4 ∧ (litC 55).length = 4 ∧ (litC 56).length = 1 ∧ (litC 57).length = 6 ∧ (litC 43).length = 1 ∧ (litC 39).length = 2 ∧ (litC 40).length = 1 ∧ (litC 27).length = 2 := by decide +kernel
theorem armT_len (a : Arm) (h : ArmOk a) : (armT a).length ≤ 200 := by
  obtain ⟨q, g, b⟩ := a
  obtain ⟨h1, h2, h3⟩ := h
  obtain ⟨z10, z54, z55, z56, _⟩ := zm
  have s1 := pat_short q h1
  have s3 := (told_short b h3).1
  cases g with
  | none => simp only [armT, List.length_append]; omega
  | some p =>
    have s2 := (told_short p (h2 p rfl)).1
    simp only [armT, List.length_append]; omega
end Mine

end PMpart

section POpart
namespace Mine
noncomputable abbrev mBody : List S := [(.unp [19, 20] (.call 56 [(.loc 1), (.lst [(.tup [(.tup [(.str 45), (.int 0)]), (.str 46)]), (.tup [(.tup [(.str 47), (.int 0), (.int 5)]), (.str 48)]), (.tup [(.tup [(.str 49), (.int 0), (.tup [(.tup [(.str 47), (.int 0), (.bool true)]), (.tup [(.str 45), (.int 0)])])]), (.str 50)]), (.tup [(.tup [(.str 51), (.int 0), (.str 52), (.bool true), (.bool false), .none]), (.str 53)])])])), (.tasg [21, 22] [(.call 56 [(.loc 1), (.lst [.none, (.call 58 [(.loc 1)])])]), (.call 58 [(.loc 1)])]), (.app 18 (.tup [(.loc 19), (.ite (.isNone true (.loc 21)) .none (.sub (.loc 21) (.int 0))), (.sub (.loc 22) (.int 0))])), (.asg 2 (.bin .add (.loc 2) (.call 59 [(.bin .add (.bin .add (.bin .add (.bin .add (.loc 20) (.ite (.isNone true (.loc 21)) (.str 10) (.bin .add (.str 54) (.sub (.loc 21) (.int 1))))) (.str 55)) (.sub (.loc 22) (.int 1))) (.str 56))])))]
noncomputable def rowsAll : List Arm → List Nat
  | [] => []
  | a :: r => rowsP (armT a) ++ rowsAll r
theorem match_loop {n : Nat} (hn : 90 ≤ n) : ∀ (xs : List V) (ρ : List (Nat × V)) (vs : List V) (T : List Nat) (t3 : V) (j : Int × Int), Jok j → lk ρ 1 = some .jar → lk ρ 2 = some (.str T) → lk ρ 3 = some t3 → T.length + 2000 * xs.length ≤ 100000 → vs.length + xs.length ≤ 1000 →
    ∃ (as : List Arm) (ρ' : List (Nat × V)) (j' : Int × Int), (∀ a ∈ as, ArmOk a) ∧ as.length = xs.length ∧ Jok j' ∧ FO n (.one 4) mBody xs ⟨ρ, some (18, vs), j⟩ .next ⟨ρ', some (18, vs ++ as.map armV), j'⟩ ∧ lk ρ' 2 = some (.str (T ++ rowsAll as)) ∧ lk ρ' 3 = some t3 := by
  intro xs
  induction xs with
  | nil => intro ρ vs T t3 j hj _ h2 h3 _ _; exact ⟨[], ρ, j, (fun _ h => nomatch h), rfl, hj, by simpa using FO.nil, by simpa [rowsAll] using h2, h3⟩
  | cons x xs ih =>
    intro ρ vs T t3 j hj h1 h2 h3 hl hv
    simp only [List.length_cons] at hl hv
    obtain ⟨z10, z54, z55, z56, _⟩ := zm
    obtain ⟨q', hq', j₁, hj₁, hQ⟩ := one_ok j hj (patL.map patV) (by decide) (by decide)
    obtain ⟨q, hq, rfl⟩ := List.mem_map.mp hq'
    obtain ⟨p, hp, j₂, hj₂, hP⟩ := expr_ok j₁ hj₁
    obtain ⟨gv, hgv, j₃, hj₃, hG⟩ := one_ok j₂ hj₂ [.none, toldV p] (by simp) (by simp)
    obtain ⟨b, hb, j₄, hj₄, hB⟩ := expr_ok j₃ hj₃
    have sb := (told_short b hb).1
    have sq := pat_short q hq
    have gJ1 : ∀ a o j, St.get ⟨(4, a) :: ρ, some (18, o), j⟩ 1 = some (.jar, ⟨(4, a) :: ρ, some (18, o), j⟩) := fun a o j => by
      show (match lk ρ 1 with | some v => some (v, _) | none => none) = _
      rw [h1]
    have gJ2 : ∀ a b c o j, St.get ⟨(20, a) :: (19, b) :: (4, c) :: ρ, some (18, o), j⟩ 1 = some (.jar, ⟨(20, a) :: (19, b) :: (4, c) :: ρ, some (18, o), j⟩) := fun a b c o j => by
      show (match lk ρ 1 with | some v => some (v, _) | none => none) = _
      rw [h1]
    have gT : ∀ a b c d e o j, St.get ⟨(22, a) :: (21, b) :: (20, c) :: (19, d) :: (4, e) :: ρ, some (18, o), j⟩ 2 = some (.str T, ⟨(22, a) :: (21, b) :: (20, c) :: (19, d) :: (4, e) :: ρ, some (18, o), j⟩) := fun a b c d e o j => by
      show (match lk ρ 2 with | some v => some (v, _) | none => none) = _
      rw [h2]
    have hble : Nat.ble vs.length 1048576 = true := Nat.ble_eq_true_of_le (by omega)
    have hgv : gv = .none ∨ gv = toldV p := by simpa using hgv
    have go : ∀ a : Arm, ArmOk a → ∀ g w, a = (q, g, b) → EXS 90 mBody ⟨(4, x) :: ρ, some (18, vs), j⟩ .next ⟨(2, .str (T ++ rowsP (armT a))) :: (22, toldV b) :: (21, w) :: (20, .str q.2) :: (19, q.1) :: (4, x) :: ρ, some (18, vs ++ [armV a]), j₄⟩ →
        ∃ (as : List Arm) (ρ' : List (Nat × V)) (j' : Int × Int), (∀ a ∈ as, ArmOk a) ∧ as.length = (x :: xs).length ∧ Jok j' ∧ FO n (.one 4) mBody (x :: xs) ⟨ρ, some (18, vs), j⟩ .next ⟨ρ', some (18, vs ++ as.map armV), j'⟩ ∧ lk ρ' 2 = some (.str (T ++ rowsAll as)) ∧ lk ρ' 3 = some t3 := by
      intro a ha g w _ hE
      have hal := armT_len a ha
      have hrl := rowsP_len (armT a)
      obtain ⟨as, ρ', j', k1, k2, k3, k4, k5, k6⟩ := ih ((2, .str (T ++ rowsP (armT a))) :: (22, toldV b) :: (21, w) :: (20, .str q.2) :: (19, q.1) :: (4, x) :: ρ) (vs ++ [armV a]) (T ++ rowsP (armT a)) t3 j₄ hj₄ (show lk ρ 1 = _ from h1) rfl (show lk ρ 3 = _ from h3)
        (by rw [List.length_append]; omega) (by rw [List.length_append, List.length_cons, List.length_nil]; omega)
      refine ⟨a :: as, ρ', j', fun c hc => by rcases List.mem_cons.mp hc with rfl | hc; exact ha; exact k1 c hc, by rw [List.length_cons, List.length_cons, k2], k3, ?_, ?_, k6⟩
      · refine FO.cons' (BindTo.one (SetTo.ne rfl)) (EXS.mono hn hE) (.next ?_)
        rw [List.append_assoc] at k4
        exact k4
      · rw [k5, rowsAll, List.append_assoc]
    rcases hgv with rfl | rfl
    · have ha : ArmOk (q, none, b) := ⟨hq, (fun p h => nomatch h), hb⟩
      have hal := armT_len (q, none, b) ha
      have hR := rows_ok (armT (q, none, b)) (by omega)
      have hrl := rowsP_len (armT (q, none, b))
      refine go (q, none, b) ha none .none rfl ?_
      show EXS 90 [_, _, _, _] _ _ _
      repeat' (first | (first | ((with_reducible show _ = _); exact rfl) | with_reducible apply EVS.cons | with_reducible exact EVS.nil | with_reducible apply EV.loc | with_reducible exact EV.str | with_reducible exact EV.int | with_reducible apply EV.add | with_reducible apply AddV.s | with_reducible exact AddV.i | with_reducible apply AddV.t | with_reducible apply EV.sub | with_reducible apply EV.call' | with_reducible apply EV.cmp | with_reducible apply EV.tup | with_reducible apply EV.isNone | with_reducible apply EV.ite' | with_reducible apply EVc.t | with_reducible apply EVc.f | exact IsB.t | exact IsB.f | with_reducible exact EV.none | with_reducible exact EV.bool | with_reducible exact EV.cel | with_reducible apply EV.bi | with_reducible apply EV.glob | with_reducible apply EV.and | with_reducible apply EV.or | with_reducible apply AN.step | with_reducible apply AN.one | with_reducible apply ANc.t | with_reducible exact ANc.f | with_reducible apply OR.step | with_reducible apply OR.one | with_reducible exact ORc.t | with_reducible apply ORc.f | with_reducible apply EV.not | with_reducible apply EV.lst | with_reducible apply EV.bin | with_reducible exact EV.neg | with_reducible apply EV.lev | with_reducible apply EV.joinS | with_reducible apply EV.comp | with_reducible apply CV.of' | with_reducible exact CL.nil | with_reducible apply CL.cons' | with_reducible apply EXS.cons | with_reducible exact EXS.nil | with_reducible apply EXc.next | with_reducible exact EXc.ret | with_reducible apply EX.ret | with_reducible apply EX.asg' | with_reducible exact SetTo.none | with_reducible apply SetTo.ne | with_reducible apply SetTo.eq | with_reducible apply SetAllTo.cons | with_reducible exact SetAllTo.nil | with_reducible apply BindTo.one | with_reducible apply BindTo.tup | with_reducible apply EX.ite' | with_reducible apply EXSc.t | with_reducible apply EXSc.f | with_reducible apply EX.app' | with_reducible apply EX.unp' | with_reducible apply EX.tasg' | with_reducible exact EX.own' | with_reducible apply EX.ownC' | with_reducible apply EX.tasgO0 | with_reducible apply EX.tasgO1 | with_reducible apply EX.setJ0 | with_reducible apply EX.setJ1 | with_reducible apply EX.whl | with_reducible apply WH.t | with_reducible exact WH.f | with_reducible apply EX.for | with_reducible exact FO.nil | with_reducible apply FO.cons' | with_reducible apply FOc.next | with_reducible exact FOc.ret | apply FO.cons' | exact FO.nil | apply CL.cons' | exact CL.nil) | exact hQ.mono (by decide) | exact hP.mono (by decide) | exact hG.mono (by decide) | exact hB.mono (by decide) | exact gJ1 _ _ _ | exact gJ2 _ _ _ _ _ | exact gT _ _ _ _ _ _ _ | exact hble | exact (hR _).mono (by decide))
      all_goals first | (apply le_by; (focus repeat' first | with_reducible apply app_le | with_reducible apply cons_le | with_reducible exact nil_le | with_reducible apply sum_cons_le | with_reducible exact sum_nil_le | with_reducible exact join_nil_le | with_reducible apply join_one_le | with_reducible apply join_cons_le | with_reducible apply Nat.add_le_add | with_reducible assumption | with_reducible exact Nat.le_of_eq (by assumption) | exact Nat.le_refl _); kernel_rfl!) | omega | (simp only [List.length_append]; omega) | exact EXS.nil
    · have ha : ArmOk (q, some p, b) := ⟨hq, (fun r h => by cases h; exact hp), hb⟩
      have sp := (told_short p hp).1
      have hal := armT_len (q, some p, b) ha
      have hR := rows_ok (armT (q, some p, b)) (by omega)
      have hrl := rowsP_len (armT (q, some p, b))
      refine go (q, some p, b) ha (some p) (toldV p) rfl ?_
      show EXS 90 [_, _, _, _] _ _ _
      repeat' (first | (first | ((with_reducible show _ = _); exact rfl) | with_reducible apply EVS.cons | with_reducible exact EVS.nil | with_reducible apply EV.loc | with_reducible exact EV.str | with_reducible exact EV.int | with_reducible apply EV.add | with_reducible apply AddV.s | with_reducible exact AddV.i | with_reducible apply AddV.t | with_reducible apply EV.sub | with_reducible apply EV.call' | with_reducible apply EV.cmp | with_reducible apply EV.tup | with_reducible apply EV.isNone | with_reducible apply EV.ite' | with_reducible apply EVc.t | with_reducible apply EVc.f | exact IsB.t | exact IsB.f | with_reducible exact EV.none | with_reducible exact EV.bool | with_reducible exact EV.cel | with_reducible apply EV.bi | with_reducible apply EV.glob | with_reducible apply EV.and | with_reducible apply EV.or | with_reducible apply AN.step | with_reducible apply AN.one | with_reducible apply ANc.t | with_reducible exact ANc.f | with_reducible apply OR.step | with_reducible apply OR.one | with_reducible exact ORc.t | with_reducible apply ORc.f | with_reducible apply EV.not | with_reducible apply EV.lst | with_reducible apply EV.bin | with_reducible exact EV.neg | with_reducible apply EV.lev | with_reducible apply EV.joinS | with_reducible apply EV.comp | with_reducible apply CV.of' | with_reducible exact CL.nil | with_reducible apply CL.cons' | with_reducible apply EXS.cons | with_reducible exact EXS.nil | with_reducible apply EXc.next | with_reducible exact EXc.ret | with_reducible apply EX.ret | with_reducible apply EX.asg' | with_reducible exact SetTo.none | with_reducible apply SetTo.ne | with_reducible apply SetTo.eq | with_reducible apply SetAllTo.cons | with_reducible exact SetAllTo.nil | with_reducible apply BindTo.one | with_reducible apply BindTo.tup | with_reducible apply EX.ite' | with_reducible apply EXSc.t | with_reducible apply EXSc.f | with_reducible apply EX.app' | with_reducible apply EX.unp' | with_reducible apply EX.tasg' | with_reducible exact EX.own' | with_reducible apply EX.ownC' | with_reducible apply EX.tasgO0 | with_reducible apply EX.tasgO1 | with_reducible apply EX.setJ0 | with_reducible apply EX.setJ1 | with_reducible apply EX.whl | with_reducible apply WH.t | with_reducible exact WH.f | with_reducible apply EX.for | with_reducible exact FO.nil | with_reducible apply FO.cons' | with_reducible apply FOc.next | with_reducible exact FOc.ret | apply FO.cons' | exact FO.nil | apply CL.cons' | exact CL.nil) | exact hQ.mono (by decide) | exact hP.mono (by decide) | exact hG.mono (by decide) | exact hB.mono (by decide) | exact gJ1 _ _ _ | exact gJ2 _ _ _ _ _ | exact gT _ _ _ _ _ _ _ | exact hble | exact (hR _).mono (by decide))
      all_goals first | (apply le_by; (focus repeat' first | with_reducible apply app_le | with_reducible apply cons_le | with_reducible exact nil_le | with_reducible apply sum_cons_le | with_reducible exact sum_nil_le | with_reducible exact join_nil_le | with_reducible apply join_one_le | with_reducible apply join_cons_le | with_reducible apply Nat.add_le_add | with_reducible assumption | with_reducible exact Nat.le_of_eq (by assumption) | exact Nat.le_refl _); kernel_rfl!) | omega | (simp only [List.length_append]; omega) | exact EXS.nil
end Mine

end POpart

section PQpart
namespace Mine
noncomputable abbrev wmBody : List S := [(.asg 3 (.bin .add (.call 78 [(.loc 19)]) (.ite (.isNone true (.loc 21)) (.str 10) (.bin .add (.str 54) (.call 71 [(.loc 21)]))))), (.app 14 (.bin .add (.bin .add (.bin .add (.loc 3) (.str 55)) (.call 71 [(.loc 22)])) (.str 56)))]
theorem wm_loop {n : Nat} (hn : 90 ≤ n) (j : Int × Int) : ∀ (as : List Arm) (ρ : List (Nat × V)) (vs : List V) (e : V), (∀ a ∈ as, ArmOk a) → vs.length + as.length ≤ 1000 → lk ρ 34 = some e →
    ∃ ρ', FO n (.tup [19, 21, 22]) wmBody (as.map armV) ⟨ρ, some (14, vs), j⟩ .next ⟨ρ', some (14, vs ++ as.map fun a => .str (armT a)), j⟩ ∧ lk ρ' 34 = some e := by
  intro as
  induction as with
  | nil => intro ρ vs e _ _ h; exact ⟨ρ, by simpa using FO.nil, h⟩
  | cons a as ih =>
    intro ρ vs e ha hl h
    obtain ⟨z10, z54, z55, z56, _⟩ := zm
    simp only [List.length_cons] at hl
    have hble : Nat.ble vs.length 1048576 = true := Nat.ble_eq_true_of_le (by omega)
    have ha0 := ha a (.head _)
    have go : ∀ told : V, ∀ g : V, armV a = .tup [a.1.1, g, a.2.2.1] → EXS 90 wmBody ⟨(22, a.2.2.1) :: (21, g) :: (19, a.1.1) :: ρ, some (14, vs), j⟩ .next ⟨(3, told) :: (22, a.2.2.1) :: (21, g) :: (19, a.1.1) :: ρ, some (14, vs ++ [.str (armT a)]), j⟩ →
        ∃ ρ', FO n (.tup [19, 21, 22]) wmBody ((a :: as).map armV) ⟨ρ, some (14, vs), j⟩ .next ⟨ρ', some (14, vs ++ (a :: as).map fun a => .str (armT a)), j⟩ ∧ lk ρ' 34 = some e := by
      intro told g hv hE
      obtain ⟨ρ', k1, k2⟩ := ih ((3, told) :: (22, a.2.2.1) :: (21, g) :: (19, a.1.1) :: ρ) (vs ++ [.str (armT a)]) e (fun c hc => ha c (.tail _ hc)) (by rw [List.length_append, List.length_cons, List.length_nil]; omega) (show lk ρ 34 = _ from h)
      refine ⟨ρ', ?_, k2⟩
      rw [List.append_assoc] at k1
      exact FO.cons' (BindTo.tup hv (SetAllTo.cons (SetTo.ne rfl) (SetAllTo.cons (SetTo.ne rfl) (SetAllTo.cons (SetTo.ne rfl) SetAllTo.nil)))) (EXS.mono hn hE) (.next k1)
    obtain ⟨q, g, b⟩ := a
    obtain ⟨h1, h2, h3⟩ := ha0
    have s1 := pat_short q h1
    have s3 := (told_short b h3).1
    cases g with
    | none =>
      refine go (.str (q.2 ++ litC 10)) .none rfl ?_
      show EXS 90 [_, _] _ _ _
      repeat' (first | (first | ((with_reducible show _ = _); exact rfl) | with_reducible apply EVS.cons | with_reducible exact EVS.nil | with_reducible apply EV.loc | with_reducible exact EV.str | with_reducible exact EV.int | with_reducible apply EV.add | with_reducible apply AddV.s | with_reducible exact AddV.i | with_reducible apply AddV.t | with_reducible apply EV.sub | with_reducible apply EV.call' | with_reducible apply EV.cmp | with_reducible apply EV.tup | with_reducible apply EV.isNone | with_reducible apply EV.ite' | with_reducible apply EVc.t | with_reducible apply EVc.f | exact IsB.t | exact IsB.f | with_reducible exact EV.none | with_reducible exact EV.bool | with_reducible exact EV.cel | with_reducible apply EV.bi | with_reducible apply EV.glob | with_reducible apply EV.and | with_reducible apply EV.or | with_reducible apply AN.step | with_reducible apply AN.one | with_reducible apply ANc.t | with_reducible exact ANc.f | with_reducible apply OR.step | with_reducible apply OR.one | with_reducible exact ORc.t | with_reducible apply ORc.f | with_reducible apply EV.not | with_reducible apply EV.lst | with_reducible apply EV.bin | with_reducible exact EV.neg | with_reducible apply EV.lev | with_reducible apply EV.joinS | with_reducible apply EV.comp | with_reducible apply CV.of' | with_reducible exact CL.nil | with_reducible apply CL.cons' | with_reducible apply EXS.cons | with_reducible exact EXS.nil | with_reducible apply EXc.next | with_reducible exact EXc.ret | with_reducible apply EX.ret | with_reducible apply EX.asg' | with_reducible exact SetTo.none | with_reducible apply SetTo.ne | with_reducible apply SetTo.eq | with_reducible apply SetAllTo.cons | with_reducible exact SetAllTo.nil | with_reducible apply BindTo.one | with_reducible apply BindTo.tup | with_reducible apply EX.ite' | with_reducible apply EXSc.t | with_reducible apply EXSc.f | with_reducible apply EX.app' | with_reducible apply EX.unp' | with_reducible apply EX.tasg' | with_reducible exact EX.own' | with_reducible apply EX.ownC' | with_reducible apply EX.tasgO0 | with_reducible apply EX.tasgO1 | with_reducible apply EX.setJ0 | with_reducible apply EX.setJ1 | with_reducible apply EX.whl | with_reducible apply WH.t | with_reducible exact WH.f | with_reducible apply EX.for | with_reducible exact FO.nil | with_reducible apply FO.cons' | with_reducible apply FOc.next | with_reducible exact FOc.ret | apply FO.cons' | exact FO.nil | apply CL.cons' | exact CL.nil) | exact (pat_ok q h1 _).mono (by decide) | exact (told_expr b h3 _).mono (by decide) | exact hble)
      all_goals first | (apply le_by; (focus repeat' first | with_reducible apply app_le | with_reducible apply cons_le | with_reducible exact nil_le | with_reducible apply sum_cons_le | with_reducible exact sum_nil_le | with_reducible exact join_nil_le | with_reducible apply join_one_le | with_reducible apply join_cons_le | with_reducible apply Nat.add_le_add | with_reducible assumption | with_reducible exact Nat.le_of_eq (by assumption) | exact Nat.le_refl _); kernel_rfl!) | omega | (simp only [List.length_append]; omega) | exact EXS.nil
    | some p =>
      have hp := h2 p rfl
      have s2 := (told_short p hp).1
      have hN : IsB (noneB true p.1) false := told_some p hp true
      refine go (.str (q.2 ++ (litC 54 ++ p.2.1))) p.1 rfl ?_
      show EXS 90 [_, _] _ _ _
      repeat' (first | (first | ((with_reducible show _ = _); exact rfl) | with_reducible apply EVS.cons | with_reducible exact EVS.nil | with_reducible apply EV.loc | with_reducible exact EV.str | with_reducible exact EV.int | with_reducible apply EV.add | with_reducible apply AddV.s | with_reducible exact AddV.i | with_reducible apply AddV.t | with_reducible apply EV.sub | with_reducible apply EV.call' | with_reducible apply EV.cmp | with_reducible apply EV.tup | with_reducible apply EV.isNone | with_reducible apply EV.ite' | with_reducible apply EVc.t | with_reducible apply EVc.f | exact IsB.t | exact IsB.f | with_reducible exact EV.none | with_reducible exact EV.bool | with_reducible exact EV.cel | with_reducible apply EV.bi | with_reducible apply EV.glob | with_reducible apply EV.and | with_reducible apply EV.or | with_reducible apply AN.step | with_reducible apply AN.one | with_reducible apply ANc.t | with_reducible exact ANc.f | with_reducible apply OR.step | with_reducible apply OR.one | with_reducible exact ORc.t | with_reducible apply ORc.f | with_reducible apply EV.not | with_reducible apply EV.lst | with_reducible apply EV.bin | with_reducible exact EV.neg | with_reducible apply EV.lev | with_reducible apply EV.joinS | with_reducible apply EV.comp | with_reducible apply CV.of' | with_reducible exact CL.nil | with_reducible apply CL.cons' | with_reducible apply EXS.cons | with_reducible exact EXS.nil | with_reducible apply EXc.next | with_reducible exact EXc.ret | with_reducible apply EX.ret | with_reducible apply EX.asg' | with_reducible exact SetTo.none | with_reducible apply SetTo.ne | with_reducible apply SetTo.eq | with_reducible apply SetAllTo.cons | with_reducible exact SetAllTo.nil | with_reducible apply BindTo.one | with_reducible apply BindTo.tup | with_reducible apply EX.ite' | with_reducible apply EXSc.t | with_reducible apply EXSc.f | with_reducible apply EX.app' | with_reducible apply EX.unp' | with_reducible apply EX.tasg' | with_reducible exact EX.own' | with_reducible apply EX.ownC' | with_reducible apply EX.tasgO0 | with_reducible apply EX.tasgO1 | with_reducible apply EX.setJ0 | with_reducible apply EX.setJ1 | with_reducible apply EX.whl | with_reducible apply WH.t | with_reducible exact WH.f | with_reducible apply EX.for | with_reducible exact FO.nil | with_reducible apply FO.cons' | with_reducible apply FOc.next | with_reducible exact FOc.ret | apply FO.cons' | exact FO.nil | apply CL.cons' | exact CL.nil) | exact (pat_ok q h1 _).mono (by decide) | exact (told_expr b h3 _).mono (by decide) | exact (told_expr p hp _).mono (by decide) | exact hN | exact hble)
      all_goals first | (apply le_by; (focus repeat' first | with_reducible apply app_le | with_reducible apply cons_le | with_reducible exact nil_le | with_reducible apply sum_cons_le | with_reducible exact sum_nil_le | with_reducible exact join_nil_le | with_reducible apply join_one_le | with_reducible apply join_cons_le | with_reducible apply Nat.add_le_add | with_reducible assumption | with_reducible exact Nat.le_of_eq (by assumption) | exact Nat.le_refl _); kernel_rfl!) | omega | (simp only [List.length_append]; omega) | exact EXS.nil
theorem parts_loop {n : Nat} (hn : 70 ≤ n) (j : Int × Int) : ∀ ts : List (List Nat), (∀ t ∈ ts, t.length ≤ 10000) → CL n (.call 65 [.loc 50]) (.one 50) (ts.map .str) j ((ts.map rowsP).map .str) j
  | [], _ => CL.nil
  | t :: ts, h => by
    refine CL.cons' (ρ := [(50, .str t)]) (BindTo.one SetTo.none) (EV.mono hn ?_) (parts_loop hn j ts fun q hq => h q (.tail _ hq))
    show EV 70 _ _ _ _
    repeat' (first | (first | ((with_reducible show _ = _); exact rfl) | with_reducible apply EVS.cons | with_reducible exact EVS.nil | with_reducible apply EV.loc | with_reducible exact EV.str | with_reducible exact EV.int | with_reducible apply EV.add | with_reducible apply AddV.s | with_reducible exact AddV.i | with_reducible apply AddV.t | with_reducible apply EV.sub | with_reducible apply EV.call' | with_reducible apply EV.cmp | with_reducible apply EV.tup | with_reducible apply EV.isNone | with_reducible apply EV.ite' | with_reducible apply EVc.t | with_reducible apply EVc.f | exact IsB.t | exact IsB.f | with_reducible exact EV.none | with_reducible exact EV.bool | with_reducible exact EV.cel | with_reducible apply EV.bi | with_reducible apply EV.glob | with_reducible apply EV.and | with_reducible apply EV.or | with_reducible apply AN.step | with_reducible apply AN.one | with_reducible apply ANc.t | with_reducible exact ANc.f | with_reducible apply OR.step | with_reducible apply OR.one | with_reducible exact ORc.t | with_reducible apply ORc.f | with_reducible apply EV.not | with_reducible apply EV.lst | with_reducible apply EV.bin | with_reducible exact EV.neg | with_reducible apply EV.lev | with_reducible apply EV.joinS | with_reducible apply EV.comp | with_reducible apply CV.of' | with_reducible exact CL.nil | with_reducible apply CL.cons' | with_reducible apply EXS.cons | with_reducible exact EXS.nil | with_reducible apply EXc.next | with_reducible exact EXc.ret | with_reducible apply EX.ret | with_reducible apply EX.asg' | with_reducible exact SetTo.none | with_reducible apply SetTo.ne | with_reducible apply SetTo.eq | with_reducible apply SetAllTo.cons | with_reducible exact SetAllTo.nil | with_reducible apply BindTo.one | with_reducible apply BindTo.tup | with_reducible apply EX.ite' | with_reducible apply EXSc.t | with_reducible apply EXSc.f | with_reducible apply EX.app' | with_reducible apply EX.unp' | with_reducible apply EX.tasg' | with_reducible exact EX.own' | with_reducible apply EX.ownC' | with_reducible apply EX.tasgO0 | with_reducible apply EX.tasgO1 | with_reducible apply EX.setJ0 | with_reducible apply EX.setJ1 | with_reducible apply EX.whl | with_reducible apply WH.t | with_reducible exact WH.f | with_reducible apply EX.for | with_reducible exact FO.nil | with_reducible apply FO.cons' | with_reducible apply FOc.next | with_reducible exact FOc.ret | apply FO.cons' | exact FO.nil | apply CL.cons' | exact CL.nil) | exact (indented_ok t (h t (.head _)) _).mono (by decide))
end Mine

end PQpart

section PRpart
namespace Mine
theorem rows_sum : ∀ ts : List (List Nat), (∀ t ∈ ts, t.length ≤ 200) → sumLen (litC 10) (ts.map rowsP) ≤ 1300 * ts.length
  | [], _ => Nat.le_refl _
  | t :: ts, h => by
    have ih := rows_sum ts fun q hq => h q (.tail _ hq)
    have h1 := rowsP_len t
    have h2 := h t (.head _)
    have e10 : litC 10 = [] := rfl
    rw [e10] at ih ⊢
    simp only [List.map_cons, sumLen, List.length_cons, List.length_nil]
    omega
noncomputable def rowsText (ts : List (List Nat)) : List Nat := match ts with
  | [] => litC 27
  | t :: r => litC 39 ++ joinL (litC 10) ((t :: r).map rowsP) ++ litC 40
theorem join_len0 (ls : List (List Nat)) : (joinL (litC 10) ls).length ≤ sumLen (litC 10) ls := joinL_len ls
theorem wrows_ok (ts : List (List Nat)) (h : ∀ t ∈ ts, t.length ≤ 200) (hl : ts.length ≤ 10) (j : Int × Int) : CA 100 f_write_rows [.lst (ts.map .str)] j (.str (rowsText ts)) j := by
  obtain ⟨z10, z54, z55, z56, z57, z43, z39, z40, z27⟩ := zm
  cases ts with
  | nil =>
    apply CA.of' (d := d_write_rows) (ρ := [(43, .lst [])]) rfl rfl
    · show EXS 99 d_write_rows.body _ _ _
      unfold d_write_rows
      repeat' (first | ((with_reducible show _ = _); exact rfl) | with_reducible apply EVS.cons | with_reducible exact EVS.nil | with_reducible apply EV.loc | with_reducible exact EV.str | with_reducible exact EV.int | with_reducible apply EV.add | with_reducible apply AddV.s | with_reducible exact AddV.i | with_reducible apply AddV.t | with_reducible apply EV.sub | with_reducible apply EV.call' | with_reducible apply EV.cmp | with_reducible apply EV.tup | with_reducible apply EV.isNone | with_reducible apply EV.ite' | with_reducible apply EVc.t | with_reducible apply EVc.f | exact IsB.t | exact IsB.f | with_reducible exact EV.none | with_reducible exact EV.bool | with_reducible exact EV.cel | with_reducible apply EV.bi | with_reducible apply EV.glob | with_reducible apply EV.and | with_reducible apply EV.or | with_reducible apply AN.step | with_reducible apply AN.one | with_reducible apply ANc.t | with_reducible exact ANc.f | with_reducible apply OR.step | with_reducible apply OR.one | with_reducible exact ORc.t | with_reducible apply ORc.f | with_reducible apply EV.not | with_reducible apply EV.lst | with_reducible apply EV.bin | with_reducible exact EV.neg | with_reducible apply EV.lev | with_reducible apply EV.joinS | with_reducible apply EV.comp | with_reducible apply CV.of' | with_reducible exact CL.nil | with_reducible apply CL.cons' | with_reducible apply EXS.cons | with_reducible exact EXS.nil | with_reducible apply EXc.next | with_reducible exact EXc.ret | with_reducible apply EX.ret | with_reducible apply EX.asg' | with_reducible exact SetTo.none | with_reducible apply SetTo.ne | with_reducible apply SetTo.eq | with_reducible apply SetAllTo.cons | with_reducible exact SetAllTo.nil | with_reducible apply BindTo.one | with_reducible apply BindTo.tup | with_reducible apply EX.ite' | with_reducible apply EXSc.t | with_reducible apply EXSc.f | with_reducible apply EX.app' | with_reducible apply EX.unp' | with_reducible apply EX.tasg' | with_reducible exact EX.own' | with_reducible apply EX.ownC' | with_reducible apply EX.tasgO0 | with_reducible apply EX.tasgO1 | with_reducible apply EX.setJ0 | with_reducible apply EX.setJ1 | with_reducible apply EX.whl | with_reducible apply WH.t | with_reducible exact WH.f | with_reducible apply EX.for | with_reducible exact FO.nil | with_reducible apply FO.cons' | with_reducible apply FOc.next | with_reducible exact FOc.ret | apply FO.cons' | exact FO.nil | apply CL.cons' | exact CL.nil)
    · rfl
    · rfl
  | cons t r =>
    have hi : itemsOf .plain (.lst ((t :: r).map .str)) = some ((t :: r).map .str) := by
      dsimp only [itemsOf]
      rw [show fits ((t :: r).map V.str).length = true from Nat.ble_eq_true_of_le (by rw [List.length_map]; unfold LIM; omega)]
    have hC := parts_loop (n := 94) (by decide) j (t :: r) fun q hq => Nat.le_trans (h q hq) (by decide)
    have hs := rows_sum (t :: r) h
    have hj := join_len0 ((t :: r).map rowsP)
    have hall := allStr_map ((t :: r).map rowsP)
    have h1 : sumLen (litC 10) ((t :: r).map rowsP) ≤ 1048576 := by omega
    have h2 : ((t :: r).map rowsP).length ≤ 1048576 := by rw [List.length_map]; omega
    apply CA.of' (d := d_write_rows) (ρ := [(43, .lst ((t :: r).map .str))]) rfl rfl
    · show EXS 99 d_write_rows.body _ _ _
      unfold d_write_rows
      repeat' (first | with_reducible exact hi | with_reducible exact hC | with_reducible exact hall | with_reducible exact h1 | with_reducible exact h2 | (first | ((with_reducible show _ = _); exact rfl) | with_reducible apply EVS.cons | with_reducible exact EVS.nil | with_reducible apply EV.loc | with_reducible exact EV.str | with_reducible exact EV.int | with_reducible apply EV.add | with_reducible apply AddV.s | with_reducible exact AddV.i | with_reducible apply AddV.t | with_reducible apply EV.sub | with_reducible apply EV.call' | with_reducible apply EV.cmp | with_reducible apply EV.tup | with_reducible apply EV.isNone | with_reducible apply EV.ite' | with_reducible apply EVc.t | with_reducible apply EVc.f | exact IsB.t | exact IsB.f | with_reducible exact EV.none | with_reducible exact EV.bool | with_reducible exact EV.cel | with_reducible apply EV.bi | with_reducible apply EV.glob | with_reducible apply EV.and | with_reducible apply EV.or | with_reducible apply AN.step | with_reducible apply AN.one | with_reducible apply ANc.t | with_reducible exact ANc.f | with_reducible apply OR.step | with_reducible apply OR.one | with_reducible exact ORc.t | with_reducible apply ORc.f | with_reducible apply EV.not | with_reducible apply EV.lst | with_reducible apply EV.bin | with_reducible exact EV.neg | with_reducible apply EV.lev | with_reducible apply EV.joinS | with_reducible apply EV.comp | with_reducible apply CV.of' | with_reducible exact CL.nil | with_reducible apply CL.cons' | with_reducible apply EXS.cons | with_reducible exact EXS.nil | with_reducible apply EXc.next | with_reducible exact EXc.ret | with_reducible apply EX.ret | with_reducible apply EX.asg' | with_reducible exact SetTo.none | with_reducible apply SetTo.ne | with_reducible apply SetTo.eq | with_reducible apply SetAllTo.cons | with_reducible exact SetAllTo.nil | with_reducible apply BindTo.one | with_reducible apply BindTo.tup | with_reducible apply EX.ite' | with_reducible apply EXSc.t | with_reducible apply EXSc.f | with_reducible apply EX.app' | with_reducible apply EX.unp' | with_reducible apply EX.tasg' | with_reducible exact EX.own' | with_reducible apply EX.ownC' | with_reducible apply EX.tasgO0 | with_reducible apply EX.tasgO1 | with_reducible apply EX.setJ0 | with_reducible apply EX.setJ1 | with_reducible apply EX.whl | with_reducible apply WH.t | with_reducible exact WH.f | with_reducible apply EX.for | with_reducible exact FO.nil | with_reducible apply FO.cons' | with_reducible apply FOc.next | with_reducible exact FOc.ret | apply FO.cons' | exact FO.nil | apply CL.cons' | exact CL.nil))
      all_goals first | (apply le_by; (focus repeat' first | with_reducible apply app_le | with_reducible apply cons_le | with_reducible exact nil_le | with_reducible apply sum_cons_le | with_reducible exact sum_nil_le | with_reducible exact join_nil_le | with_reducible apply join_one_le | with_reducible apply join_cons_le | with_reducible apply Nat.add_le_add | with_reducible assumption | with_reducible exact Nat.le_of_eq (by assumption) | exact Nat.le_refl _); kernel_rfl!) | omega | (simp only [List.length_append]; omega) | trace_state
    · rfl
    · rfl
end Mine

end PRpart

section PSpart
namespace Mine
theorem texts_short (as : List Arm) (h : ∀ a ∈ as, ArmOk a) : ∀ t ∈ as.map armT, t.length ≤ 200 := fun t ht => by
  obtain ⟨a, ha, rfl⟩ := List.mem_map.mp ht
  exact armT_len a (h a ha)
theorem rowsText_len (ts : List (List Nat)) (h : ∀ t ∈ ts, t.length ≤ 200) (hl : ts.length ≤ 10) : (rowsText ts).length ≤ 14000 := by
  obtain ⟨z10, z54, z55, z56, z57, z43, z39, z40, z27⟩ := zm
  cases ts with
  | nil => show (litC 27).length ≤ _; omega
  | cons t r =>
    have hs := rows_sum (t :: r) h
    have hj := join_len0 ((t :: r).map rowsP)
    simp only [rowsText, List.length_append]
    omega
theorem wmatch_ok (p : TD) (hp : p ∈ toldL) (as : List Arm) (h : ∀ a ∈ as, ArmOk a) (hl : as.length ≤ 10) (j : Int × Int) :
    CA 130 f_write_match [.tup [.str (litC 58), .int 0, p.1, .tup (as.map armV)]] j (.str (litC 57 ++ p.2.2.1 ++ litC 43 ++ rowsText (as.map armT))) j := by
  obtain ⟨z10, z54, z55, z56, z57, z43, z39, z40, z27⟩ := zm
  have sp := (told_short p hp).2.1
  have hts := texts_short as h
  have hlen := rowsText_len (as.map armT) hts (by rw [List.length_map]; exact hl)
  have hW := wrows_ok (as.map armT) hts (by rw [List.length_map]; exact hl)
  rw [List.map_map] at hW
  have hi : itemsOf .plain (.tup (as.map armV)) = some (as.map armV) := by
    dsimp only [itemsOf]
    rw [show fits (as.map armV).length = true from Nat.ble_eq_true_of_le (by rw [List.length_map]; unfold LIM; omega)]
  obtain ⟨ρ', hL, hk⟩ := wm_loop (n := 128) (by decide) j as [(34, .tup [.str (litC 58), .int 0, p.1, .tup (as.map armV)])] [] _ h (by simp; omega) rfl
  have hg : ∀ o j, St.get ⟨ρ', some (14, o), j⟩ 34 = some (.tup [.str (litC 58), .int 0, p.1, .tup (as.map armV)], ⟨ρ', some (14, o), j⟩) := fun o j => by
    show (match lk ρ' 34 with | some v => some (v, _) | none => none) = _
    rw [hk]
  apply CA.of' (d := d_write_match) (ρ := [(34, .tup [.str (litC 58), .int 0, p.1, .tup (as.map armV)])]) rfl rfl
  · show EXS 129 d_write_match.body _ _ _
    unfold d_write_match
    repeat' (first | with_reducible exact hi | with_reducible exact hL | (first | ((with_reducible show _ = _); exact rfl) | with_reducible apply EVS.cons | with_reducible exact EVS.nil | with_reducible apply EV.loc | with_reducible exact EV.str | with_reducible exact EV.int | with_reducible apply EV.add | with_reducible apply AddV.s | with_reducible exact AddV.i | with_reducible apply AddV.t | with_reducible apply EV.sub | with_reducible apply EV.call' | with_reducible apply EV.cmp | with_reducible apply EV.tup | with_reducible apply EV.isNone | with_reducible apply EV.ite' | with_reducible apply EVc.t | with_reducible apply EVc.f | exact IsB.t | exact IsB.f | with_reducible exact EV.none | with_reducible exact EV.bool | with_reducible exact EV.cel | with_reducible apply EV.bi | with_reducible apply EV.glob | with_reducible apply EV.and | with_reducible apply EV.or | with_reducible apply AN.step | with_reducible apply AN.one | with_reducible apply ANc.t | with_reducible exact ANc.f | with_reducible apply OR.step | with_reducible apply OR.one | with_reducible exact ORc.t | with_reducible apply ORc.f | with_reducible apply EV.not | with_reducible apply EV.lst | with_reducible apply EV.bin | with_reducible exact EV.neg | with_reducible apply EV.lev | with_reducible apply EV.joinS | with_reducible apply EV.comp | with_reducible apply CV.of' | with_reducible exact CL.nil | with_reducible apply CL.cons' | with_reducible apply EXS.cons | with_reducible exact EXS.nil | with_reducible apply EXc.next | with_reducible exact EXc.ret | with_reducible apply EX.ret | with_reducible apply EX.asg' | with_reducible exact SetTo.none | with_reducible apply SetTo.ne | with_reducible apply SetTo.eq | with_reducible apply SetAllTo.cons | with_reducible exact SetAllTo.nil | with_reducible apply BindTo.one | with_reducible apply BindTo.tup | with_reducible apply EX.ite' | with_reducible apply EXSc.t | with_reducible apply EXSc.f | with_reducible apply EX.app' | with_reducible apply EX.unp' | with_reducible apply EX.tasg' | with_reducible exact EX.own' | with_reducible apply EX.ownC' | with_reducible apply EX.tasgO0 | with_reducible apply EX.tasgO1 | with_reducible apply EX.setJ0 | with_reducible apply EX.setJ1 | with_reducible apply EX.whl | with_reducible apply WH.t | with_reducible exact WH.f | with_reducible apply EX.for | with_reducible exact FO.nil | with_reducible apply FO.cons' | with_reducible apply FOc.next | with_reducible exact FOc.ret | apply FO.cons' | exact FO.nil | apply CL.cons' | exact CL.nil) | exact hg _ _ | exact (told_cond p hp _).mono (by decide) | exact (hW _).mono (by decide))
    all_goals first | (apply le_by; (focus repeat' first | with_reducible apply app_le | with_reducible apply cons_le | with_reducible exact nil_le | with_reducible apply sum_cons_le | with_reducible exact sum_nil_le | with_reducible exact join_nil_le | with_reducible apply join_one_le | with_reducible apply join_cons_le | with_reducible apply Nat.add_le_add | with_reducible assumption | with_reducible exact Nat.le_of_eq (by assumption) | exact Nat.le_refl _); kernel_rfl!) | omega | (simp only [List.length_append]; omega) | trace_state
  · rfl
  · rfl
end Mine

end PSpart

section PTpart
namespace Mine
theorem rowsAll_eq : ∀ as : List Arm, rowsAll as = joinL (litC 10) ((as.map armT).map rowsP)
  | [] => rfl
  | a :: r => by
    have e10 : litC 10 = [] := rfl
    rw [e10, List.map_cons, List.map_cons, joinL_nil_cons, rowsAll, rowsAll_eq r, e10]
theorem match_right_ok (j : Int × Int) (hj : Jok j) : ∃ j', Jok j' ∧ CA 200 f_law_match_right [.jar] j (.bool true) j' := by
  obtain ⟨z10, z54, z55, z56, z57, z43, z39, z40, z27⟩ := zm
  obtain ⟨p, hp, j₁, hj₁, hP⟩ := expr_ok j hj
  obtain ⟨m, j₂, hm, hj₂, hM⟩ := dip_ok j₁ hj₁ 4 (by decide) (by decide)
  obtain ⟨as, ρ', j₃, has, hlen, hj₃, hF, k2, k3⟩ := match_loop (n := 198) (by decide) ((List.range m).map fun i => .int (Int.ofNat i)) [(2, .str (litC 10)), (3, toldV p), (1, .jar)] [] (litC 10) (toldV p) j₂ hj₂ rfl rfl rfl (by simp; omega) (by simp; omega)
  rw [List.length_map, List.length_range] at hlen
  have hi : itemsOf .range (.int (m : Int)) = some ((List.range m).map fun i => .int (Int.ofNat i)) := by
    dsimp only [itemsOf]
    rw [show (decide (0 ≤ (m : Int)) && decide ((m : Int) ≤ 64)) = true from by simp; omega]
    rfl
  have sp := (told_short p hp).2.1
  have hW := wmatch_ok p hp as has (by omega)
  have hts := texts_short as has
  have hlen2 := rowsText_len (as.map armT) hts (by rw [List.length_map]; omega)
  have hb : biV .tupleOf [.lst (as.map armV)] = some (.tup (as.map armV)) := by
    dsimp only [biV, on1, lenV, tupV]; rw [show fits (as.map armV).length = true from Nat.ble_eq_true_of_le (by rw [List.length_map]; unfold LIM; omega)]
  rw [List.nil_append] at hF
  have g3a : ∀ o j, St.get ⟨ρ', some (18, o), j⟩ 3 = some (toldV p, ⟨ρ', some (18, o), j⟩) := fun o j => by
    show (match lk ρ' 3 with | some v => some (v, _) | none => none) = _
    rw [k3]
  have g2 : ∀ a j, St.get ⟨(18, a) :: ρ', none, j⟩ 2 = some (.str (litC 10 ++ rowsAll as), ⟨(18, a) :: ρ', none, j⟩) := fun a j => by
    show (match lk ρ' 2 with | some v => some (v, _) | none => none) = _
    rw [k2]
  have g3b : ∀ a b j, St.get ⟨(23, a) :: (18, b) :: ρ', none, j⟩ 3 = some (toldV p, ⟨(23, a) :: (18, b) :: ρ', none, j⟩) := fun a b j => by
    show (match lk ρ' 3 with | some v => some (v, _) | none => none) = _
    rw [k3]
  refine ⟨j₃, hj₃, ?_⟩
  have hra := rowsAll_eq as
  cases as with
  | nil =>
    apply CA.of' (d := d_law_match_right) (ρ := [(1, .jar)]) rfl rfl
    · show EXS 199 d_law_match_right.body _ _ _
      unfold d_law_match_right
      repeat' (first | with_reducible exact hi | with_reducible exact hF | (first | ((with_reducible show _ = _); exact rfl) | with_reducible apply EVS.cons | with_reducible exact EVS.nil | with_reducible apply EV.loc | with_reducible exact EV.str | with_reducible exact EV.int | with_reducible apply EV.add | with_reducible apply AddV.s | with_reducible exact AddV.i | with_reducible apply AddV.t | with_reducible apply EV.sub | with_reducible apply EV.call' | with_reducible apply EV.cmp | with_reducible apply EV.tup | with_reducible apply EV.isNone | with_reducible apply EV.ite' | with_reducible apply EVc.t | with_reducible apply EVc.f | exact IsB.t | exact IsB.f | with_reducible exact EV.none | with_reducible exact EV.bool | with_reducible exact EV.cel | with_reducible apply EV.bi | with_reducible apply EV.glob | with_reducible apply EV.and | with_reducible apply EV.or | with_reducible apply AN.step | with_reducible apply AN.one | with_reducible apply ANc.t | with_reducible exact ANc.f | with_reducible apply OR.step | with_reducible apply OR.one | with_reducible exact ORc.t | with_reducible apply ORc.f | with_reducible apply EV.not | with_reducible apply EV.lst | with_reducible apply EV.bin | with_reducible exact EV.neg | with_reducible apply EV.lev | with_reducible apply EV.joinS | with_reducible apply EV.comp | with_reducible apply CV.of' | with_reducible exact CL.nil | with_reducible apply CL.cons' | with_reducible apply EXS.cons | with_reducible exact EXS.nil | with_reducible apply EXc.next | with_reducible exact EXc.ret | with_reducible apply EX.ret | with_reducible apply EX.asg' | with_reducible exact SetTo.none | with_reducible apply SetTo.ne | with_reducible apply SetTo.eq | with_reducible apply SetAllTo.cons | with_reducible exact SetAllTo.nil | with_reducible apply BindTo.one | with_reducible apply BindTo.tup | with_reducible apply EX.ite' | with_reducible apply EXSc.t | with_reducible apply EXSc.f | with_reducible apply EX.app' | with_reducible apply EX.unp' | with_reducible apply EX.tasg' | with_reducible exact EX.own' | with_reducible apply EX.ownC' | with_reducible apply EX.tasgO0 | with_reducible apply EX.tasgO1 | with_reducible apply EX.setJ0 | with_reducible apply EX.setJ1 | with_reducible apply EX.whl | with_reducible apply WH.t | with_reducible exact WH.f | with_reducible apply EX.for | with_reducible exact FO.nil | with_reducible apply FO.cons' | with_reducible apply FOc.next | with_reducible exact FOc.ret | apply FO.cons' | exact FO.nil | apply CL.cons' | exact CL.nil) | exact hP.mono (by decide) | exact hM.mono (by decide) | exact g3a _ _ | exact g2 _ _ | exact g3b _ _ _ | exact (hW _).mono (by decide))
      all_goals first | (apply le_by; (focus repeat' first | with_reducible apply app_le | with_reducible apply cons_le | with_reducible exact nil_le | with_reducible apply sum_cons_le | with_reducible exact sum_nil_le | with_reducible exact join_nil_le | with_reducible apply join_one_le | with_reducible apply join_cons_le | with_reducible apply Nat.add_le_add | with_reducible assumption | with_reducible exact Nat.le_of_eq (by assumption) | exact Nat.le_refl _); kernel_rfl!) | omega | (simp only [List.length_append]; omega) | trace_state
    · exact beqV_of_eq rfl
    · rfl
  | cons a r =>
    have hra2 : (rowsAll (a :: r)).length ≤ 14000 := by
      rw [hra]; simp only [rowsText, List.map_cons, List.length_append] at hlen2 ⊢; omega
    apply CA.of' (d := d_law_match_right) (ρ := [(1, .jar)]) rfl rfl
    · show EXS 199 d_law_match_right.body _ _ _
      unfold d_law_match_right
      repeat' (first | with_reducible exact hi | with_reducible exact hF | with_reducible exact hb | (first | ((with_reducible show _ = _); exact rfl) | with_reducible apply EVS.cons | with_reducible exact EVS.nil | with_reducible apply EV.loc | with_reducible exact EV.str | with_reducible exact EV.int | with_reducible apply EV.add | with_reducible apply AddV.s | with_reducible exact AddV.i | with_reducible apply AddV.t | with_reducible apply EV.sub | with_reducible apply EV.call' | with_reducible apply EV.cmp | with_reducible apply EV.tup | with_reducible apply EV.isNone | with_reducible apply EV.ite' | with_reducible apply EVc.t | with_reducible apply EVc.f | exact IsB.t | exact IsB.f | with_reducible exact EV.none | with_reducible exact EV.bool | with_reducible exact EV.cel | with_reducible apply EV.bi | with_reducible apply EV.glob | with_reducible apply EV.and | with_reducible apply EV.or | with_reducible apply AN.step | with_reducible apply AN.one | with_reducible apply ANc.t | with_reducible exact ANc.f | with_reducible apply OR.step | with_reducible apply OR.one | with_reducible exact ORc.t | with_reducible apply ORc.f | with_reducible apply EV.not | with_reducible apply EV.lst | with_reducible apply EV.bin | with_reducible exact EV.neg | with_reducible apply EV.lev | with_reducible apply EV.joinS | with_reducible apply EV.comp | with_reducible apply CV.of' | with_reducible exact CL.nil | with_reducible apply CL.cons' | with_reducible apply EXS.cons | with_reducible exact EXS.nil | with_reducible apply EXc.next | with_reducible exact EXc.ret | with_reducible apply EX.ret | with_reducible apply EX.asg' | with_reducible exact SetTo.none | with_reducible apply SetTo.ne | with_reducible apply SetTo.eq | with_reducible apply SetAllTo.cons | with_reducible exact SetAllTo.nil | with_reducible apply BindTo.one | with_reducible apply BindTo.tup | with_reducible apply EX.ite' | with_reducible apply EXSc.t | with_reducible apply EXSc.f | with_reducible apply EX.app' | with_reducible apply EX.unp' | with_reducible apply EX.tasg' | with_reducible exact EX.own' | with_reducible apply EX.ownC' | with_reducible apply EX.tasgO0 | with_reducible apply EX.tasgO1 | with_reducible apply EX.setJ0 | with_reducible apply EX.setJ1 | with_reducible apply EX.whl | with_reducible apply WH.t | with_reducible exact WH.f | with_reducible apply EX.for | with_reducible exact FO.nil | with_reducible apply FO.cons' | with_reducible apply FOc.next | with_reducible exact FOc.ret | apply FO.cons' | exact FO.nil | apply CL.cons' | exact CL.nil) | exact hP.mono (by decide) | exact hM.mono (by decide) | exact g3a _ _ | exact g2 _ _ | exact g3b _ _ _ | exact (hW _).mono (by decide))
      all_goals first | (apply le_by; (focus repeat' first | with_reducible apply app_le | with_reducible apply cons_le | with_reducible exact nil_le | with_reducible apply sum_cons_le | with_reducible exact sum_nil_le | with_reducible exact join_nil_le | with_reducible apply join_one_le | with_reducible apply join_cons_le | with_reducible apply Nat.add_le_add | with_reducible assumption | with_reducible exact Nat.le_of_eq (by assumption) | exact Nat.le_refl _); kernel_rfl!) | omega | (simp only [List.length_append]; omega) | trace_state
    · refine beqV_of_eq ?_
      rw [hra]
      simp [rowsText, show litC 10 = [] from rfl]
    · rfl
end Mine

end PTpart

section PUpart
namespace Mine
theorem plain_ok (zs : List Int) (hl : zs.length ≤ 63) : Plain 300 (zs.map .int) := by
  refine ⟨EXS.mono (n := 300) (by decide) (law1_ok _), ?_⟩
  obtain ⟨x, y, σ₂, σ₃, h1, h2, hj⟩ := jar_ok zs (by omega)
  obtain ⟨σ, h3⟩ := law2_ok match_right_ok (x, y) hj
  exact ⟨x, y, σ₂, σ₃, EXS.mono (n := 300) (by decide) h1, EVS.mono (n := 300) (by decide) h2, σ, EXS.mono (n := 300) (by decide) h3⟩
end Mine

end PUpart

section HEpart
open PySem PySem.W PyProof.Rows PySem.Calls
namespace Mine
theorem body_at : (recAt 52).body = bodyAt 52 := by kernel_rfl
theorem walk : WalkO qv looseQ (XL qv []) HQ.says RQ.toRowW (recAt 52) [] (fun f vs => PySem.call f vs) := by
  intro w s₀ s₁ mg mb G Y fa o pm cd doc dV kV ho hd hcd hD hmg hg args vals as hpre hlay hrd hwl hlo
  have KX := kIn_of Y
  have X := (Ground.X G).1
  have V := (Ground.X G).2
  refine Ground.open G ?_
  intro T B D TE TW
  obtain ⟨_, _, M⟩ := bmod_of_top T
  have TA := at_of_top T
  wrow_args hpre hlay hrd hwl hlo
  all_goals (
    first | refine callC_kw (enter_call ?_) | refine enter_call ?_ | refine callC_kw (enter_callW ?_) | refine enter_callW ?_ | w_how
    w_top on
    try refine codeAny_mono ?_ (fun _ _ g => GoodW.toG g)
    have K0 := below_caller (Top.heap T)
    w_call any ho hd hcd hD T F
    rw [body_at]
    refine wpAny_mono (E := fun _ _ => False) (finish (Er := fun _ _ => False) T B KX ‹Fr _ _ _ _› ‹News _ _ _ _› (by assumption) ‹Heap.IsList _ _ _› ‹IntsAre _ _› ⟨?_, path_of ?_ ?_ ?_ ?_ ?_ ?_ ?_ ?_, expr_of ?_ ?_ ?_ ?_ ?_ ?_ ?_ ?_, ?_, ?_, ?_, ?_, ?_, ?_, ?_, ?_, ?_, ?_⟩ ?_ ?_ ?_ ?_ (plain_ok _ (by have hq := ‹¬ _ < _›; omega)) ?_) (fun f s' h => ?_) (fun _ _ h => h.elim)
    · kernel_rfl
    · kernel_rfl
    · kernel_rfl
    · kernel_rfl
    · kernel_rfl
    · kernel_rfl
    · kernel_rfl
    · kernel_rfl
    · kernel_rfl
    · kernel_rfl
    · kernel_rfl
    · kernel_rfl
    · kernel_rfl
    · kernel_rfl
    · kernel_rfl
    · kernel_rfl
    · kernel_rfl
    · intro n hn
      simp only [tenNames, List.mem_cons, List.not_mem_nil, or_false] at hn
      rcases hn with rfl | rfl | rfl | rfl | rfl | rfl | rfl | rfl | rfl | rfl <;> kernel_rfl
    · intro g i h
      simp only [List.mem_cons, List.not_mem_nil, or_false, Prod.mk.injEq] at h
      rcases h with ⟨rfl, rfl⟩ | ⟨rfl, rfl⟩ | ⟨rfl, rfl⟩ | ⟨rfl, rfl⟩ | ⟨rfl, rfl⟩ <;> kernel_rfl
    · kernel_rfl
    · kernel_rfl
    · kernel_rfl
    · kernel_rfl
    · kernel_rfl
    · exact ⟨⟨by kernel_rfl, by kernel_rfl, by kernel_rfl⟩, by kernel_rfl⟩
    · kernel_rfl
    · kernel_rfl
    · kernel_rfl
    · kernel_rfl
    · kernel_rfl
    · kernel_rfl
    · exact ⟨rfl, by show 1 + 300 + 1 + 301 < 1000; decide, by show 4 + 3 + 8 * 301 + 200 < 9900; decide⟩
    · obtain ⟨rfl, ⟨h', tk', rfl⟩, keep⟩ := h
      exact ⟨.inl ⟨_, _, [], rfl, fun _ => rfl, ReadsW.bool true, by first | rfl | wrow_post, fun _ => ⟨List.nodup_nil, fun _ hm => nomatch hm⟩⟩, keep, rfl, hg⟩)
end Mine

end HEpart

section HFpart
open PySem PySem.W PyProof.Rows PySem.Calls
namespace Mine
theorem left_at : LeftO RQ.prog qv looseQ XQ HQ.obs HQ.val 3406 := fun w => byRow2 "special-get-raises" (P := LQ) left_f left_t w
theorem head (hc : WalkO qv looseQ (XL qv []) HQ.says RQ.toRowW (recAt 52) [] (fun f vs => PySem.call f vs)) : PySem.Challenge.rw_xm0602_01.Holds :=
  holds_law well_said fun said => holds_open (q := qv) (loose := looseQ) (Xt := XQ) (XP := XL qv []) (Yf := HQ.obs) (Ya := HQ.val) (YP := HQ.says) (N := 3406) left_at (Hook.of HQ) (Hook.keeps HQ)
    (fun _ e => xl_of _ (Bool.and_eq_true_iff.mp e).1) XL.keeps defs_at prog_at kw_at (fun _ e => recFacts_of (Bool.and_eq_true_iff.mp e).2) rfl said chains_at bare_at promised_at hc
theorem whole : PySem.Challenge.rw_xm0602_01.Holds := head walk
end Mine

end HFpart

theorem PySem.Challenge.cw_xm0602_01_holds : PySem.Challenge.rw_xm0602_01.Holds := by
  exact Mine.whole
