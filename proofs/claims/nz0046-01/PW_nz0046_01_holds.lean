import PyProof.Rows.All
import Wide.All
import OpenK.AllK
import Wide.FinOn
import KE.KUnrMore
import Lean
import PySem.Challenge.RW_nz0046_01
set_option Elab.async false
open PySem PySem.W
namespace Mine
set_option genSizeOf false
/-! The small machine: values, objects, the cut-down syntax, its evaluator. -/

inductive AV where
  | none
  | bool (b : Bool)
  | int (i : Int)
  | str (s : List Nat)
  | tup (vs : List AV)
  | ref (i : Nat)
  | old (v : Value)

/-- a part of a tuple that is a key -/
inductive KI where
  | s (x : List Nat)
  | i (x : Int)
  deriving DecidableEq
inductive AO where
  | list (vs : List AV)
  | dict (es : List (List Nat × AV))
  | tdict (es : List (List KI × AV))
  | inst (C : Addr) (fs : List (Nat × AV))

/-! case by case, without equations -/
noncomputable abbrev lcs.{u} {α : Type} {motive : List α → Sort u} (l : List α) (nil : motive []) (cons : ∀ a l, motive (a :: l)) : motive l := List.casesOn l nil cons
noncomputable abbrev ocs.{u} {α : Type} {motive : Option α → Sort u} (o : Option α) (none : motive none) (some : ∀ a, motive (some a)) : motive o := Option.casesOn o none some
noncomputable abbrev ncs.{u} {motive : Nat → Sort u} (n : Nat) (zero : motive 0) (succ : ∀ n, motive (n + 1)) : motive n := Nat.casesOn n zero succ
noncomputable abbrev AV.cs.{u} {motive : AV → Sort u} (v : AV) (none : motive .none) (bool : ∀ b, motive (.bool b)) (int : ∀ i, motive (.int i)) (str : ∀ s, motive (.str s)) (tup : ∀ vs, motive (.tup vs)) (ref : ∀ i, motive (.ref i)) (old : ∀ v, motive (.old v)) : motive v := AV.casesOn v none bool int str tup ref old
noncomputable abbrev AO.cs.{u} {motive : AO → Sort u} (o : AO) (list : ∀ vs, motive (.list vs)) (dict : ∀ es, motive (.dict es)) (tdict : ∀ es, motive (.tdict es)) (inst : ∀ C fs, motive (.inst C fs)) : motive o := AO.casesOn o list dict tdict inst
noncomputable abbrev pcs.{u} {α β : Type} {motive : α × β → Sort u} (p : α × β) (mk : ∀ a b, motive (a, b)) : motive p := Prod.casesOn p mk

noncomputable abbrev Sto := List AO
noncomputable abbrev Vars := Nat → Option AV
noncomputable def upd (ρ : Vars) (x : Nat) (v : AV) : Vars := fun y => if y = x then some v else ρ y

set_option genInjectivity false in
inductive PE where
  | val (v : AV)
  | var (x : Nat)
  | attr (e : PE) (f : Nat)
  | call (a : Addr) (es : List PE)
  | new (C : Addr) (es : List PE)
  | meth (e : PE) (m : Nat) (es : List PE)
  | ccall (C a : Addr) (es : List PE)
  | len (e : PE)
  | isin (e : PE) (c : Value)
  | strOf (e : PE)
  | tupOf (e : PE)
  | listOf (e : PE)
  | head (e : PE) (n : Nat)
  | lapp (l e : PE)
  | lins (l i e : PE)
  | lext (l e : PE)
  | lidx (l e : PE)
  | join (s : List Nat) (e : PE)
  | dget (d k : PE)
  | dgetD (d k e : PE)
  | pairsOf (e : PE)
  | add (a b : PE)
  | sub (a b : PE)
  | mod (a b : PE)
  | cmp (op : CmpOp) (a b : PE)
  | and (a b : PE)
  | or (a b : PE)
  | not (a : PE)
  | ite (c a b : PE)
  | item (o i : PE)
  | cut (o a b : PE)
  | list (es : List PE)
  | tup (es : List PE)
  | dict (ks : List (List Nat)) (es : List PE)
  | comp (elt : PE) (x : Nat) (k : Nat) (it : PE) (cond : Option PE)
  | comp2 (elt : PE) (x y : Nat) (it : PE)

set_option genInjectivity false in
inductive PS where
  | asg (x : Nat) (e : PE)
  | asgT (x y : Nat) (e : PE)
  | asgSw (x y : Nat) (a b : PE)
  | asgSub (o i e : PE)
  | asgSubT (o i : PE) (x : Nat) (a b : PE)
  | asgAttr (o : PE) (f : Nat) (e : PE)
  | augAttr (o : PE) (f : Nat) (e : PE)
  | expr (e : PE)
  | ite (c : PE) (a b : List PS)
  | for_ (x : Nat) (k : Nat) (it : PE) (body : List PS)
  | forE (it : PE)
  | while_ (c : PE) (body : List PS)
  | ret (e : PE)
  | cont

/-! names -/
noncomputable def fieldNames : List String := ["number", "owner", "fields", "own", "frozen", "ident", "text", "items", "rows", "spare", "first", "last", "open",
  "name", "is_class", "parent", "outer", "methods", "constants", "mixed", "ahead", "attached", "native", "kept",
  "natives", "prelude", "read", "most", "taken", "last_number", "last_ident", "symbol_idents", "made", "version", "const_version", "globals", "out", "is_ready", "main", "is_lambda"]
noncomputable def methNames : List String := ["number", "builtin", "make_builtin", "give_own", "text", "list_of", "table_of", "key_of", "range_of", "class_of", "put", "pairs", "fail"]
noncomputable def strName (s : String) : Str := Str.ofString s
noncomputable def findName (l : List String) (x : Str) : Option Nat := l.findIdx? fun s => Str.ofString s == x
noncomputable def clsAddrs : List Addr := [40, 62, 82, 120, 140, 161, 181, 201, 228, 653]
noncomputable def globs : List (String × Value) := [("MODULES", .ref 386), ("BUILTINS", .ref 387), ("MIXED", .ref 390),
  ("Thing", .ref 40), ("Text", .ref 62), ("ListThing", .ref 82), ("TableThing", .ref 120), ("RangeThing", .ref 140), ("ProcThing", .ref 161), ("ErrorThing", .ref 181), ("ModuleThing", .ref 228), ("World", .ref 653),
  ("sort_of", .ref 237), ("same", .ref 244), ("code_of", .ref 250), ("is_label", .ref 264), ("full_name", .ref 278), ("show_text", .ref 290), ("show_letter", .ref 285), ("show_symbol", .ref 297), ("show_pair", .ref 304), ("show_range", .ref 311), ("show_thing", .ref 316), ("show_error", .ref 323), ("show", .ref 331),
  ("own_module", .ref 385), ("_law_take", .ref 664), ("_law_scalar", .ref 671), ("_law_nodes", .ref 676), ("_law_made", .ref 681), ("_law_thing", .ref 688), ("_law_pieces", .ref 695), ("_law_shown", .ref 700), ("_law_parted", .ref 705),
  ("len", .builtin "len"), ("isinstance", .builtin "isinstance"), ("range", .type "range"), ("str", .type "str"), ("tuple", .type "tuple"), ("list", .type "list"), ("bool", .type "bool"), ("int", .type "int")]
noncomputable def globOf (x : Str) : Option Value := (globs.find? fun p => Str.ofString p.1 == x).map (·.2)
noncomputable def initT : List (Addr × Addr) := [(40, 37), (62, 59), (82, 79), (120, 98), (140, 137), (228, 218), (653, 413)]
noncomputable def initOf (C : Addr) : Option Addr := initT.lookup C
theorem lkm {α β : Type} [BEq α] [LawfulBEq α] {a : α} {b : β} : ∀ {l : List (α × β)}, l.lookup a = some b → (a, b) ∈ l
  | [], h => nomatch h
  | p :: l, h => by
    rw [List.lookup_cons] at h
    split at h
    · rename_i e
      cases h
      rw [beq_iff_eq.mp e]
      exact List.mem_cons_self
    · exact List.mem_cons_of_mem _ (lkm h)

structure Tx where
  names : List (Str × NameKind)
  comp : Option (List (Str × NameKind)) := none

noncomputable def isName (s : String) (x : Str) : Bool := Str.ofString s == x
noncomputable def posIn (l : List (Str × NameKind)) (x : Str) : Option Nat := l.findIdx? fun p => p.1 == x
noncomputable def nmT (ns : List (Str × NameKind)) (x : Str) : Option (Nat ⊕ Value) :=
  if ns.lookup x = some .local ∨ ns.lookup x = some .cell then (posIn ns x).map .inl else if ns.lookup x = some .globalImplicit then (globOf x).map .inr else none
noncomputable def nmC (c ns : List (Str × NameKind)) (x : Str) : Option (Nat ⊕ Value) :=
  if c.lookup x = some .local then (posIn c x).map (fun i => .inl (100 + i)) else if c.lookup x = some .free ∧ ns.lookup x = some .cell then (posIn ns x).map .inl else if c.lookup x = some .globalImplicit then (globOf x).map .inr else none
noncomputable def nmO (ns : List (Str × NameKind)) (x : Str) : Option (List (Str × NameKind)) → Option (Nat ⊕ Value)
  | none => nmT ns x
  | some c => nmC c ns x
/-- a name: a variable's number, or a global's value -/
noncomputable def Tx.name (t : Tx) (x : Str) : Option (Nat ⊕ Value) := if isName "__debug__" x || isName "__classdict__" x then none else nmO t.names x t.comp
section
variable {c ns : List (Str × NameKind)} {x : Str} {t : Tx} {i : Nat} {v : Value} {r : Nat ⊕ Value}
theorem inl_map {α β γ : Type} {o : Option γ} {f : γ → α} {a : α} (e : o.map (fun x => (Sum.inl (f x) : α ⊕ β)) = some (.inl a)) : ∃ j, o = some j ∧ f j = a := by cases o <;> cases e; exact ⟨_, rfl, rfl⟩
theorem inl_map' {α β : Type} {o : Option β} {a : α} {P : Prop} (e : o.map (Sum.inr : β → α ⊕ β) = some (.inl a)) : P := by cases o <;> cases e
theorem inr_map {α β : Type} {o : Option β} {a : β} (e : o.map (Sum.inr : β → α ⊕ β) = some (.inr a)) : o = some a := by cases o <;> cases e; rfl
theorem inr_map' {α β γ : Type} {o : Option γ} {f : γ → α} {b : β} {P : Prop} (e : o.map (fun x => (Sum.inl (f x) : α ⊕ β)) = some (.inr b)) : P := by cases o <;> cases e
theorem nmT_l (e : nmT ns x = some (.inl i)) : (ns.lookup x = some .local ∨ ns.lookup x = some .cell) ∧ posIn ns x = some i := by
  unfold nmT at e
  split at e
  · exact ⟨by assumption, (inl_map (f := id) e).elim fun _ h => h.1.trans (congrArg some h.2)⟩
  · split at e
    · exact inl_map' e
    · cases e
theorem nmT_r (e : nmT ns x = some (.inr v)) : ns.lookup x = some .globalImplicit ∧ globOf x = some v := by
  unfold nmT at e
  split at e
  · exact inr_map' (f := id) e
  · split at e
    · exact ⟨by assumption, inr_map e⟩
    · cases e
theorem nmC_l (e : nmC c ns x = some (.inl i)) : (∃ j, c.lookup x = some .local ∧ posIn c x = some j ∧ 100 + j = i) ∨ (c.lookup x = some .free ∧ ns.lookup x = some .cell) ∧ posIn ns x = some i := by
  unfold nmC at e
  split at e
  · exact .inl ((inl_map e).elim fun j h => ⟨j, by assumption, h.1, h.2⟩)
  · split at e
    · exact .inr ⟨by assumption, (inl_map (f := id) e).elim fun _ h => h.1.trans (congrArg some h.2)⟩
    · split at e
      · exact inl_map' e
      · cases e
theorem nmC_r (e : nmC c ns x = some (.inr v)) : c.lookup x = some .globalImplicit ∧ globOf x = some v := by
  unfold nmC at e
  split at e
  · exact inr_map' e
  · split at e
    · exact inr_map' (f := id) e
    · split at e
      · exact ⟨by assumption, inr_map e⟩
      · cases e
theorem Tx.name_o (e : t.name x = some r) : nmO t.names x t.comp = some r := by
  unfold Tx.name at e
  split at e
  · cases e
  · exact e
theorem isName_no {s : String} (h : ¬ isName s x = true) : (x == Str.ofString s) = false := beq_eq_false_iff_ne.2 fun e => h (by rw [e]; exact beq_self_eq_true _)
theorem nameX (e : t.name x = some r) : (x == ("__debug__" : Str)) = false ∧ (x == ("__classdict__" : Str)) = false := by
  unfold Tx.name at e
  split at e
  · cases e
  · rename_i q
    exact ⟨isName_no fun h => q (by rw [h]; rfl), isName_no fun h => q (by rw [h, Bool.or_true])⟩
theorem Tx.name_to (h : t.name x = some r) (t' : Tx) {r'} (e : nmO t'.names x t'.comp = some r') : t'.name x = some r' := by
  unfold Tx.name at h ⊢
  split at h
  · cases h
  · rename_i q
    rw [if_neg q]; exact e
end

noncomputable def scOK (t : Tx) (sc : Scope) : Bool := sc.kind == .function && sc.names.all fun p => p.2 != .cell && (p.2 != .local || sc.names.lookup p.1 == some .local) && (p.2 != .free || t.names.lookup p.1 == some .cell)

/-- a def as the machine knows it -/
structure FD where
  nargs : Nat
  dfl : List AV
  body : List PS
end Mine
open PySem PySem.W
namespace Mine
noncomputable def lim : Nat := 100000
noncomputable def isOld (v : AV) : Bool := by
  induction v using AV.cs with
  | old _ => exact true
  | _ => exact false
noncomputable def bnd {α β : Type} (o : Option (α × Sto)) (k : α → Sto → Option β) : Option β := match o with
  | some (a, σ) => k a σ
  | none => none
noncomputable def opt {α β : Type} (o : Option α) (k : α → Option β) : Option β := match o with
  | some a => k a
  | none => none
noncomputable def grd {β : Type} (p : Prop) [Decidable p] (o : Option β) : Option β := if p then o else none
noncomputable def asInt (v : AV) : Option Int := by
  induction v using AV.cs with
  | int i => exact some i
  | _ => exact none
noncomputable def asBool (v : AV) : Option Bool := by
  induction v using AV.cs with
  | bool b => exact some b
  | _ => exact none
noncomputable def asStr (v : AV) : Option (List Nat) := by
  induction v using AV.cs with
  | str s => exact some s
  | _ => exact none
noncomputable def asRef (v : AV) : Option Nat := by
  cases v with
  | ref r => exact some r
  | _ => exact none
noncomputable def asNone (v : AV) : Option Unit := by
  induction v using AV.cs with
  | none => exact some ()
  | _ => exact none
noncomputable def asPair (v : AV) : Option (AV × AV) := by
  induction v using AV.cs with
  | tup l => induction l using lcs with
    | nil => exact none
    | cons a l => induction l using lcs with
      | nil => exact none
      | cons b l => induction l using lcs with
        | nil => exact some (a, b)
        | cons => exact none
  | _ => exact none
noncomputable def isE (v : AV) : Bool := by
  induction v using AV.cs with
  | tup l => exact l.isEmpty
  | _ => exact false
noncomputable def oldIs (a : Nat) (v : AV) : Bool := by
  induction v using AV.cs with
  | old v => cases v with
    | ref b => exact b == a
    | _ => exact false
  | _ => exact false
noncomputable abbrev is390 := oldIs 390
noncomputable abbrev is386 := oldIs 386
noncomputable abbrev is387 := oldIs 387
/-- an index -/
noncomputable def idx (v : AV) : Option Nat := opt (asInt v) fun i => grd (0 ≤ i ∧ i < 1000000) (some i.toNat)
noncomputable def dictO (o : Option AO) : Option (List (List Nat × AV)) := by
  induction o using ocs with
  | none => exact none
  | some o => induction o using AO.cs with
    | dict es => exact some es
    | _ => exact none
/-- a dict with tuples for keys; the empty one too -/
noncomputable def tdictO (o : Option AO) : Option (List (List KI × AV)) := by
  induction o using ocs with
  | none => exact none
  | some o => induction o using AO.cs with
    | dict es => induction es using lcs with
      | nil => exact some []
      | cons => exact none
    | tdict es => exact some es
    | _ => exact none
/-- a value that is none, or not -/
noncomputable def isNoV (v : AV) : Option Bool := by
  induction v using AV.cs with
  | none => exact some true
  | old _ => exact none
  | _ => exact some false
noncomputable def instO (o : Option AO) : Option (Addr × List (Nat × AV)) := by
  induction o using ocs with
  | none => exact none
  | some o => induction o using AO.cs with
    | inst D fs => exact some (D, fs)
    | _ => exact none
noncomputable def listO (o : Option AO) : Option (List AV) := by
  induction o using ocs with
  | none => exact none
  | some o => induction o using AO.cs with
    | list vs => exact some vs
    | _ => exact none
noncomputable def memO (σ : Sto) (v : AV) : Option AO := by
  cases v with
  | ref i => exact σ[i]?
  | _ => exact none
noncomputable def asList (σ : Sto) (v : AV) : Option (List AV) := listO (memO σ v)

mutual
/-- the data that a value stands for -/
noncomputable def toPy (σ : Sto) : Nat → AV → Option PyData
  | 0, _ => none
  | n + 1, v => match v with
    | .none => some .none
    | .bool b => some (.bool b)
    | .int i => some (.int i)
    | .str s => some (.str ⟨s.toArray⟩)
    | .tup vs => opt (toPys σ n vs) fun ds => some (.tuple ds)
    | .ref i => opt (listO σ[i]?) fun vs => opt (toPys σ n vs) fun ds => some (.list ds)
    | .old _ => none
noncomputable def toPys (σ : Sto) : Nat → List AV → Option (List PyData)
  | 0, _ => none
  | n + 1, vs => match vs with
    | [] => some []
    | v :: vs => opt (toPy σ n v) fun d => opt (toPys σ n vs) fun ds => some (d :: ds)
end
noncomputable def fitsEq (d : PyData) : Bool := d.canLay0 && decide (d.depth ≤ 60)
noncomputable def eqV (σ : Sto) (a b : AV) : Option Bool := opt (toPy σ 400 a) fun d => opt (toPy σ 400 b) fun e => grd ((fitsEq d && fitsEq e) = true) (some (PyData.eqv d e))

/-- the top's tables -/
noncomputable def superOf (C : Addr) (D : Addr) : Bool := C == D || (D == 40 && C != 653)
/-- isinstance of bool, int, str; k: 0 none, 1 a bool, 2 an int, 3 a text, 4 an object -/
noncomputable def isPrim (k : Nat) (T : String) : Option Bool := if T = "bool" then some (k == 1) else if T = "int" then some (k == 1 || k == 2) else if T = "str" then some (k == 3) else none
noncomputable def isInst (σ : Sto) (v : AV) (c : Value) : Option Bool := by
  cases c with
  | type T => induction v using AV.cs with
    | none => exact isPrim 0 T
    | bool _ => exact isPrim 1 T
    | int _ => exact isPrim 2 T
    | str _ => exact isPrim 3 T
    | tup _ => exact grd (T = "str") (some false)
    | ref i => exact opt (instO σ[i]?) fun _ => isPrim 4 T
    | old _ => exact none
  | ref D => exact grd (clsAddrs.contains D = true) (by
    induction v using AV.cs with
    | tup _ => exact none
    | old _ => exact none
    | ref i => exact opt (instO σ[i]?) fun x => some (superOf x.1 D)
    | _ => exact some false)
  | _ => exact none

noncomputable def strV (v : AV) : Option AV := by
  induction v using AV.cs with
  | none => exact some (.str [78, 111, 110, 101])
  | str s => exact some (.str s)
  | int i => exact if 0 ≤ i ∧ i ≤ 9 then some (.str [48 + i.toNat]) else none
  | _ => exact none
noncomputable def joinK (sep s : List Nat) (l : List AV) (o : Option (List Nat)) : Option (List Nat) := by
  induction l using lcs with
  | nil => exact some s
  | cons => exact opt o fun r => some (s ++ sep ++ r)
noncomputable def joinL (sep : List Nat) : List AV → Option (List Nat)
  | [] => some []
  | v :: l => opt (asStr v) fun s => joinK sep s l (joinL sep l)
noncomputable def keyP (s : List Nat) (v : AV) : Option (List KI) := by
  induction v using AV.cs with
  | int i => exact some [.s s, .i i]
  | str t => exact some [.s s, .s t]
  | _ => exact none
noncomputable def keyT (a : AV) : Option (List KI) := opt (asPair a) fun p => opt (asStr p.1) fun s => keyP s p.2
noncomputable def getK {K : Type} [DecidableEq K] (es : List (K × AV)) (k : K) : Option AV := (es.find? fun p => decide (p.1 = k)).map (·.2)
noncomputable def putK {K : Type} [DecidableEq K] (es : List (K × AV)) (k : K) (v : AV) : List (K × AV) :=
  if es.any (fun p => decide (p.1 = k)) then es.map (fun p => if p.1 = k then (p.1, v) else p) else es ++ [(k, v)]
noncomputable def fldPut (fs : List (Nat × AV)) (f : Nat) (v : AV) : List (Nat × AV) := match fs with
  | [] => [(f, v)]
  | p :: r => if p.1 == f then (f, v) :: r else p :: fldPut r f v

/-- BUILTINS and MIXED -/
noncomputable def botName : List Nat := [66, 97, 115, 105, 99, 79, 98, 106, 101, 99, 116]
noncomputable def objName : List Nat := [79, 98, 106, 101, 99, 116]
noncomputable def modName : List Nat := [77, 111, 100, 117, 108, 101]
noncomputable def clsName : List Nat := [67, 108, 97, 115, 115]
noncomputable def kernName : List Nat := [75, 101, 114, 110, 101, 108]
noncomputable def cmpName : List Nat := [67, 111, 109, 112, 97, 114, 97, 98, 108, 101]
noncomputable def enumName : List Nat := [69, 110, 117, 109, 101, 114, 97, 98, 108, 101]
noncomputable def strgName : List Nat := [83, 116, 114, 105, 110, 103]
noncomputable def arrName : List Nat := [65, 114, 114, 97, 121]
noncomputable def hashName : List Nat := [72, 97, 115, 104]
noncomputable def rngName : List Nat := [82, 97, 110, 103, 101]
noncomputable def builtinsT : List (List Nat × AV) := [(botName, .none), (objName, .str botName), (modName, .str objName), (clsName, .str modName), (kernName, .none), (cmpName, .none), (enumName, .none), (strgName, .str objName), (arrName, .str objName), (hashName, .str objName), (rngName, .str objName)]
noncomputable def builtinsAt (s : List Nat) : Option AV := builtinsT.lookup s
/-- what MIXED.get(name, ()) holds -/
noncomputable def mixedT : List (List Nat × List AV) := [(objName, [.str kernName]), (strgName, [.str cmpName]), (arrName, [.str enumName]), (hashName, [.str enumName]), (rngName, [.str enumName]), (botName, []), (modName, []), (clsName, []), (kernName, []), (cmpName, []), (enumName, [])]
noncomputable def mixedAt (s : List Nat) : Option (List AV) := mixedT.lookup s

noncomputable def methT : List ((Addr × Nat) × Addr) := [((653, 0), 434), ((653, 1), 455), ((653, 2), 460), ((653, 3), 467), ((653, 4), 517), ((653, 5), 524), ((653, 6), 531), ((653, 7), 538), ((653, 8), 545), ((653, 9), 482), ((120, 10), 105), ((120, 11), 117)]
noncomputable def methOf (C : Addr) (m : Nat) : Option Addr := methT.lookup (C, m)

noncomputable abbrev Calls := Addr → List AV → Sto → Option (AV × Sto)

/-- what comes next in an iteration: none, it stops; some none, it ends -/
noncomputable def asTup (v : AV) : Option (List AV) := by
  induction v using AV.cs with
  | tup vs => exact some vs
  | _ => exact none
noncomputable def nextOf (k : Nat) (v : AV) (j : Nat) (σ : Sto) : Option (Option AV) :=
  if k = 0 then opt (asList σ v) fun vs => some vs[j]?
  else if k = 1 then opt (asInt v) fun n => grd (-1000000 < n ∧ n < 1000000) (some (if (j : Int) < n then some (.int j) else none))
  else if k = 3 then opt (asTup v) fun vs => some vs[j]? else none

noncomputable def accO (acc : List AV) (o : Option AV) : List AV := by
  induction o using ocs with
  | some u => exact acc ++ [u]
  | none => exact acc
noncomputable def compK (acc : List AV) (σ : Sto) (k : AV → Option (List AV × Sto)) (o : Option AV) : Option (List AV × Sto) := by
  induction o using ocs with
  | none => exact some (acc, σ)
  | some v => exact k v
noncomputable def compGo (f : AV → Sto → Option (Option AV × Sto)) (next : Nat → Sto → Option (Option AV)) : Nat → Nat → List AV → Sto → Option (List AV × Sto)
  | 0, _, _, _ => none
  | n + 1, j, acc, σ => opt (next j σ) (compK acc σ fun v => bnd (f v σ) fun u σ => compGo f next n (j + 1) (accO acc u) σ)

noncomputable def alloc (σ : Sto) (o : AO) : AV × Sto := (.ref σ.length, σ ++ [o])
noncomputable def newList (vs : List AV) (σ : Sto) : Option (AV × Sto) := grd (vs.length ≤ lim) (some (alloc σ (.list vs)))
noncomputable def mkStr (s : List Nat) (σ : Sto) : Option (AV × Sto) := grd (s.length ≤ lim) (some (.str s, σ))

noncomputable def addV (a b : AV) (σ : Sto) : Option (AV × Sto) := by
  induction a using AV.cs with
  | int i => exact opt (asInt b) fun j => some (.int (i + j), σ)
  | str s => exact opt (asStr b) fun t => mkStr (s ++ t) σ
  | ref r => exact opt (asList σ (.ref r)) fun xs => opt (asList σ b) fun ys => newList (xs ++ ys) σ
  | _ => exact none
noncomputable def itemV (o i : AV) (σ : Sto) : Option AV := by
  induction o using AV.cs with
  | tup vs => exact opt (idx i) fun k => vs[k]?
  | ref r => induction i using AV.cs with
    | int j => exact opt (listO σ[r]?) fun vs => opt (idx (.int j)) fun k => vs[k]?
    | str s => exact opt (dictO σ[r]?) fun es => getK es s
    | _ => exact none
  | old v => exact grd (is387 (.old v) = true) (opt (asStr i) builtinsAt)
  | str s => exact opt (idx i) fun k => opt s[k]? fun c => some (.str [c])
  | _ => exact none
noncomputable def lt2 (a b : AV) (f : Int → Int → Bool) : Option Bool := opt (asInt a) fun i => opt (asInt b) fun j => some (f i j)
noncomputable def cmpV (op : CmpOp) (a b : AV) (σ : Sto) : Option Bool := by
  cases op with
  | Eq => exact eqV σ a b
  | NotEq => exact opt (eqV σ a b) fun x => some (!x)
  | Lt => exact lt2 a b fun i j => decide (i < j)
  | LtE => exact lt2 a b fun i j => decide (i ≤ j)
  | Gt => exact lt2 a b fun i j => decide (j < i)
  | Is => exact opt (asNone b) fun _ => isNoV a
  | IsNot => exact opt (asNone b) fun _ => opt (isNoV a) fun x => some (!x)
  | In => exact opt (asStr a) fun s => opt (dictO (memO σ b)) fun es => some (getK es s).isSome
  | NotIn => exact opt (asStr a) fun s => grd (is386 b = true ∧ PyData.canLay0 (.str ⟨s.toArray⟩) = true) (some (!(s == kernName || s == cmpName || s == enumName)))
  | _ => exact none
noncomputable def setT (r : Nat) (k v : AV) (σ : Sto) : Option Sto := opt (keyT k) fun k => opt (tdictO σ[r]?) fun es => grd (es.length ≤ 1000) (some (σ.set r (.tdict (putK es k v))))
noncomputable def setItemV (o i v : AV) (σ : Sto) : Option Sto := opt (asRef o) fun r => by
  induction i using AV.cs with
  | int i => exact opt (listO σ[r]?) fun vs => grd (0 ≤ i ∧ i.toNat < vs.length ∧ i < 1000000) (some (σ.set r (.list (vs.set i.toNat v))))
  | str k => exact opt (dictO σ[r]?) fun es => grd (es.length ≤ 1000) (some (σ.set r (.dict (putK es k v))))
  | tup l => exact setT r (.tup l) v σ
  | _ => exact none
noncomputable def setAttrV (o : AV) (f : Nat) (v : AV) (σ : Sto) : Option Sto := opt (asRef o) fun r => opt (instO σ[r]?) fun x => grd (x.2.length ≤ 100) (some (σ.set r (.inst x.1 (fldPut x.2 f v))))
noncomputable def insAt (vs : List AV) (i : Nat) (v : AV) : List AV := vs.take i ++ v :: vs.drop i

noncomputable def dgetT (o k : AV) (σ : Sto) : Option AV := opt (keyT k) fun k => opt (tdictO (memO σ o)) fun es => some ((getK es k).getD .none)
noncomputable def dgetV (o k : AV) (σ : Sto) : Option AV := by
  induction k using AV.cs with
  | str k => exact opt (dictO (memO σ o)) fun es => some ((getK es k).getD .none)
  | tup l => exact dgetT o (.tup l) σ
  | _ => exact none
noncomputable def isDO (o : Option AO) : Bool := by
  induction o using ocs with
  | none => exact false
  | some o => induction o using AO.cs with
    | dict _ => exact true
    | tdict _ => exact true
    | _ => exact false
noncomputable def isD (σ : Sto) (v : AV) : Bool := isDO (memO σ v)
theorem isD_d {σ : Sto} {r : Nat} {es : List (List Nat × AV)} (h : σ[r]? = some (.dict es)) : isD σ (.ref r) = true := congrArg isDO h
theorem isD_t {σ : Sto} {r : Nat} {es : List (List KI × AV)} (h : σ[r]? = some (.tdict es)) : isD σ (.ref r) = true := congrArg isDO h
noncomputable def idxOf (σ : Sto) (v : AV) : List AV → Nat → Option Nat
  | [], _ => none
  | u :: us, i => opt (eqV σ u v) fun b => cond b (some i) (idxOf σ v us (i + 1))
noncomputable def two (o : Option (List AV)) : Option (AV × AV) := opt o fun l => asPair (.tup l)
noncomputable def pairsV (σ : Sto) : List AV → Option (List AV)
  | [] => some []
  | v :: vs => opt (two (asList σ v)) fun p => opt (pairsV σ vs) fun r => some (.tup [p.1, p.2] :: r)

/-- a field read (a world's number and text are methods) -/
noncomputable def badF (D : Addr) (f : Nat) : Bool := D == 653 && (f == 0 || f == 5 || f == 6)
noncomputable def fget (D : Addr) (fs : List (Nat × AV)) (f : Nat) : Option AV := if badF D f then none else fs.lookup f
theorem fget_some {D : Addr} {fs : List (Nat × AV)} {f : Nat} {v : AV} (h : fget D fs f = some v) : badF D f = false ∧ fs.lookup f = some v := by
  unfold fget at h
  split at h
  · cases h
  · rename_i q; exact ⟨by simpa using q, h⟩
/-- a comprehension's elements see the names outside, no other comprehension's -/
noncomputable def cut (ρ : Vars) : Vars := fun y => if y < 100 then ρ y else none
noncomputable def lenO (o : Option AO) : Option Nat := by
  induction o using ocs with
  | none => exact none
  | some o => induction o using AO.cs with
    | list vs => exact some vs.length
    | dict es => exact some es.length
    | tdict es => exact some es.length
    | _ => exact none
noncomputable def lenV (σ : Sto) (v : AV) : Option Nat := by
  induction v using AV.cs with
  | str s => exact some s.length
  | ref r => exact lenO σ[r]?
  | _ => exact none
theorem len_l {σ : Sto} {r : Nat} {vs : List AV} (h : σ[r]? = some (.list vs)) : lenV σ (.ref r) = some vs.length := congrArg lenO h
theorem len_lm {α : Type} {f : α → AV} {σ : Sto} {r : Nat} {vs : List α} (h : σ[r]? = some (.list (vs.map f))) : lenV σ (.ref r) = some vs.length := (len_l h).trans (congrArg some (List.length_map ..))
theorem len_d {σ : Sto} {r : Nat} {es : List (List Nat × AV)} (h : σ[r]? = some (.dict es)) : lenV σ (.ref r) = some es.length := congrArg lenO h
theorem len_t {σ : Sto} {r : Nat} {es : List (List KI × AV)} (h : σ[r]? = some (.tdict es)) : lenV σ (.ref r) = some es.length := congrArg lenO h
noncomputable def elemsO (o : Option AO) : Option (List AV) := by
  induction o using ocs with
  | none => exact none
  | some o => induction o using AO.cs with
    | list vs => exact some vs
    | dict es => exact some (es.map fun p => .str p.1)
    | _ => exact none
noncomputable def listOfV (σ : Sto) (v : AV) : Option (AV × Sto) := opt (elemsO (memO σ v)) fun vs => newList vs σ
noncomputable def pairsOfV (σ : Sto) (v : AV) : Option (List AV) := opt (tdictO (memO σ v)) fun es => pairsV σ (es.map (·.2))
noncomputable def orP (o' o : Option (AV × AV)) : Option (AV × AV) := by
  induction o using ocs with
  | some p => exact some p
  | none => exact o'
noncomputable def twoOf (σ : Sto) (v : AV) : Option (AV × AV) := orP (two (asList σ v)) (asPair v)
mutual
noncomputable def evE (C : Calls) : PE → Vars → Sto → Option (AV × Sto)
  | .val v, _, σ => some (v, σ)
  | .var x, ρ, σ => opt (ρ x) fun v => some (v, σ)
  | .attr e f, ρ, σ => bnd (evE C e ρ σ) fun v σ => opt (instO (memO σ v)) fun x => opt (fget x.1 x.2 f) fun u => grd (isOld u = false) (some (u, σ))
  | .call a es, ρ, σ => bnd (evEs C es ρ σ) fun vs σ => C a vs σ
  | .new D es, ρ, σ => bnd (evEs C es ρ σ) fun vs σ => opt (initOf D) fun a => bnd (C a (.ref σ.length :: vs) (σ ++ [.inst D []])) fun r σ' => opt (asNone r) fun _ => some (.ref σ.length, σ')
  | .meth e m es, ρ, σ => bnd (evE C e ρ σ) fun o σ => opt (instO (memO σ o)) fun x => opt (methOf x.1 m) fun a => grd (x.2.any (fun p => fieldNames[p.1]? == methNames[m]?) = false) (bnd (evEs C es ρ σ) fun vs σ => C a (o :: vs) σ)
  | .ccall _ a es, ρ, σ => bnd (evEs C es ρ σ) fun vs σ => C a vs σ
  | .len e, ρ, σ => bnd (evE C e ρ σ) fun v σ => opt (lenV σ v) fun n => grd (n < 1000000) (some (.int n, σ))
  | .isin e c, ρ, σ => bnd (evE C e ρ σ) fun v σ => opt (isInst σ v c) fun b => some (.bool b, σ)
  | .strOf e, ρ, σ => bnd (evE C e ρ σ) fun v σ => opt (strV v) fun u => some (u, σ)
  | .tupOf e, ρ, σ => bnd (evE C e ρ σ) fun v σ => opt (asList σ v) fun vs => grd (vs.length ≤ lim) (some (.tup vs, σ))
  | .listOf e, ρ, σ => bnd (evE C e ρ σ) fun v σ => listOfV σ v
  | .head e n, ρ, σ => bnd (evE C e ρ σ) fun v σ => C 1 [v, .int n] σ
  | .lapp l e, ρ, σ => bnd (evE C l ρ σ) fun o σ => opt (asList σ o) fun _ => bnd (evE C e ρ σ) fun v σ => opt (asRef o) fun r => opt (listO σ[r]?) fun vs => grd (vs.length ≤ lim) (some (.none, σ.set r (.list (vs ++ [v]))))
  | .lins l i e, ρ, σ => bnd (evE C l ρ σ) fun o σ => opt (asList σ o) fun _ => bnd (evE C i ρ σ) fun u σ => opt (asInt u) fun i => bnd (evE C e ρ σ) fun v σ => opt (asRef o) fun r => opt (listO σ[r]?) fun vs =>
      grd (vs.length ≤ 100 ∧ 0 ≤ i ∧ i.toNat ≤ vs.length) (some (.none, σ.set r (.list (insAt vs i.toNat v))))
  | .lext l e, ρ, σ => bnd (evE C l ρ σ) fun o σ => opt (asList σ o) fun _ => bnd (evE C e ρ σ) fun v σ => opt (asRef o) fun r => opt (asList σ v) fun ws => opt (listO σ[r]?) fun vs =>
      grd (vs.length + ws.length ≤ 1000) (some (.none, σ.set r (.list (vs ++ ws))))
  | .lidx l e, ρ, σ => bnd (evE C l ρ σ) fun o σ => opt (asList σ o) fun _ => bnd (evE C e ρ σ) fun v σ => opt (asList σ o) fun vs => grd ((vs.all fun u => (eqV σ u v).isSome) = true ∧ vs.length ≤ 1000000) (opt (idxOf σ v vs 0) fun i => some (.int i, σ))
  | .join s e, ρ, σ => bnd (evE C e ρ σ) fun v σ => opt (asList σ v) fun vs => opt (joinL s vs) fun r => grd (s.length ≤ 10) (mkStr r σ)
  | .dget d k, ρ, σ => bnd (evE C d ρ σ) fun o σ => grd (isD σ o = true) (bnd (evE C k ρ σ) fun k σ => opt (dgetV o k σ) fun v => some (v, σ))
  | .dgetD d k e, ρ, σ => bnd (evE C d ρ σ) fun o σ => grd (is390 o = true) (bnd (evE C k ρ σ) fun u σ => opt (asStr u) fun s => bnd (evE C e ρ σ) fun z σ => grd (isE z = true) (opt (mixedAt s) fun vs => some (.tup vs, σ)))
  | .pairsOf e, ρ, σ => bnd (evE C e ρ σ) fun v σ => opt (pairsOfV σ v) fun vs => newList vs σ
  | .add a b, ρ, σ => bnd (evE C a ρ σ) fun u σ => bnd (evE C b ρ σ) fun v σ => addV u v σ
  | .sub a b, ρ, σ => bnd (evE C a ρ σ) fun u σ => bnd (evE C b ρ σ) fun v σ => opt (asInt u) fun i => opt (asInt v) fun j => some (.int (i - j), σ)
  | .mod a b, ρ, σ => bnd (evE C a ρ σ) fun u σ => bnd (evE C b ρ σ) fun v σ => opt (asInt u) fun i => opt (asInt v) fun j => grd (0 < j ∧ j < 1000000) (some (.int (i % j), σ))
  | .cmp op a b, ρ, σ => bnd (evE C a ρ σ) fun u σ => bnd (evE C b ρ σ) fun v σ => opt (cmpV op u v σ) fun r => some (.bool r, σ)
  | .and a b, ρ, σ => bnd (evE C a ρ σ) fun u σ => opt (asBool u) fun t => cond t (bnd (evE C b ρ σ) fun v σ => opt (asBool v) fun r => some (.bool r, σ)) (some (.bool false, σ))
  | .or a b, ρ, σ => bnd (evE C a ρ σ) fun u σ => opt (asBool u) fun t => cond t (some (.bool true, σ)) (bnd (evE C b ρ σ) fun v σ => opt (asBool v) fun r => some (.bool r, σ))
  | .not a, ρ, σ => bnd (evE C a ρ σ) fun u σ => opt (asBool u) fun t => some (.bool (!t), σ)
  | .ite c a b, ρ, σ => bnd (evE C c ρ σ) fun u σ => opt (asBool u) fun t => cond t (evE C a ρ σ) (evE C b ρ σ)
  | .item o i, ρ, σ => bnd (evE C o ρ σ) fun o σ => bnd (evE C i ρ σ) fun i σ => opt (itemV o i σ) fun v => some (v, σ)
  | .cut o a b, ρ, σ => bnd (evE C o ρ σ) fun u σ => opt (asStr u) fun s => bnd (evE C a ρ σ) fun v σ => opt (asInt v) fun i => bnd (evE C b ρ σ) fun w σ => opt (asInt w) fun j =>
      grd (s.length ≤ lim) (some (.str (Txt.slice ⟨s.toArray⟩ (some i) (some j)).cps.toList, σ))
  | .list es, ρ, σ => bnd (evEs C es ρ σ) fun vs σ => newList vs σ
  | .tup es, ρ, σ => bnd (evEs C es ρ σ) fun vs σ => some (.tup vs, σ)
  | .dict ks es, ρ, σ => bnd (evEs C es ρ σ) fun vs σ => grd (ks.length = vs.length ∧ ks.length ≤ 4) (some (alloc σ (.dict ((ks.zip vs).foldl (fun d p => putK d p.1 p.2) []))))
  | .comp elt x k it cnd, ρ, σ => bnd (evE C it ρ σ) fun v σ => bnd (compGo (fun u σ => bnd (evO C cnd (upd (cut ρ) x u) σ) fun b σ => cond b (bnd (evE C elt (upd (cut ρ) x u) σ) fun r σ => some (some r, σ)) (some (none, σ))) (nextOf k v) (lim + 1) 0 [] σ) fun vs σ => newList vs σ
  | .comp2 elt x y it, ρ, σ => bnd (evE C it ρ σ) fun v σ => bnd (compGo (fun u σ => opt (asPair u) fun p => bnd (evE C elt (upd (upd (cut ρ) x p.1) y p.2) σ) fun r σ => some (some r, σ)) (nextOf 0 v) (lim + 1) 0 [] σ) fun vs σ => newList vs σ
noncomputable def evEs (C : Calls) : List PE → Vars → Sto → Option (List AV × Sto)
  | [], _, σ => some ([], σ)
  | e :: es, ρ, σ => bnd (evE C e ρ σ) fun v σ => bnd (evEs C es ρ σ) fun vs σ => some (v :: vs, σ)
noncomputable def evO (C : Calls) : Option PE → Vars → Sto → Option (Bool × Sto)
  | none, _, σ => some (true, σ)
  | some c, ρ, σ => bnd (evE C c ρ σ) fun v σ => opt (asBool v) fun b => some (b, σ)
end
/-- a comprehension's turn -/
noncomputable def compF (C : Calls) (elt : PE) (x : Nat) (cnd : Option PE) (ρ : Vars) : AV → Sto → Option (Option AV × Sto) := fun u σ => bnd (evO C cnd (upd (cut ρ) x u) σ) fun b σ => cond b (bnd (evE C elt (upd (cut ρ) x u) σ) fun r σ => some (some r, σ)) (some (none, σ))
noncomputable def compF2 (C : Calls) (elt : PE) (x y : Nat) (ρ : Vars) : AV → Sto → Option (Option AV × Sto) := fun u σ => opt (asPair u) fun p => bnd (evE C elt (upd (upd (cut ρ) x p.1) y p.2) σ) fun r σ => some (some r, σ)
end Mine
open PySem PySem.W
namespace Mine

inductive Fl where
  | next
  | cont
  | ret (v : AV)
noncomputable abbrev Fl.cs.{u} {motive : Fl → Sort u} (f : Fl) (next : motive .next) (cont : motive .cont) (ret : ∀ v, motive (.ret v)) : motive f := Fl.casesOn f next cont ret
noncomputable abbrev Ex := Option (Fl × Vars × Sto)
/-- one behind another -/
noncomputable def sq (o : Ex) (k : Vars → Sto → Ex) : Ex := by
  induction o using ocs with
  | none => exact none
  | some p => induction p using pcs with
    | mk fl p => induction p using pcs with
      | mk ρ σ => induction fl using Fl.cs with
        | next => exact k ρ σ
        | cont => exact some (.cont, ρ, σ)
        | ret v => exact some (.ret v, ρ, σ)
/-- a loop's body, and the next turn -/
noncomputable def lp (o : Ex) (k : Vars → Sto → Ex) : Ex := by
  induction o using ocs with
  | none => exact none
  | some p => induction p using pcs with
    | mk fl p => induction p using pcs with
      | mk ρ σ => induction fl using Fl.cs with
        | next => exact k ρ σ
        | cont => exact k ρ σ
        | ret r => exact some (.ret r, ρ, σ)
noncomputable def forT (ρ : Vars) (σ : Sto) (k : AV → Ex) (o : Option AV) : Ex := by
  induction o using ocs with
  | none => exact some (.next, ρ, σ)
  | some v => exact k v
noncomputable def forGo (f : Vars → Sto → Ex) (x : Nat) (next : Nat → Sto → Option (Option AV)) : Nat → Nat → Vars → Sto → Ex
  | 0, _, _, _ => none
  | n + 1, j, ρ, σ => opt (next j σ) (forT ρ σ fun v => lp (f (upd ρ x v) σ) fun ρ σ => forGo f x next n (j + 1) ρ σ)
noncomputable def whileGo (c : Vars → Sto → Option (AV × Sto)) (f : Vars → Sto → Ex) : Nat → Vars → Sto → Ex
  | 0, _, _ => none
  | n + 1, ρ, σ => bnd (c ρ σ) fun u σ => opt (asBool u) fun t => cond t (lp (f ρ σ) fun ρ σ => whileGo c f n ρ σ) (some (.next, ρ, σ))
noncomputable def isE0 (o : Option (List AV)) : Bool := by
  induction o using ocs with
  | some l => exact l.isEmpty
  | none => exact false
mutual
noncomputable def exS (C : Calls) : PS → Vars → Sto → Ex
  | .asg x e, ρ, σ => bnd (evE C e ρ σ) fun v σ => some (.next, upd ρ x v, σ)
  | .asgT x y e, ρ, σ => bnd (evE C e ρ σ) fun v σ => opt (twoOf σ v) fun p => some (.next, upd (upd ρ x p.1) y p.2, σ)
  | .asgSw x y a b, ρ, σ => bnd (evE C a ρ σ) fun u σ => bnd (evE C b ρ σ) fun v σ => some (.next, upd (upd ρ y v) x u, σ)
  | .asgSub o i e, ρ, σ => bnd (evE C e ρ σ) fun v σ => bnd (evE C o ρ σ) fun o σ => bnd (evE C i ρ σ) fun i σ => opt (setItemV o i v σ) fun σ => some (.next, ρ, σ)
  | .asgSubT o i x a b, ρ, σ => bnd (evE C a ρ σ) fun u σ => bnd (evE C b ρ σ) fun v σ => bnd (evE C o ρ σ) fun o σ => bnd (evE C i ρ σ) fun i σ => opt (setItemV o i u σ) fun σ => some (.next, upd ρ x v, σ)
  | .asgAttr o f e, ρ, σ => bnd (evE C e ρ σ) fun v σ => bnd (evE C o ρ σ) fun o σ => opt (setAttrV o f v σ) fun σ => some (.next, ρ, σ)
  | .augAttr o f e, ρ, σ => bnd (evE C o ρ σ) fun o σ => opt (instO (memO σ o)) fun x => opt (fget x.1 x.2 f) fun u => opt (asInt u) fun i => bnd (evE C e ρ σ) fun w σ => opt (asInt w) fun j => opt (setAttrV o f (.int (i + j)) σ) fun σ => some (.next, ρ, σ)
  | .expr e, ρ, σ => bnd (evE C e ρ σ) fun v σ => opt (asNone v) fun _ => some (.next, ρ, σ)
  | .ite c a b, ρ, σ => bnd (evE C c ρ σ) fun u σ => opt (asBool u) fun t => cond t (exSs C a ρ σ) (exSs C b ρ σ)
  | .for_ x k it body, ρ, σ => bnd (evE C it ρ σ) fun v σ => forGo (fun ρ σ => exSs C body ρ σ) x (nextOf k v) (lim + 1) 0 ρ σ
  | .forE it, ρ, σ => bnd (evE C it ρ σ) fun v σ => grd (isE0 (asList σ v) = true) (some (.next, ρ, σ))
  | .while_ c body, ρ, σ => whileGo (fun ρ σ => evE C c ρ σ) (fun ρ σ => exSs C body ρ σ) 100 ρ σ
  | .ret e, ρ, σ => bnd (evE C e ρ σ) fun v σ => some (.ret v, ρ, σ)
  | .cont, ρ, σ => some (.cont, ρ, σ)
noncomputable def exSs (C : Calls) : List PS → Vars → Sto → Ex
  | [], ρ, σ => some (.next, ρ, σ)
  | s :: ss, ρ, σ => sq (exS C s ρ σ) fun ρ σ => exSs C ss ρ σ
end

/-- the def table: what stands at an address -/
noncomputable abbrev Tab := Addr → Option FD
noncomputable abbrev Orc := Addr → List AV → Option AV
noncomputable def bindV (d : FD) (vs : List AV) : Option (List AV) :=
  if vs.length ≤ d.nargs ∧ d.nargs - vs.length ≤ d.dfl.length then some (vs ++ d.dfl.drop (d.dfl.length - (d.nargs - vs.length))) else none
noncomputable def varsOf (vs : List AV) : Vars := fun i => vs[i]?
/-- the script: its list's address, its ints; «list(script[:n])» -/
noncomputable abbrev Scr := Addr × List Int
noncomputable def headV (sc : Scr) (vs : List AV) (σ : Sto) : Option (AV × Sto) := opt (asPair (.tup vs)) fun p => opt (asInt p.2) fun n => grd (oldIs sc.1 p.1 = true ∧ 0 ≤ n ∧ sc.2.length ≤ 1000) (newList ((sc.2.take n.toNat).map .int) σ)
noncomputable def orcT : List (Addr × List (List Nat) × AV) := [(285, [[98], []], .str [98]), (297, [[97]], .str [58, 97]), (264, [[107, 49]], .bool true)]
noncomputable def asStrs : List AV → Option (List (List Nat))
  | [] => some []
  | v :: vs => opt (asStr v) fun s => opt (asStrs vs) fun r => some (s :: r)
noncomputable def orc : Orc := fun a vs => opt (orcT.lookup a) fun q => opt (asStrs vs) fun xs => grd (xs = q.1) (some q.2)
noncomputable def fnAddrs : List Addr := [37, 59, 79, 98, 105, 117, 137, 218, 237, 244, 250, 264, 285, 290, 297, 304, 311, 316, 331, 413, 434, 455, 460, 467, 482, 517, 524, 531, 538, 545, 664, 671, 676, 681, 688, 695, 700, 705]
noncomputable def outC (o : Ex) : Option (AV × Sto) := by
  induction o using ocs with
  | none => exact none
  | some p => induction p using pcs with
    | mk fl p => induction fl using Fl.cs with
      | next => exact some (.none, p.2)
      | cont => exact none
      | ret v => exact some (v, p.2)
/-- the calls, n deep -/
noncomputable def elseV (σ : Sto) (k : Option (AV × Sto)) (o : Option AV) : Option (AV × Sto) := by
  induction o using ocs with
  | some v => exact some (v, σ)
  | none => exact k
noncomputable def runT (T : Tab) (sc : Scr) (n : Nat) : Calls := by
  induction n with
  | zero => exact fun _ _ _ => none
  | succ n ih => exact fun a vs σ => if a = 1 then headV sc vs σ else grd (fnAddrs.contains a = true) (elseV σ (opt (T a) fun d => opt (bindV d vs) fun ws => outC (exSs ih d.body (varsOf ws) σ)) (if 3 ≤ n then orc a vs else none))
theorem runT_succ {T : Tab} {sc : Scr} {n a : Nat} {vs : List AV} {σ : Sto} : runT T sc (n + 1) a vs σ = if a = 1 then headV sc vs σ else grd (fnAddrs.contains a = true) (elseV σ (opt (T a) fun d => opt (bindV d vs) fun ws => outC (exSs (runT T sc n) d.body (varsOf ws) σ)) (if 3 ≤ n then orc a vs else none)) := rfl
end Mine
open PySem PySem.W
namespace Mine
/-! what a run of the small machine must meet -/
noncomputable def OK {α : Type} (o : Option (α × Sto)) (Q : α → Sto → Prop) : Prop := match o with
  | some (a, σ) => Q a σ
  | none => False
noncomputable def OS (o : Ex) (R : Fl → Vars → Sto → Prop) : Prop := match o with
  | some (fl, ρ, σ) => R fl ρ σ
  | none => False
section
variable {α β : Type} {Q : β → Sto → Prop} {R : Fl → Vars → Sto → Prop}
theorem OK.el {o : Option (β × Sto)} {M : Option (β × Sto) → Prop} (h : OK o Q) (k : ∀ a σ, Q a σ → M (some (a, σ))) : M o := by
  rcases o with _ | ⟨a, s⟩
  · exact h.elim
  · exact k a s h
theorem OS.el {o : Ex} {M : Ex → Prop} (h : OS o R) (k : ∀ fl ρ σ, R fl ρ σ → M (some (fl, ρ, σ))) : M o := by
  rcases o with _ | ⟨a, r, s⟩
  · exact h.elim
  · exact k a r s h
theorem OK.ex {o : Option (β × Sto)} (h : OK o Q) : ∃ a σ, o = some (a, σ) ∧ Q a σ := h.el (M := fun o => ∃ a σ, o = some (a, σ) ∧ Q a σ) fun a s h => ⟨a, s, rfl, h⟩
theorem OK.mk {o : Option (β × Sto)} {a : β} {σ : Sto} (e : o = some (a, σ)) (h : Q a σ) : OK o Q := e ▸ h
theorem OK_mono {o : Option (β × Sto)} {Q' : β → Sto → Prop} (h : OK o Q) (q : ∀ a σ, Q a σ → Q' a σ) : OK o Q' := h.el (M := fun o => OK o Q') q
theorem OS.ex {o : Ex} (h : OS o R) : ∃ fl ρ σ, o = some (fl, ρ, σ) ∧ R fl ρ σ := h.el (M := fun o => ∃ fl ρ σ, o = some (fl, ρ, σ) ∧ R fl ρ σ) fun a r s h => ⟨a, r, s, rfl, h⟩
theorem OS.mk {o : Ex} {fl : Fl} {ρ : Vars} {σ : Sto} (e : o = some (fl, ρ, σ)) (h : R fl ρ σ) : OS o R := e ▸ h
theorem OS_mono {o : Ex} {R' : Fl → Vars → Sto → Prop} (h : OS o R) (q : ∀ a ρ σ, R a ρ σ → R' a ρ σ) : OS o R' := h.el (M := fun o => OS o R') q
theorem OK.bnd {o : Option (α × Sto)} {k : α → Sto → Option (β × Sto)} (h : OK o fun a σ => OK (k a σ) Q) : OK (bnd o k) Q := h.el (M := fun o => OK (Mine.bnd o k) Q) fun _ _ h => h
theorem OK.dnb {o : Option (α × Sto)} {k : α → Sto → Option (β × Sto)} (h : OK (Mine.bnd o k) Q) : OK o fun a σ => OK (k a σ) Q := by
  rcases o with _ | ⟨a, s⟩ <;> exact h
theorem OS.bnd {o : Option (α × Sto)} {k : α → Sto → Ex} (h : OK o fun a σ => OS (k a σ) R) : OS (bnd o k) R := h.el (M := fun o => OS (Mine.bnd o k) R) fun _ _ h => h
theorem OS.dnb {o : Option (α × Sto)} {k : α → Sto → Ex} (h : OS (Mine.bnd o k) R) : OK o fun a σ => OS (k a σ) R := by
  rcases o with _ | ⟨a, s⟩ <;> exact h
inductive KSome {α : Type} (o : Option α) (P : α → Prop) : Prop | mk (r : α) (h : o = some r) (q : P r)
theorem OK.opt {o : Option α} {k : α → Option (β × Sto)} {a : α} (e : o = some a) (h : OK (k a) Q) : OK (opt o k) Q := e ▸ h
theorem OK.tpo {o : Option α} {k : α → Option (β × Sto)} (h : OK (Mine.opt o k) Q) : KSome o fun a => OK (k a) Q := by
  cases o with
  | none => exact False.elim h
  | some a => exact ⟨a, rfl, h⟩
theorem OK.comp {acc : List AV} {σ : Sto} {k : AV → Option (List AV × Sto)} {v : AV} {Q : List AV → Sto → Prop} (h : OK (compK acc σ k (some v)) Q) : OK (k v) Q := h
theorem OS.forT {ρ : Vars} {σ : Sto} {k : AV → Ex} {v : AV} (h : OS (Mine.forT ρ σ k (some v)) R) : OS (k v) R := h
theorem OK.ct {a b : Option (β × Sto)} (h : OK (cond true a b) Q) : OK a Q := h
theorem OK.cf {a b : Option (β × Sto)} (h : OK (cond false a b) Q) : OK b Q := h
theorem OS.ct {a b : Ex} (h : OS (cond true a b) R) : OS a R := h
theorem OS.cf {a b : Ex} (h : OS (cond false a b) R) : OS b R := h
section
variable {C : Calls} {elt pd : PE} {x y : Nat} {ρ : Vars} {u a b : AV} {σ : Sto} {Qf : Option AV → Sto → Prop}
theorem OK.eltC {b : Bool} (h : OK (cond b (Mine.bnd (evE C elt ρ σ) fun r σ => some (some r, σ)) (some (none, σ))) Qf) : cond b (OK (evE C elt ρ σ) fun r σ => Qf (some r) σ) (Qf none σ) := by
  cases b with
  | true => exact h.ct.dnb
  | false => exact h
theorem OK.cF {cnd : Option PE} (h : OK (compF C elt x cnd ρ u σ) Qf) : OK (evO C cnd (upd (cut ρ) x u) σ) fun b σ => OK (cond b (Mine.bnd (evE C elt (upd (cut ρ) x u) σ) fun r σ => some (some r, σ)) (some (none, σ))) Qf := OK.dnb h
theorem OK.eO {c : PE} {Q : Bool → Sto → Prop} (h : OK (evO C (some c) ρ σ) Q) : OK (evE C c ρ σ) fun v σ => KSome (asBool v) fun b => Q b σ := OK_mono (OK.dnb (k := fun v σ => Mine.opt (asBool v) fun b => some (b, σ)) h) fun _ _ h => h.tpo
theorem OK.cF2 (h : OK (compF2 C elt x y ρ (.tup [a, b]) σ) Qf) : OK (evE C elt (upd (upd (cut ρ) x a) y b) σ) fun r σ => Qf (some r) σ := OK.dnb (k := fun r σ => some (some r, σ)) h
end
theorem OS.opt {o : Option α} {k : α → Ex} {a : α} (e : o = some a) (h : OS (k a) R) : OS (opt o k) R := e ▸ h
theorem OS.tpo {o : Option α} {k : α → Ex} (h : OS (Mine.opt o k) R) : KSome o fun a => OS (k a) R := by
  cases o with
  | none => exact False.elim h
  | some a => exact ⟨a, rfl, h⟩
theorem OK.grd {p : Prop} [d : Decidable p] {o : Option (β × Sto)} (hp : p) (h : OK o Q) : OK (grd p o) Q := by
  unfold Mine.grd
  rw [if_pos hp]; exact h
theorem OK.drg {p : Prop} [d : Decidable p] {o : Option (β × Sto)} (h : OK (Mine.grd p o) Q) : p ∧ OK o Q := by
  cases d with
  | isTrue hp => exact ⟨hp, h⟩
  | isFalse n => exact False.elim h
theorem OS.grd {p : Prop} [d : Decidable p] {o : Ex} (hp : p) (h : OS o R) : OS (grd p o) R := by
  unfold Mine.grd
  rw [if_pos hp]; exact h
theorem OS.drg {p : Prop} [d : Decidable p] {o : Ex} (h : OS (Mine.grd p o) R) : p ∧ OS o R := by
  cases d with
  | isTrue hp => exact ⟨hp, h⟩
  | isFalse n => exact False.elim h
theorem no {γ : Type} {P : Prop} {a : γ} (h : none = some a) : P := by cases h
theorem asInt_of {v : AV} {i : Int} : asInt v = some i → v = .int i := by
  cases v <;> first | exact no | exact fun h => congrArg AV.int (Option.some.inj h)
theorem asBool_of {v : AV} {i : Bool} : asBool v = some i → v = .bool i := by
  cases v <;> first | exact no | exact fun h => congrArg AV.bool (Option.some.inj h)
theorem asStr_of {v : AV} {i : List Nat} : asStr v = some i → v = .str i := by
  cases v <;> first | exact no | exact fun h => congrArg AV.str (Option.some.inj h)
theorem asRef_of {v : AV} {i : Nat} : asRef v = some i → v = .ref i := by
  cases v <;> first | exact no | exact fun h => congrArg AV.ref (Option.some.inj h)
theorem asNone_of {v : AV} {i : Unit} : asNone v = some i → v = .none := by
  cases v <;> first | exact no | exact fun _ => rfl
theorem asPair_of {v : AV} {i : AV × AV} : asPair v = some i → v = .tup [i.1, i.2] := by
  cases v with
  | tup l => cases l with
    | nil => exact no
    | cons a l => cases l with
      | nil => exact no
      | cons b l => cases l with
        | nil => exact fun h => congrArg (fun p : AV × AV => AV.tup [p.1, p.2]) (Option.some.inj h)
        | cons c l => exact no
  | _ => exact no
theorem instO_of {o : Option AO} {i : Addr × List (Nat × AV)} : instO o = some i → o = some (.inst i.1 i.2) := by
  cases o with
  | none => exact no
  | some o => cases o <;> first | exact no | exact fun h => congrArg (fun p : Addr × List (Nat × AV) => some (AO.inst p.1 p.2)) (Option.some.inj h)
theorem listO_of {o : Option AO} {i : List AV} : listO o = some i → o = some (.list i) := by
  cases o with
  | none => exact no
  | some o => cases o <;> first | exact no | exact fun h => congrArg (fun p => some (AO.list p)) (Option.some.inj h)
theorem two_of {o : Option (List AV)} {p : AV × AV} : two o = some p → o = some [p.1, p.2] := by
  cases o with
  | none => exact no
  | some l => exact fun h => congrArg some (AV.tup.inj (asPair_of h))
theorem twoOf_of {σ : Sto} {v : AV} {p : AV × AV} (h : twoOf σ v = some p) : v = .tup [p.1, p.2] ∨ asList σ v = some [p.1, p.2] := by
  unfold twoOf at h
  cases e : asPair v with
  | none => rw [e] at h; exact .inr (two_of h)
  | some q => rw [e] at h; cases h; exact .inl (asPair_of e)
theorem twoOf_mk {σ : Sto} {v a b : AV} (h : v = .tup [a, b] ∨ asList σ v = some [a, b]) : twoOf σ v = some (a, b) := by
  rcases h with rfl | h
  · rfl
  · cases v with
    | ref r => exact congrArg two h
    | _ => exact no h
theorem OS.lp {o : Ex} {k : Vars → Sto → Ex} (h : OS o fun fl ρ σ => (∀ r, fl ≠ .ret r) ∧ OS (k ρ σ) R) : OS (lp o k) R := h.el (M := fun o => OS (Mine.lp o k) R) fun fl _ _ h => by
  cases fl with
  | next => exact h.2
  | cont => exact h.2
  | ret r => exact absurd rfl (h.1 r)
/-- behind a loop's body -/
noncomputable def lpK (k : Vars → Sto → Ex) (R : Fl → Vars → Sto → Prop) : Fl → Vars → Sto → Prop
  | .next, ρ, σ => OS (k ρ σ) R
  | .cont, ρ, σ => OS (k ρ σ) R
  | .ret v, ρ, σ => R (.ret v) ρ σ
theorem OS.pl {o : Ex} {k : Vars → Sto → Ex} (h : OS (Mine.lp o k) R) : OS o (lpK k R) := by
  rcases o with _ | ⟨fl, r, s⟩
  · exact h
  · cases fl <;> exact h
/-- behind a statement -/
noncomputable def sqK (k : Vars → Sto → Ex) (R : Fl → Vars → Sto → Prop) : Fl → Vars → Sto → Prop
  | .next, ρ, σ => OS (k ρ σ) R
  | .cont, ρ, σ => R .cont ρ σ
  | .ret v, ρ, σ => R (.ret v) ρ σ
theorem OS.qs {o : Ex} {k : Vars → Sto → Ex} (h : OS (sq o k) R) : OS o (sqK k R) := by
  rcases o with _ | ⟨fl, r, s⟩
  · exact h
  · cases fl <;> exact h
theorem OS.sq {o : Ex} {k : Vars → Sto → Ex} (h : OS o (sqK k R)) : OS (sq o k) R := by
  rcases o with _ | ⟨fl, r, s⟩
  · exact h
  · cases fl <;> exact h
/-! loops, by an invariant -/
theorem OK_loop {f : AV → Sto → Option (Option AV × Sto)} {next : Nat → Sto → Option (Option AV)} {m : Nat} {Inv : Nat → List AV → Sto → Prop} {Qs : List AV → Sto → Prop}
    (hend : ∀ acc σ, Inv m acc σ → next m σ = some none)
    (hstep : ∀ j acc σ, j < m → Inv j acc σ → ∃ v, next j σ = some (some v) ∧ OK (f v σ) fun u σ' => Inv (j + 1) (accO acc u) σ')
    (hQ : ∀ acc σ, Inv m acc σ → Qs acc σ) : ∀ (d j k : Nat) (acc : List AV) (σ : Sto), j + d = m → d < k → Inv j acc σ → OK (compGo f next k j acc σ) Qs := by
  intro d
  induction d with
  | zero =>
    intro j k acc σ e hk hi
    obtain ⟨k, rfl⟩ := Nat.exists_eq_succ_of_ne_zero (Nat.ne_of_gt hk)
    cases (show j = m from e)
    exact OK.opt (hend acc σ hi) (hQ acc σ hi)
  | succ d ih =>
    intro j k acc σ e hk hi
    obtain ⟨k, rfl⟩ := Nat.exists_eq_succ_of_ne_zero (Nat.ne_of_gt (Nat.lt_of_le_of_lt (Nat.zero_le _) hk))
    obtain ⟨_, hv, h⟩ := hstep j acc σ (e ▸ Nat.lt_add_of_pos_right (Nat.succ_pos d)) hi
    exact OK.opt hv (OK.bnd (OK_mono h fun _ σ' h => ih (j + 1) k _ σ' (Nat.succ_add j d ▸ e) (Nat.lt_of_succ_lt_succ hk) h))
theorem OS_loop {f : Vars → Sto → Ex} {x : Nat} {next : Nat → Sto → Option (Option AV)} {m : Nat} {Inv : Nat → Vars → Sto → Prop} {R : Fl → Vars → Sto → Prop}
    (hend : ∀ ρ σ, Inv m ρ σ → next m σ = some none)
    (hstep : ∀ j ρ σ, j < m → Inv j ρ σ → ∃ v, next j σ = some (some v) ∧ OS (f (upd ρ x v) σ) fun fl ρ σ => (∀ r, fl ≠ .ret r) ∧ Inv (j + 1) ρ σ)
    (hQ : ∀ ρ σ, Inv m ρ σ → R .next ρ σ) : ∀ (d j : Nat) (k : Nat) (ρ : Vars) (σ : Sto), j + d = m → d < k → Inv j ρ σ → OS (forGo f x next k j ρ σ) R := by
  intro d
  induction d with
  | zero =>
    intro j k ρ σ e hk hi
    obtain ⟨k, rfl⟩ := Nat.exists_eq_succ_of_ne_zero (Nat.ne_of_gt hk)
    cases (show j = m from e)
    exact OS.opt (hend ρ σ hi) (hQ ρ σ hi)
  | succ d ih =>
    intro j k ρ σ e hk hi
    obtain ⟨k, rfl⟩ := Nat.exists_eq_succ_of_ne_zero (Nat.ne_of_gt (Nat.lt_of_le_of_lt (Nat.zero_le _) hk))
    obtain ⟨_, hv, h⟩ := hstep j ρ σ (e ▸ Nat.lt_add_of_pos_right (Nat.succ_pos d)) hi
    exact OS.opt hv (OS.lp (OS_mono h fun _ ρ' σ' h => ⟨h.1, ih (j + 1) k ρ' σ' (Nat.succ_add j d ▸ e) (Nat.lt_of_succ_lt_succ hk) h.2⟩))
end
end Mine
open PySem PySem.W PySem.Calls PyProof.Rows
namespace Mine
set_option linter.unusedVariables false
/-! How the machine's store lies in the model's heap. -/

noncomputable abbrev Inj := List (Nat × Nat)
noncomputable def foot (I : Inj) : List Nat := I.flatMap fun p => [p.1, p.2]
theorem foot_append (I J : Inj) : foot (I ++ J) = foot I ++ foot J := by simp [foot]
theorem mem_foot {I : Inj} {a : Nat} : a ∈ foot I ↔ ∃ p ∈ I, a = p.1 ∨ a = p.2 := by
  simp [foot]

noncomputable def fname (f : Nat) : Str := Str.ofString (fieldNames.getD f "?")

mutual
noncomputable def VR (I : Inj) (h : Heap) : AV → Value → Prop
  | .none, u => u = .none
  | .bool b, u => u = .bool b
  | .int i, u => ∃ t, u = .int i t
  | .str s, u => ∃ t, u = .str ⟨s.toArray⟩ t
  | .tup vs, u => ∃ a xs, u = .ref a ∧ a ∉ foot I ∧ IsTup h a xs ∧ VRs I h vs xs.toList
  | .ref i, u => ∃ p, I[i]? = some p ∧ u = .ref p.1
  | .old v, u => u = v
noncomputable def VRs (I : Inj) (h : Heap) : List AV → List Value → Prop
  | [], us => us = []
  | v :: vs, us => ∃ u r, us = u :: r ∧ VR I h v u ∧ VRs I h vs r
end

/-- what a step may have done: the old entries stand, nothing but them and X is changed, nothing dies -/
structure ExtX (X : Nat → Prop) (I : Inj) (h : Heap) (I' : Inj) (h' : Heap) : Prop where
  pre : ∃ J, I' = I ++ J ∧ ∀ p ∈ J, h.get? p.1 = none ∧ h.get? p.2 = none
  live : ∀ (a : Nat) o, h.get? a = some o → ∃ o', h'.get? a = some o'
  keep : ∀ (a : Nat) o, ¬ X a → a ∉ foot I → h.get? a = some o → h'.get? a = some o
noncomputable abbrev nX : Nat → Prop := fun _ => False
noncomputable abbrev Ext := ExtX nX

section
variable {X : Nat → Prop}
theorem ExtX.refl (I : Inj) (h : Heap) : ExtX X I h I h := ⟨⟨[], by simp, by simp⟩, fun _ o e => ⟨o, e⟩, fun _ _ _ _ e => e⟩
theorem ExtX.off {I I' : Inj} {h h' : Heap} (x : ExtX X I h I' h') {a : Nat} (ha : a ∉ foot I) {o : Obj} (hl : h.get? a = some o) : a ∉ foot I' := by
  obtain ⟨J, rfl, hJ⟩ := x.pre
  rw [foot_append, List.mem_append, not_or]
  refine ⟨ha, fun hm => ?_⟩
  obtain ⟨p, hp, e⟩ := mem_foot.mp hm
  have := hJ p hp
  rcases e with e | e <;> subst e
  · rw [this.1] at hl; (first | subst hl | (injection hl with hl; subst hl) | (injection hl; done) | cases hl)
  · rw [this.2] at hl; (first | subst hl | (injection hl with hl; subst hl) | (injection hl; done) | cases hl)
theorem ExtX.dead {I I' : Inj} {h h' : Heap} (x : ExtX X I h I' h') {a : Nat} (e : h'.get? a = none) : h.get? a = none := by
  cases q : h.get? a with
  | none => rfl
  | some o => obtain ⟨o', q'⟩ := x.live a o q; rw [q'] at e; (first | subst e | (injection e with e; subst e) | (injection e; done) | cases e)
theorem ExtX.trans {I I' I'' : Inj} {h h' h'' : Heap} (x : ExtX X I h I' h') (y : ExtX X I' h' I'' h'') : ExtX X I h I'' h'' := by
  obtain ⟨J, e, hJ⟩ := x.pre
  obtain ⟨J', e', hJ'⟩ := y.pre
  refine ⟨⟨J ++ J', by rw [e', e, List.append_assoc], fun p hp => ?_⟩, fun a o q => let ⟨o', q'⟩ := x.live a o q; y.live a o' q', fun a o hx ha ho => y.keep a o hx (x.off ha ho) (x.keep a o hx ha ho)⟩
  rcases List.mem_append.mp hp with q | q
  · exact hJ p q
  · have := hJ' p q; exact ⟨x.dead this.1, x.dead this.2⟩
theorem ExtX.mono {Y : Nat → Prop} {I I' : Inj} {h h' : Heap} (x : ExtX X I h I' h') (k : ∀ a, X a → Y a) : ExtX Y I h I' h' := ⟨x.pre, x.live, fun a o hy ha ho => x.keep a o (fun q => hy (k a q)) ha ho⟩
theorem ExtX.get {I I' : Inj} {h h' : Heap} (x : ExtX X I h I' h') {i : Nat} {p : Nat × Nat} (e : I[i]? = some p) : I'[i]? = some p := by
  obtain ⟨J, rfl, _⟩ := x.pre
  rw [List.getElem?_append_left (List.getElem?_eq_some_iff.mp e).1]; exact e
/-- only new objects -/
theorem ExtX.grow {I : Inj} {h h' : Heap} (k : ∀ (a : Nat) o, h.get? a = some o → h'.get? a = some o) : ExtX X I h I h' :=
  ⟨⟨[], by simp, by simp⟩, fun a o e => ⟨o, k a o e⟩, fun a o _ _ e => k a o e⟩
theorem ExtX.push {I : Inj} {h : Heap} (o : Obj) : ExtX X I h I (h.push o) := ExtX.grow fun a o' e => Heap.get?_push_of_some o e
/-- one entry changed -/
theorem ExtX.same {I : Inj} {h h' : Heap} {a : Nat} (hs : Heap.SameBut a h h') (ha : a ∈ foot I ∨ X a) (hv : ∃ o, h'.get? a = some o) : ExtX X I h I h' :=
  ⟨⟨[], by simp, by simp⟩, fun b o e => if hb : b = a then hb ▸ hv else ⟨o, (hs.2 b hb).trans e⟩, fun b o hx hb e => (hs.2 b (fun q => ha.elim (fun ha => hb (q ▸ ha)) fun ha => hx (q ▸ ha))).trans e⟩
/-- behind what was made since -/
theorem ExtX.since {I I' : Inj} {h h₁ h' : Heap} (x : ExtX X I h₁ I' h') (k : ∀ (a : Nat) o, h.get? a = some o → h₁.get? a = some o) (hX : ∀ a, X a → h.get? a = none) : Ext I h I' h' := by
  obtain ⟨J, e, hJ⟩ := x.pre
  have dead : ∀ a : Nat, h₁.get? a = none → h.get? a = none := fun a ha => by
    cases q : h.get? a with
    | none => rfl
    | some o => rw [k a o q] at ha; (first | subst ha | (injection ha with ha; subst ha) | (injection ha; done) | cases ha)
  exact ⟨⟨J, e, fun p hp => have := hJ p hp; ⟨dead _ this.1, dead _ this.2⟩⟩, fun a o q => x.live a o (k a o q), fun a o _ ha ho => x.keep a o (fun q => by rw [hX a q] at ho; (first | subst ho | (injection ho with ho; subst ho) | (injection ho; done) | cases ho)) ha (k a o ho)⟩
end

theorem VRs.e0 {I : Inj} {h : Heap} {us : List Value} (e : VRs I h [] us) : us = [] := e
theorem VRs.e1 {I : Inj} {h : Heap} {v : AV} {vs : List AV} {us : List Value} (e : VRs I h (v :: vs) us) : ∃ u r, us = u :: r ∧ VR I h v u ∧ VRs I h vs r := e
theorem VRs.nil {I : Inj} {h : Heap} : VRs I h [] [] := (rfl : ([] : List Value) = [])
theorem VRs.cons {I : Inj} {h : Heap} {v : AV} {u : Value} {vs : List AV} {us : List Value} (a : VR I h v u) (b : VRs I h vs us) : VRs I h (v :: vs) (u :: us) :=
  (⟨u, us, rfl, a, b⟩ : ∃ x r, u :: us = x :: r ∧ VR I h v x ∧ VRs I h vs r)
theorem VR.eT {I : Inj} {h : Heap} {vs : List AV} {u : Value} (e : VR I h (.tup vs) u) : ∃ a xs, u = .ref a ∧ a ∉ foot I ∧ IsTup h a xs ∧ VRs I h vs xs.toList := e
theorem VR.mT {I : Inj} {h : Heap} {vs : List AV} {u : Value} (e : ∃ a xs, u = .ref a ∧ a ∉ foot I ∧ IsTup h a xs ∧ VRs I h vs xs.toList) : VR I h (.tup vs) u := e
theorem VR.eR {I : Inj} {h : Heap} {i : Nat} {u : Value} (e : VR I h (.ref i) u) : ∃ p, I[i]? = some p ∧ u = .ref p.1 := e
theorem VR.mR {I : Inj} {h : Heap} {i : Nat} {u : Value} (e : ∃ p, I[i]? = some p ∧ u = .ref p.1) : VR I h (.ref i) u := e
theorem VR.gen {I I' : Inj} {h h' : Heap} (hi : ∀ (i : Nat) (p : Nat × Nat), I[i]? = some p → I'[i]? = some p) (ht : ∀ (a : Nat) xs, a ∉ foot I → IsTup h a xs → a ∉ foot I' ∧ IsTup h' a xs)
    (v : AV) : ∀ (u : Value), VR I h v u → VR I' h' v u := by
  refine AV.rec (motive_1 := fun v => ∀ u, VR I h v u → VR I' h' v u) (motive_2 := fun vs => ∀ us, VRs I h vs us → VRs I' h' vs us) ?_ ?_ ?_ ?_ ?_ ?_ ?_ ?_ ?_ v
  · exact fun u e => e
  · exact fun b u e => e
  · exact fun b u e => e
  · exact fun b u e => e
  · intro vs ih u e
    obtain ⟨a, xs, e1, e2, e3, e4⟩ := e.eT
    exact .mT ⟨a, xs, e1, (ht a xs e2 e3).1, (ht a xs e2 e3).2, ih _ e4⟩
  · exact fun i u e => .mR (e.eR.elim fun p a => ⟨p, hi _ _ a.1, a.2⟩)
  · exact fun b u e => e
  · exact fun us e => e
  · intro v vs h1 h2 us e
    obtain ⟨u, r, rfl, e2, e3⟩ := e.e1
    exact .cons (h1 u e2) (h2 r e3)
theorem VRs.gen {I I' : Inj} {h h' : Heap} (hi : ∀ (i : Nat) (p : Nat × Nat), I[i]? = some p → I'[i]? = some p) (ht : ∀ (a : Nat) xs, a ∉ foot I → IsTup h a xs → a ∉ foot I' ∧ IsTup h' a xs)
    (vs : List AV) : ∀ (us : List Value), VRs I h vs us → VRs I' h' vs us := by
  induction vs with
  | nil => exact fun us e => e
  | cons v vs ih =>
    intro us e
    obtain ⟨u, r, rfl, e2, e3⟩ := e.e1
    exact .cons (VR.gen hi ht v u e2) (ih r e3)
theorem IsTup.keepX {X : Nat → Prop} {I : Inj} {h h' : Heap} (k : ∀ (a : Nat) o, ¬ X a → a ∉ foot I → h.get? a = some o → h'.get? a = some o) {a : Nat} (hx : ¬ X a) (ha : a ∉ foot I) {xs : Array Value} (x : IsTup h a xs) : IsTup h' a xs :=
  let ⟨o, ho, r⟩ := x; ⟨o, k a o hx ha ho, r⟩
/-- nothing of X is a tuple -/
noncomputable def NoTup (X : Nat → Prop) (h : Heap) : Prop := ∀ a, X a → ∀ xs, ¬ IsTup h a xs
theorem noTup {h : Heap} : NoTup nX h := fun _ e => e.elim
theorem ExtX.tups {X : Nat → Prop} {I I' : Inj} {h h' : Heap} (x : ExtX X I h I' h') (n : NoTup X h) : ∀ (a : Nat) xs, a ∉ foot I → IsTup h a xs → a ∉ foot I' ∧ IsTup h' a xs := fun a xs ha ht =>
  ⟨(let ⟨_, ho, _⟩ := ht; x.off ha ho), IsTup.keepX x.keep (fun q => n a q xs ht) ha ht⟩
theorem VR.extX {X : Nat → Prop} {I I' : Inj} {h h' : Heap} (x : ExtX X I h I' h') (n : NoTup X h) {v : AV} {u : Value} (e : VR I h v u) : VR I' h' v u := VR.gen (fun _ _ => x.get) (x.tups n) v u e
theorem VRs.extX {X : Nat → Prop} {I I' : Inj} {h h' : Heap} (x : ExtX X I h I' h') (n : NoTup X h) {vs : List AV} {us : List Value} (e : VRs I h vs us) : VRs I' h' vs us := VRs.gen (fun _ _ => x.get) (x.tups n) vs us e
theorem VR.ext {I I' : Inj} {h h' : Heap} (x : Ext I h I' h') {v : AV} {u : Value} (e : VR I h v u) : VR I' h' v u := VR.extX x noTup e
theorem VRs.ext {I I' : Inj} {h h' : Heap} (x : Ext I h I' h') {vs : List AV} {us : List Value} (e : VRs I h vs us) : VRs I' h' vs us := VRs.extX x noTup e

theorem VRs.length {I : Inj} {h : Heap} {vs : List AV} : ∀ {us : List Value}, VRs I h vs us → us.length = vs.length := by
  induction vs with
  | nil => exact fun e => congrArg List.length e.e0
  | cons v vs ih =>
    intro us e
    obtain ⟨u, r, rfl, _, e3⟩ := e.e1
    exact congrArg Nat.succ (ih e3)
theorem VRs.at {I : Inj} {h : Heap} {vs : List AV} : ∀ {us : List Value}, VRs I h vs us → ∀ {j : Nat} {v : AV}, vs[j]? = some v → ∃ u, us[j]? = some u ∧ VR I h v u := by
  induction vs with
  | nil => exact fun _ _ _ q => Option.noConfusion rfl (heq_of_eq q)
  | cons w vs ih =>
    intro us e j v q
    obtain ⟨u, r, rfl, e2, e3⟩ := e.e1
    induction j using ncs with
    | zero => obtain rfl := Option.some.inj q; exact ⟨u, rfl, e2⟩
    | succ j => exact ih e3 (j := j) q
theorem VRs.append {I : Inj} {h : Heap} {vs ws : List AV} {us rs : List Value} (e : VRs I h vs us) (f : VRs I h ws rs) : VRs I h (vs ++ ws) (us ++ rs) := by
  induction vs generalizing us with
  | nil => obtain rfl := e.e0; exact f
  | cons v vs ih =>
    obtain ⟨u, r, rfl, e2, e3⟩ := e.e1
    exact VRs.cons e2 (ih e3)
theorem VRs.set {I : Inj} {h : Heap} {vs : List AV} {us : List Value} {j : Nat} {v : AV} {u : Value} (e : VRs I h vs us) (f : VR I h v u) : VRs I h (vs.set j v) (us.set j u) := by
  induction vs generalizing us j with
  | nil => obtain rfl := e.e0; exact VRs.nil
  | cons w vs ih =>
    obtain ⟨u', r, rfl, e2, e3⟩ := e.e1
    induction j using ncs with
    | zero => exact VRs.cons f e3
    | succ j => exact VRs.cons e2 (ih e3)
theorem VRs.take {I : Inj} {h : Heap} {vs : List AV} : ∀ {us : List Value} (n : Nat), VRs I h vs us → VRs I h (vs.take n) (us.take n) := by
  induction vs with
  | nil => intro us n e; obtain rfl := e.e0; rw [List.take_nil, List.take_nil]; exact VRs.nil
  | cons w vs ih =>
    intro us n e
    obtain ⟨u', r, rfl, e2, e3⟩ := e.e1
    induction n using ncs with
    | zero => exact VRs.nil
    | succ n => exact VRs.cons e2 (ih n e3)
theorem VRs.drop {I : Inj} {h : Heap} {vs : List AV} : ∀ {us : List Value} (n : Nat), VRs I h vs us → VRs I h (vs.drop n) (us.drop n) := by
  induction vs with
  | nil => intro us n e; obtain rfl := e.e0; rw [List.drop_nil, List.drop_nil]; exact VRs.nil
  | cons w vs ih =>
    intro us n e
    obtain ⟨u', r, rfl, e2, e3⟩ := e.e1
    induction n using ncs with
    | zero => exact e
    | succ n => exact ih n e3

end Mine
open PySem PySem.W PySem.Calls PyProof.Rows
namespace Mine
set_option linter.unusedVariables false

theorem strEq (x y : List Nat) : ((⟨x.toArray⟩ : Str) = ⟨y.toArray⟩) ↔ x = y := by
  constructor
  · intro e; simpa using congrArg (fun s : Str => s.cps.toList) e
  · rintro rfl; rfl

section
variable (prog : Program) (w : World)

noncomputable def intV (v : Value) : Option Int := by
  induction v with
  | int m _ => exact some m
  | _ => exact none
noncomputable def strD (v : Value) : Option Str := by
  induction v with
  | str x _ => exact some x
  | _ => exact none
noncomputable def refV (v : Value) : Option Addr := by
  induction v with
  | ref a => exact some a
  | _ => exact none
noncomputable def tyV (v : Value) : Option String := by
  induction v with
  | type T => exact some T
  | _ => exact none
theorem intV_of {v : Value} {n : Int} : intV v = some n → ∃ t, v = .int n t := by
  induction v with
  | int m t => exact fun h => ⟨t, congrArg (Value.int · t) (Option.some.inj h)⟩
  | _ => exact no
theorem strD_of {v : Value} {x : Str} : strD v = some x → ∃ t, v = .str x t := by
  induction v with
  | str m t => exact fun h => ⟨t, congrArg (Value.str · t) (Option.some.inj h)⟩
  | _ => exact no
theorem refV_of {v : Value} {a : Addr} : refV v = some a → v = .ref a := by
  induction v with
  | ref m => exact fun h => congrArg Value.ref (Option.some.inj h)
  | _ => exact no
theorem tyV_of {v : Value} {T : String} : tyV v = some T → v = .type T := by
  induction v with
  | type m => exact fun h => congrArg Value.type (Option.some.inj h)
  | _ => exact no
theorem isStr_eq (v : Value) (x : Str) : v.isStr x = decide (strD v = some x) := by
  induction v with
  | str s t =>
    show (s == x) = _
    rw [Bool.eq_iff_iff, beq_iff_eq, decide_eq_true_eq]
    exact Option.some_inj.symm
  | _ => rfl
noncomputable def KI.is (k : KI) (v : Value) : Bool := by
  induction k with
  | s x => exact decide (strD v = some ⟨x.toArray⟩)
  | i n => exact decide (intV v = some n)
theorem KI.shape {k : KI} {v : Value} (h : k.is v = true) : (∃ x t, k = .s x ∧ v = .str ⟨x.toArray⟩ t) ∨ ∃ n t, k = .i n ∧ v = .int n t := by
  induction k with
  | s x => exact .inl ((strD_of (of_decide_eq_true h)).elim fun t e => ⟨x, t, rfl, e⟩)
  | i n => exact .inr ((intV_of (of_decide_eq_true h)).elim fun t e => ⟨n, t, rfl, e⟩)
theorem KI.is_s (x : List Nat) (t : Tok) : (KI.s x).is (.str ⟨x.toArray⟩ t) = true := decide_eq_true rfl
theorem KI.is_i (n : Int) (t : Tok) : (KI.i n).is (.int n t) = true := decide_eq_true rfl
noncomputable def KI.hash (w : World) (k : KI) : Int := by
  induction k with
  | s x => exact hashStr w ⟨x.toArray⟩
  | i n => exact hashInt n
/-- texts and ints as keys -/
noncomputable def mixKind : KeyKind prog w KI where
  is := KI.is
  hash := KI.hash w
  inj := fun v a b ha hb => by
    rcases KI.shape ha with ⟨x, t, rfl, rfl⟩ | ⟨n, t, rfl, rfl⟩ <;> rcases KI.shape hb with ⟨y, u, rfl, e⟩ | ⟨m, u, rfl, e⟩
    · injection e with e1 _
      rw [(strEq _ _).mp e1]
    · (first | subst e | (injection e with e; subst e) | (injection e; done) | cases e)
    · (first | subst e | (injection e with e; subst e) | (injection e; done) | cases e)
    · injection e with e1 _
      rw [e1]
  byValue := fun k v h => by rcases KI.shape h with ⟨x, t, rfl, rfl⟩ | ⟨n, t, rfl, rfl⟩ <;> rfl
  pyHash := fun {A E s k v Q} hv h => by
    rcases KI.shape hv with ⟨x, t, rfl, rfl⟩ | ⟨n, t, rfl, rfl⟩
    · exact wpAny_pyHash_str h
    · exact wpAny_pyHash_int h
  eqBool := fun {A E s a b u v Q} hu hv h => by
    rcases KI.shape hu with ⟨x, t, rfl, rfl⟩ | ⟨n, t, rfl, rfl⟩ <;> rcases KI.shape hv with ⟨y, t', rfl, rfl⟩ | ⟨m, t', rfl, rfl⟩
    · refine wpAny_eqBool_str ?_
      have e : decide ((⟨x.toArray⟩ : Str) = ⟨y.toArray⟩) = decide (KI.s x = KI.s y) := by
        rw [decide_eq_decide, strEq, KI.s.injEq]
      rw [e]; exact h
    · unfold eqBool
      rw [if_neg (by simp)]
      exact wpAny_bind (EqMixed.eq_str_int (wpAny_truthy_bool (by simpa using h)))
    · unfold eqBool
      rw [if_neg (by simp)]
      exact wpAny_bind (EqMixed.eq_int_str (wpAny_truthy_bool (by simpa using h)))
    · refine wpAny_eqBool_int ?_
      have e : (n == m) = decide (KI.i n = KI.i m) := by
        rw [Bool.eq_iff_iff]; simp
      rw [e]; exact h
  «strs» := fun k x t v h => by
    rcases KI.shape h with ⟨y, u, rfl, e⟩ | ⟨m, u, rfl, e⟩
    · injection e with e1 _
      subst e1
      exact (isStr_eq v _).symm
    · (first | subst e | (injection e with e; subst e) | (injection e; done) | cases e)

noncomputable abbrev tupK : HeapKind prog w (List KI) := tupleKind (mixKind prog w)

/-! objects -/
noncomputable def instCls : List Addr := [40, 62, 82, 120, 140, 228, 653]
noncomputable def FieldsRel (I : Inj) (h : Heap) (m : Str → Option Value) (fs : List (Nat × AV)) : Prop :=
  (∀ f v, fs.lookup f = some v → f < fieldNames.length ∧ ∃ u, m (fname f) = some u ∧ VR I h v u) ∧ ∀ x, (∀ f v, fs.lookup f = some v → fname f ≠ x) → m x = none

noncomputable def OR (I : Inj) (h : Heap) : AO → Nat × Nat → Prop
  | .list vs, p => ∃ us, h.PlainList p.1 us ∧ VRs I h vs us.toList
  | .dict es, p => ∃ us : List Value, us.length = es.length ∧ h.DictOf (strKind prog w) p.1 (((es.map fun e => (⟨e.1.toArray⟩ : Str))).zip us) ∧ VRs I h (es.map (·.2)) us
  | .tdict es, p => ∃ (as : List Addr) (us : List Value), as.length = es.length ∧ h.DictOfH (tupK prog w) p.1 ((es.map (·.1)).zip (as.zip us)) ∧ (∀ a ∈ as, a ∉ foot I) ∧ VRs I h (es.map (·.2)) us
  | .inst C fs, p => C ∈ instCls ∧ h.get? p.1 = some (instObj C p.2) ∧ p.1 ≠ p.2 ∧ (∃ es ep, h.get? p.2 = some { cls := .type "dict", data := .dict es ep } ∧ es.size ≤ fs.length) ∧ ∃ m, h.Ns p.2 m ∧ FieldsRel I h m fs

/-- the store lies in the heap above the base -/
structure Sim (B : Heap) (I : Inj) (σ : Sto) (h : Heap) : Prop where
  len : I.length = σ.length
  base : ∀ (b : Nat) o, B.get? b = some o → h.get? b = some o
  new : ∀ p ∈ I, B.get? p.1 = none ∧ B.get? p.2 = none ∧ (∃ o, h.get? p.1 = some o) ∧ ∃ o, h.get? p.2 = some o
  apart : ∀ (i j : Nat) (p q : Nat × Nat), I[i]? = some p → I[j]? = some q → i ≠ j → p.1 ≠ q.1 ∧ p.1 ≠ q.2 ∧ p.2 ≠ q.1 ∧ p.2 ≠ q.2
  objs : ∀ (i : Nat) (o : AO) (p : Nat × Nat), σ[i]? = some o → I[i]? = some p → OR prog w I h o p
  big : ∀ p ∈ I, 711 ≤ p.1
end

section
variable {prog : Program} {w : World} {B : Heap} {I I' : Inj} {σ : Sto} {h h' : Heap}

theorem FieldsRel.gen {m : Str → Option Value} {fs : List (Nat × AV)} (k : ∀ v u, VR I h v u → VR I' h' v u) (x : FieldsRel I h m fs) : FieldsRel I' h' m fs :=
  ⟨fun f v e => let ⟨l, u, a, b⟩ := x.1 f v e; ⟨l, u, a, k _ _ b⟩, x.2⟩
theorem VRs.each (k : ∀ v u, VR I h v u → VR I' h' v u) {vs : List AV} : ∀ {us : List Value}, VRs I h vs us → VRs I' h' vs us := by
  induction vs with
  | nil => exact fun e => e
  | cons v vs ih =>
    intro us e
    obtain ⟨u, r, rfl, e2, e3⟩ := e.e1
    exact VRs.cons (k _ _ e2) (ih e3)
/-- an object stands where its addresses stand and the values' meaning is kept -/
theorem OR.gen {o : AO} {p : Nat × Nat} (k : ∀ v u, VR I h v u → VR I' h' v u) (h1 : ∀ q, h.get? p.1 = some q → h'.get? p.1 = some q) (h2 : ∀ q, h.get? p.2 = some q → h'.get? p.2 = some q)
    (ht : ∀ (a : Nat) xs, a ∉ foot I → IsTup h a xs → a ∉ foot I' ∧ IsTup h' a xs) (x : OR prog w I h o p) : OR prog w I' h' o p := by
  induction o with
  | list vs =>
    obtain ⟨us, a, b⟩ := x
    exact ⟨us, a.at h1, VRs.each k b⟩
  | dict es =>
    obtain ⟨us, hl, ⟨o, ents, ep, a, r⟩, b⟩ := x
    exact ⟨us, hl, ⟨o, ents, ep, h1 _ a, r⟩, VRs.each k b⟩
  | tdict es =>
    obtain ⟨as, us, hl, ⟨o, ents, ep, a, r1, r2, r3, r4, r5⟩, c, b⟩ := x
    have key : ∀ (x : List KI × Addr × Value), x ∈ (es.map (·.1)).zip (as.zip us) → x.2.1 ∈ as := fun x hx => by
      have := List.of_mem_zip hx
      exact (List.of_mem_zip this.2).1
    refine ⟨as, us, hl, ⟨o, ents, ep, h1 _ a, r1, r2, r3, fun x hx => ?_, r5⟩, fun q hq => ?_, VRs.each k b⟩
    · obtain ⟨ot, items, n, g1, g2, g3, g4⟩ := r4 x hx
      obtain ⟨ot', g1', g2', n', g3'⟩ := (ht x.2.1 items (c _ (key x hx)) ⟨ot, g1, g2, n, g3⟩).2
      exact ⟨ot', items, n', g1', g2', g3', g4⟩
    · by_cases hz : ∃ x ∈ (es.map (·.1)).zip (as.zip us), x.2.1 = q
      · obtain ⟨x, hx, rfl⟩ := hz
        obtain ⟨ot, items, n, g1, g2, g3, g4⟩ := r4 x hx
        exact (ht x.2.1 items (c _ hq) ⟨ot, g1, g2, n, g3⟩).1
      · exfalso
        apply hz
        have hu := b.length
        obtain ⟨i, hi, rfl⟩ := List.getElem_of_mem hq
        have h1 : i < es.length := by lia
        have h2 : i < us.length := by simp at hu; lia
        refine ⟨((es.map (·.1))[i]'(by simpa using h1), as[i], us[i]), ?_, rfl⟩
        refine List.mem_iff_getElem.mpr ⟨i, by simp; lia, by simp⟩
  | inst C fs =>
    obtain ⟨z, a, n, ⟨es, ep, b1, b2⟩, m, c, d⟩ := x
    exact ⟨z, h1 _ a, n, ⟨es, ep, h2 _ b1, b2⟩, m, c.at' h2, d.gen k⟩
end
end Mine
open PySem PySem.W PySem.Calls PyProof.Rows
namespace Mine
set_option linter.unusedVariables false

section
variable {prog : Program} {w : World} {B : Heap} {I I' : Inj} {σ : Sto} {h h' : Heap} {X : Nat → Prop}

theorem get_foot {i : Nat} {p : Nat × Nat} (e : I[i]? = some p) : p.1 ∈ foot I ∧ p.2 ∈ foot I :=
  ⟨mem_foot.mpr ⟨p, List.mem_of_getElem? e, .inl rfl⟩, mem_foot.mpr ⟨p, List.mem_of_getElem? e, .inr rfl⟩⟩
theorem Sim.off (S : Sim prog w B I σ h) {b : Nat} {o : Obj} (e : B.get? b = some o) : b ∉ foot I := fun hm => by
  obtain ⟨p, hp, q⟩ := mem_foot.mp hm
  have := S.new p hp
  rcases q with rfl | rfl
  · rw [this.1] at e; (first | subst e | (injection e with e; subst e) | (injection e; done) | cases e)
  · rw [this.2.1] at e; (first | subst e | (injection e with e; subst e) | (injection e; done) | cases e)
theorem Sim.live (S : Sim prog w B I σ h) {a : Nat} (hm : a ∈ foot I) : ∃ o, h.get? a = some o := by
  obtain ⟨p, hp, q⟩ := mem_foot.mp hm
  have := S.new p hp
  rcases q with rfl | rfl
  · exact this.2.2.1
  · exact this.2.2.2
theorem Sim.dead (S : Sim prog w B I σ h) {a : Nat} (e : h.get? a = none) : a ∉ foot I := fun hm => by
  obtain ⟨o, q⟩ := S.live hm
  rw [q] at e; (first | subst e | (injection e with e; subst e) | (injection e; done) | cases e)
theorem Sim.at (S : Sim prog w B I σ h) {i : Nat} {o : AO} (e : σ[i]? = some o) : ∃ p, I[i]? = some p ∧ OR prog w I h o p := by
  have hi : i < I.length := by rw [S.len]; exact (List.getElem?_eq_some_iff.mp e).1
  exact ⟨I[i], List.getElem?_eq_getElem hi, S.objs i o _ e (List.getElem?_eq_getElem hi)⟩

/-- what the store does not see may change, but for the base and the tuples -/
theorem Sim.keep (S : Sim prog w B I σ h) (hv : ∀ (a : Nat) o, X a → h.get? a = some o → ∃ o', h'.get? a = some o') (k : ∀ (a : Nat) o, ¬ X a → h.get? a = some o → h'.get? a = some o) (n : NoTup X h) (hf : ∀ a, X a → a ∉ foot I) (hb : ∀ a, X a → B.get? a = none) : Sim prog w B I σ h' := by
  have E : ExtX X I h I h' := ⟨⟨[], by simp, by simp⟩, fun a o e => (Classical.em (X a)).elim (fun q => hv a o q e) fun q => ⟨o, k a o q e⟩, fun a o hx _ e => k a o hx e⟩
  refine ⟨S.len, fun b o e => k b o (fun q => by rw [hb b q] at e; (first | subst e | (injection e with e; subst e) | (injection e; done) | cases e)) (S.base b o e), fun p hp => ?_, S.apart, fun i o p e q => ?_, S.big⟩
  · have := S.new p hp
    obtain ⟨o, a⟩ := this.2.2.1
    obtain ⟨o', a'⟩ := this.2.2.2
    exact ⟨this.1, this.2.1, E.live _ _ a, E.live _ _ a'⟩
  · have f := get_foot q
    exact (S.objs i o p e q).gen (fun _ _ => VR.extX E n) (fun o' => k p.1 o' (fun z => hf _ z f.1)) (fun o' => k p.2 o' (fun z => hf _ z f.2)) (E.tups n)
theorem Sim.grow (S : Sim prog w B I σ h) (k : ∀ (a : Nat) o, h.get? a = some o → h'.get? a = some o) : Sim prog w B I σ h' :=
  S.keep (X := nX) (fun _ _ q => q.elim) (fun a o _ => k a o) noTup (fun _ q => q.elim) fun _ q => q.elim
theorem Sim.push (S : Sim prog w B I σ h) (o : Obj) : Sim prog w B I σ (h.push o) := S.grow fun a o' e => Heap.get?_push_of_some o e

/-- a new entry -/
theorem Sim.add (S : Sim prog w B I σ h) {p : Nat × Nat} {o : AO} (k : ∀ (a : Nat) o, h.get? a = some o → h'.get? a = some o)
    (d1 : h.get? p.1 = none) (d2 : h.get? p.2 = none) (l1 : ∃ o, h'.get? p.1 = some o) (l2 : ∃ o, h'.get? p.2 = some o) (hb : 711 ≤ p.1) (R : OR prog w (I ++ [p]) h' o p) : Sim prog w B (I ++ [p]) (σ ++ [o]) h' ∧ Ext I h (I ++ [p]) h' := by
  have E : Ext I h (I ++ [p]) h' := ⟨⟨[p], rfl, fun q hq => by rw [List.mem_singleton.mp hq]; exact ⟨d1, d2⟩⟩, fun a o e => ⟨o, k a o e⟩, fun a o _ _ e => k a o e⟩
  have ne : ∀ a : Nat, (∃ o, h.get? a = some o) → a ≠ p.1 ∧ a ≠ p.2 := fun a ⟨o, e⟩ => ⟨fun q => (by rw [q, d1] at e; (first | subst e | (injection e with e; subst e) | (injection e; done) | cases e)), fun q => (by rw [q, d2] at e; (first | subst e | (injection e with e; subst e) | (injection e; done) | cases e))⟩
  refine ⟨⟨by simp [S.len], fun b o e => k b o (S.base b o e), fun q hq => ?_, fun i j a b ei ej hij => ?_, fun i o' q e eq => ?_, fun q hq => (List.mem_append.mp hq).elim (S.big q) fun z => by rw [List.mem_singleton.mp z]; exact hb⟩, E⟩
  · rcases List.mem_append.mp hq with hq | hq
    · have := S.new q hq
      obtain ⟨o, a⟩ := this.2.2.1
      obtain ⟨o', a'⟩ := this.2.2.2
      exact ⟨this.1, this.2.1, E.live _ _ a, E.live _ _ a'⟩
    · rw [List.mem_singleton.mp hq]
      have fresh : ∀ a : Nat, h.get? a = none → B.get? a = none := fun a ha => by
        cases e : B.get? a with
        | none => rfl
        | some o => rw [S.base a o e] at ha; (first | subst ha | (injection ha with ha; subst ha) | (injection ha; done) | cases ha)
      exact ⟨fresh _ d1, fresh _ d2, l1, l2⟩
  · have old : ∀ (i : Nat) (a : Nat × Nat), (I ++ [p])[i]? = some a → i < I.length → I[i]? = some a ∧ (∃ o, h.get? a.1 = some o) ∧ ∃ o, h.get? a.2 = some o := fun i a e hi => by
      rw [List.getElem?_append_left hi] at e
      have := S.new a (List.mem_of_getElem? e)
      exact ⟨e, this.2.2.1, this.2.2.2⟩
    have last : ∀ (i : Nat) (a : Nat × Nat), (I ++ [p])[i]? = some a → ¬ i < I.length → i = I.length ∧ a = p := fun i a e hi => by
      have hl := (List.getElem?_eq_some_iff.mp e).1
      simp at hl
      have : i = I.length := by lia
      subst this
      simp at e
      exact ⟨rfl, e.symm⟩
    by_cases hi : i < I.length <;> by_cases hj : j < I.length
    · exact S.apart i j a b (old i a ei hi).1 (old j b ej hj).1 hij
    · have x := old i a ei hi
      have y := last j b ej hj
      rw [y.2]
      exact ⟨(ne _ x.2.1).1, (ne _ x.2.1).2, (ne _ x.2.2).1, (ne _ x.2.2).2⟩
    · have x := old j b ej hj
      have y := last i a ei hi
      rw [y.2]
      exact ⟨(ne _ x.2.1).1.symm, (ne _ x.2.2).1.symm, (ne _ x.2.1).2.symm, (ne _ x.2.2).2.symm⟩
    · exact absurd ((last i a ei hi).1.trans (last j b ej hj).1.symm) hij
  · by_cases hi : i < σ.length
    · rw [List.getElem?_append_left hi] at e
      rw [List.getElem?_append_left (by rw [S.len]; exact hi)] at eq
      exact (S.objs i o' q e eq).gen (fun _ _ => VR.ext E) (k _) (k _) (E.tups noTup)
    · have hl := (List.getElem?_eq_some_iff.mp e).1
      simp at hl
      have : i = σ.length := by lia
      subst this
      simp at e
      rw [← S.len] at eq
      simp at eq
      subst e; subst eq
      exact R

/-- an entry changed in place -/
theorem Sim.put (S : Sim prog w B I σ h) {i : Nat} {p : Nat × Nat} {o : AO} {a : Nat} (e : I[i]? = some p) (hs : Heap.SameBut a h h') (ha : a = p.1 ∨ a = p.2) (hv : ∃ o, h'.get? a = some o) (R : OR prog w I h' o p) :
    Sim prog w B I (σ.set i o) h' ∧ Ext I h I h' := by
  have hf : a ∈ foot I := by rcases ha with rfl | rfl; exact (get_foot e).1; exact (get_foot e).2
  have E : Ext I h I h' := ExtX.same hs (.inl hf) hv
  refine ⟨⟨by simp [S.len], fun b o' eb => (hs.2 b (fun q => S.off eb (q ▸ hf))).trans (S.base b o' eb), fun q hq => ?_, S.apart, fun j o' q ej eq => ?_, S.big⟩, E⟩
  · have := S.new q hq
    obtain ⟨o, a⟩ := this.2.2.1
    obtain ⟨o', a'⟩ := this.2.2.2
    exact ⟨this.1, this.2.1, E.live _ _ a, E.live _ _ a'⟩
  · by_cases hij : i = j
    · subst hij
      rw [e] at eq; (first | subst eq | (injection eq with eq; subst eq) | (injection eq; done) | cases eq)
      have hl : i < σ.length := by rw [← S.len]; exact (List.getElem?_eq_some_iff.mp e).1
      rw [List.getElem?_set_self hl] at ej
      (first | subst ej | (injection ej with ej; subst ej) | (injection ej; done) | cases ej); exact R
    · rw [List.getElem?_set_ne hij] at ej
      have ap := S.apart i j p q e eq hij
      have n1 : q.1 ≠ a := by rcases ha with rfl | rfl; exact Ne.symm ap.1; exact Ne.symm ap.2.2.1
      have n2 : q.2 ≠ a := by rcases ha with rfl | rfl; exact Ne.symm ap.2.1; exact Ne.symm ap.2.2.2
      exact (S.objs j o' q ej eq).gen (fun _ _ => VR.ext E) (fun o' z => (hs.2 _ n1).trans z) (fun o' z => (hs.2 _ n2).trans z) (E.tups noTup)
end

/-! frames -/
noncomputable def Rd (env : Env) (h : Heap) (x : Str) (u : Value) : Prop :=
  (env.kindOf x = some .local ∧ ∃ m, h.Ns env.locals m ∧ m x = some u) ∨
  ((env.kindOf x = some .cell ∨ env.kindOf x = some .free) ∧ ∃ c o, env.cells.lookup x = some c ∧ h.get? c = some o ∧ o.data = .cell (some u))

noncomputable def KindsAre (t : Tx) (env : Env) : Prop := match t.comp with
  | none => ∀ x, env.kindOf x = t.names.lookup x
  | some c => ∀ x, (c.lookup x = some .local → env.kindOf x = some .local) ∧ (c.lookup x = some .globalImplicit → env.kindOf x = some .globalImplicit) ∧ (c.lookup x = some .free → env.kindOf x = some .cell ∨ env.kindOf x = some .free)

/-- the addresses that a frame's own stores change -/
noncomputable def own (env : Env) : Nat → Prop := fun a => a = env.locals ∨ ∃ x, env.cells.lookup x = some a

structure Frm (t : Tx) (I : Inj) (h : Heap) (env : Env) (ρ : Vars) : Prop where
  kind : env.scope.kind = .function
  glob : env.globals = mainGlobals
  bi : env.builtins = builtinsNs
  kinds : KindsAre t env
  ns : ∃ m, h.Ns env.locals m
  cell : ∀ x c, env.cells.lookup x = some c → ∃ o v, h.get? c = some o ∧ o.data = .cell v
  offL : env.locals ∉ foot I
  offC : ∀ x c, env.cells.lookup x = some c → c ∉ foot I
  vars : ∀ x i v, t.name x = some (.inl i) → ρ i = some v → ∃ u, VR I h v u ∧ Rd env h x u
  cells : ∀ x, env.kindOf x = some .cell → ∃ c, env.cells.lookup x = some c
  few : t.names.length ≤ 100
  cinj : ∀ x y c, env.cells.lookup x = some c → env.cells.lookup y = some c → x = y

section
variable {t : Tx} {I I' : Inj} {h h' : Heap} {env : Env} {ρ : Vars} {X : Nat → Prop}
theorem Rd.ext (F : Frm t I h env ρ) (E : ExtX X I h I' h') (n : ∀ a, own env a → ¬ X a) {x : Str} {u : Value} (r : Rd env h x u) : Rd env h' x u := by
  rcases r with ⟨a, m, b, c⟩ | ⟨a, c, o, b, d, e⟩
  · exact .inl ⟨a, m, b.at' fun o => E.keep _ o (n _ (.inl rfl)) F.offL, c⟩
  · exact .inr ⟨a, c, o, b, E.keep _ o (n _ (.inr ⟨x, b⟩)) (F.offC x c b) d, e⟩
theorem Frm.ext (F : Frm t I h env ρ) (E : ExtX X I h I' h') (n : ∀ a, own env a → ¬ X a) (nt : NoTup X h) : Frm t I' h' env ρ := by
  obtain ⟨m, hm⟩ := F.ns
  refine ⟨F.kind, F.glob, F.bi, F.kinds, ⟨m, hm.at' fun o => E.keep _ o (n _ (.inl rfl)) F.offL⟩, fun x c e => ?_, (let ⟨_, _, _, ho, _⟩ := hm; E.off F.offL ho), fun x c e => ?_, fun x i v a b => ?_, F.cells, F.few, F.cinj⟩
  · obtain ⟨o, v, a, b⟩ := F.cell x c e
    exact ⟨o, v, E.keep _ o (n _ (.inr ⟨x, e⟩)) (F.offC x c e) a, b⟩
  · obtain ⟨o, v, a, b⟩ := F.cell x c e
    exact E.off (F.offC x c e) a
  · obtain ⟨u, a, b⟩ := F.vars x i v a b
    exact ⟨u, a.extX E nt, b.ext F E n⟩
theorem Frm.next (F : Frm t I h env ρ) (E : Ext I h I' h') : Frm t I' h' env ρ := F.ext E (fun _ _ q => q) noTup
theorem Frm.noTup (F : Frm t I h env ρ) : NoTup (own env) h := fun a ha xs ⟨o, ho, hc, n, hd⟩ => by
  rcases ha with rfl | ⟨x, e⟩
  · obtain ⟨m, o', es, ep, ho', hd', _⟩ := F.ns
    rw [ho] at ho'; (first | subst ho' | (injection ho' with ho'; subst ho') | (injection ho'; done) | cases ho')
    rw [hd] at hd'; (first | subst hd' | (injection hd' with hd'; subst hd') | (injection hd'; done) | cases hd')
  · obtain ⟨o', v, ho', hd'⟩ := F.cell x a e
    rw [ho] at ho'; (first | subst ho' | (injection ho' with ho'; subst ho') | (injection ho'; done) | cases ho')
    rw [hd] at hd'; (first | subst hd' | (injection hd' with hd'; subst hd') | (injection hd'; done) | cases hd')
end
end Mine
open PySem PySem.W PySem.Calls PyProof.Rows
namespace Mine
set_option linter.unusedVariables false

/-- what is called by a name -/
noncomputable def callAddrs : List Addr := 278 :: 323 :: 385 :: fnAddrs
noncomputable def mname (m : Nat) : Str := Str.ofString (methNames.getD m "?")
/-- what the written part says of the classes and functions -/
structure KF (K : Frag) : Prop where
  get : ∀ C ∈ instCls, plainGet K C "" = true
  dict : ∀ C ∈ instCls, hasDictIn K C = true
  fld : ∀ C ∈ instCls, ∀ f, f < fieldNames.length → badF C f = false → findIn K (.ref C) (fname f) = some none
  cls : ∀ C ∈ instCls, findIn K (.ref C) "__class__" = some (some (.builtin "object.__class__"))
  clsGet : specialIn K (.builtin "object.__class__") "__get__" = some (some (.builtin "getset_descriptor.__get__"))
  clsSet : takesIn K (.builtin "object.__class__") = some true
  obj : ∀ C ∈ instCls, mroIn K C (.type "object") = some true
  isT : ∀ C ∈ instCls, ∀ D ∈ clsAddrs, superOf C D = true → isIn K (.ref C) D = true
  isF : ∀ C ∈ instCls, ∀ D ∈ clsAddrs, superOf C D = false → kin_not K C D = true
  isB : ∀ C ∈ instCls, ∀ T ∈ ["bool", "int", "str"], kin_notT K C T = true
  prim : ∀ T ∈ ["NoneType", "bool", "int", "str"], ∀ D ∈ clsAddrs, isNotIn K T D = true
  ini : ∀ C a, initOf C = some a → C ∈ instCls ∧ a ∈ fnAddrs ∧ findIn K (.ref C) "__init__" = some (some (.ref a)) ∧ findCls K (.ref C) (.type "type") "__init__" = some (.val (.ref a)) ∧
    readsIn K C (.type "type") = true ∧ specialIn K (.ref C) "__getattribute__" = some (some (.builtin "type.__getattribute__"))
  make : ∀ C ∈ instCls, makesIn K C = true
  fn : ∀ a ∈ fnAddrs, isFn K (.ref a) = true
  kfn : ∀ a ∈ callAddrs, keepIn K (.ref a) = true
  kcl : ∀ C ∈ instCls, keepIn K (.ref C) = true
  meth : ∀ C m a, methOf C m = some a → C ∈ instCls ∧ a ∈ fnAddrs ∧ findIn K (.ref C) (mname m) = some (some (.ref a))
  over : ∀ C ∈ instCls, plainOver K C = true ∧ findIn K (.ref C) "__setattr__" = some (some (.builtin "object.__setattr__"))
  take : ∀ C ∈ instCls, ∀ f, f < fieldNames.length → takerIn K C (fname f) = some none

set_option genInjectivity false in
set_option genSizeOf false in
/-- what is fixed: the program, the world, the written part, the base -/
structure G0 where
  prog : Program
  w : World
  K : Frag
  B : Heap
  mg : Str → Option Value
  mb : Str → Option Value
  X : K.In B
  lim : B.NoLimit
  g : B.Ns mainGlobals mg
  b : B.Ns builtinsNs mb
  gl : ∀ x v, globOf x = some v → mg x = some v ∨ (mg x = none ∧ mb x = some v)
  bdict : ∃ kvs, B.DictOf (strKind prog w) 387 kvs ∧ ∀ x v, builtinsAt x = some v → ∃ u, valueAt kvs ⟨x.toArray⟩ = some u ∧ ∀ I h, VR I h v u
  mdict : ∃ kvs, B.DictOf (strKind prog w) 390 kvs ∧ ∀ x vs, mixedAt x = some vs → (vs = [] ∧ valueAt kvs ⟨x.toArray⟩ = none) ∨ ∃ a xs, valueAt kvs ⟨x.toArray⟩ = some (.ref a) ∧ IsTup B a xs ∧ VRs [] B vs xs.toList
  size : ∃ o, B.get? 710 = some o
  kf : KF K
  mods : ∃ as, Reads B (.ref 386) (.tuple [.str ⟨kernName.toArray⟩, .str ⟨cmpName.toArray⟩, .str ⟨enumName.toArray⟩]) as

noncomputable def Room (n : Nat) (A : Around) : Prop := A.handled = none ∧ A.depth + 2 * n + 1 < recursionLimit ∧ A.units + 20 * n + 210 < cLine
/-- at a call -/
noncomputable def RoomC (n : Nat) (A : Around) : Prop := A.handled = none ∧ A.depth + 2 * n < recursionLimit ∧ A.units + 20 * n + 200 < cLine
theorem Room.mono {n m : Nat} {A : Around} (h : Room n A) (hm : m ≤ n) : Room m A := ⟨h.1, by have := h.2.1; lia, by have := h.2.2; lia⟩
theorem Room.call {n : Nat} {A : Around} (h : Room n A) : RoomC n A := ⟨h.1, by have := h.2.1; lia, by have := h.2.2; lia⟩
theorem RoomC.deeper {n : Nat} {A : Around} (h : RoomC (n + 1) A) (env : Env) : Room n (A.deeper env) := ⟨h.1, by have := h.2.1; show A.depth + 1 + 2 * n + 1 < _; lia, by have := h.2.2; show A.units + 3 + 20 * n + 210 < _; lia⟩

noncomputable abbrev GSim (G : G0) (I : Inj) (σ : Sto) (h : Heap) : Prop := Sim G.prog G.w G.B I σ h
/-- what a step may have done to the state -/
structure St (X : Nat → Prop) (G : G0) (I : Inj) (s : Shared) (I' : Inj) (σ' : Sto) (s' : Shared) : Prop where
  ext : ExtX X I s.heap I' s'.heap
  like : s' = { s with heap := s'.heap, toks := s'.toks }
  sim : GSim G I' σ' s'.heap
section
variable {X : Nat → Prop} {G : G0} {I I' I'' : Inj} {s s' s'' : Shared} {σ σ' σ'' : Sto} {h'' : Heap} {tk : Nat}
theorem St.refl (S : GSim G I σ s.heap) : St X G I s I σ s := ⟨ExtX.refl _ _, rfl, S⟩
theorem St.trans (x : St X G I s I' σ' s') (y : St X G I' s' I'' σ'' s'') : St X G I s I'' σ'' s'' := ⟨x.ext.trans y.ext, y.like.trans (congrArg (fun z : Shared => { z with heap := s''.heap, toks := s''.toks }) x.like), y.sim⟩
theorem St.go (x : St X G I s I' σ' s') (e : ExtX X I' s'.heap I'' h'') (S : GSim G I'' σ'' h'') : St X G I s I'' σ'' { s' with heap := h'', toks := tk } := x.trans ⟨e, rfl, S⟩
theorem St.tok (x : St X G I s I' σ' s') : St X G I s I' σ' { s' with toks := tk } := x.trans ⟨ExtX.refl _ _, rfl, x.sim⟩
theorem St.weak {Y : Nat → Prop} (x : St X G I s I' σ' s') (k : ∀ a, X a → Y a) : St Y G I s I' σ' s' := ⟨x.ext.mono k, x.like, x.sim⟩
end
/-- the calls that C answers, the model's calls answer so -/
structure SCalls (G : G0) (sc : Scr) (n : Nat) (C : Calls) : Prop where
  scr : ∃ vs, G.B.IsList sc.1 vs.toArray ∧ IntsAre vs sc.2
  head : ∀ vs σ Q, OK (C 1 vs σ) Q → OK (headV sc vs σ) Q
  call : ∀ a vs σ Q, a ≠ 1 → OK (C a vs σ) Q → ∀ (A : Around) (I : Inj) (s : Shared) (us : List Value) (R : Result → Shared → Prop), RoomC n A → GSim G I σ s.heap → VRs I s.heap vs us →
    (∀ u v σ' I' s', Q v σ' → St nX G I s I' σ' s' → VR I' s'.heap v u → R (.ok (.ret u)) s') → codeAny (model G.prog G.w) A (.call (.ref a) ⟨us, []⟩) R s
set_option genInjectivity false in
set_option genSizeOf false in
/-- what is fixed at a piece of code -/
structure Cx where
  G : G0
  sc : Scr
  n : Nat
  C : Calls
  env : Env
  A : Around
  hC : SCalls G sc n C
  hA : Room n A
noncomputable def nE : Value → Shared → Prop := fun _ _ => False
theorem wpE {α : Type} {M : Model} {A : Around} {T : Sem α} {Q : α → Shared → Prop} {E : Value → Shared → Prop} {s : Shared} (h : wpAny M A T Q nE s) : wpAny M A T Q E s := wpAny_mono h (fun _ _ h => h) fun _ _ h => h.elim
noncomputable abbrev Cx.M (c : Cx) : Model := model c.G.prog c.G.w
noncomputable abbrev Cx.wp {α : Type} (c : Cx) (T : Sem α) (Q : α → Shared → Prop) (s : Shared) : Prop := wpAny c.M c.A T Q nE s
/-- the state at a piece of code -/
structure Now (t : Tx) (c : Cx) (I : Inj) (s : Shared) (σ : Sto) (ρ : Vars) : Prop where
  sim : GSim c.G I σ s.heap
  frm : Frm t I s.heap c.env ρ
theorem Now.next {t : Tx} {c : Cx} {I I' : Inj} {s s' : Shared} {σ σ' : Sto} {ρ : Vars} (N : Now t c I s σ ρ) (x : St nX c.G I s I' σ' s') : Now t c I' s' σ' ρ := ⟨x.sim, N.frm.next x.ext⟩
theorem Now.tok {t : Tx} {c : Cx} {I : Inj} {s : Shared} {σ : Sto} {ρ : Vars} (N : Now t c I s σ ρ) (tk : Nat) : Now t c I { s with toks := tk } σ ρ := ⟨N.sim, N.frm⟩

/-- an expression and its cut-down form -/
noncomputable def SE (t : Tx) (e : PySem.Expr) (p : PE) : Prop :=
  ∀ (c : Cx) {ρ : Vars} {I : Inj} {s : Shared} {σ : Sto} {Q : AV → Sto → Prop} {R : Value → Shared → Prop}, Now t c I s σ ρ → OK (evE c.C p ρ σ) Q →
    (∀ u v σ' I' s', Q v σ' → St nX c.G I s I' σ' s' → VR I' s'.heap v u → R u s') → c.wp (eval e c.env) R s
noncomputable def SB (t : Tx) (e : PySem.Expr) (p : PE) : Prop :=
  ∀ (c : Cx) {ρ : Vars} {I : Inj} {s : Shared} {σ : Sto} {Q : Bool → Sto → Prop} {R : Bool → Shared → Prop}, Now t c I s σ ρ → OK (evE c.C p ρ σ) (fun v σ => KSome (asBool v) fun b => Q b σ) →
    (∀ b σ' I' s', Q b σ' → St nX c.G I s I' σ' s' → R b s') → c.wp (isTrue e c.env (eval e c.env)) R s
noncomputable def SEs (t : Tx) (es : List PySem.Expr) (ps : List PE) : Prop :=
  ∀ (c : Cx) (pos : Pos) {ρ : Vars} {I : Inj} {s : Shared} {σ : Sto} {Q : List AV → Sto → Prop} {R : List Value → Shared → Prop}, Now t c I s σ ρ → OK (evEs c.C ps ρ σ) Q →
    (∀ us vs σ' I' s', Q vs σ' → St nX c.G I s I' σ' s' → VRs I' s'.heap vs us → R us s') → c.wp (spliced (backTo pos (starEach es c.env))) R s

section
variable {t : Tx}
theorem OK.dnbB {β : Type} {o : Option (AV × Sto)} {k : Bool → Sto → Option (β × Sto)} {Q : β → Sto → Prop} (h : OK (Mine.bnd o fun u σ => Mine.opt (asBool u) fun b => k b σ) Q) : OK o fun u σ => KSome (asBool u) fun b => OK (k b σ) Q := OK_mono h.dnb fun _ _ h => h.tpo
theorem OS.dnbB {o : Option (AV × Sto)} {k : Bool → Sto → Ex} {R : Fl → Vars → Sto → Prop} (h : OS (Mine.bnd o fun u σ => Mine.opt (asBool u) fun b => k b σ) R) : OK o fun u σ => KSome (asBool u) fun b => OS (k b σ) R := OK_mono h.dnb fun _ _ h => h.tpo
theorem kinds_g {x : Str} {v : Value} (e : t.name x = some (.inr v)) {I h env ρ} (F : Frm t I h env ρ) : env.kindOf x = some .globalImplicit := by
  have k := F.kinds
  have e := Tx.name_o e
  unfold KindsAre at k
  cases ht : t.comp with
  | none => rw [ht] at e k; exact (k x).trans (nmT_r e).1
  | some c => rw [ht] at e k; exact (k x).2.1 (nmC_r e).1
theorem name_g {x : Str} {v : Value} (e : t.name x = some (.inr v)) : globOf x = some v := by
  have e := Tx.name_o e
  cases ht : t.comp with
  | none => rw [ht] at e; exact (nmT_r e).2
  | some c => rw [ht] at e; exact (nmC_r e).2

theorem sound_name {x : Str} {pos : Pos} {i : Nat} (e : t.name x = some (.inl i)) : SE t (.Name x pos) (.var i) := by
  intro c ρ I s σ Q R N h k
  obtain ⟨v, hv, h⟩ := h.tpo
  obtain ⟨u, r, rd⟩ := N.frm.vars x i _ e hv
  have hd := nameX e
  refine wpAny_Name ?_ hd.1
  have fin : R u s := k u v σ I s h (St.refl N.sim) r
  rcases rd with ⟨a, m, b, c⟩ | ⟨a | a, c, o, b, d, ee⟩
  · exact wpAny_loadName_local N.frm.kind a b c fin
  · exact wpAny_loadName_cell N.frm.kind a b ⟨o, d, ee⟩ fin
  · exact wpAny_loadName_free N.frm.kind a b ⟨o, d, ee⟩ fin hd.2
theorem load_glob {x : Str} {u : Value} {c : Cx} {ρ : Vars} {I : Inj} {s : Shared} {σ : Sto} {pos : Pos} {R : Value → Shared → Prop} (e : t.name x = some (.inr u)) (N : Now t c I s σ ρ) (k : R u s) : c.wp (eval (.Name x pos) c.env) R s := by
  have hd := (nameX e).1
  have hg := name_g e
  have hg' : s.heap.Ns c.env.globals c.G.mg := N.frm.glob ▸ c.G.g.keeps N.sim.base
  have hb' : s.heap.Ns c.env.builtins c.G.mb := N.frm.bi ▸ c.G.b.keeps N.sim.base
  rcases c.G.gl x u hg with a | ⟨a, b⟩
  · exact Name_function_global N.frm.kind (kinds_g e N.frm) (loadGlobal_global hg' a k) hd
  · exact Name_function_global N.frm.kind (kinds_g e N.frm) (loadGlobal_builtin hg' a hb' b k) hd
theorem sound_glob {x : Str} {pos : Pos} {u : Value} (e : t.name x = some (.inr u)) : SE t (.Name x pos) (.val (.old u)) := fun _ _ _ _ _ _ _ N h k =>
  load_glob e N (k u (.old u) _ _ _ h (St.refl N.sim) rfl)
theorem SB.of_value {e : PySem.Expr} {p : PE} (h : SE t e p) (hv : ∀ (c : Cx) (R : Bool → Shared → Prop) (s : Shared), c.wp (eval e c.env) (fun v s₁ => c.wp (truthy v) R s₁) s → c.wp (isTrue e c.env (eval e c.env)) R s) : SB t e p := fun c _ _ _ _ _ _ N he k =>
  hv c _ _ (h c N he fun u v σ' I' s' h x r => by
    obtain ⟨b, hb, h⟩ := h
    obtain rfl := asBool_of hb
    obtain rfl := (show u = .bool b from r)
    exact wpAny_truthy_bool (k b σ' I' s' h x))
end
end Mine
open PySem PySem.W PySem.Calls PyProof.Rows
namespace Mine
set_option linter.unusedVariables false

noncomputable abbrev Star (e : PySem.Expr) : Prop := ∀ env rest, starEach (e :: rest) env = (false, eval e env) :: starEach rest env
/-- what is translated is no Starred, no Set .. -/
structure Plain (e : PySem.Expr) : Prop where
  star : Star e
  marks : ∀ op, behindInMarks op e = false
  fold : ∀ env x, foldedSetIterable e env x = pure x
  base : ∀ name env x, attributeBase e name env x = x
  sub : ∀ o i, subscripted e false o i = operate [o, i] (getItem o i)

section
variable {t : Tx} {c : Cx} {ρ : Vars} {I I₀ : Inj} {s s₀ : Shared} {σ : Sto} {Q : AV → Sto → Prop} {R : Value → Shared → Prop}
theorem lim_size {n : Nat} (h : n ≤ lim) : n ≤ sizeLine := Nat.le_trans h (sizeLine_eq ▸ by decide)

theorem SEs.nil : SEs t [] [] := fun _ _ _ _ _ _ _ _ N h k => wpAny_items_nil (k [] [] _ _ _ h (St.refl N.sim) VRs.nil)
theorem SEs.cons {e : PySem.Expr} {p : PE} {es : List PySem.Expr} {ps : List PE} (hs : Star e) (h : SE t e p) (hr : SEs t es ps) : SEs t (e :: es) (p :: ps) := fun c pos _ _ _ _ _ _ N he k =>
  wpAny_items_cons (h c N he.dnb fun u v _ _ _ he x r => hr c pos (N.next x) he.dnb fun us vs _ _ _ he y r' => k (u :: us) (v :: vs) _ _ _ he (x.trans y) (VRs.cons (r.ext y.ext) r')) (hs c.env es)

theorem none_of_le {h : Heap} {a : Nat} (e : h.objs.size ≤ a) : h.get? a = none := Heap.get?_none_of_le e
theorem none_of {h : Heap} : h.get? h.objs.size = none := none_of_le (Nat.le_refl _)
theorem big_of {G : G0} {h : Heap} (S : GSim G I σ h) : 711 ≤ h.objs.size := let ⟨_, e⟩ := G.size; Heap.lt_size (S.base _ _ e)
/-- a new entry, one object -/
theorem made_at {G : G0} {h h' : Heap} (S : GSim G I σ h) (hk : ∀ (b : Nat) o, h.get? b = some o → h'.get? b = some o) {a : Nat} (h1 : h.get? a = none) (h2 : 711 ≤ a) {ao : AO} {o : Obj} (ho : h'.get? a = some o) (R : Ext I h (I ++ [(a, a)]) h' → OR G.prog G.w (I ++ [(a, a)]) h' ao (a, a)) :
    GSim G (I ++ [(a, a)]) (σ ++ [ao]) h' ∧ Ext I h (I ++ [(a, a)]) h' ∧ VR (I ++ [(a, a)]) h' (.ref σ.length) (.ref a) := by
  have E : Ext I h (I ++ [(a, a)]) h' := ⟨⟨_, rfl, fun q hq => by rw [List.mem_singleton.mp hq]; exact ⟨h1, h1⟩⟩, fun b o e => ⟨o, hk b o e⟩, fun b o' _ _ e => hk b o' e⟩
  refine ⟨(Sim.add (p := (a, a)) S hk h1 h1 ⟨_, ho⟩ ⟨_, ho⟩ h2 (R E)).1, E, (a, a), ?_, rfl⟩
  rw [← S.len]
  exact List.getElem?_concat_length
theorem fin_new {G : G0} {h : Heap} (S : GSim G I σ h) {o : Obj} {a : AO} (R : ∀ h', h'.get? h.objs.size = some o → Ext I h (I ++ [(h.objs.size, h.objs.size)]) h' → OR G.prog G.w (I ++ [(h.objs.size, h.objs.size)]) h' a (h.objs.size, h.objs.size)) (hf : o.isFreed = false) :
    GSim G (I ++ [(h.objs.size, h.objs.size)]) (σ ++ [a]) (h.push o) ∧ Ext I h (I ++ [(h.objs.size, h.objs.size)]) (h.push o) ∧ VR (I ++ [(h.objs.size, h.objs.size)]) (h.push o) (.ref σ.length) (.ref h.objs.size) :=
  made_at S (fun a o' e => Heap.get?_push_of_some _ e) none_of (big_of S) (Heap.get?_push_size _ hf) (R _ (Heap.get?_push_size _ hf))

theorem newList_ok {G : G0} (S : GSim G I σ s.heap) {vs : List AV} {us : List Value} (r : VRs I s.heap vs us) (h : OK (newList vs σ) Q) (k : ∀ u v σ' I' s', Q v σ' → St nX G I s I' σ' s' → VR I' s'.heap v u → R u s') :
    us.length ≤ sizeLine ∧ R (.ref s.heap.objs.size) { s with heap := s.heap.push { cls := .type "list", data := .seq us.toArray } } := by
  have h := h.drg
  have z := fin_new S (o := { cls := .type "list", data := .seq us.toArray }) (a := .list vs) (fun h' g E => ⟨us.toArray, ⟨0, g⟩, r.ext E⟩) rfl
  exact ⟨r.length ▸ lim_size h.1, k _ _ _ _ { s with heap := s.heap.push { cls := .type "list", data := .seq us.toArray } } h.2 ⟨z.2.1, rfl, z.1⟩ z.2.2⟩
theorem sound_list {es : List PySem.Expr} {ps : List PE} {pos : Pos} (h : SEs t es ps) : SE t (.List es pos) (.list ps) := fun c _ _ _ _ _ _ N he k =>
  wpAny_List (h c pos N he.dnb fun us vs _ _ _ he x r => newList_ok x.sim r he fun u v _ _ _ he y r => k u v _ _ _ he (x.trans y) r)

theorem tup_ok {G : G0} {h : Heap} (S : GSim G I σ h) {vs : List AV} {us : List Value} (r : VRs I h vs us) :
    VR I (h.push { cls := .type "tuple", data := .seq us.toArray }) (.tup vs) (.ref h.objs.size) ∧ Ext I h I (h.push { cls := .type "tuple", data := .seq us.toArray }) ∧ GSim G I σ (h.push { cls := .type "tuple", data := .seq us.toArray }) :=
  ⟨⟨_, us.toArray, rfl, S.dead none_of, ⟨_, Heap.get?_push_size _ rfl, rfl, 0, rfl⟩, r.ext (ExtX.push _)⟩, ExtX.push _, S.push _⟩
theorem evEs_len {C : Calls} : ∀ {ps : List PE} {σ : Sto} {Q : List AV → Sto → Prop}, OK (evEs C ps ρ σ) Q → OK (evEs C ps ρ σ) fun vs σ => vs.length = ps.length ∧ Q vs σ
  | [], _, _, h => ⟨rfl, h⟩
  | p :: ps, _, _, h => OK.bnd (OK_mono h.dnb fun _ _ h => OK.bnd (OK_mono (evEs_len h.dnb) fun _ _ h => ⟨congrArg Nat.succ h.1, h.2⟩))
theorem sound_tuple {es : List PySem.Expr} {ps : List PE} {k : Nat} {pos : Pos} (hn : ps.length ≤ 1000) (h : SEs t es ps) : SE t (.Tuple es k pos) (.tup ps) := fun c _ _ _ _ _ _ N he k =>
  wpAny_Tuple (h c pos N (evEs_len he.dnb) fun us vs _ _ s' he x r =>
    have z := tup_ok x.sim r
    ⟨r.length ▸ he.1 ▸ lim_size (Nat.le_trans hn (by decide)), k _ (.tup vs) _ _ { s' with heap := s'.heap.push { cls := .type "tuple", data := .seq us.toArray } } he.2 (x.go z.2.1 z.2.2) z.1⟩)
end
end Mine
open PySem PySem.W PySem.Calls PyProof.Rows
namespace Mine
set_option linter.unusedVariables false

section
variable {G : G0} {t : Tx} {c : Cx} {ρ : Vars} {I : Inj} {s : Shared} {σ : Sto} {Q : AV → Sto → Prop} {R : Value → Shared → Prop}
theorem VR.mkInt {h : Heap} (i : Int) (t : Tok) : VR I h (.int i) (.int i t) := ⟨t, rfl⟩
theorem VR.mkStr {h : Heap} (x : List Nat) (t : Tok) : VR I h (.str x) (.str ⟨x.toArray⟩ t) := ⟨t, rfl⟩
theorem VR.int {h : Heap} {i : Int} {u : Value} (r : VR I h (.int i) u) : ∃ t, u = .int i t := r
theorem VR.str {h : Heap} {x : List Nat} {u : Value} (r : VR I h (.str x) u) : ∃ t, u = .str ⟨x.toArray⟩ t := r
theorem VR.bool {h : Heap} {b : Bool} {u : Value} (r : VR I h (.bool b) u) : u = .bool b := r
theorem VR.none {h : Heap} {u : Value} (r : VR I h .none u) : u = .none := r
theorem VR.old {h : Heap} {v u : Value} (r : VR I h (.old v) u) : u = v := r
theorem VR.ref {h : Heap} {i : Nat} {u : Value} (r : VR I h (.ref i) u) : ∃ p, I[i]? = some p ∧ u = .ref p.1 := r
theorem isTup_of {h : Heap} {v : List AV} {u : Value} (r : VR I h (.tup v) u) : ∃ (a : Nat) (xs : Array Value), u = .ref a ∧ a ∉ foot I ∧ IsTup h a xs ∧ VRs I h v xs.toList := r
theorem VR.ofInt {h : Heap} {v : AV} {i : Int} {u : Value} (r : VR I h v u) (e : asInt v = some i) : ∃ t, u = .int i t := by cases asInt_of e; exact r
theorem VR.ofStr {h : Heap} {v : AV} {i : List Nat} {u : Value} (r : VR I h v u) (e : asStr v = some i) : ∃ t, u = .str ⟨i.toArray⟩ t := by cases asStr_of e; exact r
theorem VR.ofBool {h : Heap} {v : AV} {i : Bool} {u : Value} (r : VR I h v u) (e : asBool v = some i) : u = .bool i := by cases asBool_of e; exact r
theorem VR.ofNone {h : Heap} {v : AV} {i : Unit} {u : Value} (r : VR I h v u) (e : asNone v = some i) : u = .none := by cases asNone_of e; exact r
/-- at a ref: the entry -/
theorem VR.at {h : Heap} {i : Nat} {p : Nat × Nat} {u : Value} (r : VR I h (.ref i) u) (hp : I[i]? = some p) : u = .ref p.1 :=
  let ⟨_, e, q⟩ := r.ref
  q.trans (congrArg (fun p : Nat × Nat => Value.ref p.1) (Option.some.inj (e.symm.trans hp)))
theorem VR.ofRef {h : Heap} {v : AV} {i : Nat} {p : Nat × Nat} {u : Value} (r : VR I h v u) (e : asRef v = some i) (hp : I[i]? = some p) : u = .ref p.1 := by cases asRef_of e; exact r.at hp
theorem memO_ref {v : AV} {o : AO} : memO σ v = some o → ∃ i, v = .ref i ∧ σ[i]? = some o := by
  rcases v <;> first | exact no | exact fun h => ⟨_, rfl, h⟩
inductive MAt (prog : Program) (w : World) (u : Value) (I : Inj) (h : Heap) (o : AO) : Prop | mk (p : Nat × Nat) (e : u = .ref p.1) (hp : p ∈ I) (R : OR prog w I h o p)
theorem mem_at {h : Heap} (S : GSim G I σ h) {v : AV} {u : Value} (r : VR I h v u) {o : AO} (e : memO σ v = some o) : MAt G.prog G.w u I h o := by
  obtain ⟨_, rfl, e2⟩ := memO_ref e
  obtain ⟨p, hp, R⟩ := S.at e2
  exact ⟨p, r.at hp, List.mem_of_getElem? hp, R⟩
theorem asList_mem {v : AV} {vs : List AV} (h : asList σ v = some vs) : memO σ v = some (.list vs) := listO_of h
inductive LAt (u : Value) (I : Inj) (h : Heap) (vs : List AV) : Prop | mk (a : Nat) (us : Array Value) (n : Nat) (e : u = .ref a) (ho : h.get? a = some { cls := .type "list", data := .seq us n }) (r : VRs I h vs us.toList)
theorem list_at {h : Heap} (S : GSim G I σ h) {v : AV} {u : Value} (r : VR I h v u) {vs : List AV} (e : asList σ v = some vs) : LAt u I h vs :=
  match mem_at S r (asList_mem e) with
  | ⟨_, e, _, us, ⟨n, ho⟩, hr⟩ => ⟨_, us, n, e, ho, hr⟩

theorem size_of {x y : List Nat} (h : (x ++ y).length ≤ lim) : (⟨x.toArray⟩ : Str).length + (⟨y.toArray⟩ : Str).length ≤ sizeLine := lim_size (List.length_append ▸ h)
theorem str_app (x y : List Nat) : (⟨x.toArray⟩ : Str) ++ ⟨y.toArray⟩ = ⟨(x ++ y).toArray⟩ := congrArg Str.mk (List.append_toArray x y)

theorem add_ok {u₁ u₂ : Value} {v₁ v₂ : AV} (S : GSim c.G I σ s.heap) (r₁ : VR I s.heap v₁ u₁) (r₂ : VR I s.heap v₂ u₂) (h : OK (addV v₁ v₂ σ) Q)
    (k : ∀ u v σ' I' s', Q v σ' → St nX c.G I s I' σ' s' → VR I' s'.heap v u → R u s') : c.wp (binaryOp .Add u₁ u₂) R s := by
  induction v₁ using AV.cs with
  | int i =>
    obtain ⟨j, e, h⟩ := h.tpo
    obtain ⟨_, rfl⟩ := r₁.int
    obtain ⟨_, rfl⟩ := r₂.ofInt e
    exact PyProof.Rows.add_int (k _ _ _ _ _ h (St.refl S).tok (VR.mkInt _ _))
  | str x =>
    obtain ⟨y, e, h⟩ := h.tpo
    obtain ⟨_, rfl⟩ := r₁.str
    obtain ⟨_, rfl⟩ := r₂.ofStr e
    have h := h.drg
    refine PyProof.Rows.add_str (fun t' tk => ?_) (size_of h.1)
    rw [str_app]
    exact k _ _ _ _ _ h.2 (St.refl S).tok (VR.mkStr _ _)
  | ref i =>
    obtain ⟨xs, e₁, h⟩ := h.tpo
    obtain ⟨ys, e₂, h⟩ := h.tpo
    obtain ⟨a, us, n, rfl, ho, hr⟩ := list_at S r₁ e₁
    obtain ⟨b, us', n', rfl, ho', hr'⟩ := list_at S r₂ e₂
    have z := newList_ok S (VRs.append hr hr') h k
    rw [show (us.toList ++ us'.toList).toArray = us ++ us' from Array.toArray_append.symm ▸ Array.toArray_toList ▸ rfl] at z
    exact concat_meets ⟨_, ho, rfl⟩ ⟨_, ho', rfl⟩ noFill_list_add seq_list_add PySem.F.slot_list_add PySem.F.entry_list_add (PySem.F.args_list_add_2 _ _) (PyProof.Rows.list_addW a b us us' n n' Option.none Option.none #[] #[] (by simpa using z.1)) ⟨ho, ho', z.2⟩
  | _ => exact h.elim
theorem sound_add {l r : PySem.Expr} {p q : PE} {pos : Pos} (h₁ : SE t l p) (h₂ : SE t r q) : SE t (.BinOp l .Add r pos) (.add p q) := fun c _ _ _ _ _ _ N he k =>
  wpAny_BinOp (h₁ c N he.dnb fun _ _ _ _ _ he x r₁ => h₂ c (N.next x) he.dnb fun _ _ _ _ _ he y r₂ => add_ok y.sim (r₁.ext y.ext) r₂ he fun u v _ _ _ he z r => k u v _ _ _ he ((x.trans y).trans z) r)
theorem sound_sub {l r : PySem.Expr} {p q : PE} {pos : Pos} (h₁ : SE t l p) (h₂ : SE t r q) : SE t (.BinOp l .Sub r pos) (.sub p q) := fun c _ _ _ _ _ _ N he k =>
  wpAny_BinOp (h₁ c N he.dnb fun _ _ _ _ _ he x r₁ => h₂ c (N.next x) he.dnb fun _ _ _ _ _ he y r₂ => by
    obtain ⟨i, e₁, he⟩ := he.tpo
    obtain ⟨j, e₂, he⟩ := he.tpo
    obtain ⟨_, rfl⟩ := r₁.ofInt e₁
    obtain ⟨_, rfl⟩ := r₂.ofInt e₂
    exact PyProof.Rows.sub_int (k _ _ _ _ _ he (x.trans y).tok (VR.mkInt _ _)))
theorem sound_mod {l r : PySem.Expr} {p q : PE} {pos : Pos} (h₁ : SE t l p) (h₂ : SE t r q) : SE t (.BinOp l .Mod r pos) (.mod p q) := fun c _ _ _ _ _ _ N he k =>
  wpAny_BinOp (h₁ c N he.dnb fun _ _ _ _ _ he x r₁ => h₂ c (N.next x) he.dnb fun _ _ _ _ _ he y r₂ => by
    obtain ⟨i, e₁, he⟩ := he.tpo
    obtain ⟨j, e₂, he⟩ := he.tpo
    obtain ⟨hj, he⟩ := he.drg
    obtain ⟨_, rfl⟩ := r₁.ofInt e₁
    obtain ⟨_, rfl⟩ := r₂.ofInt e₂
    refine PyProof.Rows.mod_int' (Int.ne_of_gt hj.1) ?_
    rw [Int.fmod_eq_emod_of_nonneg _ (Int.le_of_lt hj.1)]
    exact k _ _ _ _ _ he (x.trans y).tok (VR.mkInt _ _))

/-! comparisons -/
theorem opt_some {α β : Type} {o : Option α} {k : α → Option β} {b : β} (h : opt o k = some b) : ∃ a, o = some a ∧ k a = some b := match o, h with
  | some a, h => ⟨a, rfl, h⟩
theorem grd_some {β : Type} {p : Prop} [d : Decidable p] {o : Option β} {b : β} (h : grd p o = some b) : p ∧ o = some b := match d, h with
  | .isTrue hp, h => ⟨hp, h⟩
mutual
theorem reads_of {h : Heap} (S : GSim G I σ h) : ∀ (m : Nat) (v : AV) (u : Value) (d : PyData), VR I h v u → toPy σ m v = some d → ∃ as, Reads h u d as
  | 0, _, _, _, _, e => no e
  | m + 1, .none, _, _, r, e => by (first | subst e | (injection e with e; subst e) | (injection e; done) | cases e); cases r.none; exact ⟨_, .none⟩
  | m + 1, .bool b, _, _, r, e => by (first | subst e | (injection e with e; subst e) | (injection e; done) | cases e); cases r.bool; exact ⟨_, .bool b⟩
  | m + 1, .int i, _, _, r, e => by (first | subst e | (injection e with e; subst e) | (injection e; done) | cases e); obtain ⟨t, rfl⟩ := r.int; exact ⟨_, .int i t⟩
  | m + 1, .str x, _, _, r, e => by (first | subst e | (injection e with e; subst e) | (injection e; done) | cases e); obtain ⟨t, rfl⟩ := r.str; exact ⟨_, .str _ t⟩
  | m + 1, .tup vs, u, d, r, e => by
    obtain ⟨_, e', h⟩ := opt_some e
    (first | subst h | (injection h with h; subst h) | (injection h; done) | cases h)
    obtain ⟨_, _, rfl, _, ⟨_, ho, hc, _, hd⟩, r⟩ := isTup_of r
    obtain ⟨_, q⟩ := reads_all S m vs _ _ r e'
    exact ⟨_, .tuple ho hc hd q⟩
  | m + 1, .ref i, u, d, r, e => by
    obtain ⟨vs, hv, e1⟩ := opt_some e
    obtain ⟨_, e', h⟩ := opt_some e1
    (first | subst h | (injection h with h; subst h) | (injection h; done) | cases h)
    obtain ⟨_, hp, _, ⟨_, ho⟩, b⟩ := S.at (listO_of hv)
    cases r.at hp
    obtain ⟨_, q⟩ := reads_all S m vs _ _ b e'
    exact ⟨_, .list ho rfl rfl q⟩
  | m + 1, .old _, _, _, _, e => no e
theorem reads_all {h : Heap} (S : GSim G I σ h) : ∀ (m : Nat) (vs : List AV) (us : List Value) (ds : List PyData), VRs I h vs us → toPys σ m vs = some ds → ∃ as, ReadsAll h us ds as
  | 0, _, _, _, _, e => no e
  | m + 1, [], _, _, r, e => by (first | subst e | (injection e with e; subst e) | (injection e; done) | cases e); cases (show _ = _ from r); exact ⟨_, .nil⟩
  | m + 1, v :: vs, _, _, r, e => by
    obtain ⟨u, rs, rfl, r1, r2⟩ := (show ∃ u r, _ = u :: r ∧ VR I h v u ∧ VRs I h vs r from r)
    obtain ⟨d, e1, e⟩ := opt_some e
    obtain ⟨ds, e2, e⟩ := opt_some e
    (first | subst e | (injection e with e; subst e) | (injection e; done) | cases e)
    obtain ⟨_, q⟩ := reads_of S m v u d r1 e1
    obtain ⟨_, q'⟩ := reads_all S m vs rs ds r2 e2
    exact ⟨_, .cons q q'⟩
end
inductive EqV (I : Inj) (h : Heap) (A : Around) (u₁ u₂ : Value) (b : Bool) : Prop | mk (d₁ d₂ : PyData) (as bs : List Addr) (r₁ : Reads h u₁ d₁ as) (r₂ : Reads h u₂ d₂ bs) (c₁ : d₁.canLay0 = true) (c₂ : d₂.canLay0 = true) (hu : A.units + min d₁.depth d₂.depth < cLine) (e : b = PyData.eqv d₁ d₂)
theorem eqV_at {v w : AV} {b : Bool} (e : eqV σ w v = some b) : ∃ d d', toPy σ 400 w = some d' ∧ toPy σ 400 v = some d ∧ (d'.canLay0 = true ∧ d'.depth ≤ 60) ∧ (d.canLay0 = true ∧ d.depth ≤ 60) ∧ b = PyData.eqv d' d := by
  obtain ⟨d', e1, e⟩ := opt_some e
  obtain ⟨d, e2, e⟩ := opt_some e
  obtain ⟨hf, e⟩ := grd_some e
  simp only [fitsEq, Bool.and_eq_true, decide_eq_true_eq] at hf
  exact ⟨d, d', e1, e2, hf.1, hf.2, (Option.some.inj e).symm⟩
theorem eq_ok (S : GSim c.G I σ s.heap) {v₁ v₂ : AV} {u₁ u₂ : Value} {b : Bool} (r₁ : VR I s.heap v₁ u₁) (r₂ : VR I s.heap v₂ u₂) (e : eqV σ v₁ v₂ = some b) : EqV I s.heap c.A u₁ u₂ b := by
  obtain ⟨d, d', e1, e2, h1, h2, hb⟩ := eqV_at e
  obtain ⟨_, q1⟩ := reads_of S _ _ _ _ r₁ e1
  obtain ⟨_, q2⟩ := reads_of S _ _ _ _ r₂ e2
  exact ⟨d', d, _, _, q1, q2, h1.1, h2.1, Nat.lt_of_le_of_lt (Nat.add_le_add_left (Nat.le_trans (Nat.min_le_left ..) (Nat.le_trans h1.2 (by decide : 60 ≤ 210))) _) (Nat.lt_of_le_of_lt (Nat.add_le_add_right (Nat.le_add_right ..) _) c.hA.2.2), hb⟩
theorem isNone_eq {h : Heap} {v : AV} {u : Value} {b : Bool} (r : VR I h v u) : isNoV v = some b → (u == Value.none) = b := by
  induction v using AV.cs with
  | none => cases r.none; exact Option.some.inj
  | bool b => cases r.bool; exact Option.some.inj
  | int i => obtain ⟨_, rfl⟩ := r.int; exact Option.some.inj
  | str x => obtain ⟨_, rfl⟩ := r.str; exact Option.some.inj
  | tup vs => obtain ⟨_, _, rfl, _⟩ := isTup_of r; exact Option.some.inj
  | ref i => obtain ⟨_, _, rfl⟩ := r.ref; exact Option.some.inj
  | old w => exact no
end
end Mine
open PySem PySem.W PySem.Calls PyProof.Rows
namespace Mine
set_option linter.unusedVariables false

section
variable {I : Inj} {h : Heap}
noncomputable abbrev dz (es : List (List Nat × AV)) (us : List Value) : List (Str × Value) := (es.map fun e => (⟨e.1.toArray⟩ : Str)).zip us
section
variable {K : Type} [DecidableEq K] {e : K × AV} {es : List (K × AV)} {k : K}
theorem fk_eq {V : Type} {a : K} {v : V} {l : List (K × V)} (h : a = k) : (((a, v) :: l).find? fun p => decide (p.1 = k)).map (·.2) = some v := by
  rw [List.find?_cons_of_pos (p := fun p : K × V => decide (p.1 = k)) (decide_eq_true h)]; rfl
theorem fk_ne {V : Type} {a : K} {v : V} {l : List (K × V)} (h : ¬ a = k) : (((a, v) :: l).find? fun p => decide (p.1 = k)).map (·.2) = (l.find? fun p => decide (p.1 = k)).map (·.2) := by
  rw [List.find?_cons_of_neg (p := fun p : K × V => decide (p.1 = k)) (fun q => h (of_decide_eq_true q))]
theorem getK_eq (h : e.1 = k) : getK (e :: es) k = some e.2 := fk_eq h
theorem getK_ne (h : ¬ e.1 = k) : getK (e :: es) k = getK es k := fk_ne h
end
theorem at_rel (k : List Nat) {es : List (List Nat × AV)} : ∀ {us : List Value}, VRs I h (es.map (·.2)) us → (∀ v, getK es k = some v → ∃ u, valueAt (dz es us) ⟨k.toArray⟩ = some u ∧ VR I h v u) ∧ (getK es k = none → valueAt (dz es us) ⟨k.toArray⟩ = none) := by
  induction es with
  | nil => exact fun _ => ⟨fun v q => no q, fun _ => rfl⟩
  | cons e es ih =>
    intro us r
    obtain ⟨u, rs, rfl, r1, r2⟩ := VRs.e1 r
    by_cases hk : e.1 = k
    · rw [getK_eq hk, show valueAt (dz (e :: es) (u :: rs)) ⟨k.toArray⟩ = some u from fk_eq (congrArg (fun l : List Nat => (⟨l.toArray⟩ : Str)) hk)]
      exact ⟨fun v q => ⟨u, rfl, Option.some.inj q ▸ r1⟩, fun q => no q.symm⟩
    · rw [getK_ne hk, show valueAt (dz (e :: es) (u :: rs)) ⟨k.toArray⟩ = valueAt (dz es rs) ⟨k.toArray⟩ from fk_ne fun q => hk ((strEq _ _).mp q)]
      exact ih r2
theorem any_rel (k : List Nat) {es : List (List Nat × AV)} : ∀ {us : List Value}, us.length = es.length → ((dz es us).any fun kv => decide (kv.1 = ⟨k.toArray⟩)) = es.any (fun p => decide (p.1 = k)) := by
  induction es with
  | nil => exact fun _ => rfl
  | cons e es ih =>
    intro us r
    rcases us with _ | ⟨u, us⟩
    · exact Nat.noConfusion r
    · show (decide ((⟨e.1.toArray⟩ : Str) = ⟨k.toArray⟩) || (dz es us).any fun kv => decide (kv.1 = ⟨k.toArray⟩)) = (decide (e.1 = k) || es.any fun p => decide (p.1 = k))
      rw [ih (Nat.succ.inj r), decide_eq_decide.2 (strEq _ _)]
theorem map_rel (k : List Nat) {v : AV} {u : Value} (rv : VR I h v u) {es : List (List Nat × AV)} : ∀ {us : List Value}, VRs I h (es.map (·.2)) us →
    ∃ us', us'.length = es.length ∧ (dz es us).map (fun kv => if kv.1 = (⟨k.toArray⟩ : Str) then (kv.1, u) else kv) = dz (es.map fun p => if p.1 = k then (p.1, v) else p) us' ∧ VRs I h ((es.map fun p => if p.1 = k then (p.1, v) else p).map (·.2)) us' := by
  induction es with
  | nil => exact fun _ => ⟨[], rfl, rfl, VRs.nil⟩
  | cons e es ih =>
    intro us r
    obtain ⟨u', rs, rfl, r1, r2⟩ := VRs.e1 r
    obtain ⟨us', a, b, c⟩ := ih r2
    show ∃ us', _ ∧ (if (⟨e.1.toArray⟩ : Str) = ⟨k.toArray⟩ then (⟨e.1.toArray⟩, u) else (⟨e.1.toArray⟩, u')) :: List.map _ (dz es rs) = dz ((if e.1 = k then (e.1, v) else e) :: _) us' ∧ VRs I h ((if e.1 = k then (e.1, v) else e).2 :: _) us'
    by_cases hk : e.1 = k
    · rw [if_pos hk, if_pos (congrArg (fun l : List Nat => (⟨l.toArray⟩ : Str)) hk), b]
      exact ⟨u :: us', congrArg Nat.succ a, rfl, VRs.cons rv c⟩
    · rw [if_neg hk, if_neg (fun q => hk ((strEq _ _).mp q)), b]
      exact ⟨u' :: us', congrArg Nat.succ a, rfl, VRs.cons r1 c⟩
theorem put_rel (k : List Nat) {v : AV} {u : Value} (rv : VR I h v u) {es : List (List Nat × AV)} {us : List Value} (r : VRs I h (es.map (·.2)) us) :
    ∃ us', us'.length = (putK es k v).length ∧ stored (dz es us) ⟨k.toArray⟩ u = dz (putK es k v) us' ∧ VRs I h ((putK es k v).map (·.2)) us' := by
  have hl : us.length = es.length := by simpa using r.length
  unfold stored putK
  rw [any_rel k hl]
  split
  · obtain ⟨us', a, b, c⟩ := map_rel k rv r
    exact ⟨us', by simpa using a, b, c⟩
  · refine ⟨us ++ [u], by simp [hl], ?_, ?_⟩
    · unfold dz
      rw [List.map_append, List.zip_append (by simp [hl])]; rfl
    · rw [List.map_append]; exact VRs.append r (VRs.cons rv VRs.nil)
theorem putK_length {K : Type} [DecidableEq K] (es : List (K × AV)) (k : K) (v : AV) : (putK es k v).length ≤ es.length + 1 := by
  unfold putK; split <;> simp

/-! keys that are tuples -/
noncomputable abbrev tz (es : List (List KI × AV)) (as : List Nat) (us : List Value) : List (List KI × Addr × Value) := (es.map (·.1)).zip (as.zip us)
theorem atT_rel (k : List KI) {es : List (List KI × AV)} : ∀ {as : List Nat} {us : List Value}, as.length = es.length → VRs I h (es.map (·.2)) us →
    (∀ v, getK es k = some v → ∃ a u, atKey (tz es as us) k = some (a, u) ∧ VR I h v u) ∧ (getK es k = none → atKey (tz es as us) k = none) := by
  induction es with
  | nil => exact fun _ _ => ⟨fun v q => no q, fun _ => rfl⟩
  | cons e es ih =>
    intro as us hl r
    rcases as with _ | ⟨a, as⟩
    · exact Nat.noConfusion hl
    obtain ⟨u, rs, rfl, r1, r2⟩ := VRs.e1 r
    by_cases hk : e.1 = k
    · rw [getK_eq hk, show atKey (tz (e :: es) (a :: as) (u :: rs)) k = some (a, u) from fk_eq hk]
      exact ⟨fun v q => ⟨a, u, rfl, Option.some.inj q ▸ r1⟩, fun q => no q.symm⟩
    · rw [getK_ne hk, show atKey (tz (e :: es) (a :: as) (u :: rs)) k = atKey (tz es as rs) k from fk_ne hk]
      exact ih (Nat.succ.inj hl) r2
theorem mapT_rel (k : List KI) {v : AV} {u : Value} (rv : VR I h v u) {es : List (List KI × AV)} : ∀ {as : List Nat} {us : List Value}, as.length = es.length → VRs I h (es.map (·.2)) us →
    ∃ us', us'.length = es.length ∧ (tz es as us).map (putAt k u) = tz (es.map fun p => if p.1 = k then (p.1, v) else p) as us' ∧ VRs I h ((es.map fun p => if p.1 = k then (p.1, v) else p).map (·.2)) us' := by
  induction es with
  | nil => exact fun _ _ => ⟨[], rfl, rfl, VRs.nil⟩
  | cons e es ih =>
    intro as us hl r
    rcases as with _ | ⟨a, as⟩
    · exact Nat.noConfusion hl
    obtain ⟨u', rs, rfl, r1, r2⟩ := VRs.e1 r
    obtain ⟨us', q, b, c⟩ := ih (as := as) (Nat.succ.inj hl) r2
    show ∃ us', _ ∧ putAt k u (e.1, a, u') :: List.map _ (tz es as rs) = tz ((if e.1 = k then (e.1, v) else e) :: _) (a :: as) us' ∧ VRs I h ((if e.1 = k then (e.1, v) else e).2 :: _) us'
    unfold putAt at b ⊢
    by_cases hk : e.1 = k
    · rw [if_pos hk, if_pos hk, b]
      exact ⟨u :: us', congrArg Nat.succ q, rfl, VRs.cons rv c⟩
    · rw [if_neg hk, if_neg hk, b]
      exact ⟨u' :: us', congrArg Nat.succ q, rfl, VRs.cons r1 c⟩
theorem getK_any (es : List (List KI × AV)) (k : List KI) : es.any (fun p => decide (p.1 = k)) = (getK es k).isSome := by
  unfold getK
  rw [Option.isSome_map, Bool.eq_iff_iff, List.find?_isSome]
  simp
theorem putT_rel (k : List KI) {v : AV} {u : Value} (rv : VR I h v u) {es : List (List KI × AV)} {as : List Nat} {us : List Value} (hl : as.length = es.length) (r : VRs I h (es.map (·.2)) us) (a : Nat) :
    ∃ as' us', as'.length = (putK es k v).length ∧ storedH (tz es as us) k a u = tz (putK es k v) as' us' ∧ (∀ x ∈ as', x ∈ as ∨ x = a) ∧ VRs I h ((putK es k v).map (·.2)) us' := by
  have hu : us.length = es.length := by simpa using r.length
  have at1 := atT_rel k hl r
  unfold putK
  rw [getK_any]
  cases hg : getK es k with
  | some v' =>
    obtain ⟨a', u', q, _⟩ := at1.1 v' hg
    rw [storedH_old q]
    obtain ⟨us', x, b, c⟩ := mapT_rel k rv hl r
    exact ⟨as, us', by simpa using hl, b, fun x hx => .inl hx, c⟩
  | none =>
    rw [storedH_new (at1.2 hg)]
    refine ⟨as ++ [a], us ++ [u], by simp [hl], ?_, fun x hx => ?_, ?_⟩
    · simp only [Option.isSome_none, Bool.false_eq_true, if_false]
      unfold tz
      rw [List.map_append, List.zip_append (l₁ := as) (by simp [hl, hu]), List.zip_append (by simp [hl, hu])]
      rfl
    · rcases List.mem_append.mp hx with q | q
      · exact .inl q
      · exact .inr (List.mem_singleton.mp q)
    · simp only [Option.isSome_none, Bool.false_eq_true, if_false, List.map_append]
      exact VRs.append r (VRs.cons rv VRs.nil)
end

section
variable {G : G0} {t : Tx} {c : Cx} {ρ : Vars} {I : Inj} {s : Shared} {σ : Sto} {R : Value → Shared → Prop}
theorem notSys {h : Heap} (S : GSim G I σ h) {p : Nat × Nat} (hp : p ∈ I) : ((p.1 : Addr) == sysModules) = false :=
  beq_eq_false_iff_ne.mpr fun e => absurd (S.big p hp) (by rw [show p.1 = 1 from e]; decide)
theorem get_rel (k : List Nat) {h : Heap} {es : List (List Nat × AV)} {us : List Value} (r : VRs I h (es.map (·.2)) us) : (valueAt (dz es us) ⟨k.toArray⟩).isSome = (getK es k).isSome := by
  have z := at_rel k r
  cases hg : getK es k with
  | some v => obtain ⟨u, a, _⟩ := z.1 v hg; rw [a]; rfl
  | none => rw [z.2 hg]; rfl
theorem dictO_of {o : Option AO} {es : List (List Nat × AV)} : dictO o = some es → o = some (.dict es) := by
  induction o with
  | none => exact no
  | some o => rcases o <;> first | exact no | exact fun h => congrArg (fun z => some (AO.dict z)) (Option.some.inj h)
theorem oldIs_of {a : Nat} {v : AV} : oldIs a v = true → v = .old (.ref a) := by
  induction v using AV.cs with
  | old w => induction w with
    | ref b => exact fun h => congrArg (fun b => AV.old (.ref b)) (beq_iff_eq.mp h)
    | _ => exact fun h => nomatch h
  | _ => exact fun h => nomatch h
theorem VR.ofOld {h : Heap} {v : AV} {a : Nat} {u : Value} (r : VR I h v u) (e : oldIs a v = true) : u = .ref a := by cases oldIs_of e; exact r.old
theorem cmp_ok (S : GSim c.G I σ s.heap) {op : CmpOp} {v₁ v₂ : AV} {u₁ u₂ : Value} {b : Bool} (r₁ : VR I s.heap v₁ u₁) (r₂ : VR I s.heap v₂ u₂) (e : cmpV op v₁ v₂ σ = some b)
    (q : ∀ tk, R (.bool b) { s with toks := tk }) : c.wp (compareOp op u₁ u₂) R s := by
  have two : ∀ {f : Int → Int → Bool}, lt2 v₁ v₂ f = some b → ∃ i j t₁ t₂, u₁ = .int i t₁ ∧ u₂ = .int j t₂ ∧ f i j = b := fun e => by
    obtain ⟨i, e₁, e⟩ := opt_some e
    obtain ⟨j, e₂, e⟩ := opt_some e
    obtain ⟨t₁, h₁⟩ := r₁.ofInt e₁
    obtain ⟨t₂, h₂⟩ := r₂.ofInt e₂
    exact ⟨i, j, t₁, t₂, h₁, h₂, Option.some.inj e⟩
  induction op with
  | Eq =>
    obtain ⟨d₁, d₂, as, bs, q1, q2, c1, c2, hu, rfl⟩ := eq_ok S r₁ r₂ e
    exact SeqAt.compareEq_reads q1 q2 c1 c2 hu (q s.toks)
  | NotEq =>
    obtain ⟨x, e, h⟩ := opt_some e
    obtain ⟨d₁, d₂, as, bs, q1, q2, c1, c2, hu, rfl⟩ := eq_ok S r₁ r₂ e
    (first | subst h | (injection h with h; subst h) | (injection h; done) | cases h)
    exact SeqAt.compareNe_reads q1 q2 c1 c2 hu (q s.toks)
  | Lt => obtain ⟨i, j, t₁, t₂, rfl, rfl, rfl⟩ := two e; exact PyProof.Rows.lt_int (q s.toks)
  | LtE => obtain ⟨i, j, t₁, t₂, rfl, rfl, rfl⟩ := two e; exact PyProof.Rows.le_int (q s.toks)
  | Gt => obtain ⟨i, j, t₁, t₂, rfl, rfl, rfl⟩ := two e; exact PyProof.Rows.gt_int (q s.toks)
  | Is =>
    obtain ⟨_, e₂, e⟩ := opt_some e
    rw [r₂.ofNone e₂]
    exact is_none (isNone_eq r₁ e ▸ q s.toks)
  | IsNot =>
    obtain ⟨_, e₂, e⟩ := opt_some e
    obtain ⟨x, e, h⟩ := opt_some e
    rw [r₂.ofNone e₂]
    refine isNot_none ?_
    rw [isNone_eq r₁ e, Option.some.inj h]
    exact q s.toks
  | In =>
    obtain ⟨x, e₁, e⟩ := opt_some e
    obtain ⟨es, e₂, e⟩ := opt_some e
    obtain ⟨t₁, rfl⟩ := r₁.ofStr e₁
    obtain ⟨p, rfl, hp, us, hl, hd, hr⟩ := mem_at S r₂ (dictO_of e₂)
    refine wpAny_in_of (strKind_is _ _ _ t₁) (notSys S hp) hd.mapOf ?_
    rw [get_rel x hr, Option.some.inj e]
    exact q _
  | NotIn =>
    obtain ⟨x, e₁, e⟩ := opt_some e
    obtain ⟨⟨h₂, hx⟩, e'⟩ := grd_some e
    obtain ⟨t₁, rfl⟩ := r₁.ofStr e₁
    cases r₂.ofOld h₂
    obtain ⟨as, hm⟩ := c.G.mods
    refine SeqAt.notIn_tuple_reads (PyProof.Rows.Reads.keeps (fun b o e => S.base b o e) hm) (.str _ t₁) (by decide +kernel) hx ?_ ?_
    · have := c.hA.2.2
      simp only [PyData.depth]; lia
    have eq : ∀ y : List Nat, ((⟨y.toArray⟩ : Str) == ⟨x.toArray⟩) = (x == y) := fun y => by
      rw [Bool.eq_iff_iff, beq_iff_eq, beq_iff_eq, strEq]; exact eq_comm
    simp only [List.any_cons, List.any_nil, PyData.eqv, eq, Bool.or_false, ← Bool.or_assoc]
    rw [Option.some.inj e']
    exact q _
  | _ => exact no e
end
end Mine
open PySem PySem.W PySem.Calls PyProof.Rows
namespace Mine
set_option linter.unusedVariables false

section
variable {t : Tx}
theorem sound_cmp {op : CmpOp} {l r : PySem.Expr} {p q : PE} {pos : Pos} (h₁ : SE t l p) (h₂ : SE t r q) (hm : behindInMarks op r = false) : SE t (.Compare l [op] [r] pos) (.cmp op p q) := fun c _ _ _ _ _ _ N he k =>
  wpAny_Compare1 (h₁ c N he.dnb fun _ _ _ _ _ he x r₁ => h₂ c (N.next x) he.dnb fun _ _ _ _ _ he y r₂ => by
    obtain ⟨b, e, he⟩ := he.tpo
    exact cmp_ok y.sim (r₁.ext y.ext) r₂ e fun tk => k _ _ _ _ _ he (x.trans y).tok rfl) hm
theorem test_cmp {op : CmpOp} {l r : PySem.Expr} {p q : PE} {pos : Pos} (h₁ : SE t l p) (h₂ : SE t r q) (hm : behindInMarks op r = false) : SB t (.Compare l [op] [r] pos) (.cmp op p q) := fun c _ _ _ _ _ _ N he k =>
  wpAny_isTrue_Compare1 (h₁ c N he.dnb fun _ _ _ _ _ he x r₁ => h₂ c (N.next x) he.dnb fun _ _ _ _ _ he y r₂ => by
    obtain ⟨b, e, _, hb, he⟩ := he.tpo
    (first | subst hb | (injection hb with hb; subst hb) | (injection hb; done) | cases hb)
    exact cmp_ok y.sim (r₁.ext y.ext) r₂ e fun tk => wpAny_truthy_bool (k _ _ _ _ he (x.trans y).tok)) hm
theorem sound_not {e : PySem.Expr} {p : PE} {pos : Pos} (h : SE t e p) : SE t (.UnaryOp .Not e pos) (.not p) := fun c _ _ _ _ _ _ N he k =>
  wpAny_UnaryOp (h c N he.dnbB fun _ _ _ _ _ he x r => by
    obtain ⟨b, e, he⟩ := he
    cases r.ofBool e
    exact not_value (wpAny_truthy_bool (k _ _ _ _ _ he x rfl)))
theorem test_not {e : PySem.Expr} {p : PE} {pos : Pos} (h : SB t e p) : SB t (.UnaryOp .Not e pos) (.not p) := fun c _ _ _ _ _ _ N he k =>
  wpAny_isTrue_Not (h c N he.dnbB fun b _ _ _ he x => by
    obtain ⟨_, hb, he⟩ := he
    (first | subst hb | (injection hb with hb; subst hb) | (injection hb; done) | cases hb)
    exact k _ _ _ _ he x)
theorem sound_and {l r : PySem.Expr} {p q : PE} {pos : Pos} (h₁ : SE t l p) (h₂ : SE t r q) : SE t (.BoolOp .And [l, r] pos) (.and p q) := fun c _ _ _ _ _ _ N he k =>
  wpAny_And2 (h₁ c N he.dnbB fun _ _ _ _ _ he x r => by
    obtain ⟨b, e, he⟩ := he
    cases r.ofBool e
    refine wpAny_truthy_bool ?_
    induction b with
    | true =>
      rw [if_pos rfl]
      refine h₂ c (N.next x) he.ct.dnbB fun u v _ _ _ he y r => ?_
      obtain ⟨b, e, he⟩ := he
      cases asBool_of e
      exact k _ _ _ _ _ he (x.trans y) r
    | false =>
      rw [if_neg Bool.false_ne_true]
      exact k _ _ _ _ _ he x rfl)
theorem sound_or {l r : PySem.Expr} {p q : PE} {pos : Pos} (h₁ : SE t l p) (h₂ : SE t r q) : SE t (.BoolOp .Or [l, r] pos) (.or p q) := fun c _ _ _ _ _ _ N he k =>
  wpAny_Or2 (h₁ c N he.dnbB fun _ _ _ _ _ he x r => by
    obtain ⟨b, e, he⟩ := he
    cases r.ofBool e
    refine wpAny_truthy_bool ?_
    induction b with
    | true =>
      rw [if_pos rfl]
      exact k _ _ _ _ _ he x rfl
    | false =>
      rw [if_neg Bool.false_ne_true]
      refine h₂ c (N.next x) he.cf.dnbB fun u v _ _ _ he y r => ?_
      obtain ⟨b, e, he⟩ := he
      cases asBool_of e
      exact k _ _ _ _ _ he (x.trans y) r)
theorem test_and {l r : PySem.Expr} {p q : PE} {pos : Pos} (h₁ : SB t l p) (h₂ : SB t r q) : SB t (.BoolOp .And [l, r] pos) (.and p q) := fun c _ _ _ _ _ _ N he k =>
  wpAny_isTrue_BoolOp (wpAny_allTrue_And_cons (h₁ c N he.dnbB fun b _ _ _ he x => by
    induction b with
    | true =>
      rw [if_pos rfl]
      refine wpAny_allTrue_And_cons (h₂ c (N.next x) he.ct.dnbB fun b _ _ _ he y => ?_)
      obtain ⟨_, hb, he⟩ := he
      (first | subst hb | (injection hb with hb; subst hb) | (injection hb; done) | cases hb)
      have z := k _ _ _ _ he (x.trans y)
      (first | subst b | (injection b with b; subst b) | (injection b; done) | cases b)
      · rw [if_neg Bool.false_ne_true]; exact z
      · rw [if_pos rfl]; exact wpAny_allTrue_And_nil z
    | false =>
      obtain ⟨_, hb, he⟩ := he
      (first | subst hb | (injection hb with hb; subst hb) | (injection hb; done) | cases hb)
      rw [if_neg Bool.false_ne_true]
      exact k _ _ _ _ he x))
theorem test_or {l r : PySem.Expr} {p q : PE} {pos : Pos} (h₁ : SB t l p) (h₂ : SB t r q) : SB t (.BoolOp .Or [l, r] pos) (.or p q) := fun c _ _ _ _ _ _ N he k =>
  wpAny_isTrue_BoolOp (wpAny_allTrue_Or_cons (h₁ c N he.dnbB fun b _ _ _ he x => by
    induction b with
    | false =>
      rw [if_neg Bool.false_ne_true]
      refine wpAny_allTrue_Or_cons (h₂ c (N.next x) he.cf.dnbB fun b _ _ _ he y => ?_)
      obtain ⟨_, hb, he⟩ := he
      (first | subst hb | (injection hb with hb; subst hb) | (injection hb; done) | cases hb)
      have z := k _ _ _ _ he (x.trans y)
      (first | subst b | (injection b with b; subst b) | (injection b; done) | cases b)
      · rw [if_neg Bool.false_ne_true]; exact wpAny_allTrue_Or_nil z
      · rw [if_pos rfl]; exact z
    | true =>
      obtain ⟨_, hb, he⟩ := he
      (first | subst hb | (injection hb with hb; subst hb) | (injection hb; done) | cases hb)
      rw [if_pos rfl]
      exact k _ _ _ _ he x))
theorem sound_ite {d a b : PySem.Expr} {pc pa pb : PE} {pos : Pos} (h : SB t d pc) (h₁ : SE t a pa) (h₂ : SE t b pb) : SE t (.IfExp d a b pos) (.ite pc pa pb) := fun c _ _ _ _ _ _ N he k =>
  wpAny_IfExp (h c N he.dnbB fun b _ _ _ he x => by
    induction b with
    | true => rw [if_pos rfl]; exact h₁ c (N.next x) he fun u v _ _ _ he y r => k u v _ _ _ he (x.trans y) r
    | false => rw [if_neg Bool.false_ne_true]; exact h₂ c (N.next x) he fun u v _ _ _ he y r => k u v _ _ _ he (x.trans y) r)
theorem OK.condB {o o' : Option (AV × Sto)} {b : Bool} {Q : AV → Sto → Prop} (h : OK (cond b o o') Q) : OK (if b = true then o else o') Q := by rcases b <;> exact h
theorem test_ite {d a b : PySem.Expr} {pc pa pb : PE} {pos : Pos} (h : SB t d pc) (h₁ : SB t a pa) (h₂ : SB t b pb) : SB t (.IfExp d a b pos) (.ite pc pa pb) := fun c _ _ _ _ _ _ N he k => by
  rw [arm_isTrue_IfExp]
  refine wpAny_bind (h c N he.dnbB fun b _ _ _ he x => ?_)
  induction b with
  | true => rw [if_pos rfl]; exact h₁ c (N.next x) he fun u _ _ _ he y => k u _ _ _ he (x.trans y)
  | false => rw [if_neg Bool.false_ne_true]; exact h₂ c (N.next x) he fun u _ _ _ he y => k u _ _ _ he (x.trans y)
end
section
variable {G : G0} {I : Inj}
/-! attributes -/
theorem handed_of {h : Heap} {v : AV} {u : Value} (r : VR I h v u) : isOld v = false → handedIn u = true := by
  induction v using AV.cs with
  | none => cases r.none; exact fun _ => rfl
  | bool b => cases r.bool; exact fun _ => rfl
  | int i => obtain ⟨t, rfl⟩ := r.int; exact fun _ => rfl
  | str x => obtain ⟨t, rfl⟩ := r.str; exact fun _ => rfl
  | tup vs => obtain ⟨a, xs, rfl, _⟩ := isTup_of r; exact fun _ => rfl
  | ref i => obtain ⟨p, _, rfl⟩ := r.ref; exact fun _ => rfl
  | old w => exact fun h => nomatch h
theorem lookIn_ns {h : Heap} {a : Nat} {m : Str → Option Value} {o : Obj} (N : h.Ns a m) (ho : h.get? a = some o) (x : Str) : lookIn x o = some (m x) := by
  obtain ⟨o', es, ep, ho', hd, hk, hm⟩ := N
  rw [ho] at ho'; (first | subst ho' | (injection ho' with ho'; subst ho') | (injection ho'; done) | cases ho')
  have z := hm x
  unfold nsFind findBy at z
  rw [← Array.find?_toList] at z
  unfold lookIn
  rw [hd]
  have z : Option.map (fun x => x.val) (List.find? (fun e => e.key.isStr x) es.toList) = m x := z
  dsimp only
  cases he : List.find? (fun e => e.key.isStr x) es.toList with
  | some e => rw [he] at z; exact congrArg some z
  | none =>
    rw [he] at z
    refine (if_neg fun q => ?_).trans (congrArg some z)
    rw [List.any_eq_true] at q
    obtain ⟨e, he, q⟩ := q
    obtain ⟨nn, tt, hkk⟩ := hk e (by simpa using he)
    simp [DictEntry.refKey, hkk] at q

theorem inst_at {h : Heap} {C : Addr} {fs : List (Nat × AV)} {p : Nat × Nat} (R : OR G.prog G.w I h (.inst C fs) p) : C ∈ instCls ∧ ∃ o m, InstAt h p.1 (instObj C p.2) C (some o) ∧ h.get? p.2 = some o ∧ h.Ns p.2 m ∧ FieldsRel I h m fs := by
  obtain ⟨z, a, ne, ⟨es, ep, b1, b2⟩, m, c, d⟩ := R
  exact ⟨z, _, m, ⟨a, rfl, rfl, b1⟩, b1, c, d⟩
theorem inK {h : Heap} {σ : Sto} (S : GSim G I σ h) : G.K.In h := G.X.keeps fun b o e => S.base b o e
theorem getField {c : Cx} {s : Shared} {σ : Sto} {R : Value → Shared → Prop} {C : Addr} {fs : List (Nat × AV)} {p : Nat × Nat} (S : GSim c.G I σ s.heap) (T : OR c.G.prog c.G.w I s.heap (.inst C fs) p) {f : Nat} {v : AV} (e₀ : fget C fs f = some v) (o : isOld v = false) {b : Bool}
    (k : ∀ u, VR I s.heap v u → R u { s with toks := s.toks + 1 }) : c.wp (getAttr (.ref p.1) (fname f) b) R s := by
  obtain ⟨hC, od, m, ia, hd, hns, hf⟩ := inst_at T
  obtain ⟨hg, e⟩ := fget_some e₀
  obtain ⟨hl, u, hu, r⟩ := hf.1 f v e
  refine get_value (inK S) ia (plainGet_of (c.G.kf.get C hC)).1 ?_ (handed_of r o) (k u r)
  obtain ⟨cd, hc, hdd⟩ := any_some (c.G.kf.dict C hC)
  have ho : W.ownOf cd (some od) (fname f) = some (some u) := (if_pos hdd).trans ((lookIn_ns hns hd _).trans (congrArg some hu))
  unfold findObj
  rw [hc, Option.bind_some, c.G.kf.fld C hC f hl hg, Option.bind_some]
  rw [ho]
  rfl
theorem sound_attr {t : Tx} {e : PySem.Expr} {p : PE} {x : Str} {f : Nat} {pos : Pos} (h : SE t e p) (hx : x = fname f) (hb : ∀ name env x, attributeBase e name env x = x) : SE t (.Attribute e x pos) (.attr p f) := fun c _ _ _ _ _ _ N he k =>
  Attribute_any_ (h c N he.dnb fun _ _ _ _ _ he x r => by
    obtain ⟨⟨D, fs⟩, hm, he⟩ := he.tpo
    obtain ⟨u, hu, he⟩ := he.tpo
    obtain ⟨ho, he⟩ := he.drg
    obtain ⟨p, rfl, _, T⟩ := mem_at x.sim r (instO_of hm)
    subst hx
    exact getField x.sim T hu ho fun u r => k _ _ _ _ _ he x.tok r) (by rw [arm_eval_Attribute, hb])
end
end Mine
open PySem PySem.W PySem.Calls PyProof.Rows
namespace Mine
set_option linter.unusedVariables false

section
variable {G : G0} {t : Tx} {c : Cx} {ρ : Vars} {I : Inj} {s : Shared} {σ : Sto} {R : Value → Shared → Prop}
/-- the one at an address is changed in place -/
theorem put_at {h h' : Heap} (S : GSim G I σ h) {i : Nat} {p : Nat × Nat} {o : AO} {a : Nat} (e : I[i]? = some p) (hs : Heap.SameBut a h h') (ha : a = p.1 ∨ a = p.2) (hv : ∃ o, h'.get? a = some o) (R : Ext I h I h' → OR G.prog G.w I h' o p) : GSim G I (σ.set i o) h' ∧ Ext I h I h' := by
  have hf : a ∈ foot I := by rcases ha with rfl | rfl; exact (get_foot e).1; exact (get_foot e).2
  exact Sim.put S e hs ha hv (R (ExtX.same hs (.inl hf) hv))

/-! method calls -/
noncomputable abbrev Trees (es : List PySem.Expr) (env : Env) : Prop := starEach es env = es.map fun e => (false, eval e env)
theorem Call_meth {o : PySem.Expr} {x : Str} {apos pos : Pos} {es : List PySem.Expr} (hb : attributeBase o x c.env (eval o c.env) = eval o c.env) (hl : (apos.endLine == pos.line) = true) (ht : Trees es c.env) (hn : es.length < 20)
    (h : c.wp (eval o c.env) (fun ov s₁ => c.wp (getMethod ov x (do return (← importBound o c.env).getD true)) (fun fx s₂ => c.wp (callWith pos fx.1 fx.2 (backTo pos (starEach es c.env)) []) R s₂) s₁) s) :
    c.wp (eval (.Call (.Attribute o x apos) es [] pos) c.env) R s := by
  refine MethodCall_ h ?_
  have hform : methodCallForm (es.length + ([] : List Keyword).length) (backTo pos (starEach es c.env)) (backToKw pos (keywordEach [] c.env)) = true := by
    rw [show backToKw pos (keywordEach [] c.env) = [] from rfl]
    unfold methodCallForm backTo
    rw [ht]
    simp
    lia
  rw [arm_eval_Call, hb]
  unfold methodCall calleeOf methodCallPos
  rw [hform, hl]
  rfl
theorem evalArgs_any {M : Model} {A : Around} {E : Value → Shared → Prop} {f : Value} {l : List (Bool × Sem Value)} {Q : Args → Shared → Prop} (hp : l.all (fun x => !x.1) = true) (h : wpAny M A (spliced l) (fun vs s' => Q ⟨vs, []⟩ s') E s) : wpAny M A (evalArgs f true l []) Q E s := by
  induction l using lcs with
  | nil =>
    unfold evalArgs
    show wpAny M A (spliced [] >>= _) Q E s
    refine wpAny_bind (wpAny_mono h (fun vs s' h' => ?_) fun _ _ x => x)
    refine wpAny_bind (wpAny_pure ?_)
    refine wpAny_holding ?_
    exact wpAny_bind (wpAny_pure (wpAny_bind (wpAny_pure (wpAny_pure h'))))
  | cons x l =>
    obtain ⟨b, x⟩ := x
    simp at hp
    obtain ⟨rfl, hp⟩ := hp
    exact evalArgs_plain h

/-! an item -/
theorem idx_some {v : AV} {k : Nat} (h : idx v = some k) : ∃ i : Int, v = .int i ∧ 0 ≤ i ∧ i < 1000000 ∧ i.toNat = k := by
  obtain ⟨i, e, h⟩ := opt_some h
  obtain ⟨hk, h⟩ := grd_some h
  exact ⟨i, asInt_of e, hk.1, hk.2, Option.some.inj h⟩
theorem list_get {vs : List AV} {xs : Array Value} {k : Nat} {v : AV} {h : Heap} (r : VRs I h vs xs.toList) (e : vs[k]? = some v) : ∃ u, xs[k]? = some u ∧ VR I h v u ∧ k < xs.size :=
  let ⟨u, hu, ru⟩ := r.at e
  have hx : xs[k]? = some u := Array.getElem?_toList.symm.trans hu
  ⟨u, hx, ru, (Array.getElem?_eq_some_iff.mp hx).1⟩
theorem item_ok {value slice : PySem.Expr} {o i v : AV} {uo ui : Value} (S : GSim c.G I σ s.heap) (ro : VR I s.heap o uo) (ri : VR I s.heap i ui) (e : itemV o i σ = some v) (hs : ∀ o i, subscripted slice false o i = operate [o, i] (getItem o i))
    (q : ∀ u tk, VR I s.heap v u → R u { s with toks := tk }) : c.wp (subscriptTail value slice uo ui) R s := by
  induction o using AV.cs with
  | tup vs =>
    obtain ⟨_, hk, e⟩ := opt_some e
    obtain ⟨k, rfl, h0, h1, rfl⟩ := idx_some hk
    obtain ⟨a, xs, rfl, _, ht, hr⟩ := isTup_of ro
    obtain ⟨t, rfl⟩ := ri.int
    obtain ⟨u, hx, r, hb⟩ := list_get hr e
    exact PyProof.Rows.tail_any ht.typeIs slot_tuple_getitem.lookup (getItem_tuple ht (by lia) (by lia) (seqIndex_of h0 (by lia)) hx (q u s.toks r)) (hs _ _)
  | ref r => induction i using AV.cs with
    | int j =>
      obtain ⟨vs, hv, e⟩ := opt_some e
      obtain ⟨_, hi, e⟩ := opt_some e
      obtain ⟨k, hk, h0, h1, rfl⟩ := idx_some hi
      (first | subst hk | (injection hk with hk; subst hk) | (injection hk; done) | cases hk)
      obtain ⟨p, rfl, _, us, ⟨n, ho⟩, hr⟩ := mem_at S ro (listO_of hv)
      obtain ⟨t, rfl⟩ := ri.int
      obtain ⟨u, hx, r, hb⟩ := list_get hr e
      have hl : s.heap.IsList p.1 us := ⟨_, ho, rfl, n, rfl⟩
      exact PyProof.Rows.tail_any hl.typeIs slot_list_getitem.lookup (wpAny_getItem_list hl h0 (by lia) hx (q u s.toks r)) (hs _ _)
    | str x =>
      obtain ⟨es, hv, e⟩ := opt_some e
      obtain ⟨p, rfl, _, us, hl, hd, hr⟩ := mem_at S ro (dictO_of hv)
      obtain ⟨t, rfl⟩ := ri.str
      obtain ⟨u, hu, r⟩ := (at_rel x hr).1 v e
      exact PyProof.Rows.tail_any hd.mapOf.typeIs slot_dict_getitem.lookup (wpAny_getItem_of (strKind_is _ _ _ t) hd.mapOf hu (q u _ r)) (hs _ _)
    | _ => exact no e
  | old w =>
    obtain ⟨h, e₁⟩ := grd_some e
    obtain ⟨x, hx, e₂⟩ := opt_some e₁
    cases ro.ofOld h
    obtain ⟨t, rfl⟩ := ri.ofStr hx
    obtain ⟨kvs, hd, hb⟩ := c.G.bdict
    have hd' := hd.keep (fun b o e => S.base b o e)
    obtain ⟨u, hu, r⟩ := hb x v e₂
    exact PyProof.Rows.tail_any hd'.mapOf.typeIs slot_dict_getitem.lookup (wpAny_getItem_of (strKind_is _ _ _ t) hd'.mapOf hu (q u _ (r _ _))) (hs _ _)
  | str x =>
    obtain ⟨_, hk, e⟩ := opt_some e
    obtain ⟨k, rfl, h0, h1, rfl⟩ := idx_some hk
    obtain ⟨d, hd, e⟩ := opt_some e
    (first | subst e | (injection e with e; subst e) | (injection e; done) | cases e)
    obtain ⟨t, rfl⟩ := ri.int
    obtain ⟨t', rfl⟩ := ro.str
    have hl : k.toNat < x.length := (List.getElem?_eq_some_iff.mp hd).1
    refine PyProof.Rows.tail_any (typeIs_str s _ _) slot_str_getitem.lookup (getItem_str (c := d) (by simp only [Bool.or_eq_false_iff, decide_eq_false_iff_not]; lia) ?_ (q _ _ (VR.mkStr [d] _))) (hs _ _)
    rw [seqIndex_of h0 (by show k < ((x.toArray.size : Nat) : Int); simp; lia)]
    simpa using hd
  | _ => exact no e
theorem sound_item {o i : PySem.Expr} {p q : PE} {pos : Pos} (h₁ : SE t o p) (h₂ : SE t i q) (hs : ∀ x y, subscripted i false x y = operate [x, y] (getItem x y)) : SE t (.Subscript o i pos) (.item p q) := fun c _ _ _ _ _ _ N he k =>
  Subscript_ (h₁ c N he.dnb fun _ _ _ _ _ he x r₁ => h₂ c (N.next x) he.dnb fun _ _ _ _ _ he y r₂ => by
    obtain ⟨w, hw, he⟩ := he.tpo
    exact item_ok y.sim (r₁.ext y.ext) r₂ hw hs fun u tk r => k u w _ _ _ he (x.trans y).tok r)
end
end Mine
open PySem PySem.W PySem.Calls PyProof.Rows
namespace Mine
set_option linter.unusedVariables false

section
variable {t : Tx} {c : Cx} {ρ : Vars} {I : Inj} {s : Shared} {σ : Sto} {R : Value → Shared → Prop}
theorem back_plain {es : List PySem.Expr} {pos : Pos} {env : Env} (ht : Trees es env) : (backTo pos (starEach es env)).any (·.1) = false ∧ (backTo pos (starEach es env)).all (fun x => !x.1) = true := by
  unfold backTo
  rw [ht]
  simp
theorem callB {es : List PySem.Expr} {pos : Pos} {id : String} {first : List Value} (ht : Trees es c.env)
    (h : c.wp (spliced (backTo pos (starEach es c.env))) (fun vs s' => c.wp (call (.builtin id) (first ++ vs)) R s') s) : c.wp (callWith pos (.builtin id) first (backTo pos (starEach es c.env)) []) R s :=
  callWith_builtin (back_plain ht).1 (evalArgs_any (back_plain ht).2 h)
theorem callT {es : List PySem.Expr} {pos : Pos} {id : String} {first : List Value} (ht : Trees es c.env)
    (h : c.wp (spliced (backTo pos (starEach es c.env))) (fun vs s' => c.wp (call (.type id) (first ++ vs)) R s') s) : c.wp (callWith pos (.type id) first (backTo pos (starEach es c.env)) []) R s :=
  PyProof.Rows.callWith_type (back_plain ht).1 (evalArgs_any (back_plain ht).2 h)
theorem callK {es : List PySem.Expr} {pos : Pos} {K : Frag} {f : Value} {first : List Value} (ht : Trees es c.env) (hk : keepIn K f = true)
    (h : c.wp (spliced (backTo pos (starEach es c.env))) (fun vs s' => K.In s'.heap ∧ c.wp (call f (first ++ vs)) R s') s) : c.wp (callWith pos f first (backTo pos (starEach es c.env)) []) R s :=
  callWith_of (by rw [(back_plain ht).1]; rfl) (keeps_K hk) (evalArgs_any (back_plain ht).2 h)
/-- a name called: the name's value first -/
theorem Call_glob {x : Str} {p pos : Pos} {es : List PySem.Expr} {f : Value} (hx : t.name x = some (.inr f)) (N : Now t c I s σ ρ)
    (h : c.wp (callWith pos f [] (backTo pos (starEach es c.env)) []) R s) : c.wp (eval (.Call (.Name x p) es [] pos) c.env) R s :=
  wpAny_Call_NameR (load_glob hx N h)
theorem one {e : PySem.Expr} {p : PE} (hs : Star e) (h : SE t e p) : SEs t [e] [p] := SEs.cons hs h SEs.nil
theorem tr1 {e : PySem.Expr} {env : Env} (hs : Star e) : Trees [e] env := hs env []
theorem tr2 {e f : PySem.Expr} {env : Env} (hs : Star e) (hs' : Star f) : Trees [e, f] env := (hs env [f]).trans (congrArg _ (hs' env []))
/-- one argument -/
theorem ev1s {e : PySem.Expr} {p : PE} {pos : Pos} {Q : AV → Sto → Prop} {P : List Value → Shared → Prop} (hs : Star e) (h : SE t e p) (N : Now t c I s σ ρ) (he : OK (evE c.C p ρ σ) Q)
    (k : ∀ u v σ' I' s', Q v σ' → St nX c.G I s I' σ' s' → VR I' s'.heap v u → P [u] s') : c.wp (spliced (backTo pos (starEach [e] c.env))) P s :=
  wpAny_items_cons (h c N he fun u v σ' I' s' h x r => wpAny_items_nil (k u v σ' I' s' h x r)) (hs c.env [])

theorem meets_len_tdict {K : Type} [DecidableEq K] {prog : Program} {w : World} (knd : HeapKind prog w K) (d : Addr) (hd : (d == sysModules) = false) :
    MeetsIn prog w (Builtin.«dict.__len__» ⟨[.ref d], []⟩) (fun _ R s => ∃ xs, s.heap.DictOfH knd d xs ∧ R (.ok (.ret (.int xs.length s.toks))) { s with toks := s.toks + 1 }) :=
  .of_wp fun A R s ⟨xs, hm, h⟩ => by
    obtain ⟨o, es, ep, ho, hc, hdat, he, hk, hn⟩ := hm
    have sz := size_of_entries he
    show wpAny _ _ (dictSize d >>= _) _ _ s
    unfold dictSize
    refine wpAny_bind (wpAny_bind (wpAny_dictEntries ho hdat (wpAny_pure ?_)))
    show wpAny _ _ (Builtin.Dict.pendingCount d >>= _) _ _ s
    refine wpAny_bind (wpAny_pendingCount_other hd (wpAny_ret_mkInt ?_))
    rw [Nat.add_zero, sz]; exact h
theorem len_tdict {K : Type} [DecidableEq K] {prog : Program} {w : World} {knd : HeapKind prog w K} {d : Addr} {xs : List (K × Addr × Value)} {A : Around} {E Q : Value → Shared → Prop} (hd : (d == sysModules) = false) (hm : s.heap.DictOfH knd d xs) (hfit : (xs.length : Int) < 2 ^ 63)
    (h : ∀ t tk, Q (.int xs.length t) { s with toks := tk }) : wpAny (model prog w) A (call (.builtin "len") [.ref d]) Q E s := by
  refine Calls.call_function_entry kind_len plain_len entry_len (args_len1 _) ?_
  unfold Builtin.«len»
  refine wpAny_bind (m := oneArg "len" _) (wpAny_pure ?_)
  refine wpAny_bind (m := callSpecial? (.ref d) (Str.ofString "__len__")) (wpAny_callSpecial?_slot (name := Str.ofString "__len__") hm.typeIs PySem.F.slot_dict_len
    (call_meetsIn PySem.F.slot_dict_len hm.typeIs PySem.F.entry_dict_len (PySem.F.args_dict_len_1 _) (meets_len_tdict knd d hd) ⟨xs, hm, ?_⟩))
  show wpAny _ _ _ _ _ { s with toks := s.toks + 1 }
  refine wpAny_bind (wpAny_holding (wpAny_pure ?_))
  refine wpAny_bind (wpAny_letGo ?_)
  show wpAny _ _ (if ((xs.length : Nat) : Int) < 0 then _ else _) _ _ _
  rw [if_neg (by lia)]
  show wpAny _ _ (if ((xs.length : Nat) : Int) ≥ 2 ^ 63 then _ else _) _ _ _
  rw [if_neg (by lia)]
  exact wpAny_bind (wpAny_mkInt (wpAny_pure ⟨_, rfl, h _ _⟩))


theorem sound_len {x : Str} {xp pos : Pos} {e : PySem.Expr} {p : PE} (hx : t.name x = some (.inr (.builtin "len"))) (hs : Star e) (h : SE t e p) : SE t (.Call (.Name x xp) [e] [] pos) (.len p) := fun c _ _ _ _ _ _ N he k =>
  Call_glob hx N (callB (tr1 hs) (ev1s hs h N he.dnb fun _ v σ' I' s' he x r => by
    obtain ⟨n, hv, he⟩ := he.tpo
    obtain ⟨hn, he⟩ := he.drg
    induction v using AV.cs with
    | str y =>
      (first | subst hv | (injection hv with hv; subst hv) | (injection hv; done) | cases hv)
      obtain ⟨_, rfl⟩ := r.str
      have hz : (⟨y.toArray⟩ : Str).length = y.length := List.size_toArray ..
      refine len_str (by rw [hz]; lia) ?_
      rw [hz]
      exact k _ _ _ _ _ he x.tok (VR.mkInt _ _)
    | ref i =>
      replace hv : lenO σ'[i]? = some n := hv
      cases ho : σ'[i]? with
      | none => rw [ho] at hv; exact no hv
      | some o =>
        obtain ⟨p, rfl, hp, T⟩ := mem_at (v := .ref i) x.sim r ho
        rw [ho] at hv
        induction o with
        | list vs =>
          (first | subst hv | (injection hv with hv; subst hv) | (injection hv; done) | cases hv)
          obtain ⟨us, ⟨n, ho⟩, hr⟩ := T
          have hz : us.size = vs.length := hr.length
          refine len_list ⟨_, ho, rfl, n, rfl⟩ (by lia) ?_
          rw [hz]
          exact k _ _ _ _ _ he x.tok (VR.mkInt _ _)
        | dict es =>
          (first | subst hv | (injection hv with hv; subst hv) | (injection hv; done) | cases hv)
          obtain ⟨us, hl, hd, hr⟩ := T
          have hz : (dz es us).length = es.length := by simp [dz, hl]
          refine call_len_dict (kvs := dz es us) (notSys x.sim hp) hd (by rw [hz]; lia) ?_
          rw [hz]
          exact k _ _ _ _ _ he x.tok (VR.mkInt _ _)
        | tdict es =>
          (first | subst hv | (injection hv with hv; subst hv) | (injection hv; done) | cases hv)
          obtain ⟨as, us, hl, hd, hf, hr⟩ := T
          have hu : us.length = es.length := by simpa using hr.length
          have hz : (tz es as us).length = es.length := by simp [tz, hl, hu]
          refine len_tdict (notSys x.sim hp) hd (by rw [hz]; lia) fun t' tk' => ?_
          rw [hz]
          exact k _ _ _ _ _ he x.tok (VR.mkInt _ _)
        | inst => exact no hv
    | _ => exact no hv))
theorem sound_cut {o : Str} {op : Pos} {a b : PySem.Expr} {p pa pb : PE} {sp pos : Pos} (h₁ : SE t (.Name o op) p) (h₂ : SE t a pa) (h₃ : SE t b pb) : SE t (.Subscript (.Name o op) (.Slice (some a) (some b) none sp) pos) (.cut p pa pb) := fun c _ _ _ _ _ _ N he k =>
  Subscript_ (h₁ c N he.dnb fun _ _ _ _ _ he x r => by
    obtain ⟨y, hy, he⟩ := he.tpo
    refine wpAny_Slice (evalPart_some_step (h₂ c (N.next x) he.dnb fun _ _ _ _ _ he x₂ r₂ => ?_))
    obtain ⟨i, hi, he⟩ := he.tpo
    refine evalPart_some_step (h₃ c ((N.next x).next x₂) he.dnb fun _ _ _ _ s' he x₃ r₃ => wpAny_pure ?_)
    obtain ⟨j, hj, he⟩ := he.tpo
    obtain ⟨hl, he⟩ := he.drg
    obtain ⟨_, rfl⟩ := r.ofStr hy
    obtain ⟨_, rfl⟩ := r₂.ofInt hi
    obtain ⟨_, rfl⟩ := r₃.ofInt hj
    refine tail_of_ItemOn (SBH.sliceItem_ss (P := fun h => ∀ (a : Nat) o, s'.heap.get? a = some o → h.get? a = some o) (fun h ob hh a o e => Heap.get?_push_of_some ob (hh a o e)) (fun _ _ e => e) (fun h4 t4 tk4 hk => ?_) ?_) (by with_unfolding_all rfl) (by intro _; with_unfolding_all rfl)
    · exact k _ _ _ _ _ he (((x.trans x₂).trans x₃).go (ExtX.grow hk) (Sim.grow x₃.sim hk)) ⟨t4, by simp⟩
    · exact Nat.le_trans (Nat.le_of_eq (List.size_toArray ..)) (Nat.le_trans hl (by decide)))

theorem prim_ty {T : String} {k : Nat} {b : Bool} (h : isPrim k T = some b) : (T = "bool" ∧ b = (k == 1)) ∨ (T = "int" ∧ b = (k == 1 || k == 2)) ∨ (T = "str" ∧ b = (k == 3)) := by
  unfold isPrim at h
  split at h
  · exact .inl ⟨by assumption, (Option.some.inj h).symm⟩
  · split at h
    · exact .inr (.inl ⟨by assumption, (Option.some.inj h).symm⟩)
    · split at h
      · exact .inr (.inr ⟨by assumption, (Option.some.inj h).symm⟩)
      · exact no h
theorem prim_elim {P : String → Bool → Prop} {T : String} {k : Nat} {b : Bool} (h : isPrim k T = some b) (h1 : P "bool" (k == 1)) (h2 : P "int" (k == 1 || k == 2)) (h3 : P "str" (k == 3)) : P T b :=
  (prim_ty h).elim (fun h => h.1 ▸ h.2 ▸ h1) fun h => h.elim (fun h => h.1 ▸ h.2 ▸ h2) fun h => h.1 ▸ h.2 ▸ h3
noncomputable def Isi (c : Cx) (s : Shared) (R : Value → Shared → Prop) (u d : Value) (b : Bool) : Prop := (∀ tk, R (.bool b) { s with toks := tk }) → c.wp (call (.builtin "isinstance") [u, d]) R s
noncomputable def IsiT (c : Cx) (s : Shared) (R : Value → Shared → Prop) (u : Value) (T : String) (b : Bool) : Prop := Isi c s R u (.type T) b
theorem isi_inst {i : Nat} {T : String} {D : Addr} {fs : List (Nat × AV)} {u : Value} (S : GSim c.G I σ s.heap) (r : VR I s.heap (.ref i) u) (hv : memO σ (.ref i) = some (.inst D fs)) (hm : T ∈ ["bool", "int", "str"]) (h : typeOf (.type T) = pure (.type "type")) : IsiT c s R u T false := fun q => by
  obtain ⟨p, rfl, _, T'⟩ := mem_at (v := .ref i) S r hv
  obtain ⟨hC, od, m, ia, _⟩ := inst_at T'
  exact kin_callT (inK S) ia (c.G.kf.isB D hC T hm) h (c.G.kf.get D hC) (c.G.kf.dict D hC) (c.G.kf.cls D hC) c.G.kf.clsGet c.G.kf.clsSet (c.G.kf.obj D hC) (q _)
theorem isi_instC {i : Nat} {E D : Addr} {fs : List (Nat × AV)} {u : Value} (hD : D ∈ clsAddrs) (S : GSim c.G I σ s.heap) (r : VR I s.heap (.ref i) u) (hv : memO σ (.ref i) = some (.inst E fs)) : Isi c s R u (.ref D) (superOf E D) := fun q => by
  obtain ⟨p, rfl, _, T'⟩ := mem_at (v := .ref i) S r hv
  obtain ⟨hC, od, m, ia, _⟩ := inst_at T'
  cases hs : superOf E D with
  | true => exact isi_call (inK S) (fun M => ia.type) (c.G.kf.isT E hC D hD hs) (by simp) (hs ▸ q s.toks)
  | false => exact kin_callC (inK S) ia (c.G.kf.isF E hC D hD hs) (c.G.kf.get E hC) (c.G.kf.dict E hC) (c.G.kf.cls E hC) c.G.kf.clsGet c.G.kf.clsSet (c.G.kf.obj E hC) (hs ▸ q _)
theorem isin_T {v : AV} {u : Value} {b : Bool} {T : String} (S : GSim c.G I σ s.heap) (r : VR I s.heap v u) (e : isInst σ v (.type T) = some b) : IsiT c s R u T b := by
  induction v using AV.cs with
  | none => exact r.none ▸ prim_elim e (fun q => IsiPair.NoneType_bool (q _)) (fun q => IsiPair.NoneType_int (q _)) (fun q => IsiPair.NoneType_str (q _))
  | bool x => exact r.bool ▸ prim_elim e (fun q => IsiPair.bool_bool (q _)) (fun q => IsiPair.bool_int (q _)) (fun q => IsiPair.bool_str (q _))
  | int x => exact r.int.elim fun _ r => r ▸ prim_elim e (fun q => IsiPair.int_bool (q _)) (fun q => IsiPair.int_int (q _)) (fun q => IsiPair.int_str (q _))
  | str x => exact r.str.elim fun _ r => r ▸ prim_elim e (fun q => IsiPair.str_bool (q _)) (fun q => IsiPair.str_int (q _)) (fun q => IsiPair.str_str (q _))
  | tup vs =>
    obtain ⟨rfl, e⟩ := grd_some e
    (first | subst e | (injection e with e; subst e) | (injection e; done) | cases e)
    obtain ⟨a, xs, rfl, _, ⟨o, ho, hc, _⟩, _⟩ := isTup_of r
    exact fun q => IsiPair.tuple_str ho hc (q _)
  | ref i =>
    obtain ⟨_, hv, e⟩ := opt_some e
    exact prim_elim e (isi_inst S r (instO_of hv) (by decide) F.isi_meta_bool) (isi_inst S r (instO_of hv) (by decide) F.isi_meta_int) (isi_inst S r (instO_of hv) (by decide) F.isi_meta_str)
  | old _ => exact no e
theorem isin_C {v : AV} {u : Value} {D : Addr} {b : Bool} (S : GSim c.G I σ s.heap) (r : VR I s.heap v u) (e : isInst σ v (.ref D) = some b) : Isi c s R u (.ref D) b := by
  obtain ⟨hD, e⟩ := grd_some e
  have hD := List.contains_iff_mem.mp hD
  induction v using AV.cs with
  | none => (first | subst e | (injection e with e; subst e) | (injection e; done) | cases e); exact r.none ▸ fun q => isn_call (P := fun _ => True) (inK S) (fun _ => Looks.of_pure rfl) (c.G.kf.prim "NoneType" (by decide) D hD) (by simp) trivial none_cls (q _)
  | bool x => (first | subst e | (injection e with e; subst e) | (injection e; done) | cases e); exact r.bool ▸ fun q => isn_call (P := fun _ => True) (inK S) (fun _ => Looks.of_pure rfl) (c.G.kf.prim "bool" (by decide) D hD) (by simp) trivial bool_cls (q _)
  | int x => (first | subst e | (injection e with e; subst e) | (injection e; done) | cases e); exact r.int.elim fun _ r => r ▸ fun q => isn_call (P := fun _ => True) (inK S) (fun _ => Looks.of_pure rfl) (c.G.kf.prim "int" (by decide) D hD) (by simp) trivial int_cls (q _)
  | str x => (first | subst e | (injection e with e; subst e) | (injection e; done) | cases e); exact r.str.elim fun _ r => r ▸ fun q => isn_call (P := fun _ => True) (inK S) (fun _ => Looks.of_pure rfl) (c.G.kf.prim "str" (by decide) D hD) (by simp) trivial str_cls (q _)
  | ref i =>
    obtain ⟨⟨E, fs⟩, hv, e⟩ := opt_some e
    (first | subst e | (injection e with e; subst e) | (injection e; done) | cases e)
    exact isi_instC hD S r (instO_of hv)
  | _ => exact no e
theorem isin_ok (S : GSim c.G I σ s.heap) {v : AV} {u d : Value} {b : Bool} (r : VR I s.heap v u) (e : isInst σ v d = some b) (q : ∀ tk, R (.bool b) { s with toks := tk }) : c.wp (call (.builtin "isinstance") [u, d]) R s := by
  induction d with
  | type T => exact isin_T S r e q
  | ref D => exact isin_C S r e q
  | _ => exact no e
theorem sound_isin {x y : Str} {xp yp pos : Pos} {e : PySem.Expr} {p : PE} {d : Value} (hx : t.name x = some (.inr (.builtin "isinstance"))) (hy : t.name y = some (.inr d)) (hs : Star e) (h : SE t e p) : SE t (.Call (.Name x xp) [e, .Name y yp] [] pos) (.isin p d) := fun c _ _ _ _ Q _ N he k =>
  Call_glob hx N (callB (tr2 hs fun _ _ => rfl) (wpAny_items_cons (h c N he.dnb fun _ v _ _ _ he x r => ev1s (Q := fun w τ => w = .old d ∧ OK (opt (isInst τ v d) fun b => some (.bool b, τ)) Q) (fun _ _ => rfl) (sound_glob hy) (N.next x) (show OK (some (_, _)) _ from ⟨rfl, he⟩) fun _ _ _ _ _ he y r' => by
    obtain ⟨rfl, he⟩ := he
    obtain ⟨b, hb, he⟩ := he.tpo
    cases r'.old
    exact isin_ok y.sim (r.ext y.ext) hb fun tk => k _ _ _ _ _ he (x.trans y).tok rfl) (hs c.env _)))
end
end Mine
open PySem PySem.W PySem.Calls PyProof.Rows
namespace Mine
set_option linter.unusedVariables false
set_option maxRecDepth 100000

section
variable {t : Tx} {c : Cx} {ρ : Vars} {I : Inj} {s : Shared} {σ : Sto} {R : Value → Shared → Prop}
theorem digit_of {i : Int} (h : 0 ≤ i ∧ i ≤ 9) : ∃ k : Fin 10, i = ((k.val : Nat) : Int) := ⟨⟨i.toNat, by lia⟩, by simp only; lia⟩
theorem dig_ok : ∀ k : Fin 10, Str.ofString (toString ((k.val : Nat) : Int)) = ⟨[48 + (((k.val : Nat) : Int)).toNat].toArray⟩ ∧ (((k.val : Nat) : Int)).natAbs.log2 < 1920 := by decide +kernel
theorem str_ok {v w : AV} {u : Value} (hv : strV v = some w) (r : VR I s.heap v u) (k : ∀ u tk, VR I s.heap w u → R u { s with toks := tk }) : c.wp (call (.type "str") [u]) R s := by
  cases v with
  | none => cases hv; cases r.none; exact P.str_of_none (k _ _ ⟨_, rfl⟩)
  | str x => cases hv; obtain ⟨_, rfl⟩ := r.str; exact P.str_of_str (k _ s.toks (VR.mkStr _ _))
  | int i =>
    obtain ⟨hi, e⟩ := grd_some (o := some (AV.str [48 + i.toNat])) hv
    cases e
    obtain ⟨_, rfl⟩ := r.int
    obtain ⟨j, rfl⟩ := digit_of hi
    exact P.str_of_int (dig_ok j).2 (k _ _ ⟨_, congrArg (fun z => Value.str z s.toks) (dig_ok j).1⟩)
  | _ => exact no hv
theorem sound_strOf {x : Str} {xp pos : Pos} {e : PySem.Expr} {p : PE} (hx : t.name x = some (.inr (.type "str"))) (hs : Star e) (h : SE t e p) : SE t (.Call (.Name x xp) [e] [] pos) (.strOf p) := fun c _ _ _ _ _ _ N he k =>
  Call_glob hx N (callT (tr1 hs) (ev1s hs h N he.dnb fun _ v σ' I' s' he x r => by
    obtain ⟨w, hv, he⟩ := he.tpo
    exact str_ok hv r fun u tk r => k u w _ _ _ he x.tok r))
theorem sound_tupOf {x : Str} {xp pos : Pos} {e : PySem.Expr} {p : PE} (hx : t.name x = some (.inr (.type "tuple"))) (hs : Star e) (h : SE t e p) : SE t (.Call (.Name x xp) [e] [] pos) (.tupOf p) := fun c _ _ _ _ _ _ N he k =>
  Call_glob hx N (callT (tr1 hs) (ev1s hs h N he.dnb fun _ v σ' I' s' he x r => by
    obtain ⟨vs, hv, he⟩ := he.tpo
    obtain ⟨hz, he⟩ := he.drg
    obtain ⟨a, us, n, rfl, ho, hr⟩ := list_at x.sim r hv
    refine call_tuple_list (hsz := lim_size (Nat.le_trans (Nat.le_of_eq hr.length) hz)) ⟨_, ho, rfl, n, rfl⟩ fun h'' hk => ?_
    have z := tup_ok (x.sim.grow hk) (hr.ext (ExtX.grow hk))
    rw [show us.toList.toArray = us from Array.toArray_toList] at z
    exact k _ _ _ _ _ he ((x.go (tk := s'.toks) (ExtX.grow hk) (x.sim.grow hk)).go z.2.1 z.2.2) z.1))

theorem VRs.of_each {h : Heap} {vs : List AV} : ∀ {us : List Value}, us.length = vs.length → (∀ (j : Nat) v u, vs[j]? = some v → us[j]? = some u → VR I h v u) → VRs I h vs us := by
  induction vs with
  | nil => exact fun hl _ => (List.eq_nil_of_length_eq_zero hl ▸ VRs.nil)
  | cons v vs ih =>
    intro us hl k
    cases us with
    | nil => exact absurd hl.symm (Nat.succ_ne_zero _)
    | cons u us => exact VRs.cons (k 0 v u rfl rfl) (ih (Nat.succ.inj hl) fun j v' u' a b => k (j + 1) v' u' a b)
/-- a list made of one known -/
theorem St.made {G : G0} {I₀ : Inj} {s₀ : Shared} {h' : Heap} {tk a : Nat} {vs : List AV} {us : Array Value} {n : Nat} (x : St nX G I₀ s₀ I σ s) (hk : ∀ (b : Nat) o, s.heap.get? b = some o → h'.get? b = some o) (h1 : s.heap.get? a = none) (h2 : 711 ≤ a) (ho : h'.get? a = some { cls := .type "list", data := .seq us n }) (r : Ext I s.heap (I ++ [(a, a)]) h' → VRs (I ++ [(a, a)]) h' vs us.toList) :
    St nX G I₀ s₀ (I ++ [(a, a)]) (σ ++ [.list vs]) { s with heap := h', toks := tk } ∧ VR (I ++ [(a, a)]) h' (.ref σ.length) (.ref a) :=
  have z := made_at (ao := .list vs) x.sim hk h1 h2 ho fun E => ⟨us, ⟨n, ho⟩, r E⟩
  ⟨x.go z.2.1 z.1, z.2.2⟩
theorem listOf_dict {es : List (List Nat × AV)} {us : List Value} {acc : Array Value} {h : Heap} {J : Inj} (hl : us.length = es.length) (hs : acc.size = (dz es us).length) (hacc : ∀ (j : Nat) (u : Value), acc[j]? = some u → ∃ kk xx, (dz es us)[j]? = some (kk, xx) ∧ u.isStrOf kk = true) : VRs J h (es.map fun p => AV.str p.1) acc.toList := by
  refine VRs.of_each (by rw [Array.length_toList, hs]; simp [dz, hl]) fun j v u hv hu => ?_
  obtain ⟨kk, xx, hx, hk⟩ := hacc j u (by rw [← Array.getElem?_toList]; exact hu)
  rw [List.getElem?_map] at hv
  obtain ⟨e, hej, rfl⟩ := Option.map_eq_some_iff.mp hv
  obtain ⟨t, rfl⟩ := Value.isStrOf_shape hk
  have h1 := (List.getElem?_zip_eq_some.mp hx).1
  rw [List.getElem?_map, hej] at h1
  cases h1
  exact VR.mkStr _ _
theorem sound_listOf {x : Str} {xp pos : Pos} {e : PySem.Expr} {p : PE} (hx : t.name x = some (.inr (.type "list"))) (hs : Star e) (h : SE t e p) : SE t (.Call (.Name x xp) [e] [] pos) (.listOf p) := fun c _ _ _ _ _ _ N he k =>
  Call_glob hx N (callT (tr1 hs) (ev1s hs h N he.dnb fun _ v σ' I' s' he x r => by
    obtain ⟨ls, hl, he⟩ := he.tpo
    obtain ⟨hz, he⟩ := he.drg
    cases hm : memO σ' v with
    | none => rw [hm] at hl; exact no hl
    | some o =>
      obtain ⟨p, rfl, hp, T⟩ := mem_at x.sim r hm
      rw [hm] at hl
      cases o with
      | list vs =>
        cases hl
        obtain ⟨us, ⟨n, ho⟩, hr⟩ := T
        refine call_list_seq (hsz := lim_size (Nat.le_trans (Nat.le_of_eq hr.length) hz)) p.1 (.inl rfl) ho rfl rfl fun h'' c' hk hD => ?_
        have z := x.made (tk := s'.toks) hk none_of (big_of x.sim) hD fun E => hr.ext E
        exact k _ _ _ _ _ he z.1 z.2
      | dict es =>
        cases hl
        obtain ⟨us, hl, hd, hr⟩ := T
        obtain ⟨ep, hat⟩ := hd.dictAt
        refine kdl_call (kdl_dict (knd := strKind c.G.prog c.G.w) (kvs := dz es us) (ep := ep) (notSys x.sim hp)) c.hA.1 hat (lim_size (Nat.le_trans (by simp [dz, hl]) hz)) fun h'' tk' acc c' hk hD hacc => ?_
        have z := x.made (tk := tk') hk none_of (big_of x.sim) hD fun _ => listOf_dict hl hacc.1 hacc.2
        exact k _ _ _ _ _ he z.1 z.2
      | _ => exact no hl))

/-! join -/
theorem strs_of {h : Heap} {sep : List Nat} : ∀ {vs : List AV} {us : List Value} {r : List Nat}, VRs I h vs us → joinL sep vs = some r → ∃ ys, StrsAre us ys ∧ Str.join ⟨sep.toArray⟩ ys = ⟨r.toArray⟩ := by
  intro vs
  induction vs with
  | nil =>
    intro us r hr e
    obtain rfl := (show us = [] from hr)
    obtain rfl := Option.some.inj e
    exact ⟨[], .nil, rfl⟩
  | cons v vs ih =>
    intro us r hr e
    obtain ⟨u, rs, rfl, r1, r2⟩ := (show ∃ u r, us = u :: r ∧ VR I h v u ∧ VRs I h vs r from hr)
    obtain ⟨x, hx, e⟩ := opt_some e
    obtain rfl := asStr_of hx
    obtain ⟨t, rfl⟩ := r1.str
    clear hr r1 hx
    induction vs using lcs with
    | nil =>
      obtain rfl := (show rs = [] from r2)
      obtain rfl := Option.some.inj (show some x = some r from e)
      exact ⟨[_], .cons _ _ .nil, rfl⟩
    | cons v vs =>
      obtain ⟨q, hq, e⟩ := opt_some (show opt (joinL sep (v :: vs)) (fun r => some (x ++ sep ++ r)) = some r from e)
      obtain rfl := Option.some.inj e
      obtain ⟨ys, a, b⟩ := ih r2 hq
      have hn : ∃ y ys', ys = y :: ys' := by
        obtain ⟨_, _, rfl, _⟩ := (show ∃ u r, rs = u :: r ∧ VR I h v u ∧ VRs I h vs r from r2)
        cases a
        exact ⟨_, _, rfl⟩
      obtain ⟨y, ys', rfl⟩ := hn
      refine ⟨_ :: y :: ys', .cons _ _ a, ?_⟩
      rw [join_cons_cons, b, str_app, str_app]
theorem sound_join {x : Str} {apos pos cp : Pos} {kd : Nat} {d : Str} {e : PySem.Expr} {p : PE} (hx : x = ("join" : Str)) (hl : (apos.endLine == pos.line) = true) (hs : Star e) (h : SE t e p) :
    SE t (.Call (.Attribute (.Constant (.str d) kd cp) x apos) [e] [] pos) (.join d.cps.toList p) := fun c _ _ s _ _ _ N he k => by
  subst hx
  refine Call_meth (by with_unfolding_all rfl) hl (tr1 hs) (by simp) (wpAny_Constant_str ?_)
  refine getMethod_builtin (typeIs_str _ _ _) PySem.F.plainAttrs_str PySem.F.slot_str_join PySem.F.type_str_join (fun a q => by cases q) ?_
  refine callB (tr1 hs) (ev1s hs h (N.tok (s.toks + 1)) he.dnb fun _ v σ' I' s' he x r => ?_)
  obtain ⟨vs, hv, he⟩ := he.tpo
  obtain ⟨q, hq, he⟩ := he.tpo
  obtain ⟨hc10, he⟩ := he.drg
  obtain ⟨hz, he⟩ := he.drg
  obtain ⟨a, us, n, rfl, ho, hr⟩ := list_at x.sim r hv
  obtain ⟨ys, ha, hb⟩ := strs_of hr hq
  rw [show (⟨d.cps.toList.toArray⟩ : Str) = d from congrArg Str.mk Array.toArray_toList] at hb
  have hj : Txt.join d ys = ⟨q.toArray⟩ := (StrLaws.glued_eq_join d ys).trans hb
  have hsz := size_glued d ys
  rw [show Builtin.Str.glued d ys = ⟨q.toArray⟩ from hj] at hsz
  have hq' : (⟨q.toArray⟩ : Str).length = q.length := List.size_toArray ..
  have hcl : d.length = d.cps.toList.length := Array.length_toList.symm
  refine join_list ⟨_, ho, rfl, n, rfl⟩ ha ?_ fun t' tk' => ?_
  · unfold lim at hz
    rw [hq'] at hsz
    rw [← hcl] at hc10
    cases ys with
    | nil => simp only [List.map_nil, List.sum_nil, List.length_nil, Nat.zero_mul]; lia
    | cons y ys' =>
      simp only [List.length_cons] at hsz ⊢
      have : (ys'.length + 1) * d.length = (ys'.length + 1 - 1) * d.length + d.length := by rw [Nat.add_sub_cancel, Nat.add_mul]; lia
      lia
  · rw [hj]
    exact k _ _ _ _ _ he ((St.refl (X := nX) N.sim).tok.trans x).tok (VR.mkStr _ _)
end
end Mine
open PySem PySem.W PySem.Calls PyProof.Rows
namespace Mine
set_option linter.unusedVariables false
set_option maxRecDepth 100000

section
variable {t : Tx} {c : Cx} {ρ : Vars} {I : Inj} {s : Shared} {σ : Sto} {R : Value → Shared → Prop}
/-- the method of a list -/
theorem listMeth {o : AV} {u : Value} {P : Value × List Value → Shared → Prop} (S : GSim c.G I σ s.heap) (r : VR I s.heap o u) {vs : List AV} (e : asList σ o = some vs) {name : Str} {id : String} {pl : Sem Bool} (slot : Slot "list" name id) (ty : typeOf (.builtin id) = pure (.type "method_descriptor"))
    (q : P (.builtin id, [u]) s) : c.wp (getMethod u name pl) P s := by
  obtain ⟨a, us, n, rfl, ho, hr⟩ := list_at S r e
  exact getMethod_builtin ⟨_, ho, rfl⟩ PySem.F.plainAttrs_list slot ty (fun a e => by (first | subst e | (injection e with e; subst e) | (injection e; done) | cases e); exact ⟨_, ho, rfl⟩) q
theorem mapSeq_of (f : Array Value → Array Value) (its : Array Value) (n : Nat) : ∃ n', Obj.mapSeq f { cls := .type "list", data := .seq its n } = { cls := .type "list", data := .seq (f its) n' } := ⟨_, rfl⟩
theorem upd_list {h : Heap} {a : Nat} {its : Array Value} {n : Nat} (f : Array Value → Array Value) (ho : h.get? a = some { cls := .type "list", data := .seq its n }) : ∃ n', (h.update a (Obj.mapSeq f)).get? a = some { cls := .type "list", data := .seq (f its) n' } := by
  obtain ⟨n', e⟩ := mapSeq_of f its n
  exact ⟨n', by rw [Heap.get?_update_self _ ho (by rw [e]; rfl), e]⟩


/-- a list's entry, now another list -/
theorem St.putL {G : G0} {I₀ : Inj} {s₀ : Shared} {h' : Heap} {tk r : Nat} {p : Nat × Nat} {vs : List AV} {us : Array Value} {n : Nat} (x : St nX G I₀ s₀ I σ s) (hp : I[r]? = some p) (hs : Heap.SameBut p.1 s.heap h') (ho : h'.get? p.1 = some { cls := .type "list", data := .seq us n }) (hr : Ext I s.heap I h' → VRs I h' vs us.toList) :
    St nX G I₀ s₀ I (σ.set r (.list vs)) { s with heap := h', toks := tk } :=
  have z := put_at (o := .list vs) x.sim hp hs (.inl rfl) ⟨_, ho⟩ fun E => ⟨us, ⟨n, ho⟩, hr E⟩
  x.go z.2 z.1
theorem sound_lapp {l e : PySem.Expr} {p q : PE} {x : Str} {apos pos : Pos} (hx : x = ("append" : Str)) (hl : (apos.endLine == pos.line) = true) (hb : ∀ name env x, attributeBase l name env x = x) (hs : Star e)
    (h₁ : SE t l p) (h₂ : SE t e q) : SE t (.Call (.Attribute l x apos) [e] [] pos) (.lapp p q) := fun c _ _ _ _ _ _ N he k => by
  subst hx
  refine Call_meth (hb _ _ _) hl (tr1 hs) (by simp) (h₁ c N he.dnb fun _ _ _ _ _ he x r₁ => ?_)
  obtain ⟨_, hw, he⟩ := he.tpo
  refine listMeth x.sim r₁ hw PySem.F.slot_list_append PySem.F.type_list_append (callB (tr1 hs) (ev1s hs h₂ (N.next x) he.dnb fun _ v _ _ s' he y r₂ => ?_))
  obtain ⟨r, hv', he⟩ := he.tpo
  obtain ⟨vs, hv, he⟩ := he.tpo
  obtain ⟨hz, he⟩ := he.drg
  obtain ⟨p, hp, us, ⟨n, ho⟩, hr⟩ := y.sim.at (listO_of hv)
  cases (r₁.ext y.ext).ofRef hv' hp
  exact append_at (hsz := lim_size (Nat.le_trans (Nat.le_of_eq hr.length) hz)) ho fun h3 hs3 hD =>
    k _ _ _ _ _ he ((x.trans y).putL (tk := s'.toks) hp hs3 hD fun E => by rw [Array.toList_push]; exact VRs.append (hr.ext E) (VRs.cons (r₂.ext E) VRs.nil)) rfl
theorem sound_lext {l e : PySem.Expr} {p q : PE} {x : Str} {apos pos : Pos} (hx : x = ("extend" : Str)) (hl : (apos.endLine == pos.line) = true) (hb : ∀ name env x, attributeBase l name env x = x) (hs : Star e)
    (h₁ : SE t l p) (h₂ : SE t e q) : SE t (.Call (.Attribute l x apos) [e] [] pos) (.lext p q) := fun c _ _ _ _ _ _ N he k => by
  subst hx
  refine Call_meth (hb _ _ _) hl (tr1 hs) (by simp) (h₁ c N he.dnb fun _ _ _ _ _ he x r₁ => ?_)
  obtain ⟨_, hw, he⟩ := he.tpo
  refine listMeth x.sim r₁ hw PySem.F.slot_list_extend PySem.F.type_list_extend (callB (tr1 hs) (ev1s hs h₂ (N.next x) he.dnb fun _ v _ _ s' he y r₂ => ?_))
  obtain ⟨r, hv', he⟩ := he.tpo
  obtain ⟨ws, hws, he⟩ := he.tpo
  obtain ⟨vs, hv, he⟩ := he.tpo
  obtain ⟨hz, he⟩ := he.drg
  obtain ⟨p, hp, us, ⟨n, ho⟩, hr⟩ := y.sim.at (listO_of hv)
  cases (r₁.ext y.ext).ofRef hv' hp
  obtain ⟨b, us2, n2, rfl, ho2, hr2⟩ := list_at y.sim r₂ hws
  have z1 : us.size = vs.length := hr.length
  have z2 : us2.size = ws.length := hr2.length
  obtain ⟨n3, hD⟩ := upd_list (fun x => x ++ us2) ho
  refine call_meets PySem.F.slot_list_extend ⟨_, ho, rfl⟩ PySem.F.entry_list_extend (PySem.F.args_list_extend_2 _ _) (AutoSeq1.list_extend_list_list_0 p.1 us n b us2 n2 ?_ ?_ ?_) ⟨ho, ho2, ?_⟩
  · unfold Builtin.List.listTooLong
    rw [sizeLine_eq]
    simp only [Bool.and_eq_true, decide_eq_true_eq, not_and]
    intro _; lia
  · rw [sizeLine_eq]; lia
  · rw [sizeLine_eq]; lia
  · exact k _ _ _ _ _ he ((x.trans y).putL (tk := s'.toks) hp (Heap.SameBut.update _ _ _) hD fun E => by rw [Array.toList_append]; exact VRs.append (hr.ext E) (hr2.ext E)) rfl
theorem ins_toList (xs : Array Value) (y : Value) (i : Int) (h0 : 0 ≤ i) (h1 : i.toNat ≤ xs.size) :
    (have k := if i < 0 then (i + (xs.size : Int)).toNat else min i.toNat xs.size; (xs.extract 0 k).push y ++ xs.extract k).toList = xs.toList.take i.toNat ++ y :: xs.toList.drop i.toNat := by
  rw [if_neg (by lia), Nat.min_eq_left h1]
  obtain ⟨l⟩ := xs
  simp [List.extract_eq_take_drop, List.take_of_length_le]
theorem sound_lins {l a e : PySem.Expr} {p pa q : PE} {x : Str} {apos pos : Pos} (hx : x = ("insert" : Str)) (hl : (apos.endLine == pos.line) = true) (hb : ∀ name env x, attributeBase l name env x = x)
    (hs : Star a) (hs' : Star e) (h₁ : SE t l p) (ha : SE t a pa) (h₂ : SE t e q) : SE t (.Call (.Attribute l x apos) [a, e] [] pos) (.lins p pa q) := fun c _ _ _ _ _ _ N he k => by
  subst hx
  refine Call_meth (hb _ _ _) hl (tr2 hs hs') (by simp) (h₁ c N he.dnb fun _ _ _ _ _ he x r₁ => ?_)
  obtain ⟨_, hw, he⟩ := he.tpo
  refine listMeth x.sim r₁ hw PySem.F.slot_list_insert PySem.F.type_list_insert (callB (tr2 hs hs') (wpAny_items_cons (ha c (N.next x) he.dnb fun _ _ _ _ _ he y ri => ?_) (hs c.env _)))
  obtain ⟨j, hj, he⟩ := he.tpo
  refine ev1s hs' h₂ ((N.next x).next y) he.dnb fun u v _ _ s' he z r₂ => ?_
  obtain ⟨r, hv', he⟩ := he.tpo
  obtain ⟨vs, hv, he⟩ := he.tpo
  obtain ⟨hz, he⟩ := he.drg
  obtain ⟨p, hp, us, ⟨n, ho⟩, hr⟩ := z.sim.at (listO_of hv)
  cases ((r₁.ext y.ext).ext z.ext).ofRef hv' hp
  obtain ⟨ti, rfl⟩ := ri.ofInt hj
  have z1 : us.size = vs.length := hr.length
  obtain ⟨n3, hD⟩ := upd_list (fun xs => have k := if j < 0 then (j + (xs.size : Int)).toNat else min j.toNat xs.size; (xs.extract 0 k).push u ++ xs.extract k) ho
  refine call_meets PySem.F.slot_list_insert ⟨_, ho, rfl⟩ PySem.F.entry_list_insert (PySem.F.args_list_insert_3 _ _ _) (AutoSeq1.list_insert_list_int_val_1 p.1 us n j ti u ?_ ?_) ⟨ho, ?_⟩
  · unfold Builtin.List.listFitsIndex
    simp only [Bool.not_eq_true', Bool.and_eq_false_iff, decide_eq_false_iff_not, not_or, Decidable.not_not]
    lia
  · rw [sizeLine_eq]; lia
  · exact k _ _ _ _ _ he (((x.trans y).trans z).putL (tk := s'.toks) hp (Heap.SameBut.update _ _ _) hD fun E => (ins_toList us u j hz.2.1 (z1 ▸ hz.2.2)).symm ▸ VRs.append ((hr.ext E).take _) (VRs.cons (r₂.ext E) ((hr.ext E).drop _))) rfl

/-! index -/
theorem idx_spec {v : AV} : ∀ {us : List AV} {i j : Nat}, idxOf σ v us i = some j → ∃ m, j = i + m ∧ (∃ u, us[m]? = some u ∧ eqV σ u v = some true) ∧ ∀ m', m' < m → ∃ u, us[m']? = some u ∧ eqV σ u v = some false
  | [], i, j, e => no e
  | u :: us, i, j, e => by
    obtain ⟨b, q, e⟩ := opt_some e
    induction b with
    | true => (first | subst e | (injection e with e; subst e) | (injection e; done) | cases e); exact ⟨0, rfl, ⟨u, rfl, q⟩, fun m' h => absurd h (Nat.not_lt_zero _)⟩
    | false =>
      obtain ⟨m, rfl, ⟨w, hw, hw'⟩, k⟩ := idx_spec e
      refine ⟨m + 1, Nat.succ_add_eq_add_succ i m, ⟨w, hw, hw'⟩, fun m' hm' => ?_⟩
      induction m' using ncs with
      | zero => exact ⟨u, rfl, q⟩
      | succ m' =>
        obtain ⟨w', a, b⟩ := k m' (Nat.lt_of_succ_lt_succ hm')
        exact ⟨w', a, b⟩
theorem index_ok (S : GSim c.G I σ s.heap) {o v : AV} {vs : List AV} {uo u : Value} {j : Nat} (ro : VR I s.heap o uo) (rv : VR I s.heap v u) (hvs : asList σ o = some vs) (hall : (vs.all fun u => (eqV σ u v).isSome) = true) (hlen : vs.length ≤ 1000000) (hj : idxOf σ v vs 0 = some j)
    (q : ∀ t tk, R (.int j t) { s with toks := tk }) : c.wp (call (.builtin "list.index") [uo, u]) R s := by
  obtain ⟨a, us, n', rfl, ho, hr⟩ := list_at S ro hvs
  obtain ⟨m, hm, ⟨w, hw1, hw2⟩, hno⟩ := idx_spec hj
  rw [Nat.zero_add] at hm
  obtain ⟨d, _, _, hd, _, hf, _⟩ := eqV_at hw2
  obtain ⟨as, rd⟩ := reads_of S _ v u d rv hd
  have heq : ∀ w b, eqV σ w v = some b → ∀ u', VR I s.heap w u' → ∃ d' as', Reads s.heap u' d' as' ∧ d'.canLay0 = true ∧ b = PyData.eqv d' d := by
    intro w b e u' r
    obtain ⟨d₁, d', h1, hd', h2, _, h3⟩ := eqV_at e
    cases hd.symm.trans hd'
    obtain ⟨as', rd'⟩ := reads_of S _ w u' d' r h1
    exact ⟨d', as', rd', h2.1, h3⟩
  have hzs : us.size = vs.length := hr.length
  have at_ : ∀ m (hm : m < us.size), ∃ w, vs[m]? = some w ∧ VR I s.heap w us[m] := by
    intro m hm
    have hv' : vs[m]? = some (vs[m]'(hzs ▸ hm)) := List.getElem?_eq_getElem (hzs ▸ hm)
    obtain ⟨u', hu', ru'⟩ := hr.at hv'
    rw [Array.getElem?_toList, Array.getElem?_eq_getElem hm] at hu'
    (first | subst hu' | (injection hu' with hu'; subst hu') | (injection hu'; done) | cases hu')
    exact ⟨_, hv', ru'⟩
  have each : ∀ (m : Nat) w b, vs[m]? = some w → eqV σ w v = some b → ∀ hm : m < us.size, PyData.eqv (SeqAt.readOf s.heap us[m]) d = b := by
    intro m w b hm1 hm2 hm
    obtain ⟨w', e, ru'⟩ := at_ m hm
    rw [hm1] at e; (first | subst e | (injection e with e; subst e) | (injection e; done) | cases e)
    obtain ⟨d', as', rd', cd', e⟩ := heq w b hm2 _ ru'
    rw [SeqAt.readOf_eq cd' rd', e]
  have hmlt : m < us.size := hzs ▸ (List.getElem?_eq_some_iff.mp hw1).1
  have hu := c.hA.2.2
  refine call_meets PySem.F.slot_list_index ⟨_, ho, rfl⟩ PySem.F.entry_list_index (PySem.F.args_list_index_2 _ _) (SeqAt.list_indexAt a us n' none #[] u (fun y => PyData.eqv (SeqAt.readOf s.heap y) d) m hmlt (by lia) (each m w true hw1 hw2 hmlt) fun m' hm' hlt => ?_) ⟨ho, fun y hy => ?_, ?_⟩
  · obtain ⟨w', a, b⟩ := hno m' hlt
    exact each m' w' false a b hm'
  · obtain ⟨m', hm', rfl⟩ := Array.mem_iff_getElem.mp hy
    obtain ⟨w', e, ru'⟩ := at_ m' hm'
    obtain ⟨b, hb'⟩ := Option.isSome_iff_exists.mp (List.all_eq_true.mp hall w' (List.mem_of_getElem? e))
    obtain ⟨d', as', rd', cd', e'⟩ := heq _ b hb' _ ru'
    rw [SeqAt.readOf_eq cd' rd']
    refine SeqAt.eqAt_reads d' d c.A.in1 _ _ u _ _ rd' rd cd' hf.1 ?_
    show c.A.units + 1 + min d'.depth d.depth < cLine
    have := hf.2
    lia
  · rw [← hm]; exact q _ _
theorem sound_lidx {l e : PySem.Expr} {p q : PE} {x : Str} {apos pos : Pos} (hx : x = ("index" : Str)) (hl : (apos.endLine == pos.line) = true) (hb : ∀ name env x, attributeBase l name env x = x) (hs : Star e)
    (h₁ : SE t l p) (h₂ : SE t e q) : SE t (.Call (.Attribute l x apos) [e] [] pos) (.lidx p q) := fun c _ _ _ _ _ _ N he k => by
  subst hx
  refine Call_meth (hb _ _ _) hl (tr1 hs) (by simp) (h₁ c N he.dnb fun _ _ _ _ _ he x r₁ => ?_)
  obtain ⟨_, hw, he⟩ := he.tpo
  refine listMeth x.sim r₁ hw PySem.F.slot_list_index PySem.F.type_list_index (callB (tr1 hs) (ev1s hs h₂ (N.next x) he.dnb fun _ v _ _ s' he y r₂ => ?_))
  obtain ⟨vs, hvs, he⟩ := he.tpo
  obtain ⟨hz, he⟩ := he.drg
  obtain ⟨j, hj, he⟩ := he.tpo
  exact index_ok y.sim (r₁.ext y.ext) r₂ hvs hz.1 hz.2 hj fun t tk => k _ _ _ _ _ he (x.trans y).tok (VR.mkInt _ _)
end
end Mine
open PySem PySem.W PySem.Calls PyProof.Rows
namespace Mine
set_option linter.unusedVariables false
set_option maxRecDepth 100000

section
variable {prog : Program} {w : World} {B : Heap} {I I' : Inj} {σ : Sto} {h h' : Heap}
/-- what was made apart becomes an entry -/
theorem Sim.adopt (S : Sim prog w B I σ h) {d : Nat} {o : AO} (hs : Heap.SameBut d h h') (hf : d ∉ foot I) (hB : B.get? d = none) (nt : ∀ xs, ¬ IsTup h d xs) (hb : 711 ≤ d) (hv : ∃ o, h'.get? d = some o)
    (R : (∀ v u, VR I h v u → VR (I ++ [(d, d)]) h' v u) → OR prog w (I ++ [(d, d)]) h' o (d, d)) :
    Sim prog w B (I ++ [(d, d)]) (σ ++ [o]) h' ∧ (∀ v u, VR I h v u → VR (I ++ [(d, d)]) h' v u) := by
  have hi : ∀ (i : Nat) (p : Nat × Nat), I[i]? = some p → (I ++ [(d, d)])[i]? = some p := fun i p e => by
    rw [List.getElem?_append_left (List.getElem?_eq_some_iff.mp e).1]; exact e
  have ht : ∀ (a : Nat) xs, a ∉ foot I → IsTup h a xs → a ∉ foot (I ++ [(d, d)]) ∧ IsTup h' a xs := fun a xs ha q => by
    have hne : a ≠ d := fun z => nt xs (z ▸ q)
    refine ⟨?_, let ⟨o, e, r⟩ := q; ⟨o, (hs.2 a hne).trans e, r⟩⟩
    rw [foot_append, List.mem_append, not_or]
    exact ⟨ha, by simp [foot, hne]⟩
  have V : ∀ v u, VR I h v u → VR (I ++ [(d, d)]) h' v u := fun v u => VR.gen hi ht v u
  have ne : ∀ p ∈ I, p.1 ≠ d ∧ p.2 ≠ d := fun p hp => ⟨fun q => hf (mem_foot.mpr ⟨p, hp, .inl q.symm⟩), fun q => hf (mem_foot.mpr ⟨p, hp, .inr q.symm⟩)⟩
  refine ⟨⟨by simp [S.len], fun b o e => ?_, fun q hq => ?_, fun i j a b ei ej hij => ?_, fun i o' q e eq => ?_, fun q hq => (List.mem_append.mp hq).elim (S.big q) fun z => by rw [List.mem_singleton.mp z]; exact hb⟩, V⟩
  · exact (hs.2 b (fun q => by rw [q, hB] at e; (first | subst e | (injection e with e; subst e) | (injection e; done) | cases e))).trans (S.base b o e)
  · rcases List.mem_append.mp hq with hq | hq
    · have := S.new q hq
      have n := ne q hq
      rw [hs.2 _ n.1, hs.2 _ n.2]
      exact this
    · rw [List.mem_singleton.mp hq]
      exact ⟨hB, hB, hv, hv⟩
  · have old : ∀ (i : Nat) (a : Nat × Nat), (I ++ [(d, d)])[i]? = some a → i < I.length → I[i]? = some a ∧ a.1 ≠ d ∧ a.2 ≠ d := fun i a e hi => by
      rw [List.getElem?_append_left hi] at e
      exact ⟨e, ne a (List.mem_of_getElem? e)⟩
    have last : ∀ (i : Nat) (a : Nat × Nat), (I ++ [(d, d)])[i]? = some a → ¬ i < I.length → i = I.length ∧ a = (d, d) := fun i a e hi => by
      have hl := (List.getElem?_eq_some_iff.mp e).1
      simp at hl
      have : i = I.length := by lia
      subst this
      simp at e
      exact ⟨rfl, e.symm⟩
    by_cases hi : i < I.length <;> by_cases hj : j < I.length
    · exact S.apart i j a b (old i a ei hi).1 (old j b ej hj).1 hij
    · have x := old i a ei hi
      have y := last j b ej hj
      rw [y.2]
      exact ⟨x.2.1, x.2.1, x.2.2, x.2.2⟩
    · have x := old j b ej hj
      have y := last i a ei hi
      rw [y.2]
      exact ⟨x.2.1.symm, x.2.2.symm, x.2.1.symm, x.2.2.symm⟩
    · exact absurd ((last i a ei hi).1.trans (last j b ej hj).1.symm) hij
  · by_cases hi : i < σ.length
    · rw [List.getElem?_append_left hi] at e
      rw [List.getElem?_append_left (by rw [S.len]; exact hi)] at eq
      have n := ne q (List.mem_of_getElem? eq)
      exact (S.objs i o' q e eq).gen V (fun o' z => (hs.2 _ n.1).trans z) (fun o' z => (hs.2 _ n.2).trans z) ht
    · have hl := (List.getElem?_eq_some_iff.mp e).1
      simp at hl
      have : i = σ.length := by lia
      subst this
      simp at e
      rw [← S.len] at eq
      simp at eq
      subst e; subst eq
      exact R V
end

section
variable {G : G0} {t : Tx} {c : Cx} {ρ : Vars} {I : Inj} {s : Shared} {σ : Sto} {R : Value → Shared → Prop}
/-! dicts -/
theorem isD_of {v : AV} (e : isD σ v = true) : (∃ es, memO σ v = some (.dict es)) ∨ ∃ es, memO σ v = some (.tdict es) := by
  unfold isD at e
  cases h : memO σ v with
  | none => rw [h] at e; exact nomatch e
  | some o =>
    rw [h] at e
    induction o with
    | dict es => exact .inl ⟨es, rfl⟩
    | tdict es => exact .inr ⟨es, rfl⟩
    | _ => exact nomatch e
theorem dictMeth {o : AV} {u : Value} {P : Value × List Value → Shared → Prop} (S : GSim c.G I σ s.heap) (r : VR I s.heap o u) (e : isD σ o = true) {name : Str} {id : String} {pl : Sem Bool} (slot : Slot "dict" name id) (ty : typeOf (.builtin id) = pure (.type "method_descriptor"))
    (q : P (.builtin id, [u]) s) : c.wp (getMethod u name pl) P s := by
  have fin : ∀ (a : Nat) (o : Obj), u = .ref a → s.heap.get? a = some o → o.cls = .type "dict" → o.dict = none → c.wp (getMethod u name pl) P s := fun a o hu ho hc hd => by
    subst hu
    exact getMethod_builtin ⟨_, ho, hc⟩ PySem.F.plainAttrs_dict slot ty (fun b e => by (first | subst e | (injection e with e; subst e) | (injection e; done) | cases e); exact ⟨_, ho, hd⟩) q
  rcases isD_of e with ⟨es, hm⟩ | ⟨es, hm⟩
  · obtain ⟨p, hu, _, us, _, ⟨o, _, _, a, b, _⟩, _⟩ := mem_at S r hm
    exact fin _ o hu a b.1 b.2.1
  · obtain ⟨p, hu, _, as, us, _, ⟨o, _, _, a, b, _⟩, _⟩ := mem_at S r hm
    exact fin _ o hu a b.1 b.2.1

theorem keyT_of {v : AV} {k : List KI} (h : keyT v = some k) : ∃ x b j, v = .tup [.str x, b] ∧ k = [.s x, j] ∧ ((∃ n, b = .int n ∧ j = .i n) ∨ ∃ y, b = .str y ∧ j = .s y) := by
  obtain ⟨⟨a, b⟩, hp, h⟩ := opt_some h
  obtain ⟨x, hx, h⟩ := opt_some h
  cases asPair_of hp
  cases asStr_of hx
  induction b using AV.cs with
  | int n => (first | subst h | (injection h with h; subst h) | (injection h; done) | cases h); exact ⟨_, _, _, rfl, rfl, .inl ⟨_, rfl, rfl⟩⟩
  | str y => (first | subst h | (injection h with h; subst h) | (injection h; done) | cases h); exact ⟨_, _, _, rfl, rfl, .inr ⟨_, rfl, rfl⟩⟩
  | _ => exact no h
theorem key_of {h : Heap} {k : AV} {u : Value} {kk : List KI} (r : VR I h k u) (e : keyT k = some kk) : ∃ a : Nat, u = .ref a ∧ a ∉ foot I ∧ IsTupleKey (mixKind G.prog G.w) h kk a := by
  obtain ⟨x, b, j, rfl, rfl, hb⟩ := keyT_of e
  obtain ⟨a, xs, rfl, hf, ⟨o, ho, hc, n, hd⟩, u1, r1, e1, a1, u2, r2, e2, a2, b2⟩ := isTup_of r
  obtain ⟨t1, rfl⟩ := a1.str
  refine ⟨a, rfl, hf, o, xs, n, ho, hc, hd, ?_⟩
  rw [e1, e2, show r2 = [] from b2]
  refine .cons (KI.is_s _ t1) (.cons ?_ .nil)
  rcases hb with ⟨n, rfl, rfl⟩ | ⟨y, rfl, rfl⟩
  · obtain ⟨t2, rfl⟩ := a2.int
    exact KI.is_i _ t2
  · obtain ⟨t2, rfl⟩ := a2.str
    exact KI.is_s _ t2

theorem toH {h : Heap} {a : Nat} (d : h.DictOf (strKind G.prog G.w) a []) : h.DictOfH (tupK G.prog G.w) a [] := by
  obtain ⟨o, es, ep, h1, h2, h3, h4, h5, h6⟩ := d
  have : es.toList = [] := List.eq_nil_of_length_eq_zero (by rw [h5.length]; rfl)
  exact ⟨o, es, ep, h1, h2, h3, this, fun x hx => (by (first | subst hx | (injection hx with hx; subst hx) | (injection hx; done) | cases hx)), List.nodup_nil⟩
/-- a dict with tuples for keys -/
inductive TAt (prog : Program) (w : World) (u : Value) (I : Inj) (h : Heap) (es : List (List KI × AV)) : Prop | mk (p : Nat × Nat) (e : u = .ref p.1) (hp : p ∈ I) (as : List Nat) (us : List Value) (hl : as.length = es.length) (hd : h.DictOfH (tupK prog w) p.1 (tz es as us)) (hf : ∀ a ∈ as, a ∉ foot I) (r : VRs I h (es.map (·.2)) us)
theorem tdictO_of {o : Option AO} {es : List (List KI × AV)} : tdictO o = some es → (o = some (.dict []) ∧ es = []) ∨ o = some (.tdict es) := by
  induction o with
  | none => exact no
  | some o => induction o with
    | dict l => induction l using lcs with
      | nil => exact fun h => .inl ⟨rfl, (Option.some.inj h).symm⟩
      | cons => exact no
    | tdict l => exact fun h => .inr (congrArg (fun z => some (AO.tdict z)) (Option.some.inj h))
    | _ => exact no
theorem tdict_at {h : Heap} (S : GSim G I σ h) {v : AV} {u : Value} (r : VR I h v u) {es : List (List KI × AV)} (e : tdictO (memO σ v) = some es) : TAt G.prog G.w u I h es := by
  rcases tdictO_of e with ⟨e₁, rfl⟩ | e₁
  · obtain ⟨p, hu, hp, us, hl, hd, hr⟩ := mem_at S r e₁
    induction us using lcs with
    | nil => exact ⟨p, hu, hp, [], [], rfl, toH hd, fun _ h => (nomatch h), VRs.nil⟩
    | cons => exact nomatch hl
  · obtain ⟨p, hu, hp, as, us, hl, hd, hf, hr⟩ := mem_at S r e₁
    exact ⟨p, hu, hp, as, us, hl, hd, hf, hr⟩
theorem getD_rel {K : Type} [DecidableEq K] {es : List (K × AV)} {k : K} {h : Heap} {o : Option Value} (z : (∀ v, getK es k = some v → ∃ u, o = some u ∧ VR I h v u) ∧ (getK es k = none → o = none)) : VR I h ((getK es k).getD .none) (o.getD .none) := by
  cases hg : getK es k with
  | some v => obtain ⟨u, rfl, r⟩ := z.1 v hg; exact r
  | none => rw [z.2 hg]; rfl
theorem get_ok (S : GSim c.G I σ s.heap) {o k v : AV} {uo uk : Value} (ro : VR I s.heap o uo) (rk : VR I s.heap k uk)
    (e : dgetV o k σ = some v) (q : ∀ u tk, VR I s.heap v u → R u { s with toks := tk }) : c.wp (call (.builtin "dict.get") [uo, uk]) R s := by
  have room : c.A.units + 1 < cLine := Nat.lt_of_le_of_lt (by lia) c.hA.2.2
  have tk : opt (keyT k) (fun k => opt (tdictO (memO σ o)) fun es => some ((getK es k).getD .none)) = some v → c.wp (call (.builtin "dict.get") [uo, uk]) R s := fun e => by
    obtain ⟨kk, hk, e⟩ := opt_some e
    obtain ⟨es, he, e⟩ := opt_some e
    (first | subst e | (injection e with e; subst e) | (injection e; done) | cases e)
    obtain ⟨p, rfl, hp, as, us, hl, hd, hf0, hr⟩ := tdict_at S ro he
    obtain ⟨a, rfl, hf, hkey⟩ := key_of (G := c.G) rk hk
    refine call_meetsIn PySem.F.slot_dict_get hd.typeIs PySem.F.entry_dict_get (PySem.F.args_dict_get_2 _ _) (meetsH_dict_get (tupK c.G.prog c.G.w) p.1 a (notSys S hp)) ⟨tupleKind_room_in1 room, kk, _, hkey, hd, ?_⟩
    have z := atT_rel kk hl hr
    cases hg : getK es kk with
    | some v =>
      obtain ⟨b, u, x, y⟩ := z.1 v hg
      rw [hg] at q
      rw [show atKey _ _ = some (b, u) from x]
      exact q u _ y
    | none =>
      rw [hg] at q
      rw [show atKey _ _ = none from z.2 hg]
      exact q _ _ rfl
  induction k using AV.cs with
  | str x =>
    obtain ⟨es, he, e⟩ := opt_some e
    (first | subst e | (injection e with e; subst e) | (injection e; done) | cases e)
    obtain ⟨p, rfl, hp, us, hl, hd, hr⟩ := mem_at S ro (dictO_of he)
    obtain ⟨t, rfl⟩ := rk.str
    refine call_meetsIn PySem.F.slot_dict_get hd.mapOf.typeIs PySem.F.entry_dict_get (PySem.F.args_dict_get_2 _ _) (meets_dict_get (knd := strKind c.G.prog c.G.w) (d := p.1) (strKind_is _ _ _ t) (notSys S hp)) ⟨_, hd.mapOf, ?_⟩
    exact q _ _ (getD_rel (at_rel x hr))
  | _ => exact tk e
theorem sound_dget {d e : PySem.Expr} {p q : PE} {x : Str} {apos pos : Pos} (hx : x = ("get" : Str)) (hl : (apos.endLine == pos.line) = true) (hb : ∀ name env x, attributeBase d name env x = x) (hs : Star e)
    (h₁ : SE t d p) (h₂ : SE t e q) : SE t (.Call (.Attribute d x apos) [e] [] pos) (.dget p q) := fun c _ _ _ _ _ _ N he k => by
  subst hx
  refine Call_meth (hb _ _ _) hl (tr1 hs) (by simp) (h₁ c N he.dnb fun _ _ _ _ _ he x r₁ => ?_)
  obtain ⟨hd, he⟩ := he.drg
  refine dictMeth x.sim r₁ hd PySem.F.slot_dict_get PySem.F.type_dict_get (callB (tr1 hs) (ev1s hs h₂ (N.next x) he.dnb fun _ v _ _ s' he y r₂ => ?_))
  obtain ⟨w, hv, he⟩ := he.tpo
  exact get_ok y.sim (r₁.ext y.ext) r₂ hv fun u tk r => k _ _ _ _ _ he (x.trans y).tok r
end
end Mine
open PySem PySem.W PySem.Calls PyProof.Rows
namespace Mine
set_option linter.unusedVariables false
set_option maxRecDepth 100000

section
variable {G : G0} {t : Tx} {c : Cx} {ρ : Vars} {I : Inj} {s : Shared} {σ : Sto} {R : Value → Shared → Prop}
/-- arguments -/
inductive SAll (t : Tx) : List PySem.Expr → List PE → Prop
  | nil : SAll t [] []
  | cons {e : PySem.Expr} {p : PE} {es : List PySem.Expr} {ps : List PE} : Star e → SE t e p → SAll t es ps → SAll t (e :: es) (p :: ps)
theorem SAll.ses {es : List PySem.Expr} {ps : List PE} (h : SAll t es ps) : SEs t es ps := by
  induction h with
  | nil => exact SEs.nil
  | cons a b _ ih => exact SEs.cons a b ih
theorem SAll.trees {env : Env} {es : List PySem.Expr} {ps : List PE} (h : SAll t es ps) : Trees es env := by
  induction h with
  | nil => rfl
  | cons a b _ ih => exact (a env _).trans (congrArg _ ih)
theorem SAll.length {es : List PySem.Expr} {ps : List PE} (h : SAll t es ps) : es.length = ps.length := by
  induction h with
  | nil => rfl
  | cons a b _ ih => exact congrArg Nat.succ ih

theorem glob_ne {x : Str} {a : Nat} (e : globOf x = some (.ref a)) : a ≠ 1 := by
  unfold globOf at e
  obtain ⟨p, hp, e⟩ := Option.map_eq_some_iff.mp e
  have hm := List.mem_of_find?_eq_some hp
  have key : ∀ p ∈ globs, p.2 ≠ .ref 1 := by decide +kernel
  intro q
  subst q
  exact key p hm e


/-- a call of the program's own function -/
theorem call_ok (S : GSim c.G I σ s.heap) {a : Nat} {vs : List AV} {us : List Value} {Q : AV → Sto → Prop} (ha : a ≠ 1) (e : OK (c.C a vs σ) Q) (r : VRs I s.heap vs us)
    (q : ∀ u v σ' I' s', Q v σ' → St nX c.G I s I' σ' s' → VR I' s'.heap v u → R u s') : c.wp (call (.ref a) us) R s :=
  wpAny_call (c.hC.call a vs σ Q ha e c.A I s us _ c.hA.call S r q)
/-- a call: the arguments, the function -/
theorem call_args {es : List PySem.Expr} {ps : List PE} {pos : Pos} {a : Nat} {first : List Value} {fs : List AV} {Q : AV → Sto → Prop} (N : Now t c I s σ ρ) (ha : a ∈ callAddrs) (h : SAll t es ps) (rf : VRs I s.heap fs first) (he : OK (evEs c.C ps ρ σ) fun vs σ => OK (c.C a (fs ++ vs) σ) Q)
    (k : ∀ u v σ' I' s', Q v σ' → St nX c.G I s I' σ' s' → VR I' s'.heap v u → R u s') : c.wp (callWith pos (.ref a) first (backTo pos (starEach es c.env)) []) R s :=
  callK h.trees (c.G.kf.kfn a ha) (h.ses c pos N he fun us vs _ _ _ he x r => ⟨inK x.sim, call_ok x.sim (fun e => absurd (e ▸ ha) (by decide)) he (VRs.append (rf.ext x.ext) r) fun u v _ _ _ he y r' => k u v _ _ _ he (x.trans y) r'⟩)
theorem sound_call {x : Str} {xp pos : Pos} {es : List PySem.Expr} {ps : List PE} {a : Nat} (hx : t.name x = some (.inr (.ref a))) (ha : a ∈ callAddrs) (h : SAll t es ps) : SE t (.Call (.Name x xp) es [] pos) (.call a ps) := fun c _ _ _ _ _ _ N he k =>
  Call_glob hx N (call_args N ha h VRs.nil he.dnb k)
theorem fn_call {a : Nat} (h : a ∈ fnAddrs) : a ∈ callAddrs := .tail _ (.tail _ (.tail _ h))
theorem sound_ccall {x y : Str} {xp apos pos : Pos} {es : List PySem.Expr} {ps : List PE} {D a : Nat} (hx : t.name x = some (.inr (.ref D))) (hi : initOf D = some a) (hy : y = ("__init__" : Str)) (hl : (apos.endLine == pos.line) = true) (hn : es.length < 20) (h : SAll t es ps) :
    SE t (.Call (.Attribute (.Name x xp) y apos) es [] pos) (.ccall D a ps) := fun c _ _ s _ _ _ N he k => by
  subst hy
  obtain ⟨hD, hf, hfi, hfc, hr, hsp⟩ := c.G.kf.ini D a hi
  refine Call_meth (by with_unfolding_all rfl) hl h.trees hn (load_glob hx N ?_)
  refine method_cls (inK N.sim) hsp (cls_value (inK N.sim) hr hfc rfl ?_)
  exact call_args (N.tok (s.toks + 1)) (fn_call hf) h VRs.nil he.dnb fun u v _ _ _ he y r' => k u v _ _ _ he ((St.refl (X := nX) N.sim).tok.trans y) r'

theorem names_apart : ∀ f, f < fieldNames.length → ∀ m, m < methNames.length → (fieldNames[f]? == methNames[m]?) = false → fname f ≠ mname m := by decide +kernel
theorem meth_lt {D m a : Nat} (e : methOf D m = some a) : m < methNames.length := (show ∀ p ∈ methT, p.1.2 < methNames.length by decide) _ (lkm e)
theorem sound_meth {o : PySem.Expr} {p : PE} {y : Str} {apos pos : Pos} {es : List PySem.Expr} {ps : List PE} {m : Nat} (hb : ∀ name env x, attributeBase o name env x = x) (hy : y = mname m) (hl : (apos.endLine == pos.line) = true) (hn : es.length < 20) (h₁ : SE t o p) (h : SAll t es ps) :
    SE t (.Call (.Attribute o y apos) es [] pos) (.meth p m ps) := fun c _ _ _ _ _ _ N he k => by
  subst hy
  refine Call_meth (hb _ _ _) hl h.trees hn (h₁ c N he.dnb fun _ ov _ _ _ he x r => ?_)
  obtain ⟨⟨D, fs⟩, hm, he⟩ := he.tpo
  obtain ⟨a, ha, he⟩ := he.tpo
  obtain ⟨hfs, he⟩ := he.drg
  obtain ⟨hD, hf, hfi⟩ := c.G.kf.meth D m a ha
  obtain ⟨p, rfl, _, T⟩ := mem_at x.sim r (instO_of hm)
  obtain ⟨_, od, mm, ia, hd, hns, hfr⟩ := inst_at T
  refine method_fn (inK x.sim) ia (plainGet_of (c.G.kf.get D hD)).1 (plainGet_of (c.G.kf.get D hD)).2 hfi (beq_iff_eq.mp (c.G.kf.fn a hf)) ?_ ?_
  · show (lookIn (mname m) od).map _ = _
    rw [lookIn_ns hns hd, hfr.2 (mname m) fun f v hv => ?_]
    · rfl
    · refine names_apart f (hfr.1 f v hv).1 m (meth_lt ha) ?_
      rw [List.lookup_eq_some_iff] at hv
      obtain ⟨l1, l2, hv, _⟩ := hv
      have := (List.any_eq_false.mp hfs) (f, v) (by rw [show fs = _ from hv]; simp)
      simpa using this
  · exact call_args (fs := [ov]) (N.next x) (fn_call hf) h (VRs.cons r VRs.nil) he.dnb fun u v _ _ _ he y r' => k u v _ _ _ he (x.trans y) r'

theorem under_call {n : Nat} {A : Around} (hA : Room n A) (D : Nat) (us : List Value) : RoomC n (A.under (.builtin "type.__call__" ⟨.ref D :: us, []⟩)) := by
  refine ⟨hA.1, ?_, ?_⟩
  · rw [depth_under_kw]; have := hA.2.1; lia
  · have : (A.under (.builtin "type.__call__" ⟨.ref D :: us, []⟩)).units ≤ A.units + 5 := by
      show A.units + _ ≤ A.units + 5
      refine Nat.add_le_add_left ?_ _
      show (Code.builtin "type.__call__" ⟨[], []⟩).cUnits ≤ 5
      decide +kernel
    have := hA.2.2; lia
theorem sound_new {x : Str} {xp pos : Pos} {es : List PySem.Expr} {ps : List PE} {D : Nat} (hx : t.name x = some (.inr (.ref D))) (hD : D ∈ instCls) (h : SAll t es ps) : SE t (.Call (.Name x xp) es [] pos) (.new D ps) := fun c _ _ _ _ _ _ N he k =>
  Call_glob hx N (callK h.trees (c.G.kf.kcl D hD) (h.ses c pos N he.dnb fun us vs σ₁ I₁ s₁ he x r => ⟨inK x.sim, by
    obtain ⟨a, hi, he⟩ := he.tpo
    obtain ⟨_, hf, hfi, hfc, hr, hsp⟩ := c.G.kf.ini D a hi
    have ha1 : a ≠ 1 := fun e => absurd (e ▸ hf) (by decide)
    refine wpAny_call (make_core (makes_of (inK x.sim) (c.G.kf.make D hD)) (looks_findIn (inK x.sim) hfi) (fun self => bind_fn (inK x.sim) self (beq_iff_eq.mp (c.G.kf.fn a hf))) (.inl rfl) ?_)
    have g1 : ((s₁.heap.push emptyDict).push (instObj D s₁.heap.objs.size)).get? s₁.heap.objs.size = some emptyDict := Heap.get?_push_of_some _ (Heap.get?_push_size _ rfl)
    have g2 : ((s₁.heap.push emptyDict).push (instObj D s₁.heap.objs.size)).get? (s₁.heap.objs.size + 1) = some (instObj D s₁.heap.objs.size) := (Heap.size_push s₁.heap emptyDict) ▸ Heap.get?_push_size _ rfl
    obtain ⟨S2, x2⟩ := Sim.add (p := (s₁.heap.objs.size + 1, s₁.heap.objs.size)) (o := .inst D []) x.sim (fun b o e => Heap.get?_push_of_some _ (Heap.get?_push_of_some _ e)) (none_of_le (Nat.le_succ _)) none_of ⟨_, g2⟩ ⟨_, g1⟩ (Nat.le_succ_of_le (big_of x.sim))
      ⟨hD, g2, Nat.succ_ne_self _, ⟨#[], 0, g1, Nat.le_refl _⟩, fun _ => none, ⟨_, #[], 0, g1, rfl, fun e he => (by simp at he), fun _ => rfl⟩, ⟨fun f v e => (by (first | subst e | (injection e with e; subst e) | (injection e; done) | cases e)), fun _ _ => rfl⟩⟩
    have hself : VR (I₁ ++ [(s₁.heap.objs.size + 1, s₁.heap.objs.size)]) ((s₁.heap.push emptyDict).push (instObj D s₁.heap.objs.size)) (.ref σ₁.length) (.ref (s₁.heap.objs.size + 1)) := ⟨_, x.sim.len ▸ List.getElem?_concat_length, rfl⟩
    refine c.hC.call a _ _ _ ha1 he.dnb _ _ ⟨_, _, _, _, _⟩ (.ref (s₁.heap.objs.size + 1) :: us) _ (under_call c.hA D us) S2 (VRs.cons hself (r.ext x2)) fun u v _ _ _ he y r3 => ?_
    obtain ⟨_, hv, he⟩ := he.tpo
    cases r3.ofNone hv
    exact ⟨rfl, k _ _ _ _ _ he ((x.trans ⟨x2, rfl, S2⟩).trans y) (hself.ext y.ext)⟩⟩))
end
end Mine
open PySem PySem.W PySem.Calls PyProof.Rows
namespace Mine
set_option linter.unusedVariables false
set_option maxRecDepth 100000

/-! what is aside: iterators, lists under way, frames -/
section
variable {prog : Program} {w : World} {B : Heap} {I I' I₀ : Inj} {σ : Sto} {h h' h₀ : Heap} {a : Nat}
theorem VR.aside (hk : ∀ (b : Nat) o, b ≠ a → h.get? b = some o → h'.get? b = some o) (nt : ∀ xs, ¬ IsTup h a xs) {v : AV} {u : Value} (r : VR I h v u) : VR I h' v u :=
  VR.gen (fun _ _ e => e) (fun b xs hb ⟨o, ho, q⟩ => ⟨hb, o, hk b o (fun z => nt xs (z ▸ ⟨o, ho, q⟩)) ho, q⟩) v u r
theorem VRs.aside (hk : ∀ (b : Nat) o, b ≠ a → h.get? b = some o → h'.get? b = some o) (nt : ∀ xs, ¬ IsTup h a xs) {v : List AV} {u : List Value} (r : VRs I h v u) : VRs I h' v u :=
  VRs.gen (fun _ _ e => e) (fun b xs hb ⟨o, ho, q⟩ => ⟨hb, o, hk b o (fun z => nt xs (z ▸ ⟨o, ho, q⟩)) ho, q⟩) v u r
theorem Sim.aside (S : Sim prog w B I σ h) (hk : ∀ (b : Nat) o, b ≠ a → h.get? b = some o → h'.get? b = some o) (nt : ∀ xs, ¬ IsTup h a xs) (hf : a ∉ foot I) (hB : B.get? a = none) : Sim prog w B I σ h' := by
  refine ⟨S.len, fun b o e => hk b o (fun q => by rw [q, hB] at e; (first | subst e | (injection e with e; subst e) | (injection e; done) | cases e)) (S.base b o e), fun p hp => ?_, S.apart, fun i o p e q => ?_, S.big⟩
  · have := S.new p hp
    obtain ⟨o, e⟩ := this.2.2.1
    obtain ⟨o', e'⟩ := this.2.2.2
    exact ⟨this.1, this.2.1, ⟨o, hk _ _ (fun q => hf (mem_foot.mpr ⟨p, hp, .inl q.symm⟩)) e⟩, ⟨o', hk _ _ (fun q => hf (mem_foot.mpr ⟨p, hp, .inr q.symm⟩)) e'⟩⟩
  · have f := get_foot q
    exact (S.objs i o p e q).gen (fun v u => VR.aside hk nt) (fun o' => hk p.1 o' (fun z => hf (z ▸ f.1))) (fun o' => hk p.2 o' (fun z => hf (z ▸ f.2)))
      fun b xs hb ⟨o, ho, r⟩ => ⟨hb, o, hk b o (fun z => nt xs (z ▸ ⟨o, ho, r⟩)) ho, r⟩
/-- from the start on -/
theorem Ext.asideE (x : Ext I₀ h₀ I h) (hk : ∀ (b : Nat) o, b ≠ a → h.get? b = some o → h'.get? b = some o) (d : h₀.get? a = none) : Ext I₀ h₀ I h' := by
  have ne : ∀ (b : Nat) o, h₀.get? b = some o → b ≠ a := fun b o e q => by rw [q, d] at e; (first | subst e | (injection e with e; subst e) | (injection e; done) | cases e)
  exact ⟨x.pre, fun b o e => let ⟨o', e'⟩ := x.live b o e; ⟨o', hk b o' (ne b o e) e'⟩, fun b o q hb e => hk b o (ne b o e) (x.keep b o q hb e)⟩
theorem same_keep (hs : Heap.SameBut a h h') : ∀ (b : Nat) o, b ≠ a → h.get? b = some o → h'.get? b = some o := fun b o hb e => (hs.2 b hb).trans e
theorem extBut_keep (hs : Heap.ExtBut a h h') : ∀ (b : Nat) o, b ≠ a → h.get? b = some o → h'.get? b = some o := fun b o hb e => hs b o hb e
theorem Frm.aside {t : Tx} {env : Env} {ρ : Vars} (F : Frm t I h env ρ) (hk : ∀ (b : Nat) o, b ≠ a → h.get? b = some o → h'.get? b = some o) (nt : ∀ xs, ¬ IsTup h a xs) (hl : a ≠ env.locals) (hc : ∀ x c, env.cells.lookup x = some c → a ≠ c) : Frm t I h' env ρ := by
  obtain ⟨m, hm⟩ := F.ns
  refine ⟨F.kind, F.glob, F.bi, F.kinds, ⟨m, hm.at' fun o => hk _ o (Ne.symm hl)⟩, fun x c e => ?_, F.offL, F.offC, fun x i v e e' => ?_, F.cells, F.few, F.cinj⟩
  · obtain ⟨o, v, q, q'⟩ := F.cell x c e
    exact ⟨o, v, hk _ _ (Ne.symm (hc x c e)) q, q'⟩
  · obtain ⟨u, r, rd⟩ := F.vars x i v e e'
    refine ⟨u, r.aside hk nt, ?_⟩
    rcases rd with ⟨q, m, q2, q3⟩ | ⟨q, c, o, q2, q3, q4⟩
    · exact .inl ⟨q, m, q2.at' fun o => hk _ o (Ne.symm hl), q3⟩
    · exact .inr ⟨q, c, o, q2, hk _ _ (Ne.symm (hc x c q2)) q3, q4⟩
end

/-! iterators -/
inductive ItAt (I : Inj) (h : Heap) : Nat → AV → Nat → Nat → Prop
  | list {i it j : Nat} {p : Nat × Nat} (hp : I[i]? = some p) (hit : h.IsListIter it p.1 j) : ItAt I h 0 (.ref i) it j
  | range {n : Int} {it j : Nat} (hit : IsRangeIter h it (j : Int) (max n 0 - j) 1) : ItAt I h 1 (.int n) it j
  | tup {vs : List AV} {it j a : Nat} {xs : Array Value} (hit : h.IsTupleIter it a j) (hf : a ∉ foot I) (ht : IsTup h a xs) (r : VRs I h vs xs.toList) : ItAt I h 3 (.tup vs) it j
section
variable {I I' : Inj} {h h' : Heap} {k j it : Nat} {v : AV}
theorem ItAt.at (x : ItAt I h k v it j) : ∃ o fs, h.get? it = some o ∧ o.data = .fields fs ∧ (o.cls = .type "list_iterator" ∨ o.cls = .type "range_iterator" ∨ o.cls = .type "tuple_iterator") := by
  induction x with
  | list _ x => obtain ⟨o, a, b, c⟩ := x; exact ⟨o, _, a, c, .inl b⟩
  | range x => exact ⟨_, _, x, rfl, .inr (.inl rfl)⟩
  | tup x => obtain ⟨o, a, b, c⟩ := x; exact ⟨o, _, a, c, .inr (.inr b)⟩
theorem ItAt.noTup (x : ItAt I h k v it j) : ∀ xs, ¬ IsTup h it xs := fun xs ⟨o, ho, _, _, hd⟩ => by
  obtain ⟨o', _, e, q, _⟩ := x.at
  cases ho.symm.trans e
  cases hd.symm.trans q
theorem ItAt.gen (x : ItAt I h k v it j) (hi : ∀ (i : Nat) (p : Nat × Nat), I[i]? = some p → I'[i]? = some p) (ht : ∀ (a : Nat) xs, a ∉ foot I → IsTup h a xs → a ∉ foot I' ∧ IsTup h' a xs) (e : ∀ o, h.get? it = some o → h'.get? it = some o) : ItAt I' h' k v it j := by
  induction x with
  | list hp x => obtain ⟨o, a, b⟩ := x; exact .list (hi _ _ hp) ⟨o, e _ a, b⟩
  | range x => exact .range (e _ x)
  | tup x c d r => obtain ⟨o, a, b⟩ := x; exact .tup ⟨o, e _ a, b⟩ (ht _ _ c d).1 (ht _ _ c d).2 (VRs.gen hi ht _ _ r)
theorem ItAt.ext (x : ItAt I h k v it j) (E : Ext I h I' h') (hf : it ∉ foot I) : ItAt I' h' k v it j :=
  x.gen (fun _ _ => E.get) (E.tups Mine.noTup) fun o => E.keep it o (fun q => q) hf
theorem ItAt.aside {a : Nat} (x : ItAt I h k v it j) (hk : ∀ (b : Nat) o, b ≠ a → h.get? b = some o → h'.get? b = some o) (nt : ∀ xs, ¬ IsTup h a xs) (hne : it ≠ a) : ItAt I h' k v it j :=
  x.gen (fun _ _ e => e) (fun b xs hb ⟨o, ho, q⟩ => ⟨hb, o, hk b o (fun z => nt xs (z ▸ ⟨o, ho, q⟩)) ho, q⟩) fun o => hk it o hne
end

section
theorem Ext.snoc {I₀ I : Inj} {h₀ h : Heap} {D : Nat} (x : Ext I₀ h₀ I h) (d : h₀.get? D = none) : Ext I₀ h₀ (I ++ [(D, D)]) h := by
  obtain ⟨J, rfl, hJ⟩ := x.pre
  refine ⟨⟨J ++ [(D, D)], by rw [List.append_assoc], fun p hp => ?_⟩, x.live, x.keep⟩
  rcases List.mem_append.mp hp with q | q
  · exact hJ p q
  · rw [List.mem_singleton.mp q]; exact ⟨d, d⟩

variable {c : Cx} {I : Inj} {s : Shared} {σ : Sto} {R : Value → Shared → Prop} {k j it : Nat} {v : AV}
theorem next_ok (S : GSim c.G I σ s.heap) (x : ItAt I s.heap k v it j) {r : Option AV} (e : nextOf k v j σ = some r) {Q : Option Value → Shared → Prop}
    (q0 : r = none → ∀ h', Heap.ExtBut it s.heap h' → Q none { s with heap := h' })
    (q1 : ∀ w, r = some w → ∀ u h' tk, ItAt I h' k v it (j + 1) → Heap.SameBut it s.heap h' → VR I h' w u → Q (some u) { s with heap := h', toks := tk }) : c.wp (pyNext (.ref it)) Q s := by
  have hh := c.hA.1
  have nt := x.noTup
  have off : ∀ {vs : List AV} {us : Array Value}, VRs I s.heap vs us.toList → vs[j]? = none → us[j]? = none := fun hr hj => Array.getElem?_toList ▸ List.getElem?_eq_none_iff.mpr (hr.length ▸ List.getElem?_eq_none_iff.mp hj)
  cases x with
  | list hp hit =>
    obtain ⟨vs, hv, e⟩ := opt_some e
    obtain ⟨p', hp', us, ⟨n, ho⟩, hr⟩ := S.at (listO_of hv)
    cases hp.symm.trans hp'
    have hl : s.heap.IsList _ us := ⟨_, ho, rfl, n, rfl⟩
    cases hj : vs[j]? with
    | none => exact wpAny_pyNext_list_end hh hit hl (off hr hj) fun h' hs => q0 (Option.some.inj (e.symm.trans (congrArg some hj))) h' hs
    | some w =>
      obtain ⟨u, hu, r, _⟩ := list_get hr hj
      exact wpAny_pyNext_list_item hit hl hu fun h' hit' hs => q1 w (Option.some.inj (e.symm.trans (congrArg some hj))) u h' s.toks (.list hp hit') hs (r.aside (same_keep hs) nt)
  | @range n it j hit =>
    obtain ⟨_, e⟩ := grd_some e
    have e := Option.some.inj e
    by_cases hj : (j : Int) < n
    · rw [if_pos hj] at e
      refine wpAny_pyNext_range_item hit (by lia) fun h' hit' hs => q1 (.int j) e.symm (.int j s.toks) h' (s.toks + 1) (.range ?_) hs (VR.mkInt _ _)
      rw [show max n 0 - ((j + 1 : Nat) : Int) = max n 0 - (j : Int) - 1 by lia]
      exact hit'
    · rw [if_neg hj] at e
      exact wpAny_pyNext_range_end hh hit (by lia) fun h' hs => q0 e.symm h' hs
  | @tup vs it j a xs hit hf ht hr =>
    have e := Option.some.inj e
    cases hj : vs[j]? with
    | none => exact wpAny_pyNext_tuple_end hh hit (show s.heap.IsTuple _ xs from ht) (off hr hj) fun h' hs => q0 (e.symm.trans hj) h' hs
    | some w =>
      obtain ⟨u, hu, r, _⟩ := list_get hr hj
      refine wpAny_pyNext_tuple_item hit (show s.heap.IsTuple _ xs from ht) hu fun h' hit' hs => q1 w (e.symm.trans hj) u h' s.toks (.tup hit' hf ?_ (hr.aside (same_keep hs) nt)) hs (r.aside (same_keep hs) nt)
      obtain ⟨o, ho, hrest⟩ := ht
      exact ⟨o, same_keep hs a o (fun z => nt xs (z ▸ ⟨o, ho, hrest⟩)) ho, hrest⟩
theorem iter_self {P : Value → Shared → Prop} (x : ItAt I s.heap k v it j) (q : P (.ref it) s) : c.wp (pyIter (.ref it)) P s := by
  induction x with
  | list _ hit => exact wpAny_pyIter_listiter hit q
  | range hit => exact wpAny_pyIter_rangeiter hit q
  | tup hit => exact wpAny_pyIter_tupleiter hit q
end
end Mine
open PySem PySem.W PySem.Calls PyProof.Rows
namespace Mine
set_option linter.unusedVariables false
set_option maxRecDepth 100000

section
variable {t : Tx} {c : Cx} {ρ : Vars} {I : Inj} {s : Shared} {σ : Sto} {R : Value → Shared → Prop}
theorem isE_of {v : AV} : isE v = true → v = .tup [] := by
  induction v using AV.cs with
  | tup l => induction l using lcs with
    | nil => exact fun _ => rfl
    | cons => exact fun h => nomatch h
  | _ => exact fun h => nomatch h
theorem ints_vrs {h : Heap} {vs : List Value} {ns : List Int} (x : IntsAre vs ns) : VRs I h (ns.map .int) vs := by
  induction x with
  | nil => exact VRs.nil
  | cons n t _ ih => exact VRs.cons (VR.mkInt n t) ih
theorem sound_head {x : Str} {xp pos cp p1 p2 : Pos} {kd : Nat} {o : PySem.Expr} {p : PE} {m : Int} (hx : t.name x = some (.inr (.type "list"))) (h : SE t o p) (hm0 : 0 ≤ m) (hlt : ∀ u r, letTemporaryGo o u r = pure ()) :
    SE t (.Call (.Name x xp) [.Subscript o (.Slice none (some (.Constant (.int m) kd cp)) none p1) p2] [] pos) (.head p m.toNat) := fun c _ _ s _ _ _ N he k => by
  obtain ⟨ws, ⟨ol, hol, hcl, nl, hdl⟩, hi⟩ := c.hC.scr
  refine Call_glob hx N (callT (tr1 fun _ _ => rfl) (wpAny_items_cons ?_ rfl))
  refine wpAny_Subscript_list_slice (ht := hlt) (h c N he.dnb fun u v _ I' s' he x r => ?_)
  obtain ⟨⟨hle, hnn, hns⟩, he⟩ := (c.hC.head _ _ _ he).drg
  obtain ⟨hz, he⟩ := he.drg
  refine wpAny_pure (a := Value.none) ?_
  show wpAny _ _ (eval (.Constant (.int m) kd cp) c.env) _ _ _
  refine wpAny_Constant_int ?_
  cases r.ofOld hle
  have hl : s'.heap.IsList c.sc.1 ws.toArray := ⟨ol, x.sim.base _ _ hol, hcl, nl, hdl⟩
  have hsz : ws.toArray.size ≤ sizeLine := lim_size (Nat.le_trans (Nat.le_of_eq hi.length) (Nat.le_trans hns (by decide)))
  refine ⟨c.sc.1, ws.toArray, none, some (m.toNat : Int), rfl, hl, hsz, .none, ?_, wpAny_items_nil ?_⟩
  · rw [Int.toNat_of_nonneg hm0]
    exact .int _ _
  · rw [slicePick_upto' ws.toArray m.toNat]
    have hk : ∀ (b : Nat) o, s'.heap.get? b = some o → ((s'.heap.push { cls := .type "slice", data := .fields #[.none, .int m s'.toks, .none] }).push { cls := .type "list", data := .seq (ws.toArray.toList.take m.toNat).toArray }).get? b = some o := fun b o e => Heap.get?_push_of_some _ (Heap.get?_push_of_some _ e)
    have hg := Heap.get?_push_size (s'.heap.push { cls := .type "slice", data := .fields #[.none, .int m s'.toks, .none] }) (o := { cls := .type "list", data := .seq (ws.toArray.toList.take m.toNat).toArray }) rfl
    rw [Heap.size_push] at hg
    have y : St nX c.G _ s I' _ { s' with heap := (s'.heap.push { cls := .type "slice", data := .fields #[.none, .int m s'.toks, .none] }).push { cls := .type "list", data := .seq (ws.toArray.toList.take m.toNat).toArray }, toks := s'.toks + 1 } := x.go (ExtX.grow hk) (x.sim.grow hk)
    refine call_list_seq (hsz := Nat.le_trans (List.length_take_le' ..) hsz) (s'.heap.objs.size + 1) (.inl rfl) hg rfl rfl fun h'' c' hk2 hD => ?_
    have z := y.made (tk := s'.toks + 1) (vs := (c.sc.2.take m.toNat).map .int) hk2 none_of (big_of y.sim) hD fun E => (List.map_take ▸ (((ints_vrs hi).take m.toNat).ext E : VRs _ h'' _ _))
    exact k _ _ _ _ _ he z.1 z.2

theorem sound_dgetD {d a b : PySem.Expr} {p q r : PE} {x : Str} {apos pos : Pos} (hx : x = ("get" : Str)) (hl : (apos.endLine == pos.line) = true) (hb : ∀ name env x, attributeBase d name env x = x)
    (hs : Star a) (hs' : Star b) (h₁ : SE t d p) (h₂ : SE t a q) (h₃ : SE t b r) : SE t (.Call (.Attribute d x apos) [a, b] [] pos) (.dgetD p q r) := fun c _ _ _ _ _ _ N he k => by
  subst hx
  refine Call_meth (hb _ _ _) hl (tr2 hs hs') (by simp) (h₁ c N he.dnb fun _ o _ _ _ he x r₁ => ?_)
  obtain ⟨ho, he⟩ := he.drg
  cases r₁.ofOld ho
  obtain ⟨kvs, hd, hmd⟩ := c.G.mdict
  have hd' := hd.keep (fun b o e => x.sim.base b o e)
  obtain ⟨od, es, ep, ho, ⟨hc, hdn, _⟩, _⟩ := id hd'
  refine getMethod_builtin ⟨od, ho, hc⟩ PySem.F.plainAttrs_dict PySem.F.slot_dict_get PySem.F.type_dict_get (fun b e => by (first | subst e | (injection e with e; subst e) | (injection e; done) | cases e); exact ⟨_, ho, hdn⟩) ?_
  refine callB (tr2 hs hs') (wpAny_items_cons (h₂ c (N.next x) he.dnb fun _ _ _ _ _ he y r₂ => ?_) (hs c.env _))
  obtain ⟨kk, hk, he⟩ := he.tpo
  refine ev1s hs' h₃ ((N.next x).next y) he.dnb fun u2 z _ _ _ he w r₃ => ?_
  obtain ⟨hz, he⟩ := he.drg
  obtain ⟨vs, hm, he⟩ := he.tpo
  have st := (x.trans y).trans w
  have hd'' := hd.keep (fun b o e => st.sim.base b o e)
  obtain ⟨tt, rfl⟩ := r₂.ofStr hk
  refine call_meetsIn PySem.F.slot_dict_get hd''.mapOf.typeIs PySem.F.entry_dict_get (PySem.F.args_dict_get_3 _ _ _) (meets_dict_get_default (knd := PySem.strKind c.G.prog c.G.w) (d := 390) (strKind_is _ _ _ tt) rfl u2) ⟨_, hd''.mapOf, ?_⟩
  rcases hmd kk vs hm with ⟨rfl, e⟩ | ⟨a, xs, e, ⟨oa, hoa, hrest⟩, hr⟩
  · rw [e]
    exact k _ _ _ _ _ he st.tok (isE_of hz ▸ r₃)
  · rw [e]
    refine k _ _ _ _ _ he st.tok ⟨a, xs, rfl, st.sim.off hoa, ⟨oa, st.sim.base _ _ hoa, hrest⟩, ?_⟩
    exact VRs.gen (fun i p e => by simp at e) (fun a' xs' _ ⟨o', e', r'⟩ => ⟨st.sim.off e', o', st.sim.base _ _ e', r'⟩) vs _ hr

/-! dict displays -/
inductive Keys : List (Option PySem.Expr) → List (List Nat) → Prop
  | nil : Keys [] []
  | cons {s : Str} {kd : Nat} {cp : Pos} {l : List (Option PySem.Expr)} {ks : List (List Nat)} : Keys l ks → Keys (some (.Constant (.str s) kd cp) :: l) (s.cps.toList :: ks)
theorem Keys.all {l : List (Option PySem.Expr)} {ks : List (List Nat)} (h : Keys l ks) : l.all (·.isSome) = true ∧ l.length = ks.length := by
  induction h with
  | nil => exact ⟨rfl, rfl⟩
  | cons _ ih => exact ⟨ih.1, congrArg Nat.succ ih.2⟩
theorem dpairs_ok {keys : List (Option PySem.Expr)} {ks : List (List Nat)} (hk : Keys keys ks) : ∀ {values : List PySem.Expr} {ps : List PE}, SAll t values ps → ∀ {pos : Pos} {I : Inj} {s : Shared} {σ : Sto} {Q : List AV → Sto → Prop} {P : List (Value × Value) → Shared → Prop}, ks.length = ps.length → Now t c I s σ ρ → OK (evEs c.C ps ρ σ) Q →
    (∀ prs us vs σ' I' s', Q vs σ' → St nX c.G I s I' σ' s' → VRs I' s'.heap vs us → us.length = ks.length → Carries (PySem.strKind c.G.prog c.G.w) prs ((ks.map fun k => (⟨k.toArray⟩ : Str)).zip us) → P prs s') →
      c.wp (evalPairs (pairTrees keys values c.env pos)) P s := by
  induction hk with
  | nil =>
    intro values ps ha pos I s σ Q P hl N he k
    induction ha with
    | nil => exact evalPairs_nil (k [] [] [] _ _ _ he (St.refl N.sim) VRs.nil rfl trivial)
    | cons => (first | subst hl | (injection hl with hl; subst hl) | (injection hl; done) | cases hl)
  | @cons d kd cp l ks hr ih =>
    intro values ps ha pos I s σ Q P hl N he k
    induction ha with
    | nil => (first | subst hl | (injection hl with hl; subst hl) | (injection hl; done) | cases hl)
    | cons hst hse hrest =>
      refine evalPairs_cons (wpAny_Constant_str (wpAny_bind (hse c (N.tok (s.toks + 1)) he.dnb fun u v _ _ _ he x r => wpAny_bind (wpAny_standAt (wpAny_pure ?_)))))
      refine ih hrest (Nat.succ.inj hl) ((N.tok (s.toks + 1)).next x) he.dnb fun prs us vs _ _ _ he y r' hlen hcar => ?_
      refine k _ (u :: us) (v :: vs) _ _ _ he (((St.refl (X := nX) N.sim).tok.trans x).trans y) (VRs.cons (r.ext y.ext) r') (congrArg Nat.succ hlen) ?_
      rw [List.map_cons, show (⟨d.cps.toList.toArray⟩ : Str) = d from congrArg Str.mk Array.toArray_toList]
      exact ⟨strKind_is _ _ _ _, rfl, hcar⟩
theorem Ext.behind {I₀ I : Inj} {h₀ h₁ h h' : Heap} {D : Nat} (x : Ext I₀ h₁ I h) (k : ∀ (a : Nat) o, h₀.get? a = some o → h₁.get? a = some o) (d : h₀.get? D = none) (hs : Heap.SameBut D h h') : Ext I₀ h₀ (I ++ [(D, D)]) h' :=
  Ext.snoc (Ext.asideE (x.since k fun _ q => q.elim) (same_keep hs) d) d
theorem merge_rel {I : Inj} {h : Heap} : ∀ {ks : List (List Nat)} {vs : List AV} {us : List Value} {es : List (List Nat × AV)} {ws : List Value}, ks.length = vs.length → VRs I h vs us → ws.length = es.length → VRs I h (es.map (·.2)) ws →
    ∃ ws', ws'.length = ((ks.zip vs).foldl (fun d p => putK d p.1 p.2) es).length ∧ merged (dz es ws) ((ks.map fun k => (⟨k.toArray⟩ : Str)).zip us) = dz ((ks.zip vs).foldl (fun d p => putK d p.1 p.2) es) ws' ∧ VRs I h (((ks.zip vs).foldl (fun d p => putK d p.1 p.2) es).map (·.2)) ws'
  | [], vs, us, es, ws, _, _, h3, h4 => ⟨ws, h3, rfl, h4⟩
  | k :: ks, [], _, _, _, hl, _, _, _ => nomatch hl
  | k :: ks, v :: vs, us, es, ws, hl, hv, h3, h4 => by
    obtain ⟨u, us, rfl, r1, r2⟩ := (show ∃ u r, us = u :: r ∧ VR I h v u ∧ VRs I h vs r from hv)
    obtain ⟨ws1, a1, b1, c1⟩ := put_rel k r1 (es := es) h4
    obtain ⟨ws', a, b, c⟩ := merge_rel (es := putK es k v) (Nat.succ.inj hl) r2 a1 c1
    refine ⟨ws', a, ?_, c⟩
    simp only [List.map_cons, List.zip_cons_cons, merged, List.foldl_cons] at b ⊢
    rw [b1]; exact b
theorem sound_dict {keys : List (Option PySem.Expr)} {values : List PySem.Expr} {ks : List (List Nat)} {ps : List PE} {pos : Pos} (hk : Keys keys ks) (hl : ks.length = ps.length) (h4 : ks.length ≤ 4) (h : SAll t values ps) : SE t (.Dict keys values pos) (.dict ks ps) := fun c ρ I s σ Q R N he k => by
  have ka := hk.all
  have hnew : ∀ {h : Heap}, h.get? s.heap.objs.size = some { cls := .type "dict", data := .dict #[] } → h.DictOf (PySem.strKind c.G.prog c.G.w) s.heap.objs.size [] := fun g => ⟨_, #[], 0, g, ⟨rfl, rfl, rfl⟩, rfl, fun e he => (by simp at he), .nil, List.nodup_nil⟩
  induction hk with
  | nil =>
    induction h with
    | cons => (first | subst hl | (injection hl with hl; subst hl) | (injection hl; done) | cases hl)
    | nil =>
    refine wpAny_Dict_empty ?_
    have z := fin_new (o := { cls := .type "dict", data := .dict #[] }) (a := .dict []) N.sim (fun h' g E => ⟨[], rfl, hnew g, VRs.nil⟩) rfl
    exact k _ _ _ _ { s with heap := s.heap.push { cls := .type "dict", data := .dict #[] } } (show OK (grd (([] : List (List Nat)).length = ([] : List AV).length ∧ ([] : List (List Nat)).length ≤ 4) (some (alloc σ (.dict [])))) Q from he.dnb).drg.2 ⟨z.2.1, rfl, z.1⟩ z.2.2
  | @cons s0 kd cp keys0 ks0 hr =>
    have hd0 : s.heap.get? s.heap.objs.size = none := none_of
    have x0 : Ext I s.heap I (s.heap.push { cls := .type "dict", data := .dict #[] }) := ExtX.push _
    have N1 : Now t c I { s with heap := s.heap.push { cls := .type "dict", data := .dict #[] } } σ ρ := ⟨N.sim.push _, N.frm.next x0⟩
    have hval := ka.2.trans (hl.trans h.length.symm)
    have pl := pairTrees_length _ values c.env pos ka.1 hval
    refine wpAny_Dict_pairs (knd := PySem.strKind c.G.prog c.G.w) (zip_pairTrees _ values c.env pos ka.1 hval) ?_ ?_ ?_
    · intro e
      rw [e] at pl
      exact nomatch pl
    · exact Nat.le_trans (Nat.le_of_eq (pl.trans ka.2)) (Nat.le_trans h4 (by decide))
    · refine dpairs_ok (.cons hr) h hl N1 he.dnb fun prs us vs _ I' s' he x r hul hcar => ?_
      obtain ⟨⟨hl', _⟩, he⟩ := he.drg
      have hnew' := hnew (x.ext.keep _ _ (fun q => q) (N.sim.dead hd0) (Heap.get?_push_size _ rfl))
      refine ⟨_, hcar, hnew', fun h3 hm hs3 => ?_⟩
      have hB : c.G.B.get? s.heap.objs.size = none := by
        cases q : c.G.B.get? s.heap.objs.size with
        | none => rfl
        | some o => rw [N.sim.base _ _ q] at hd0; (first | subst hd0 | (injection hd0 with hd0; subst hd0) | (injection hd0; done) | cases hd0)
      have z := Sim.adopt (o := .dict (((s0.cps.toList :: ks0).zip vs).foldl (fun d p => putK d p.1 p.2) [])) x.sim hs3 (x.ext.off (N.sim.dead hd0) (Heap.get?_push_size _ rfl)) hB (fun xs ⟨o, ho, hc, nn, hd⟩ => by
          obtain ⟨o', es, ep, h1, h2, h3, _⟩ := hnew'
          cases ho.symm.trans h1; cases hd.symm.trans h3) (big_of N.sim) (let ⟨o, _, _, h1, _⟩ := hm; ⟨o, h1⟩) (fun V => by
        obtain ⟨ws', a, b, d⟩ := merge_rel (es := []) (ws := []) hl' (VRs.each V r) rfl VRs.nil
        refine ⟨ws', a, ?_, d⟩
        show h3.DictOf _ s.heap.objs.size (dz _ ws')
        rw [← (show merged [] _ = dz _ ws' from b)]; exact hm)
      exact k _ _ _ _ { s' with heap := h3, toks := s'.toks + prs.length } he ⟨Ext.behind x.ext (fun a o e => Heap.get?_push_of_some _ e) hd0 hs3, congrArg (fun z : Shared => { z with heap := h3, toks := s'.toks + prs.length }) x.like, z.1⟩ ⟨_, x.sim.len ▸ List.getElem?_concat_length, rfl⟩
end
end Mine
open PySem PySem.W PySem.Calls PyProof.Rows
namespace Mine
set_option linter.unusedVariables false
set_option maxRecDepth 100000

/-! frames: stores, and the frame of a comprehension -/
section
variable {t : Tx} {I : Inj} {h h' : Heap} {env : Env} {ρ ρ' : Vars}
theorem Frm.sub (F : Frm t I h env ρ) (k : ∀ i v, ρ' i = some v → ρ i = some v) : Frm t I h env ρ' :=
  ⟨F.kind, F.glob, F.bi, F.kinds, F.ns, F.cell, F.offL, F.offC, fun x i v a b => F.vars x i v a (k i v b), F.cells, F.few, F.cinj⟩
theorem posIn_at {l : List (Str × NameKind)} {x : Str} {i : Nat} (e : posIn l x = some i) : ∃ p, l[i]? = some p ∧ p.1 = x := by
  unfold posIn at e
  obtain ⟨hl, q, _⟩ := List.findIdx?_eq_some_iff_getElem.mp e
  exact ⟨l[i], List.getElem?_eq_getElem hl, by simpa using q⟩
theorem posIn_inj {l : List (Str × NameKind)} {x y : Str} {i : Nat} (e : posIn l x = some i) (e' : posIn l y = some i) : x = y := by
  obtain ⟨p, a, b⟩ := posIn_at e
  obtain ⟨p', a', b'⟩ := posIn_at e'
  rw [a] at a'; (first | subst a' | (injection a' with a'; subst a') | (injection a'; done) | cases a')
  rw [← b, ← b']
theorem posIn_lt {l : List (Str × NameKind)} {x : Str} {i : Nat} (e : posIn l x = some i) : i < l.length := by
  obtain ⟨p, a, _⟩ := posIn_at e
  exact (List.getElem?_eq_some_iff.mp a).1
/-- where a name lies -/
theorem Tx.where (t : Tx) {x : Str} {i : Nat} (e : t.name x = some (.inl i)) : (posIn t.names x = some i ∧ (t.comp = none ∨ ∃ c, t.comp = some c ∧ c.lookup x = some .free ∧ t.names.lookup x = some .cell)) ∨ ∃ c j, t.comp = some c ∧ c.lookup x = some .local ∧ posIn c x = some j ∧ i = 100 + j := by
  have e := Tx.name_o e
  cases ht : t.comp with
  | none => rw [ht] at e; exact .inl ⟨(nmT_l e).2, .inl rfl⟩
  | some c =>
    rw [ht] at e
    rcases nmC_l e with ⟨j, a, b, q⟩ | ⟨⟨a, b⟩, q⟩
    · exact .inr ⟨c, j, rfl, a, b, q.symm⟩
    · exact .inl ⟨q, .inr ⟨c, rfl, a, b⟩⟩
theorem Tx.inj (t : Tx) (hw : t.names.length ≤ 100) {x y : Str} {i : Nat} (e : t.name x = some (.inl i)) (e' : t.name y = some (.inl i)) : x = y := by
  rcases t.where e with ⟨a, _⟩ | ⟨c, j, a, _, b, q⟩ <;> rcases t.where e' with ⟨a', _⟩ | ⟨c', j', a', _, b', q'⟩
  · exact posIn_inj a a'
  · have := posIn_lt a; lia
  · have := posIn_lt a'; lia
  · rw [a] at a'; (first | subst a' | (injection a' with a'; subst a') | (injection a'; done) | cases a')
    have : j = j' := by lia
    subst this
    exact posIn_inj b b'
theorem ns_unique {a : Nat} {m m' : Str → Option Value} (x : h.Ns a m) (y : h.Ns a m') : m = m' := by
  obtain ⟨o, es, ep, h1, h2, _, h3⟩ := x
  obtain ⟨o', es', ep', h1', h2', _, h3'⟩ := y
  rw [h1] at h1'; (first | subst h1' | (injection h1' with h1'; subst h1') | (injection h1'; done) | cases h1')
  rw [h2] at h2'; (first | subst h2' | (injection h2' with h2'; subst h2') | (injection h2'; done) | cases h2')
  funext z
  rw [← h3, ← h3']
theorem Frm.cell_ne (F : Frm t I h env ρ) {x : Str} {c : Nat} (e : env.cells.lookup x = some c) : c ≠ env.locals := by
  obtain ⟨o, v, a, b⟩ := F.cell x c e
  obtain ⟨m, o', es, ep, a', b', _⟩ := F.ns
  intro q
  rw [q, a'] at a; (first | subst a | (injection a with a; subst a) | (injection a; done) | cases a)
  rw [b'] at b; (first | subst b | (injection b with b; subst b) | (injection b; done) | cases b)
theorem Frm.store (F : Frm t I h env ρ) {x : Str} {i : Nat} {v : AV} {u : Value} {m : Str → Option Value} (hx : t.name x = some (.inl i)) (hk : env.kindOf x = some .local) (hm : h.Ns env.locals m) (hn : h'.Ns env.locals (fun y => if y = x then some u else m y)) (hs : Heap.SameBut env.locals h h') (r : VR I h v u) : Frm t I h' env (upd ρ i v) := by
  have nt : ∀ xs, ¬ IsTup h env.locals xs := F.noTup _ (.inl rfl)
  have hk' := same_keep hs
  refine ⟨F.kind, F.glob, F.bi, F.kinds, ⟨_, hn⟩, fun y c e => ?_, F.offL, F.offC, fun y j w e e' => ?_, F.cells, F.few, F.cinj⟩
  · obtain ⟨o, v, q, q'⟩ := F.cell y c e
    exact ⟨o, v, hk' _ _ (F.cell_ne e) q, q'⟩
  · unfold upd at e'
    split at e'
    · rename_i hj
      (first | subst e' | (injection e' with e'; subst e') | (injection e'; done) | cases e')
      subst hj
      have := t.inj F.few e hx
      subst this
      exact ⟨u, r.aside hk' nt, .inl ⟨hk, _, hn, by simp⟩⟩
    · rename_i hj
      obtain ⟨u', r', rd⟩ := F.vars y j w e e'
      have hne : y ≠ x := fun q => by subst q; rw [hx] at e; (first | subst e | (injection e with e; subst e) | (injection e; done) | cases e); exact hj rfl
      refine ⟨u', r'.aside hk' nt, ?_⟩
      rcases rd with ⟨q, m1, q2, q3⟩ | ⟨q, c, o, q2, q3, q4⟩
      · have := ns_unique hm q2
        subst this
        exact .inl ⟨q, _, hn, by simp [hne, q3]⟩
      · exact .inr ⟨q, c, o, q2, hk' _ _ (F.cell_ne q2) q3, q4⟩
theorem Frm.storeC (F : Frm t I h env ρ) {x : Str} {i : Nat} {v : AV} {u : Value} {c : Nat} (hx : t.name x = some (.inl i)) (hk : env.kindOf x = some .cell) (hc : env.cells.lookup x = some c) (hn : h'.IsCell c (some u)) (hs : Heap.SameBut c h h') (r : VR I h v u) : Frm t I h' env (upd ρ i v) := by
  have nt : ∀ xs, ¬ IsTup h c xs := F.noTup _ (.inr ⟨x, hc⟩)
  have hk' := same_keep hs
  have hne := F.cell_ne hc
  obtain ⟨m, hm⟩ := F.ns
  obtain ⟨oc, hoc, hdc⟩ := hn
  have hm' : h'.Ns env.locals m := hm.at' fun o => hk' _ o (Ne.symm hne)
  refine ⟨F.kind, F.glob, F.bi, F.kinds, ⟨m, hm'⟩, fun y c' e => ?_, F.offL, F.offC, fun y j w e e' => ?_, F.cells, F.few, F.cinj⟩
  · by_cases q : c' = c
    · subst q; exact ⟨oc, _, hoc, hdc⟩
    · obtain ⟨o, v, q1, q2⟩ := F.cell y c' e
      exact ⟨o, v, hk' _ _ q q1, q2⟩
  · unfold upd at e'
    split at e'
    · rename_i hj
      (first | subst e' | (injection e' with e'; subst e') | (injection e'; done) | cases e')
      subst hj
      have := t.inj F.few e hx
      subst this
      exact ⟨u, r.aside hk' nt, .inr ⟨.inl hk, c, oc, hc, hoc, hdc⟩⟩
    · rename_i hj
      obtain ⟨u', r', rd⟩ := F.vars y j w e e'
      have hne' : y ≠ x := fun q => by subst q; rw [hx] at e; (first | subst e | (injection e with e; subst e) | (injection e; done) | cases e); exact hj rfl
      refine ⟨u', r'.aside hk' nt, ?_⟩
      rcases rd with ⟨q, m1, q2, q3⟩ | ⟨q, c', o, q2, q3, q4⟩
      · exact .inl ⟨q, m1, q2.at' fun o => hk' _ o (Ne.symm hne), q3⟩
      · exact .inr ⟨q, c', o, q2, hk' _ _ (fun z => hne' (F.cinj _ _ _ (z ▸ q2) hc)) q3, q4⟩
end

noncomputable def closL (env : Env) : List (Str × NameKind) → List (Str × Addr) → List (Str × Addr)
  | [], acc => acc
  | p :: r, acc => closL env r (if p.2 == .free then (p.1, (env.cells.lookup p.1).getD 0) :: acc else acc)
theorem clos_ok {env : Env} {scope : Scope} (h : ∀ p ∈ scope.names, p.2 = .free → ∃ c, env.cells.lookup p.1 = some c) : closureFor scope env = pure (closL env scope.names []) := by
  have key : ∀ (names : List (Str × NameKind)) (acc : List (Str × Addr)), (∀ p ∈ names, p.2 = .free → ∃ c, env.cells.lookup p.1 = some c) →
      (forIn names acc fun (x : Str × NameKind) (cs : List (Str × Addr)) => (if (x.2 == NameKind.free) = true then do let __do_lift ← cellOf env x.1; pure (ForInStep.yield ((x.1, __do_lift) :: cs)) else pure (ForInStep.yield cs) : Sem (ForInStep (List (Str × Addr))))) = pure (closL env names acc) := by
    intro names
    induction names with
    | nil => intro acc _; rfl
    | cons p names ih =>
      intro acc hp
      rw [List.forIn_cons]
      cases hk : p.2 == NameKind.free with
      | true =>
        obtain ⟨c, hc⟩ := hp p (.head _) (by simpa using hk)
        have hc' : cellOf env p.1 = pure c := by unfold cellOf; rw [hc]
        rw [if_pos rfl, hc']
        simp only [pure_bind]
        rw [ih _ fun q hq => hp q (.tail _ hq)]
        simp [closL, hk, hc]
      | false =>
        simp only [Bool.false_eq_true, if_false, pure_bind]
        rw [ih _ fun q hq => hp q (.tail _ hq)]
        simp [closL, hk]
  unfold closureFor
  have := key scope.names [] h
  simp only [bind_pure]
  exact this
theorem closL_of {env : Env} {x : Str} {c : Addr} : ∀ (names : List (Str × NameKind)) (acc : List (Str × Addr)), (∀ p ∈ names, p.2 = .free → ∃ c, env.cells.lookup p.1 = some c) → (closL env names acc).lookup x = some c → acc.lookup x = some c ∨ env.cells.lookup x = some c
  | [], acc, _, e => .inl e
  | p :: r, acc, hp, e => by
    unfold closL at e
    rcases closL_of r _ (fun q hq => hp q (.tail _ hq)) e with e | e
    · split at e
      · rename_i hk
        obtain ⟨c', hc'⟩ := hp p (.head _) (by simpa using hk)
        simp only [List.lookup_cons] at e
        split at e
        · rename_i hx
          rw [hc'] at e
          (first | subst e | (injection e with e; subst e) | (injection e; done) | cases e)
          have hx' : x = p.1 := by simpa using hx
          exact .inr (hx' ▸ hc')
        · exact .inl e
      · exact .inl e
    · exact .inr e
theorem closL_at {env : Env} {x : Str} {c : Addr} (hc : env.cells.lookup x = some c) : ∀ (names : List (Str × NameKind)) (acc : List (Str × Addr)), (acc.lookup x = some c ∨ (x, NameKind.free) ∈ names) → (closL env names acc).lookup x = some c
  | [], acc, e => e.elim id fun q => by (first | subst q | (injection q with q; subst q) | (injection q; done) | cases q)
  | p :: r, acc, e => by
    unfold closL
    refine closL_at hc r _ ?_
    by_cases hp : p = (x, NameKind.free)
    · subst hp
      left
      simp [List.lookup_cons, hc]
    · rcases e with e | e
      · left
        split
        · rename_i hk
          simp only [List.lookup_cons]
          split
          · rename_i hx
            have hx' : x = p.1 := by simpa using hx
            exact absurd (Prod.ext hx'.symm (by simpa using hk)) hp
          · exact e
        · exact e
      · right
        rcases List.mem_cons.mp e with q | q
        · exact absurd q.symm hp
        · exact q
theorem lookup_relabel {env : Env} {x : Str} {kd : NameKind} : ∀ {names : List (Str × NameKind)}, names.lookup x = some kd →
    (names.map fun (n, k) => if (k == NameKind.free && env.scope.kind == .function && env.kindOf n == some .cell) then (n, NameKind.cell) else (n, k)).lookup x = some (if (kd == NameKind.free && env.scope.kind == .function && env.kindOf x == some .cell) then .cell else kd)
  | [], h => by simp at h
  | (n, k) :: r, h => by
    have ih := @lookup_relabel env x kd r
    show List.lookup x ((if (k == NameKind.free && env.scope.kind == .function && env.kindOf n == some .cell) = true then (n, NameKind.cell) else (n, k)) :: _) = _
    cases hx : x == n with
    | true =>
      simp only [List.lookup_cons, hx] at h
      (first | subst h | (injection h with h; subst h) | (injection h; done) | cases h)
      have hx' : x = n := by simpa using hx
      subst hx'
      split <;> simp_all [List.lookup_cons]
    | false =>
      simp only [List.lookup_cons, hx] at h
      split <;> (simp only [List.lookup_cons, hx]; exact ih h)
theorem relabel_none {env : Env} {x : Str} {kd : NameKind} : ∀ {names : List (Str × NameKind)},
    (names.map fun (n, k) => if (k == NameKind.free && env.scope.kind == .function && env.kindOf n == some .cell) then (n, NameKind.cell) else (n, k)).lookup x = some kd → ∃ k', names.lookup x = some k' ∧ kd = (if (k' == NameKind.free && env.scope.kind == .function && env.kindOf x == some .cell) then .cell else k')
  | names, e => by
    cases q : names.lookup x with
    | some k' =>
      have := lookup_relabel (env := env) q
      rw [this] at e
      (first | subst e | (injection e with e; subst e) | (injection e; done) | cases e)
      exact ⟨k', rfl, rfl⟩
    | none =>
      exfalso
      have : ∀ (names : List (Str × NameKind)), names.lookup x = none → (names.map fun (n, k) => if (k == NameKind.free && env.scope.kind == .function && env.kindOf n == some .cell) then (n, NameKind.cell) else (n, k)).lookup x = none := by
        intro names
        induction names with
        | nil => intro _; rfl
        | cons p r ih =>
          obtain ⟨n, k⟩ := p
          intro h
          simp only [List.lookup_cons] at h
          split at h
          · (first | subst h | (injection h with h; subst h) | (injection h; done) | cases h)
          · rename_i hx
            show List.lookup x ((if (k == NameKind.free && env.scope.kind == .function && env.kindOf n == some .cell) = true then (n, NameKind.cell) else (n, k)) :: _) = _
            split <;> (simp only [List.lookup_cons, hx]; exact ih h)
      rw [this names q] at e
      (first | subst e | (injection e with e; subst e) | (injection e; done) | cases e)

section
variable {t : Tx} {I : Inj} {h h' : Heap} {env : Env} {ρ ρ' : Vars} {scope : Scope}
theorem scOK_of (e : scOK t scope = true) : scope.kind = .function ∧ (∀ p ∈ scope.names, p.2 ≠ .cell) ∧ (∀ p ∈ scope.names, p.2 = .local → scope.names.lookup p.1 = some .local) ∧ ∀ p ∈ scope.names, p.2 = .free → t.names.lookup p.1 = some .cell := by
  unfold scOK at e
  rw [Bool.and_eq_true, beq_iff_eq, List.all_eq_true] at e
  refine ⟨e.1, fun p hp => ?_, fun p hp hl => ?_, fun p hp hl => ?_⟩
  · have := e.2 p hp
    simp only [Bool.and_eq_true] at this
    simpa using this.1.1
  · have := e.2 p hp
    simp only [Bool.and_eq_true, hl] at this
    simpa using this.1.2
  · have := e.2 p hp
    simp only [Bool.and_eq_true, hl] at this
    simpa using this.2
theorem lookup_mem' {l : List (Str × NameKind)} {x : Str} {k : NameKind} (e : l.lookup x = some k) : (x, k) ∈ l := by
  rw [List.lookup_eq_some_iff] at e
  obtain ⟨l1, l2, rfl, _⟩ := e
  simp
theorem Frm.free (F : Frm t I h env ρ) (ht : t.comp = none) (hsc : scOK t scope = true) : ∀ p ∈ scope.names, p.2 = .free → ∃ c, env.cells.lookup p.1 = some c := fun p hp hf => by
  have k := (scOK_of hsc).2.2.2 p hp hf
  have K := F.kinds
  unfold KindsAre at K
  rw [ht] at K
  exact F.cells p.1 ((K p.1).trans k)
theorem Frm.comp (F : Frm t I h env ρ) (ht : t.comp = none) (hsc : scOK t scope = true) {C : Nat} (hn : ∃ m, h.Ns C m) (hf : C ∉ foot I) : Frm { t with comp := some scope.names } I h (compEnvC scope (closL env scope.names []) C env) (cut ρ) := by
  have K := F.kinds
  unfold KindsAre at K
  rw [ht] at K
  have fr := F.free ht hsc
  obtain ⟨sk, sc1, sc2, sc3⟩ := scOK_of hsc
  have cl : ∀ x c, (closL env scope.names []).lookup x = some c → env.cells.lookup x = some c := fun x c e => (closL_of scope.names [] fr e).elim (fun q => by (first | subst q | (injection q with q; subst q) | (injection q; done) | cases q)) id
  refine ⟨by simp [compEnvC, relabel, sk], F.glob, F.bi, ?_, hn, fun x c e => F.cell x c (cl x c e), hf, fun x c e => F.offC x c (cl x c e), fun x i v e e' => ?_, fun x e => ?_, F.few, fun x y c e e' => F.cinj x y c (cl x c e) (cl y c e')⟩
  · intro x
    refine ⟨fun e => lookup_relabel_local e, fun e => ?_, fun e => ?_⟩
    · have := lookup_relabel (env := env) e
      have h2 : (compEnvC scope (closL env scope.names []) C env).kindOf x = _ := this
      rw [h2]
      rfl
    · have := lookup_relabel (env := env) e
      have h2 : (compEnvC scope (closL env scope.names []) C env).kindOf x = _ := this
      rw [h2]
      split
      · exact .inl rfl
      · exact .inr rfl
  · unfold cut at e'
    split at e'
    · rename_i hi
      rcases Tx.where _ e with ⟨a, b⟩ | ⟨c, j, _, _, _, q⟩
      · rcases b with b | ⟨c, b, b1, b2⟩
        · (first | subst b | (injection b with b; subst b) | (injection b; done) | cases b)
        · (first | subst b | (injection b with b; subst b) | (injection b; done) | cases b)
          have hname : t.name x = some (.inl i) := Tx.name_to e t (by rw [ht]; show nmT _ _ = _; unfold nmT; rw [if_pos (.inr b2), a]; rfl)
          obtain ⟨u, r, rd⟩ := F.vars x i v hname e'
          refine ⟨u, r, ?_⟩
          rcases rd with ⟨q, _⟩ | ⟨q, c, o, q2, q3, q4⟩
          · rw [K x, b2] at q; (first | subst q | (injection q with q; subst q) | (injection q; done) | cases q)
          · refine .inr ⟨?_, c, o, closL_at q2 _ _ (.inr (lookup_mem' b1)), q3, q4⟩
            have := lookup_relabel (env := env) b1
            have h2 : (compEnvC scope (closL env scope.names []) C env).kindOf x = _ := this
            rw [h2]
            split
            · exact .inl rfl
            · exact .inr rfl
      · lia
    · (first | subst e' | (injection e' with e'; subst e') | (injection e'; done) | cases e')
  · obtain ⟨k', q, q2⟩ := relabel_none (show (relabel scope env).names.lookup x = some .cell from e)
    split at q2
    · rename_i hk
      simp only [Bool.and_eq_true] at hk
      have hk' : k' = .free := by simpa using hk.1.1
      subst hk'
      obtain ⟨c, hc⟩ := fr _ (lookup_mem' q) rfl
      exact ⟨c, closL_at hc _ _ (.inr (lookup_mem' q))⟩
    · subst q2
      exact absurd rfl (sc1 _ (lookup_mem' q))
end
end Mine
open PySem PySem.W PySem.Calls PyProof.Rows
namespace Mine
set_option linter.unusedVariables false
set_option maxRecDepth 100000

section
variable {t : Tx} {c : Cx} {I I₀ : Inj} {s s₀ : Shared} {h₀ : Heap} {σ : Sto} {env : Env} {ρ : Vars} {k j it : Nat} {v : AV} {scope : Scope}
/-- what a turn answers -/
inductive OptR (I : Inj) (h : Heap) : Option AV → Option Value → Prop
  | some {v : AV} {u : Value} (r : VR I h v u) : OptR I h (some v) (some u)
  | none : OptR I h none none
/-- one turn: the target, the tests, the element -/
noncomputable def Turn (c : Cx) (t' : Tx) (cenv : Env) (ρ : Vars) (target : PySem.Expr) (ifs : List PySem.Expr) (elt : PySem.Expr) (f : AV → Sto → Option (Option AV × Sto)) : Prop :=
  ∀ {I : Inj} {s : Shared} {σ : Sto} {w : AV} {u : Value} {Qf : Option AV → Sto → Prop} {P : Option Value → Shared → Prop}, GSim c.G I σ s.heap → Frm t' I s.heap cenv ρ → c.G.B.get? cenv.locals = none → VR I s.heap w u → OK (f w σ) Qf →
    (∀ y r σ₁ I' s', Qf r σ₁ → St (fun a => a = cenv.locals) c.G I s I' σ₁ s' → Frm t' I' s'.heap cenv ρ → OptR I' s'.heap r y → P y s') →
      c.wp (assign target cenv u) (fun _ s₂ => c.wp (forIn ifs true fun c r => if r = true then do let ok ← isTrue c cenv (eval c cenv); pure (ForInStep.yield ok) else pure (ForInStep.yield r)) (fun ok s₃ =>
        if ok = true then c.wp (eval elt cenv) (fun x s₄ => P (some x) s₄) s₃ else P none s₃) s₂) s

theorem dead_of {G : G0} (S : GSim G I σ s.heap) {a : Nat} (e : s.heap.get? a = none) : G.B.get? a = none := by
  cases q : G.B.get? a with
  | none => rfl
  | some o => rw [S.base _ _ q] at e; (first | subst e | (injection e with e; subst e) | (injection e; done) | cases e)

theorem it_ne_cell {h : Heap} (X : ItAt I h k v it j) (F : Frm t I h env ρ) {x : Str} {c : Nat} (e : env.cells.lookup x = some c) : it ≠ c := by
  obtain ⟨o, fs, a, b, _⟩ := X.at
  obtain ⟨o', w, a', b'⟩ := F.cell x c e
  intro q
  rw [q, a'] at a; (first | subst a | (injection a with a; subst a) | (injection a; done) | cases a)
  rw [b'] at b; (first | subst b | (injection b with b; subst b) | (injection b; done) | cases b)
theorem list_noTup {h : Heap} {D : Nat} {us : Array Value} {nn : Nat} (e : h.get? D = some { cls := .type "list", data := .seq us nn }) : ∀ xs, ¬ IsTup h D xs := fun xs ⟨o, ho, hc, _⟩ => by
  rw [e] at ho; (first | subst ho | (injection ho with ho; subst ho) | (injection ho; done) | cases ho)
  injection hc with q; exact absurd q (by decide)
theorem list_ne_cell {h : Heap} {D : Nat} {us : Array Value} {nn : Nat} (e : h.get? D = some { cls := .type "list", data := .seq us nn }) (F : Frm t I h env ρ) {x : Str} {c : Nat} (q : env.cells.lookup x = some c) : D ≠ c := by
  obtain ⟨o', w, a', b'⟩ := F.cell x c q
  intro z
  rw [← z, e] at a'; (first | subst a' | (injection a' with a'; subst a') | (injection a'; done) | cases a'); (first | subst b' | (injection b' with b'; subst b') | (injection b'; done) | cases b')
theorem list_ne_ns {h : Heap} {D a : Nat} {us : Array Value} {nn : Nat} {m : Str → Option Value} (e : h.get? D = some { cls := .type "list", data := .seq us nn }) (N : h.Ns a m) : D ≠ a := by
  obtain ⟨o', es, ep, a', b', _⟩ := N
  intro z
  rw [← z, e] at a'; (first | subst a' | (injection a' with a'; subst a') | (injection a'; done) | cases a'); (first | subst b' | (injection b' with b'; subst b') | (injection b'; done) | cases b')
theorem it_ne_ns {h : Heap} {a : Nat} {m : Str → Option Value} (X : ItAt I h k v it j) (N : h.Ns a m) : it ≠ a := by
  obtain ⟨o, fs, x, y, _⟩ := X.at
  obtain ⟨o', es, ep, a', b', _⟩ := N
  intro z
  rw [z, a'] at x; (first | subst x | (injection x with x; subst x) | (injection x; done) | cases x)
  rw [b'] at y; (first | subst y | (injection y with y; subst y) | (injection y; done) | cases y)
/-- more, behind what was made since -/
theorem Ext.thenX {X : Nat → Prop} {I I' : Inj} {h h' : Heap} (x : Ext I₀ h₀ I h) (y : ExtX X I h I' h') (hX : ∀ a, X a → h₀.get? a = none) : Ext I₀ h₀ I' h' := by
  obtain ⟨J, e, hJ⟩ := x.pre
  obtain ⟨J', e', hJ'⟩ := y.pre
  refine ⟨⟨J ++ J', by rw [e', e, List.append_assoc], fun p hp => ?_⟩, fun a o q => let ⟨o', q'⟩ := x.live a o q; y.live a o' q', fun a o _ ha ho => ?_⟩
  · rcases List.mem_append.mp hp with q | q
    · exact hJ p q
    · have := hJ' p q; exact ⟨x.dead this.1, x.dead this.2⟩
  · have h1 := x.keep a o (fun q => q) ha ho
    exact y.keep a o (fun q => by rw [hX a q] at ho; (first | subst ho | (injection ho with ho; subst ho) | (injection ho; done) | cases ho)) (x.off ha ho) h1


/-- what is known when the list is made -/
inductive Made (t : Tx) (c : Cx) (ρ : Vars) (I₀ : Inj) (s₀ : Shared) (vs : List AV) (σ' : Sto) (D Cc : Nat) (I' : Inj) (s' : Shared) : Prop
  | mk (us : Array Value) (nn : Nat) (x : St nX c.G I₀ s₀ I' σ' s') (F : Frm t I' s'.heap c.env ρ) (hD : s'.heap.get? D = some { cls := .type "list", data := .seq us nn }) (hf : D ∉ foot I') (zD : s₀.heap.get? D = none) (bD : c.G.B.get? D = none) (big : 711 ≤ D) (hLD : D ≠ c.env.locals) (r : VRs I' s'.heap vs us.toList)
      (ns : ∃ m, s'.heap.Ns Cc m) (hCf : Cc ∉ foot I') (zC : s₀.heap.get? Cc = none) (bC : c.G.B.get? Cc = none) (hCD : Cc ≠ D) (hCL : Cc ≠ c.env.locals) (hcc : ∀ x a, c.env.cells.lookup x = some a → Cc ≠ a ∧ D ≠ a)
/-- aside: an iterator, a list under way, a frame -/
theorem St.aside {G : G0} {I₀ : Inj} {s₀ : Shared} {h' : Heap} {tk a : Nat} (x : St nX G I₀ s₀ I σ s) (hk : ∀ (b : Nat) o, b ≠ a → s.heap.get? b = some o → h'.get? b = some o) (nt : ∀ xs, ¬ IsTup s.heap a xs) (hf : a ∉ foot I) (hB : G.B.get? a = none) (d : s₀.heap.get? a = none) : St nX G I₀ s₀ I σ { s with heap := h', toks := tk } :=
  ⟨Ext.asideE x.ext hk d, congrArg (fun z : Shared => { z with heap := h', toks := tk }) x.like, Sim.aside x.sim hk nt hf hB⟩
theorem St.thenX {X : Nat → Prop} {G : G0} {I₀ I' : Inj} {s₀ s' : Shared} {σ' : Sto} (x : St nX G I₀ s₀ I σ s) (y : St X G I s I' σ' s') (hX : ∀ a, X a → s₀.heap.get? a = none) : St nX G I₀ s₀ I' σ' s' :=
  ⟨Ext.thenX x.ext y.ext hX, y.like.trans (congrArg (fun z : Shared => { z with heap := s'.heap, toks := s'.toks }) x.like), y.sim⟩
noncomputable abbrev inComp (t : Tx) (scope : Scope) : Tx := { t with comp := some scope.names }
noncomputable abbrev cEnv (c : Cx) (scope : Scope) (Cc : Nat) : Env := compEnvC scope (closL c.env scope.names []) Cc c.env
/-- the list and the frame stand -/
inductive Opened (t : Tx) (c : Cx) (scope : Scope) (ρ : Vars) (I : Inj) (s : Shared) (σ : Sto) (I₀ : Inj) (s₀ : Shared) (it D Cc : Nat) (s₁ : Shared) : Prop
  | mk (hDC : D ≠ Cc) (zC : s₀.heap.get? Cc = none) (zD : s₀.heap.get? D = none) (bC : c.G.B.get? Cc = none) (bD : c.G.B.get? D = none) (big : 711 ≤ D) (hitC : it ≠ Cc) (hitD : it ≠ D) (hL : Cc ≠ c.env.locals ∧ D ≠ c.env.locals) (hcC : ∀ x a, c.env.cells.lookup x = some a → Cc ≠ a ∧ D ≠ a)
      (ne : ∀ (a : Nat) o, s.heap.get? a = some o → a ≠ Cc ∧ a ≠ D) (old : ∀ (b : Nat) o, s.heap.get? b = some o → s₁.heap.get? b = some o) (x1 : St nX c.G I₀ s₀ I σ s₁) (hacc : s₁.heap.get? D = some { cls := .type "list", data := .seq #[] }) (hDf : D ∉ foot I) (F : Frm t I s₁.heap c.env ρ) (FC : Frm (inComp t scope) I s₁.heap (cEnv c scope Cc) (cut ρ))
theorem comp_open {R : Value → Addr → Result → Shared → Prop} {E : PySem.Expr} {oi : Obj} (ht : t.comp = none) (hsc : scOK t scope = true) (N : Now t c I s σ ρ) (x0 : St nX c.G I₀ s₀ I σ s) (hoi : s.heap.get? it = some oi)
    (q : ∀ D Cc s₁, Opened t c scope ρ I s σ I₀ s₀ it D Cc s₁ → codeAny c.M c.A (.compStart E 0 (.ref it) (.ref D) (cEnv c scope Cc)) (R (.ref D) Cc) s₁) :
    c.wp (PySem.newList []) (fun acc s₃ => c.wp (newFunctionEnv scope c.env.globals (closL c.env scope.names []) [] c.env.qual none .none (some c.env)) (fun cenv s₄ =>
      codeAny c.M c.A (.compStart E 0 (.ref it) acc { cenv with scope := relabel scope c.env }) (R acc cenv.locals) s₄) s₃) s := by
  refine wpAny_newObj_type (wpAny_newFunctionEnv (scOK_of hsc).2.1 (by intro y hy; simp at hy) (fun h₁ hns₁ hsb₁ => ?_) (scOK_of hsc).1)
  dsimp only at hns₁ hsb₁ ⊢
  generalize hH2 : s.heap.push { cls := .type "list", dict := none, data := .seq ([] : List Value).toArray } = H2 at hns₁ hsb₁ ⊢
  have F := N.frm
  have hC : H2.objs.size = s.heap.objs.size + 1 := by rw [← hH2, Heap.size_push]
  have hDC : s.heap.objs.size ≠ H2.objs.size := hC ▸ Nat.ne_of_lt (Nat.lt_succ_self _)
  have deadD : s.heap.get? s.heap.objs.size = none := none_of
  have deadC : s.heap.get? H2.objs.size = none := none_of_le (hC ▸ Nat.le_succ _)
  have ne : ∀ (a : Nat) o, s.heap.get? a = some o → a ≠ H2.objs.size ∧ a ≠ s.heap.objs.size := fun a o e => ⟨fun q => (by rw [q, deadC] at e; (first | subst e | (injection e with e; subst e) | (injection e; done) | cases e)), fun q => (by rw [q, deadD] at e; (first | subst e | (injection e with e; subst e) | (injection e; done) | cases e))⟩
  have old : ∀ (b : Nat) o, s.heap.get? b = some o → h₁.get? b = some o := fun b o e => hsb₁.extBut b o (ne b o e).1 (Heap.get?_push_of_some _ (hH2 ▸ Heap.get?_push_of_some _ e))
  have G₁ : Ext I s.heap I h₁ := ExtX.grow old
  refine q s.heap.objs.size H2.objs.size { s with heap := h₁, toks := s.toks + ([] : List (Str × Value)).length } ⟨hDC, x0.ext.dead deadC, x0.ext.dead deadD, dead_of N.sim deadC, dead_of N.sim deadD, big_of N.sim, (ne _ _ hoi).1, (ne _ _ hoi).2, ?_, fun x a e => ?_, ne, old, x0.go G₁ (N.sim.grow old), hsb₁.extBut _ _ hDC (Heap.get?_push_of_some _ (hH2 ▸ Heap.get?_push_size _ rfl)), N.sim.dead deadD, F.next G₁, (F.next G₁).comp ht hsc ⟨_, hns₁⟩ (N.sim.dead deadC)⟩
  · obtain ⟨m, o, _, _, a, _⟩ := F.ns
    exact ⟨(ne _ _ a).1.symm, (ne _ _ a).2.symm⟩
  · obtain ⟨o, w, a, _⟩ := F.cell x a e
    exact ⟨(ne _ _ a).1.symm, (ne _ _ a).2.symm⟩
/-- between two turns -/
inductive CInv (t : Tx) (c : Cx) (scope : Scope) (ρ : Vars) (I₀ : Inj) (s₀ : Shared) (f : AV → Sto → Option (Option AV × Sto)) (k : Nat) (v : AV) (it D Cc : Nat) (Qc : List AV → Sto → Prop) (n : Nat) (s' : Shared) : Prop
  | mk (I' : Inj) (j : Nat) (acc : List AV) (us : Array Value) (nn : Nat) (σc : Sto) (go : OK (compGo f (nextOf k v) n j acc σc) Qc) (hlen : acc.length + n ≤ lim + 1) (x' : St nX c.G I₀ s₀ I' σc s')
      (X' : ItAt I' s'.heap k v it j) (hf' : it ∉ foot I') (hD' : s'.heap.get? D = some { cls := .type "list", data := .seq us nn }) (hDf : D ∉ foot I') (hr : VRs I' s'.heap acc us.toList) (F' : Frm t I' s'.heap c.env ρ) (FC' : Frm (inComp t scope) I' s'.heap (cEnv c scope Cc) (cut ρ))
theorem comp_core {elt target iter : PySem.Expr} {ifs : List PySem.Expr} {pos : Pos} {f : AV → Sto → Option (Option AV × Sto)} {Qc : List AV → Sto → Prop} {R : Value → Addr → Result → Shared → Prop}
    (ht : t.comp = none) (hsc : scOK t scope = true)
    (turn : ∀ Cc, Turn c (inComp t scope) (cEnv c scope Cc) (cut ρ) target ifs elt f)
    (N : Now t c I s σ ρ) (x0 : St nX c.G I₀ s₀ I σ s) (X : ItAt I s.heap k v it 0) (hf : it ∉ foot I) (hB : c.G.B.get? it = none) (hd : s₀.heap.get? it = none) (hl : it ≠ c.env.locals)
    (go : OK (compGo f (nextOf k v) (lim + 1) 0 [] σ) Qc)
    (letgo : ∀ {I' : Inj} {j : Nat} {u : Value} {Q : Unit → Shared → Prop} {E : Value → Shared → Prop} {s : Shared}, ItAt I' s.heap k v it j → Q () s → wpAny c.M c.A (letOwnedTupleGo target (.ref it) u) Q E s)
    (fin : ∀ D Cc I' s' vs σ', Qc vs σ' → Made t c ρ I₀ s₀ vs σ' D Cc I' s' → R (.ref D) Cc (.ok .next) s') :
    c.wp (PySem.newList []) (fun acc s₃ => c.wp (newFunctionEnv scope c.env.globals (closL c.env scope.names []) [] c.env.qual none .none (some c.env)) (fun cenv s₄ =>
      codeAny c.M c.A (.compStart (.ListComp elt [⟨target, iter, ifs, 0⟩] scope pos) 0 (.ref it) acc { cenv with scope := relabel scope c.env }) (R acc cenv.locals) s₄) s₃) s := by
  obtain ⟨_, _, hoi, _⟩ := X.at
  refine comp_open ht hsc N x0 hoi fun D Cc s₁ O => ?_
  obtain ⟨hDC, zC, zD, bC, bD, big, hitC, hitD, hL, hcC, ne, old, x1, hacc, hDf, F, FC⟩ := O
  have loop : codeAny c.M c.A (.compLoop (.ListComp elt [⟨target, iter, ifs, 0⟩] scope pos) 0 (.ref it) (.ref D) (cEnv c scope Cc)) (R (.ref D) Cc) s₁ := by
    refine codeAny_loop rfl (CInv t c scope ρ I₀ s₀ f k v it D Cc Qc) ?_ (lim + 1)
      ⟨I, 0, [], #[], 0, σ, go, Nat.le_of_eq (Nat.zero_add _), x1, X.ext (ExtX.grow old) hf, hf, hacc, hDf, VRs.nil, F, FC⟩
    clear hacc
    intro n s' hI
    obtain ⟨I', j, acc, us, nn, σc, go, hlen, x', X', hf', hD', hDf, hr, F', FC'⟩ := hI
    show wpAny _ c.A ((compTurn (.ListComp elt [⟨target, iter, ifs, 0⟩] scope pos) 0 (.ref it) (.ref D) (cEnv c scope Cc)).onRaise (fun x => do noteFrame x (cEnv c scope Cc); theTreesLotGoes x)) _ _ _
    refine wpAny_noted ?_
    rw [compTurn_list]
    refine wpE (wpAny_bind (wpAny_standAt (wpAny_bind ?_)))
    induction n using ncs with
    | zero => exact go.elim
    | succ n =>
    have nit := X'.noTup
    obtain ⟨r, hnx, go⟩ := go.tpo
    refine wpE (next_ok x'.sim X' hnx (fun e h'' hx => ?_) fun w e u h'' tk' X'' hs ru => ?_)
    · subst e
      have hk := extBut_keep hx
      obtain ⟨m', hm'⟩ := FC'.ns
      exact wpAny_pure (fin D Cc I' { s' with heap := h'' } acc σc go ⟨us, nn, x'.aside (tk := s'.toks) hk nit hf' hB hd, F'.aside hk nit hl fun x c e => it_ne_cell X' F' e, hk _ _ (Ne.symm hitD) hD', hDf, zD, bD, big, hL.2, hr.aside hk nit, ⟨m', hm'.at' fun o => hk _ o (Ne.symm hitC)⟩, FC'.offL, zC, bC, Ne.symm hDC, hL.1, hcC⟩)
    · subst e
      have hk := same_keep hs
      have x'' := x'.aside (tk := tk') hk nit hf' hB hd
      have F'' := F'.aside hk nit hl fun x c e => it_ne_cell X' F' e
      have FC'' := FC'.aside hk nit hitC fun x c e => it_ne_cell X' FC' e
      have hD'' := hk _ _ (Ne.symm hitD) hD'
      have hr'' := hr.aside hk nit
      refine wpAny_bind (letgo X'' ?_)
      refine wpAny_bind (wpAny_mono (turn Cc x''.sim FC'' bC ru (OK.dnb go.comp)
          (P := fun y s₄ => match y with
            | some x => c.wp (call (.builtin "list.append") [.ref D, x]) (fun _ s₅ => ∃ m, m < n + 1 ∧ CInv t c scope ρ I₀ s₀ f k v it D Cc Qc m s₅) s₄
            | none => ∃ m, m < n + 1 ∧ CInv t c scope ρ I₀ s₀ f k v it D Cc Qc m s₄)
          fun y r σ₁ I3 s3 go x3 FC3 hy => ?_) (fun _ s₂ h₂ => wpAny_bind (wpAny_mono h₂ (fun ok s₃ h₃ => ?_) fun _ _ h => h.elim)) fun _ _ h => h.elim)
      · have nC : NoTup (fun a => a = Cc) h'' := fun a ha => ha ▸ FC''.noTup _ (.inl rfl)
        have X3 : ItAt I3 s3.heap k v it (j + 1) := X''.gen (fun _ _ => x3.ext.get) (x3.ext.tups nC) fun o => x3.ext.keep it o hitC hf'
        have F3 : Frm t I3 s3.heap c.env ρ := F''.ext x3.ext (fun a ha q => by
          rcases ha with ha | ⟨z, ha⟩
          · exact hL.1 ((show a = Cc from q).symm.trans ha)
          · exact (hcC z a ha).1 (show a = Cc from q).symm) nC
        have hD3 := x3.ext.keep _ _ (fun q : D = Cc => hDC q) hDf hD''
        have hDf3 := x3.ext.off hDf hD''
        have hf3 : it ∉ foot I3 := by
          obtain ⟨o, _, a, _⟩ := X''.at
          exact x3.ext.off hf' a
        have hr3 := hr''.extX x3.ext nC
        have y3 := x''.thenX x3 (fun a ha => ha ▸ zC)
        induction hy with
        | @some r u' ru' =>
          refine append_at (hsz := lim_size (Nat.le_trans (Nat.le_of_eq hr.length) (Nat.le_of_succ_le_succ (Nat.le_trans (Nat.succ_le_succ (Nat.le_add_right _ n)) hlen)))) hD3 fun h4 hs4 hD4 => ?_
          have hk4 := same_keep hs4
          have nD3 := list_noTup hD3
          refine ⟨n, Nat.lt_succ_self _, ⟨I3, j + 1, _, us.push u', _, _, go, ?_, y3.aside (tk := s3.toks) hk4 nD3 hDf3 bD zD, X3.aside hk4 nD3 hitD, hf3, hD4, hDf3, ?_, F3.aside hk4 nD3 hL.2 fun x c e => list_ne_cell hD3 F3 e, FC3.aside hk4 nD3 hDC fun x c e => list_ne_cell hD3 FC3 e⟩⟩
          · rw [accO, List.length_append, List.length_singleton, Nat.add_right_comm]; exact hlen
          · rw [Array.toList_push]
            exact VRs.append (hr3.aside hk4 nD3) (VRs.cons (ru'.aside hk4 nD3) VRs.nil)
        | none => exact ⟨n, Nat.lt_succ_self _, ⟨I3, j + 1, _, us, nn, _, go, Nat.le_of_succ_le hlen, y3, X3, hf3, hD3, hDf3, hr3, F3, FC3⟩⟩
      · induction ok with
        | false => exact wpAny_pure ⟨rfl, h₃⟩
        | true => exact wpAny_bind (wpAny_bind (wpAny_mono h₃ (fun x s₄ h₄ => wpAny_bind (wpAny_mono h₄ (fun _ s₅ h₅ => wpAny_pure (wpAny_pure ⟨rfl, h₅⟩)) fun _ _ h => h.elim)) fun _ _ h => h.elim))
  exact codeAny_compStart_list loop (wpE (iter_self (X.ext (ExtX.grow old) hf) loop))
end
end Mine
open PySem PySem.W PySem.Calls PyProof.Rows
namespace Mine
set_option linter.unusedVariables false
set_option maxRecDepth 100000

section
variable {t : Tx} {c : Cx} {I I₀ : Inj} {s s₀ : Shared} {h₀ : Heap} {σ : Sto} {env : Env} {ρ : Vars} {k j it : Nat} {v : AV} {scope : Scope}
/-- what a loop runs over: 0 a list, 1 range(e), 3 a tuple -/
inductive ItSrc (t : Tx) (e : PySem.Expr) : Nat → PySem.Expr → Prop
  | list : ItSrc t e 0 e
  | tup : ItSrc t e 3 e
  | range {f : Str} {p q : Pos} (h : t.name f = some (.inr (.type "range"))) : ItSrc t e 1 (.Call (.Name f p) [e] [] q)
theorem ItSrc.fold {iter e : PySem.Expr} (h : ItSrc t e k iter) (hp : Plain e) : ∀ x, foldedSetIterable iter env x = pure x := by
  induction h with
  | range => exact fun _ => rfl
  | _ => exact hp.fold env
/-- the iterable, its iterator -/
theorem iter_first {iter e : PySem.Expr} {p : PE} {Q : AV → Sto → Prop} {R : Value → Shared → Prop} (hsrc : ItSrc t e k iter) (hp : Plain e) (h : SE t e p) (N : Now t c I s σ ρ) (he : OK (evE c.C p ρ σ) Q) (hn : ∀ v σ, Q v σ → ∃ r, nextOf k v 0 σ = some r)
    (q : ∀ it v σ' I' s', Q v σ' → St nX c.G I s I' σ' s' → ItAt I' s'.heap k v it 0 → it ∉ foot I' → c.G.B.get? it = none → s.heap.get? it = none → R (.ref it) s') :
    c.wp (eval iter c.env) (fun x s₁ => c.wp (pyIter x) (fun itv s₂ => R itv s₂) s₁) s := by
  have new : ∀ {I' : Inj} {σ' : Sto} {s' : Shared} {h' : Heap} {a tk : Nat} {v : AV}, Q v σ' → St nX c.G I s I' σ' s' → (∀ (b : Nat) o, s'.heap.get? b = some o → h'.get? b = some o) → s'.heap.get? a = none → ItAt I' h' k v a 0 → R (.ref a) { s' with heap := h', toks := tk } := fun hq x hk hd X =>
    q _ _ _ _ _ hq (x.go (ExtX.grow hk) (x.sim.grow hk)) X (x.sim.dead hd) (dead_of (s := _) x.sim hd) (x.ext.dead hd)
  induction hsrc with
  | list =>
    refine h c N he fun u v _ I' s' hq x r => ?_
    obtain ⟨_, e⟩ := hn v _ hq
    obtain ⟨vs, hv, _⟩ := opt_some e
    obtain ⟨i, rfl, hm⟩ := memO_ref (asList_mem hv)
    obtain ⟨p, hp, us, ⟨nn, ho⟩, hr⟩ := x.sim.at hm
    cases r.at hp
    exact wpAny_pyIter_list ⟨_, ho, rfl, nn, rfl⟩ (new (tk := s'.toks) hq x (fun a o e => Heap.get?_push_of_some _ e) none_of (.list hp ⟨_, Heap.get?_push_size _ rfl, rfl, rfl⟩))
  | tup =>
    refine h c N he fun u v _ I' s' hq x r => ?_
    obtain ⟨_, e⟩ := hn v _ hq
    obtain ⟨vs, hv, _⟩ := opt_some e
    induction v using AV.cs with
    | tup l =>
      obtain ⟨a, xs, rfl, hf, ht, hr⟩ := isTup_of r
      refine wpAny_pyIter_tuple (show s'.heap.IsTuple a xs from ht) (new (tk := s'.toks) hq x (fun a o e => Heap.get?_push_of_some _ e) none_of (.tup ⟨_, Heap.get?_push_size _ rfl, rfl, rfl⟩ hf ?_ (hr.ext (ExtX.push _))))
      obtain ⟨oa, hoa, hrest⟩ := ht
      exact ⟨oa, Heap.get?_push_of_some _ hoa, hrest⟩
    | _ => exact no hv
  | range hf =>
    refine Call_glob hf N (callT (tr1 hp.star) (ev1s hp.star h N he fun u v _ I' s' hq x r => ?_))
    obtain ⟨_, e⟩ := hn v _ hq
    obtain ⟨m, hv, e⟩ := opt_some e
    obtain ⟨hm, _⟩ := grd_some e
    obtain ⟨tt, rfl⟩ := r.ofInt hv
    refine call_range_1 (wpAny_pyIter_range (IsRange.new ..) (small_one (by decide) (by decide) (by lia) (by lia)) ?_)
    have hs1 : (s'.heap.push { cls := .type "range", data := .fields #[.int 0 s'.toks, .int m tt, .int 1 (s'.toks + 1)] }).objs.size = s'.heap.objs.size + 1 := Heap.size_push _ _
    have hsz : Builtin.Range.rangeSize 0 m 1 = max m 0 - ((0 : Nat) : Int) := by rw [rangeSize_one]; split <;> lia
    refine new (s' := s') (tk := s'.toks + 1 + 1) hq x (fun a o e => Heap.get?_push_of_some _ (Heap.get?_push_of_some _ e)) (by rw [hs1]; exact none_of_le (Nat.le_succ _)) ?_
    cases asInt_of hv
    refine .range ?_
    rw [← hsz]
    exact Heap.get?_push_size _ rfl

/-! turns -/
theorem Frm.local (F : Frm { t with comp := some scope.names } I h₀ env ρ) {x : Str} (hx : scope.names.lookup x = some .local) : env.kindOf x = some .local := by
  have := F.kinds
  unfold KindsAre at this
  exact (this x).1 hx
theorem comp_at {x : Str} {i : Nat} (e : ({ t with comp := some scope.names } : Tx).name x = some (.inl i)) (hx : scope.names.lookup x = some .local) : 100 ≤ i := by
  rcases Tx.where _ e with ⟨_, q | ⟨c, q, q2, _⟩⟩ | ⟨c, j, _, _, _, q⟩
  · (first | subst q | (injection q with q; subst q) | (injection q; done) | cases q)
  · (first | subst q | (injection q with q; subst q) | (injection q; done) | cases q); rw [hx] at q2; (first | subst q2 | (injection q2 with q2; subst q2) | (injection q2; done) | cases q2)
  · lia
theorem upd_ne {i d : Nat} {v : AV} (h : d ≠ i) : upd ρ i v d = ρ d := if_neg h
theorem cut_lt {d : Nat} {w : AV} (e : cut ρ d = some w) : d < 100 := by
  unfold cut at e
  split at e
  · assumption
  · exact no e
theorem cut_upd {i : Nat} {v : AV} (hi : 100 ≤ i) : ∀ j w, cut ρ j = some w → upd (cut ρ) i v j = some w := fun j w e => (upd_ne (Nat.ne_of_lt (Nat.lt_of_lt_of_le (cut_lt e) hi))).trans e
theorem not_cls {scope : Scope} (h : scope.kind = .function) (env : Env) (e : env.scope = scope) : (env.scope.kind == .class || (env.scope.kind == .module && env.locals != env.globals)) = false := by
  rw [e, h]; rfl
theorem Frm.plainKind (F : Frm t I h₀ env ρ) : (env.scope.kind == .class || (env.scope.kind == .module && env.locals != env.globals)) = false := by
  rw [F.kind]; rfl

theorem turn_name {x : Str} {px : Pos} {i : Nat} {ifs : List PySem.Expr} {elt : PySem.Expr} {pelt : PE} {cnd : Option PE} {Cc : Nat}
    (hx : (inComp t scope).name x = some (.inl i)) (hl : scope.names.lookup x = some .local)
    (hifs : (ifs = [] ∧ cnd = none) ∨ ∃ d pd, ifs = [d] ∧ cnd = some pd ∧ SB (inComp t scope) d pd) (helt : SE (inComp t scope) elt pelt) :
    Turn c (inComp t scope) (cEnv c scope Cc) (cut ρ) (.Name x px) ifs elt (compF c.C pelt i cnd ρ) := by
  intro I s σ w u Qf P S F bC ru hf q
  obtain ⟨m, hm⟩ := F.ns
  have nt : ∀ xs, ¬ IsTup s.heap (cEnv c scope Cc).locals xs := F.noTup _ (.inl rfl)
  refine wpAny_assign_Name (wpAny_storeName_local (F.local hl) hm (fun h1 hn1 hs1 => ?_) F.plainKind)
  have hk1 := same_keep hs1
  have F1 := F.store hx (F.local hl) hm hn1 hs1 ru
  have x1 : St (fun a => a = (cEnv c scope Cc).locals) c.G I s I σ { s with heap := h1, toks := s.toks + 1 } := ⟨ExtX.same hs1 (.inr rfl) (let ⟨o, _, _, a, _⟩ := hn1; ⟨o, a⟩), rfl, Sim.aside S hk1 nt F.offL bC⟩
  let d : Cx := { c with env := cEnv c scope Cc }
  have done : ∀ (b : Bool) (σa : Sto) I2 s2, OK (cond b (bnd (evE c.C pelt (upd (cut ρ) i w) σa) fun r σ => some (some r, σ)) (some (none, σa))) Qf → St nX c.G I { s with heap := h1, toks := s.toks + 1 } I2 σa s2 →
      (if b = true then c.wp (eval elt (cEnv c scope Cc)) (fun x s₄ => P (some x) s₄) s2 else P none s2) := by
    intro b σa I2 s2 hb x2
    have F2 := F1.next x2.ext
    have y2 := x1.trans (x2.weak fun _ z => z.elim)
    induction b with
    | true =>
      rw [if_pos rfl]
      exact helt d ⟨x2.sim, F2⟩ hb.eltC fun u v _ _ s3 hq x3 r3 => q (some u) (some v) _ _ s3 hq (y2.trans (x3.weak fun _ z => z.elim)) ((F2.next x3.ext).sub (cut_upd (comp_at hx hl))) (.some r3)
    | false =>
      rw [if_neg Bool.false_ne_true]
      exact q none none _ _ s2 hb.eltC y2 (F2.sub (cut_upd (comp_at hx hl))) .none
  rcases hifs with ⟨rfl, rfl⟩ | ⟨e, pd, rfl, rfl, hc⟩
  · exact wpAny_tests_nil (done true σ I _ hf.cF (St.refl x1.sim))
  · exact wpAny_tests_one (hc d ⟨x1.sim, F1⟩ hf.cF.eO fun b σa I2 s2 hb x2 => done b σa I2 s2 hb x2)
theorem turn_pair {x y : Str} {px py tp : Pos} {kd i j : Nat} {elt : PySem.Expr} {pelt : PE} {Cc : Nat}
    (hx : (inComp t scope).name x = some (.inl i)) (hl : scope.names.lookup x = some .local) (hy : (inComp t scope).name y = some (.inl j)) (hl' : scope.names.lookup y = some .local)
    (helt : SE (inComp t scope) elt pelt) :
    Turn c (inComp t scope) (cEnv c scope Cc) (cut ρ) (.Tuple [.Name x px, .Name y py] kd tp) [] elt (compF2 c.C pelt i j ρ) := by
  intro I s σ w u Qf P S F bC ru hf q
  obtain ⟨⟨a, b⟩, hab, hf⟩ := OK.tpo hf
  cases asPair_of hab
  obtain ⟨ad, xs, rfl, _, ht, ua, r1, e1, ra, ub, r2, e2, rb, e3⟩ := isTup_of ru
  cases (show r2 = [] from e3); subst e2
  have hxs : xs = #[ua, ub] := Array.toList_inj.mp e1
  subst hxs
  refine wpAny_assign_Tuple c.hA.1 (show s.heap.IsTuple ad #[ua, ub] from ht) rfl rfl fun h0 he0 => ?_
  have up : ∀ (b : Nat) o, s.heap.get? b = some o → h0.get? b = some o := fun c o e => he0 c o (Nat.ne_of_lt (Heap.lt_size e)) e
  have x0 : Ext I s.heap I h0 := ExtX.grow up
  have F0 := F.next x0
  obtain ⟨m, hm⟩ := F0.ns
  have nt : ∀ xs, ¬ IsTup h0 (cEnv c scope Cc).locals xs := F0.noTup _ (.inl rfl)
  show wpAny _ _ (assignInOrder [assign (.Name x px) (cEnv c scope Cc), assign (.Name y py) (cEnv c scope Cc)] [ua, ub]) _ _ _
  refine assignInOrder_cons (wpAny_assign_Name (wpAny_storeName_local (F0.local hl) hm (fun h1 hn1 hs1 => ?_) F0.plainKind))
  have hk1 := same_keep hs1
  have F1 := F0.store hx (F0.local hl) hm hn1 hs1 (ra.ext x0)
  have S1 : GSim c.G I σ h1 := Sim.aside (S.grow up) hk1 nt F0.offL bC
  have x1 : ExtX (fun a => a = (cEnv c scope Cc).locals) I h0 I h1 := ExtX.same hs1 (.inr rfl) (let ⟨o, _, _, a, _⟩ := hn1; ⟨o, a⟩)
  refine assignInOrder_cons (wpAny_assign_Name (wpAny_storeName_local (F1.local hl') hn1 (fun h2 hn2 hs2 => ?_) F1.plainKind))
  have F2 := F1.store hy (F1.local hl') hn1 hn2 hs2 ((rb.ext x0).aside hk1 nt)
  have x2 : St (fun a => a = (cEnv c scope Cc).locals) c.G I s I σ { s with heap := h2, toks := s.toks + 1 + 1 } := ⟨((x0.mono fun _ z => z.elim).trans x1).trans (ExtX.same hs2 (.inr rfl) (let ⟨o, _, _, a, _⟩ := hn2; ⟨o, a⟩)), rfl, Sim.aside S1 (same_keep hs2) (F1.noTup _ (.inl rfl)) F1.offL bC⟩
  refine assignInOrder_nil (wpAny_tests_nil ?_)
  rw [if_pos rfl]
  exact helt { c with env := cEnv c scope Cc } ⟨x2.sim, F2⟩ hf.cF2 fun u v _ _ s3 hq x3 r3 => q (some u) (some v) _ _ s3 hq (x2.trans (x3.weak fun _ z => z.elim)) ((F2.next x3.ext).sub fun d w e => (upd_ne (Nat.ne_of_lt (Nat.lt_of_lt_of_le (cut_lt e) (comp_at hy hl')))).trans (cut_upd (comp_at hx hl) d w e)) (.some r3)
end
end Mine
open PySem PySem.W PySem.Calls PyProof.Rows
namespace Mine
set_option linter.unusedVariables false
set_option maxRecDepth 100000

section
variable {t : Tx} {c : Cx} {I I' I₀ : Inj} {s s' s₀ : Shared} {σ σ' : Sto} {ρ : Vars} {k j it : Nat} {v : AV} {scope : Scope}
theorem off_snoc {a D : Nat} (h : a ∉ foot I) (n : a ≠ D) : a ∉ foot (I ++ [(D, D)]) := by
  rw [foot_append, List.mem_append, not_or]
  exact ⟨h, by simp [foot, n]⟩
/-- the list becomes an entry, the frame is aside -/
inductive Ready (t : Tx) (c : Cx) (ρ : Vars) (I₀ : Inj) (s₀ : Shared) (vs : List AV) (σ' : Sto) (D Cc : Nat) (I' : Inj) (s' : Shared) : Prop
  | mk (x : St nX c.G I₀ s₀ (I' ++ [(D, D)]) (σ' ++ [.list vs]) s') (r : VR (I' ++ [(D, D)]) s'.heap (.ref σ'.length) (.ref D)) (F : Frm t (I' ++ [(D, D)]) s'.heap c.env ρ) (ns : ∃ m, s'.heap.Ns Cc m) (hCf : Cc ∉ foot (I' ++ [(D, D)])) (zC : s₀.heap.get? Cc = none) (bC : c.G.B.get? Cc = none) (hCL : Cc ≠ c.env.locals) (hcc : ∀ x a, c.env.cells.lookup x = some a → Cc ≠ a)
theorem Made.adopt {vs : List AV} {D Cc : Nat} (M : Made t c ρ I₀ s₀ vs σ' D Cc I' s') : Ready t c ρ I₀ s₀ vs σ' D Cc I' s' := by
  obtain ⟨us, nn, x, F, hD, hf, zD, bD, big, hLD, hr, ns, hCf, zC, bC, hCD, hCL, hcc⟩ := M
  have z := Sim.adopt (o := .list vs) x.sim (Heap.SameBut.refl _ _) hf bD (list_noTup hD) big ⟨_, hD⟩ fun V => ⟨us, ⟨nn, hD⟩, VRs.each V hr⟩
  refine ⟨⟨Ext.snoc x.ext zD, x.like, z.1⟩, ⟨_, x.sim.len ▸ List.getElem?_concat_length, rfl⟩, ?_, ns, off_snoc hCf hCD, zC, bC, hCL, fun y a e => (hcc y a e).1⟩
  exact ⟨F.kind, F.glob, F.bi, F.kinds, F.ns, F.cell, off_snoc F.offL (Ne.symm hLD), fun y c e => off_snoc (F.offC y c e) (Ne.symm (hcc y c e).2), fun y i v e e' => let ⟨u, r, rd⟩ := F.vars y i v e e'; ⟨u, z.2 _ _ r, rd⟩, F.cells, F.few, F.cinj⟩
theorem ns_noTup {h : Heap} {a : Nat} {m : Str → Option Value} (hm : h.Ns a m) : ∀ xs, ¬ IsTup h a xs := fun xs ⟨o, ho, hc, nn, hd⟩ => by
  obtain ⟨o', es, ep, a, b, _⟩ := hm
  cases ho.symm.trans a; cases hd.symm.trans b

/-- a comprehension whose list is put to use, or is the value -/
noncomputable def SUse (t : Tx) (e : PySem.Expr) (scope : Scope) (iter : PySem.Expr) (p : PE) : Prop :=
  ∀ (c : Cx) (pos' : Pos) (use : Option (Value → Sem Unit)) {ρ : Vars} {I : Inj} {s : Shared} {σ : Sto} {Q : AV → Sto → Prop} {R : Value → Shared → Prop}, Now t c I s σ ρ → OK (evE c.C p ρ σ) Q →
    (∀ D Cc I' s' vs σ', Q (.ref σ'.length) (σ' ++ [.list vs]) → Ready t c ρ I s vs σ' D Cc I' s' → compPost c.M c.A nE use R (.ref D) Cc (.ok .next) s') →
      c.wp (comprehension e scope c.env pos' (PySem.newList []) false (eval iter c.env) use) R s
theorem comp_eval {elt target iter e : PySem.Expr} {ifs : List PySem.Expr} {pos pos' : Pos} {p : PE} {f : AV → Sto → Option (Option AV × Sto)} {use : Option (Value → Sem Unit)} {Q : AV → Sto → Prop} {R : Value → Shared → Prop} (ht : t.comp = none) (hsc : scOK t scope = true) (hsrc : ItSrc t e k iter) (hp : Plain e) (h : SE t e p)
    (turn : ∀ Cc, Turn c (inComp t scope) (cEnv c scope Cc) (cut ρ) target ifs elt f)
    (letgo : ∀ {it j : Nat} {v : AV} {I' : Inj} {u : Value} {Q : Unit → Shared → Prop} {E : Value → Shared → Prop} {s : Shared}, ItAt I' s.heap k v it j → Q () s → wpAny c.M c.A (letOwnedTupleGo target (.ref it) u) Q E s)
    (N : Now t c I s σ ρ) (he : OK (bnd (evE c.C p ρ σ) fun v σ => bnd (compGo f (nextOf k v) (lim + 1) 0 [] σ) fun vs σ => Mine.newList vs σ) Q)
    (q : ∀ D Cc I' s' vs σ', Q (.ref σ'.length) (σ' ++ [.list vs]) → Ready t c ρ I s vs σ' D Cc I' s' → compPost c.M c.A nE use R (.ref D) Cc (.ok .next) s') :
    c.wp (comprehension (.ListComp elt [⟨target, iter, ifs, 0⟩] scope pos) scope c.env pos' (PySem.newList []) false (eval iter c.env) use) R s := by
  refine wpAny_comprehension_free rfl (hsrc.fold hp) (clos_ok (N.frm.free ht hsc)) (scOK_of hsc).1 (scOK_of hsc).2.2.1 ?_
  refine iter_first hsrc hp h N he.dnb (fun v σ h => let ⟨r, e, _⟩ := OK.tpo (OK.dnb h); ⟨r, e⟩) fun it v σ' I' s' he x X hf hB hd => ?_
  obtain ⟨m, hm⟩ := (N.frm.next x.ext).ns
  exact comp_core (R := fun acc Cc r s' => compPost c.M c.A nE use R acc Cc r s') ht hsc turn (N.next x) x X hf hB hd (it_ne_ns X hm) he.dnb letgo fun D Cc I3 s3 vs σ3 he M => q D Cc I3 s3 vs σ3 he.drg.2 M.adopt
theorem SUse.sound {elt target iter : PySem.Expr} {ifs : List PySem.Expr} {pos : Pos} {p : PE} (h : SUse t (.ListComp elt [⟨target, iter, ifs, 0⟩] scope pos) scope iter p) : SE t (.ListComp elt [⟨target, iter, ifs, 0⟩] scope pos) p := fun c _ _ _ _ _ _ N he k => by
  rw [eval_ListComp]
  refine h c _ none N he fun D Cc I' s' vs σ' hq M => ?_
  obtain ⟨x, r, F, ⟨m, hm⟩, hCf, zC, bC, hCL, hcc⟩ := M
  exact ⟨m, hm, fun h2 hs2 => k _ _ _ _ _ hq (x.aside (tk := s'.toks) (same_keep hs2) (ns_noTup hm) hCf bC zC) (r.aside (same_keep hs2) (ns_noTup hm))⟩
theorem name_letgo {x : Str} {px : Pos} : ∀ {it j : Nat} {v : AV} {I' : Inj} {u : Value} {Q : Unit → Shared → Prop} {E : Value → Shared → Prop} {s : Shared}, ItAt I' s.heap k v it j → Q () s → wpAny c.M c.A (letOwnedTupleGo (.Name x px) (.ref it) u) Q E s :=
  fun _ q => wpAny_pure q
theorem tup_letgo {es : List PySem.Expr} {kd : Nat} {px : Pos} : ∀ {it j : Nat} {v : AV} {I' : Inj} {u : Value} {Q : Unit → Shared → Prop} {E : Value → Shared → Prop} {s : Shared}, ItAt I' s.heap k v it j → Q () s → wpAny c.M c.A (letOwnedTupleGo (.Tuple es kd px) (.ref it) u) Q E s := by
  intro it j v I' u Q E s X q
  obtain ⟨o, fs, ho, hd, hc⟩ := X.at
  induction u with
  | ref a =>
    show wpAny _ _ (load it >>= _) _ _ _
    refine wpAny_bind (wpAny_load ho ?_)
    rcases hc with hc | hc | hc <;> (rw [hc, hd]; exact wpAny_pure q)
  | _ => exact wpAny_pure q
theorem use_comp {elt iter e : PySem.Expr} {x : Str} {px pos : Pos} {i : Nat} {ifs : List PySem.Expr} {pelt p : PE} {cnd : Option PE} (ht : t.comp = none) (hsc : scOK t scope = true) (hsrc : ItSrc t e k iter) (hp : Plain e) (h : SE t e p)
    (hx : (inComp t scope).name x = some (.inl i)) (hl : scope.names.lookup x = some .local)
    (hifs : (ifs = [] ∧ cnd = none) ∨ ∃ d pd, ifs = [d] ∧ cnd = some pd ∧ SB (inComp t scope) d pd) (helt : SE (inComp t scope) elt pelt) :
    SUse t (.ListComp elt [⟨.Name x px, iter, ifs, 0⟩] scope pos) scope iter (.comp pelt i k p cnd) := fun c _ _ _ _ _ _ _ _ N he q =>
  comp_eval ht hsc hsrc hp h (fun Cc => turn_name hx hl hifs helt) name_letgo N he q
theorem use_comp2 {elt iter e : PySem.Expr} {x y : Str} {px py tp pos : Pos} {kd i j : Nat} {pelt p : PE} (ht : t.comp = none) (hsc : scOK t scope = true) (hsrc : ItSrc t e 0 iter) (hp : Plain e) (h : SE t e p)
    (hx : (inComp t scope).name x = some (.inl i)) (hl : scope.names.lookup x = some .local) (hy : (inComp t scope).name y = some (.inl j)) (hl' : scope.names.lookup y = some .local) (helt : SE (inComp t scope) elt pelt) :
    SUse t (.ListComp elt [⟨.Tuple [.Name x px, .Name y py] kd tp, iter, [], 0⟩] scope pos) scope iter (.comp2 pelt i j p) := fun c _ _ _ _ _ _ _ _ N he q =>
  comp_eval ht hsc hsrc hp h (fun Cc => turn_pair hx hl hy hl' helt) tup_letgo N he q
end
end Mine
open PySem PySem.W PySem.Calls PyProof.Rows
namespace Mine
set_option linter.unusedVariables false
set_option maxRecDepth 100000

/-! the values of a dict, whatever its keys are -/
section
variable {prog : Program} {w : World} {A : Around} {E : Value → Shared → Prop} {s : Shared} {it d v : Nat} {i ep : Nat} {es : Array DictEntry} {od : Obj}

theorem vals_view (hd : ((d : Addr) == sysModules) = false) (hod : s.heap.get? d = some od) (hc : od.cls = .type "dict") {Q : Value → Shared → Prop} (q : Q (.ref s.heap.objs.size) { s with heap := s.heap.push { cls := .type "dict_values", data := .fields #[.ref d] } }) :
    wpAny (model prog w) A (call (.builtin "dict.values") [.ref d]) Q E s := by
  have hT : s.TypeIs (.ref d) "dict" := ⟨od, hod, hc⟩
  refine call_meetsIn (S := fun _ R s => s.TypeIs (.ref d) "dict" ∧ R (.ok (.ret (.ref s.heap.objs.size))) { s with heap := s.heap.push { cls := .type "dict_values", data := .fields #[.ref d] } }) PySem.F.slot_dict_values hT PySem.F.entry_dict_values (PySem.F.args_dict_values_1 _) (.of_wp fun A R s ⟨hT, h⟩ => ?_) ⟨hT, q⟩
  refine wpAny_bind ?_
  unfold Builtin.Dict.noArgs
  refine wpAny_bind (wpAny_notOrdered_dict hT ?_)
  show wpAny _ _ (pure d) _ _ s
  refine wpAny_pure ?_
  show wpAny _ _ (Builtin.Dict.showsAll d >>= _) _ _ s
  unfold Builtin.Dict.showsAll
  rw [if_neg (by rw [hd]; exact Bool.false_ne_true)]
  exact wpAny_bind (wpAny_pure (wpAny_bind (wpAny_newObj_type (wpAny_pure ⟨_, rfl, h⟩))))

theorem vals_iter (hv : s.heap.IsValuesView v d) (hod : s.heap.get? d = some od) (hdd : od.data = .dict es ep) {Q : Value → Shared → Prop}
    (q : Q (.ref s.heap.objs.size) { s with heap := s.heap.push { cls := .type "dict_valueiterator", data := .fields #[.ref d, .int 0 0, .int es.size 0, .int ep 0] } }) : wpAny (model prog w) A (pyIter (.ref v)) Q E s := by
  obtain ⟨ov, hov, hcv, hdv⟩ := id hv
  refine wpAny_pyIter_slot hv.typeIs PySem.F.slot_dict_values_iter (wpAny_call_entry PySem.F.slot_dict_values_iter hv.typeIs PySem.F.entry_dict_values_iter ?_ (PySem.F.args_dict_values_iter_1 _))
  unfold Builtin.«dict_values.__iter__»
  refine wpAny_bind (wpAny_pure (wpAny_bind ?_))
  unfold Builtin.Dict_items.dictOf
  refine wpAny_bind (wpAny_field hov hdv (x := .ref d) rfl (wpAny_pure (wpAny_bind ?_)))
  unfold Builtin.Dict_items.newIterator
  refine wpAny_bind (wpAny_dictEntries hod hdd (wpAny_bind (wpAny_dictEpoch hod hdd ?_)))
  have hown : Builtin.Dict_items.ownsTuple "dict_valueiterator" = false := by decide
  simp only [hown, Bool.false_eq_true, if_false]
  refine wpAny_newObj_type (wpAny_pure ⟨_, rfl, "dict_valueiterator", _, ⟨_, Heap.get?_push_size _ rfl, rfl⟩, PySem.F.slot_dict_valueiterator_next.lookup, ?_⟩)
  simpa [rawInt] using q

theorem vals_item (hit : s.heap.IsValIter it d i es.size ep) (hod : s.heap.get? d = some od) (hdd : od.data = .dict es ep) (hlt : i < es.size) {Q : Option Value → Shared → Prop}
    (hQ : ∀ h', h'.IsValIter it d (i + 1) es.size ep → Heap.SameBut it s.heap h' → Q (some es[i].val) { s with heap := h' }) : wpAny (model prog w) A (pyNext (.ref it)) Q E s := by
  obtain ⟨o, ho, hc, hd⟩ := id hit
  unfold pyNext
  refine wpAny_bind (wpAny_attempt (wpAny_callSpecial?_slot (name := Str.ofString "__next__") hit.typeIs PySem.F.slot_dict_valueiterator_next
    (wpAny_call_entry PySem.F.slot_dict_valueiterator_next hit.typeIs PySem.F.entry_dict_valueiterator_next ?_ (PySem.F.args_dict_valueiterator_next_1 _))))
  refine wpAny_bind (wpAny_pure (wpAny_bind (wpAny_bind ?_)))
  refine wpAny_bind (wpAny_typeNameOfWhole_valiter hit.typeIs (wpAny_pure ?_))
  refine wpAny_bind (wpAny_fieldsOf ho hd ?_)
  have hown : Builtin.Dict_items.ownsTuple "dict_valueiterator" = false := by decide
  rw [hown, if_neg Bool.false_ne_true]
  show wpAny _ _ (if (Value.ref d == Value.none) = true then _ else _) _ _ s
  rw [if_neg (show ¬ ((Value.ref d == Value.none) = true) from Bool.false_ne_true)]
  refine wpAny_bind (wpAny_pure (wpAny_bind (wpAny_dictEntries hod hdd ?_)))
  rw [if_neg (by simp)]
  refine wpAny_bind (wpAny_pure (wpAny_bind (wpAny_dictEpoch hod hdd ?_)))
  rw [if_neg (by simp)]
  refine wpAny_pure ?_
  dsimp only
  rw [if_neg (Int.not_lt.2 (Int.natCast_nonneg i)), Int.toNat_natCast, Array.getElem?_eq_getElem hlt]
  refine wpAny_bind ?_
  refine wpAny_bind (wpAny_typeNameOfWhole_valiter hit.typeIs (wpAny_pure ?_))
  refine wpAny_bind (wpAny_isOneOf_valiter hit.typeIs ?_)
  show wpAny _ _ (setField (.ref it) 1 (rawInt ((i : Int) + 1)) >>= _) _ _ s
  refine wpAny_bind (wpAny_setField ho hd (by simp) ?_)
  have hit' : (s.heap.update it (Obj.mapFields (·.setIfInBounds 1 (rawInt ((i : Int) + 1))))).IsValIter it d (i + 1) es.size ep :=
    ⟨_, Heap.get?_update_self _ ho (Obj.isFreed_of_fields (Obj.data_mapFields hd _)), (Obj.cls_mapFields ..).trans hc, by rw [Obj.data_mapFields hd]; simp [rawInt]⟩
  refine wpAny_bind (wpAny_holding ?_)
  refine wpAny_bind (wpAny_isOneOf_valiter (s := { s with heap := s.heap.update it (Obj.mapFields (·.setIfInBounds 1 (rawInt ((i : Int) + 1)))) }) hit'.typeIs ?_)
  refine wpAny_bind (wpAny_isOneOf_valiter (s := { s with heap := s.heap.update it (Obj.mapFields (·.setIfInBounds 1 (rawInt ((i : Int) + 1)))) }) hit'.typeIs ?_)
  show wpAny _ _ (pure es[i].val) _ _ _
  exact wpAny_pure (wpAny_pure ⟨_, rfl, wpAny_pure (hQ _ hit' (Heap.SameBut.update ..))⟩)

theorem vals_end (hh : A.handled = none) (hit : s.heap.IsValIter it d i es.size ep) (hod : s.heap.get? d = some od) (hdd : od.data = .dict es ep) (hge : es.size ≤ i) {Q : Option Value → Shared → Prop}
    (hQ : ∀ h', Heap.ExtBut it s.heap h' → Q none { s with heap := h' }) : wpAny (model prog w) A (pyNext (.ref it)) Q E s := by
  obtain ⟨o, ho, hc, hd⟩ := id hit
  unfold pyNext
  refine wpAny_bind (wpAny_attempt (wpAny_callSpecial?_slot (name := Str.ofString "__next__") hit.typeIs PySem.F.slot_dict_valueiterator_next
    (wpAny_call_entry PySem.F.slot_dict_valueiterator_next hit.typeIs PySem.F.entry_dict_valueiterator_next ?_ (PySem.F.args_dict_valueiterator_next_1 _))))
  refine wpAny_bind (wpAny_pure (wpAny_bind (wpAny_bind ?_)))
  refine wpAny_bind (wpAny_typeNameOfWhole_valiter hit.typeIs (wpAny_pure ?_))
  refine wpAny_bind (wpAny_fieldsOf ho hd ?_)
  have hown : Builtin.Dict_items.ownsTuple "dict_valueiterator" = false := by decide
  rw [hown, if_neg Bool.false_ne_true]
  show wpAny _ _ (if (Value.ref d == Value.none) = true then _ else _) _ _ s
  rw [if_neg (show ¬ ((Value.ref d == Value.none) = true) from Bool.false_ne_true)]
  refine wpAny_bind (wpAny_pure (wpAny_bind (wpAny_dictEntries hod hdd ?_)))
  rw [if_neg (by simp)]
  refine wpAny_bind (wpAny_pure (wpAny_bind (wpAny_dictEpoch hod hdd ?_)))
  rw [if_neg (by simp)]
  refine wpAny_pure ?_
  dsimp only
  rw [if_neg (Int.not_lt.2 (Int.natCast_nonneg i)), Int.toNat_natCast, Array.getElem?_eq_none hge]
  refine wpAny_bind ?_
  refine wpAny_bind (wpAny_typeNameOfWhole_valiter hit.typeIs (wpAny_pure ?_))
  show wpAny _ _ (setField (.ref it) 0 .none >>= _) _ _ s
  refine wpAny_bind (wpAny_setField ho hd (by simp) ?_)
  show wpAny _ _ (newExc (.type "StopIteration") [] >>= _) _ _ _
  refine wpAny_bind ?_
  unfold newExc newTuple
  refine wpAny_bind (wpAny_newObj_type ?_ (by size_fits))
  refine wpAny_bind (m := firstArgMember _ _) (wpAny_of_eq (a := Value.none) (by first | rfl | (unfold firstArgMember; rfl)) ?_)
  refine wpAny_newObj_type ?_ (by size_fits)
  unfold raiseNew
  refine wpAny_bind (wpAny_handled ?_)
  rw [show A.in1.handled = none from hh]
  refine wpAny_bind (wpAny_pure (wpAny_throw ?_))
  refine wpAny_bind (wpAny_isInstance (T := "StopIteration") (b := true) ⟨_, Heap.get?_push_size _ rfl, rfl⟩ isSubtype_stop ?_)
  exact wpAny_pure (hQ _ (((Heap.SameBut.update ..).extBut.push _).push _))
end

section
variable {t : Tx} {c : Cx} {I I' I₀ : Inj} {s s' s₀ : Shared} {σ σ' : Sto} {ρ : Vars} {k j it : Nat} {v : AV} {scope : Scope}
theorem pairsV_at : ∀ {rows vs : List AV}, pairsV σ rows = some vs → vs.length = rows.length ∧ ∀ (j : Nat) r, rows[j]? = some r → ∃ a b, asList σ r = some [a, b] ∧ vs[j]? = some (.tup [a, b])
  | [], vs, e => by (first | subst e | (injection e with e; subst e) | (injection e; done) | cases e); exact ⟨rfl, fun j r q => nomatch q⟩
  | r0 :: rows, vs, e => by
    obtain ⟨⟨a, b⟩, hab, e⟩ := opt_some e
    obtain ⟨ws, hw, e⟩ := opt_some e
    (first | subst e | (injection e with e; subst e) | (injection e; done) | cases e)
    obtain ⟨h1, h2⟩ := pairsV_at hw
    refine ⟨congrArg Nat.succ h1, fun j r q => ?_⟩
    induction j using ncs with
    | zero => (first | subst q | (injection q with q; subst q) | (injection q; done) | cases q); exact ⟨a, b, two_of hab, rfl⟩
    | succ j => exact h2 j r q
theorem item_two {r a b : AV} (h : asList σ r = some [a, b]) : itemV r (.int 0) σ = some a ∧ itemV r (.int 1) σ = some b := by
  induction r using AV.cs with
  | ref i => exact ⟨congrArg (fun o => opt o fun vs : List AV => opt (idx (.int 0)) fun k => vs[k]?) (show listO σ[i]? = some [a, b] from h), congrArg (fun o => opt o fun vs : List AV => opt (idx (.int 1)) fun k => vs[k]?) (show listO σ[i]? = some [a, b] from h)⟩
  | _ => exact no h
/-- between two turns -/
inductive PInv (t : Tx) (c : Cx) (scope : Scope) (ρ : Vars) (I : Inj) (I₀ : Inj) (s₀ : Shared) (σ : Sto) (it d D Cc : Nat) (od : Obj) (ents : Array DictEntry) (ep : Nat) (rows vs : List AV) (us0 : List Value) (n : Nat) (s' : Shared) : Prop
  | mk (j : Nat) (us : Array Value) (nn : Nat) (hn : n = ents.size - j) (hj : j ≤ ents.size) (x' : St nX c.G I₀ s₀ I σ s') (X' : s'.heap.IsValIter it d j ents.size ep) (hod' : s'.heap.get? d = some od) (hD' : s'.heap.get? D = some { cls := .type "list", data := .seq us nn }) (hr : VRs I s'.heap (vs.take j) us.toList) (hrw : VRs I s'.heap rows us0)
      (F' : Frm t I s'.heap c.env ρ) (FC' : Frm (inComp t scope) I s'.heap (cEnv c scope Cc) (cut ρ))
theorem pairs_core {x : Str} {p1 p2 p3 p4 p5 p6 tp px pos : Pos} {k1 k2 kk : Nat} {iter : PySem.Expr} {rows vs : List AV} {us0 : List Value} {it d ep : Nat} {od : Obj} {ents : Array DictEntry} {R : Value → Addr → Result → Shared → Prop}
    (ht : t.comp = none) (hsc : scOK t scope = true) (hx : scope.names.lookup x = some .local) (hxd : (x == ("__debug__" : Str)) = false)
    (N : Now t c I s σ ρ) (x0 : St nX c.G I₀ s₀ I σ s) (X : s.heap.IsValIter it d 0 ents.size ep) (hod : s.heap.get? d = some od) (hdd : od.data = .dict ents ep) (hf : it ∉ foot I) (hB : c.G.B.get? it = none) (hd : s₀.heap.get? it = none)
    (hrow : ents.toList.map (·.val) = us0) (hr0 : VRs I s.heap rows us0) (hpv : pairsV σ rows = some vs) (hvs : vs.length ≤ lim)
    (fin : ∀ D Cc s', Made t c ρ I₀ s₀ vs σ D Cc I s' → R (.ref D) Cc (.ok .next) s') :
    c.wp (PySem.newList []) (fun acc s₃ => c.wp (newFunctionEnv scope c.env.globals (closL c.env scope.names []) [] c.env.qual none .none (some c.env)) (fun cenv s₄ =>
      codeAny c.M c.A (.compStart (.ListComp (.Tuple [.Subscript (.Name x p1) (.Constant (.int 0) k1 p2) p3, .Subscript (.Name x p4) (.Constant (.int 1) k2 p5) p6] kk tp) [⟨.Name x px, iter, [], 0⟩] scope pos) 0 (.ref it) acc { cenv with scope := relabel scope c.env }) (R acc cenv.locals) s₄) s₃) s := by
  obtain ⟨oi, hoi, hoc, hodt⟩ := id X
  have hitd : it ≠ d := fun q => by rw [q, hod] at hoi; (first | subst hoi | (injection hoi with hoi; subst hoi) | (injection hoi; done) | cases hoi); cases hodt.symm.trans hdd
  have hLi : it ≠ c.env.locals ∧ ∀ x a, c.env.cells.lookup x = some a → it ≠ a := by
    refine ⟨fun q => ?_, fun x a e q => ?_⟩
    · obtain ⟨_, o, _, _, a, b, _⟩ := N.frm.ns
      rw [← q, hoi] at a; (first | subst a | (injection a with a; subst a) | (injection a; done) | cases a); cases hodt.symm.trans b
    · obtain ⟨o, w, a, b⟩ := N.frm.cell x a e
      rw [← q, hoi] at a; (first | subst a | (injection a with a; subst a) | (injection a; done) | cases a); cases hodt.symm.trans b
  refine comp_open ht hsc N x0 hoi fun D Cc s₁ O => ?_
  obtain ⟨hDC, zC, zD, bC, bD, big, hitC, hitD, hL, hcC, ne, old, x1, hacc, hDf, F, FC⟩ := O
  have hdn := ne d od hod
  have nit : ∀ {h : Heap} {j : Nat}, h.IsValIter it d j ents.size ep → ∀ xs, ¬ IsTup h it xs := fun ⟨o, a, b, e⟩ xs ⟨o', a', b', n, e'⟩ => by
    cases a.symm.trans a'; cases e.symm.trans e'
  have hlen : ents.size = rows.length := by
    have := hr0.length
    rw [← hrow, List.length_map] at this
    exact this
  obtain ⟨hvl, hpa⟩ := pairsV_at hpv
  let L : PySem.Expr := .ListComp (.Tuple [.Subscript (.Name x p1) (.Constant (.int 0) k1 p2) p3, .Subscript (.Name x p4) (.Constant (.int 1) k2 p5) p6] kk tp) [⟨.Name x px, iter, [], 0⟩] scope pos
  let P : Nat → Shared → Prop := PInv t c scope ρ I I₀ s₀ σ it d D Cc od ents ep rows vs us0
  have loop : codeAny c.M c.A (.compLoop L 0 (.ref it) (.ref D) (cEnv c scope Cc)) (R (.ref D) Cc) s₁ := by
    refine codeAny_loop rfl P ?_ (ents.size - 0) ⟨0, #[], 0, rfl, Nat.zero_le _, x1, X.at (fun o => old it o), old _ _ hod, hacc, VRs.nil, hr0.ext (ExtX.grow old), F, FC⟩
    clear hacc
    intro n s' hI
    obtain ⟨j, us, nn, hn, hj, x', X', hod', hD', hr, hrw, F', FC'⟩ := hI
    show wpAny _ c.A ((compTurn L 0 (.ref it) (.ref D) (cEnv c scope Cc)).onRaise (fun x => do noteFrame x (cEnv c scope Cc); theTreesLotGoes x)) _ _ _
    refine wpAny_noted ?_
    rw [compTurn_list]
    refine wpE (wpAny_bind (wpAny_standAt (wpAny_bind ?_)))
    have ni := nit X'
    rcases Nat.lt_or_ge j ents.size with hlt | hge
    · refine vals_item X' hod' hdd hlt fun h1 X1 hs1 => ?_
      have hk1 := same_keep hs1
      have x1 := x'.aside (tk := s'.toks) hk1 ni hf hB hd
      have F1 := F'.aside hk1 ni hLi.1 fun y c e => hLi.2 y c e
      have FC1 := FC'.aside hk1 ni hitC fun y c e => by
        obtain ⟨o, w, a, b⟩ := FC'.cell y c e
        obtain ⟨o', a', _, b'⟩ := X'
        intro q; rw [q, a] at a'; (first | subst a' | (injection a' with a'; subst a') | (injection a'; done) | cases a'); cases b.symm.trans b'
      have hj2 : rows[j]? = some (rows[j]'(hlen ▸ hlt)) := List.getElem?_eq_getElem (hlen ▸ hlt)
      obtain ⟨u, hu, rv⟩ := (hrw.aside hk1 ni).at hj2
      rw [← hrow, List.getElem?_map, Array.getElem?_toList, Array.getElem?_eq_getElem hlt] at hu
      (first | subst hu | (injection hu with hu; subst hu) | (injection hu; done) | cases hu)
      obtain ⟨a, b, hab, hvj⟩ := hpa j _ hj2
      refine wpAny_bind (wpAny_pure ?_)
      obtain ⟨m1, hm1⟩ := FC1.ns
      have nC1 : ∀ xs, ¬ IsTup h1 Cc xs := FC1.noTup _ (.inl rfl)
      refine wpAny_bind (wpAny_assign_Name (wpAny_storeName_local (FC1.local hx) hm1 (fun h2 hn2 hs2 => ?_) FC1.plainKind))
      have hk2 := same_keep hs2
      have x2 := x1.aside (tk := s'.toks + 1) hk2 nC1 FC1.offL bC zC
      have F2 := F1.aside hk2 nC1 hL.1 fun y c e => (hcC y c e).1
      have rv2 := rv.aside hk2 nC1
      refine wpAny_bind (wpAny_tests_nil (wpAny_bind (wpAny_bind (wpAny_Tuple ?_))))
      have nm : ∀ (p : Pos) {P : Value → Shared → Prop} {s'' : Shared}, s''.heap.Ns Cc (fun y => if y = x then some ents[j].val else m1 y) → P ents[j].val s'' → wpAny c.M c.A (eval (.Name x p) (cEnv c scope Cc)) P nE s'' := fun p P s'' hn q =>
        wpAny_Name (wpAny_loadName_local FC1.kind (FC1.local hx) hn (if_pos rfl) q) hxd
      have it2 := item_two hab
      refine wpAny_items_cons (Subscript_ (nm p1 hn2 (wpAny_Constant_int ?_))) rfl
      refine wpE (item_ok x2.sim rv2 (VR.mkInt 0 _) it2.1 (fun _ _ => by with_unfolding_all rfl) fun ua tk3 ra => ?_)
      refine wpAny_items_cons (Subscript_ (nm p4 hn2 (wpAny_Constant_int ?_))) rfl
      refine wpE (item_ok x2.sim rv2 (VR.mkInt 1 _) it2.2 (fun _ _ => by with_unfolding_all rfl) fun ub tk4 rb => ?_)
      refine wpAny_items_nil ?_
      have z := tup_ok x2.sim (VRs.cons ra (VRs.cons rb VRs.nil))
      refine ⟨lim_size (n := 2) (by decide), ?_⟩
      have F3 := F2.next z.2.1
      have hD2 := hk2 _ _ hDC (hk1 _ _ (Ne.symm hitD) hD')
      have hD3 : (h2.push { cls := .type "tuple", data := .seq [ua, ub].toArray }).get? D = some { cls := .type "list", data := .seq us nn } := Heap.get?_push_of_some _ hD2
      have FC3 : Frm (inComp t scope) I (h2.push { cls := .type "tuple", data := .seq [ua, ub].toArray }) (cEnv c scope Cc) (cut ρ) := F3.comp ht hsc ⟨_, hn2.push _⟩ FC1.offL
      have hsz : us.size ≤ sizeLine := lim_size (Nat.le_trans (Nat.le_of_eq hr.length) (Nat.le_trans (List.length_take_le' ..) hvs))
      refine wpAny_bind (append_at (hsz := hsz) hD3 fun h4 hs4 hD4 => ?_)
      have hk4 := same_keep hs4
      have nD := list_noTup hD3
      have tl := ((hrw.aside hk1 ni).aside hk2 nC1).ext z.2.1
      refine wpAny_pure (wpAny_pure ⟨rfl, ents.size - (j + 1), by lia, ⟨j + 1, us.push (.ref h2.objs.size), _, rfl, hlt, (x2.go (tk := tk4) z.2.1 z.2.2).aside (tk := tk4) hk4 nD hDf bD zD, X1.at fun o e => hk4 _ _ hitD (Heap.get?_push_of_some _ (hk2 _ _ hitC e)), hk4 _ _ hdn.2 (Heap.get?_push_of_some _ (hk2 _ _ hdn.1 (hk1 _ _ (Ne.symm hitd) hod'))), hD4, ?_, tl.aside hk4 nD, F3.aside hk4 nD hL.2 (fun y c e => (hcC y c e).2), FC3.aside hk4 nD hDC (fun y c e => list_ne_cell hD3 FC3 e)⟩⟩)
      rw [show vs.take (j + 1) = vs.take j ++ [.tup [a, b]] by rw [List.take_add_one, hvj]; rfl, Array.toList_push]
      exact VRs.append ((((hr.aside hk1 ni).aside hk2 nC1).ext z.2.1).aside hk4 nD) (VRs.cons (z.1.aside hk4 nD) VRs.nil)
    · refine vals_end c.hA.1 X' hod' hdd hge fun h1 hx1 => ?_
      have hk1 := extBut_keep hx1
      obtain ⟨m1, hm1⟩ := FC'.ns
      rw [List.take_of_length_le (Nat.le_trans (Nat.le_of_eq (hvl.trans hlen.symm)) hge)] at hr
      exact wpAny_pure (fin _ _ { s' with heap := h1 } ⟨us, nn, x'.aside (tk := s'.toks) hk1 ni hf hB hd, F'.aside hk1 ni hLi.1 hLi.2, hk1 _ _ (Ne.symm hitD) hD', hDf, zD, bD, big, hL.2, hr.aside hk1 ni, ⟨m1, hm1.at' fun o => hk1 _ o (Ne.symm hitC)⟩, FC'.offL, zC, bC, Ne.symm hDC, hL.1, hcC⟩)
  exact codeAny_compStart_list loop (wpE (wpAny_pyIter_valiter (X.at fun o => old it o) loop))
end
end Mine
open PySem PySem.W PySem.Calls PyProof.Rows
namespace Mine
set_option linter.unusedVariables false
set_option maxRecDepth 100000

section
variable {t : Tx} {c : Cx} {I I' I₀ : Inj} {s s' s₀ : Shared} {σ σ' : Sto} {ρ : Vars} {v : AV} {scope : Scope}
/-- a dict's entries, and the rows they hold -/
inductive Raw (u : Value) (I : Inj) (h : Heap) (rows : List AV) : Prop
  | mk (d : Nat) (od : Obj) (ents : Array DictEntry) (ep : Nat) (e : u = .ref d) (hs : ((d : Addr) == sysModules) = false) (ho : h.get? d = some od) (hc : od.cls = .type "dict") (hd : od.data = .dict ents ep) (r : VRs I h rows (ents.toList.map (·.val)))
theorem raw_of {G : G0} {h : Heap} {u : Value} {es : List (List KI × AV)} (S : GSim G I σ h) (r : VR I h v u) (e : tdictO (memO σ v) = some es) : Raw u I h (es.map (·.2)) := by
  obtain ⟨p, hu, hp, as, us, hl, ⟨o, ents, ep, h1, h2, h3, h4, h5, h6⟩, hf, hr⟩ := tdict_at S r e
  have hul : us.length = es.length := by simpa using hr.length
  refine ⟨p.1, o, ents, ep, hu, notSys S hp, h1, h2.1, h3, ?_⟩
  have e1 : ((es.map (·.1)).zip (as.zip us)).map (fun x => x.2.2) = us := by
    rw [show (fun (x : List KI × Addr × Value) => x.2.2) = Prod.snd ∘ Prod.snd from rfl, ← List.map_map, List.map_snd_zip (by simp [hl, hul]), List.map_snd_zip (by lia)]
  rw [h4, List.map_map, show ((·.val) ∘ entryOfKey (tupK G.prog G.w)) = fun x => x.2.2 from rfl, e1]
  exact hr
theorem sound_pairs {x : Str} {e : PySem.Expr} {p : PE} {p1 p2 p3 p4 p5 p6 tp px pos ap cp : Pos} {k1 k2 kk : Nat} (ht : t.comp = none) (hsc : scOK t scope = true) (hx : scope.names.lookup x = some .local) (hxd : (x == ("__debug__" : Str)) = false)
    (hl : (ap.endLine == cp.line) = true) (hb : ∀ name env x, attributeBase e name env x = x) (h : SE t e p) :
    SE t (.ListComp (.Tuple [.Subscript (.Name x p1) (.Constant (.int 0) k1 p2) p3, .Subscript (.Name x p4) (.Constant (.int 1) k2 p5) p6] kk tp) [⟨.Name x px, .Call (.Attribute e ("values" : Str) ap) [] [] cp, [], 0⟩] scope pos) (.pairsOf p) := fun c ρ I s _ _ R N he k => by
  rw [eval_ListComp]
  refine wpAny_comprehension_free (use := none) rfl (fun _ => rfl) (clos_ok (N.frm.free ht hsc)) (scOK_of hsc).1 (scOK_of hsc).2.2.1 ?_
  show c.wp (eval (.Call (.Attribute e ("values" : Str) ap) [] [] cp) c.env) _ _
  refine Call_meth (hb _ _ _) hl rfl (by simp) (h c N he.dnb fun u v σ' I' s' he x' r => ?_)
  obtain ⟨vs, hv, he⟩ := he.tpo
  obtain ⟨es, hes, hpv⟩ := opt_some hv
  obtain ⟨hvs, he⟩ := he.drg
  have hD : isD σ' v = true := (tdictO_of hes).elim (fun e => congrArg isDO e.1) (fun e => congrArg isDO e)
  refine dictMeth x'.sim r hD PySem.F.slot_dict_values PySem.F.type_dict_values (callB rfl (wpAny_items_nil ?_))
  obtain ⟨d, od, ents, ep, rfl, hds, hod, hoc, hodd, hrv⟩ := raw_of x'.sim r hes
  refine vals_view hds hod hoc ?_
  have hk1 : ∀ (b : Nat) o, s'.heap.get? b = some o → (s'.heap.push { cls := .type "dict_values", data := .fields #[.ref d] }).get? b = some o := fun b o e => Heap.get?_push_of_some _ e
  refine vals_iter ⟨_, Heap.get?_push_size _ rfl, rfl, rfl⟩ (hk1 _ _ hod) hodd ?_
  have hk2 : ∀ (b : Nat) o, s'.heap.get? b = some o → ((s'.heap.push { cls := .type "dict_values", data := .fields #[.ref d] }).push { cls := .type "dict_valueiterator", data := .fields #[.ref d, .int 0 0, .int ents.size 0, .int ep 0] }).get? b = some o := fun b o e => Heap.get?_push_of_some _ (hk1 b o e)
  have hg := Heap.get?_push_size (s'.heap.push { cls := .type "dict_values", data := .fields #[.ref d] }) (o := { cls := .type "dict_valueiterator", data := .fields #[.ref d, .int 0 0, .int ents.size 0, .int ep 0] }) rfl
  have dead : s'.heap.get? (s'.heap.push { cls := .type "dict_values", data := .fields #[.ref d] }).objs.size = none := none_of_le (Heap.size_push s'.heap _ ▸ Nat.le_succ _)
  have y : St nX c.G I s I' σ' { s' with heap := (s'.heap.push { cls := .type "dict_values", data := .fields #[.ref d] }).push { cls := .type "dict_valueiterator", data := .fields #[.ref d, .int 0 0, .int ents.size 0, .int ep 0] } } := x'.go (tk := s'.toks) (ExtX.grow hk2) (x'.sim.grow hk2)
  refine pairs_core (R := fun acc Cc r s' => compPost c.M c.A nE none R acc Cc r s') ht hsc hx hxd (N.next y) y ⟨_, hg, rfl, rfl⟩ (hk2 _ _ hod) hodd (x'.sim.dead dead) (dead_of (s := s') x'.sim dead) (x'.ext.dead dead) rfl (hrv.ext (ExtX.grow hk2)) hpv hvs fun D Cc s3 M => ?_
  obtain ⟨x, r, F, ⟨m, hm⟩, hCf, zC, bC, hCL, hcc⟩ := M.adopt
  exact ⟨m, hm, fun h2 hs2 => k _ _ _ _ _ he (x.aside (tk := s3.toks) (same_keep hs2) (ns_noTup hm) hCf bC zC) (r.aside (same_keep hs2) (ns_noTup hm))⟩
end
end Mine
open PySem PySem.W PySem.Calls PyProof.Rows
namespace Mine
set_option linter.unusedVariables false
set_option maxRecDepth 100000

section
variable {c : Cx} {I : Inj} {s : Shared} {σ σ' : Sto}
theorem put_obj {name : Str} {hh : Int} {tk : Tok} {v : Value} {es : Array DictEntry} {ep : Nat} {m : Str → Option Value} (hk : StrKeys es) (hm : ∀ x, nsFind es x = m x) :
    ∃ es' ep', Obj.putName name hh (.str name tk) v { cls := .type "dict", data := .dict es ep } = { cls := .type "dict", data := .dict es' ep' } ∧ StrKeys es' ∧ (∀ x, nsFind es' x = if x = name then some v else m x) ∧ es'.size ≤ es.size + (if (m name).isSome then 0 else 1) := by
  rw [Obj.putName_eq]
  unfold Obj.putNameByArray
  cases hi : es.findIdx? (·.key.isStr name) with
  | some i =>
    refine ⟨_, _, by simp only [hi]; rfl, hk.modify _ _, fun x => ?_, ?_⟩
    · rw [← hm]; exact findBy_modify (fun n v => v.isStr n) Value.isStr_inj es name x v i hi
    · rw [Array.size_modify]; lia
  | none =>
    refine ⟨_, _, by simp only [hi]; rfl, hk.push _ _ _ _, fun x => ?_, ?_⟩
    · rw [← hm]
      exact findBy_push (fun n v => v.isStr n) es name x _ _ v (fun y => by
        show (name == y) = decide (y = name)
        rw [Bool.eq_iff_iff, beq_iff_eq, decide_eq_true_eq]; exact eq_comm) hi
    · have : m name = none := by
        rw [← hm]
        unfold nsFind
        rw [findBy_of_findIdx?, hi]
      rw [this, Array.size_push]; simp

theorem fldPut_lookup (fs : List (Nat × AV)) (f g : Nat) (v : AV) : (fldPut fs f v).lookup g = if g = f then some v else fs.lookup g := by
  induction fs with
  | nil =>
    unfold fldPut
    simp only [List.lookup_cons, List.lookup_nil]
    by_cases h : g = f
    · subst h; simp
    · have : (g == f) = false := by simpa using h
      rw [this, if_neg h]
  | cons p r ih =>
    obtain ⟨a, b⟩ := p
    unfold fldPut
    by_cases hp : a = f
    · subst hp
      simp only [beq_self_eq_true, if_true, List.lookup_cons]
      by_cases h : g = a
      · subst h; simp
      · have h1 : (g == a) = false := by simpa using h
        rw [h1, if_neg h]
    · have hp1 : (a == f) = false := by simpa using hp
      simp only [hp1, Bool.false_eq_true, if_false, List.lookup_cons, ih]
      by_cases h : g = f
      · subst h
        have h1 : (g == a) = false := by
          rw [beq_eq_false_iff_ne]; intro q; exact hp q.symm
        rw [h1, if_pos rfl]
      · rw [if_neg h]
        split <;> simp_all
theorem fldPut_length (fs : List (Nat × AV)) (f : Nat) (v : AV) : (fldPut fs f v).length = fs.length + (if (fs.lookup f).isSome then 0 else 1) := by
  induction fs with
  | nil => simp [fldPut]
  | cons p r ih =>
    obtain ⟨a, b⟩ := p
    unfold fldPut
    by_cases hp : a = f
    · subst hp
      simp [List.lookup_cons]
    · have hp1 : (a == f) = false := by simpa using hp
      have h1 : (f == a) = false := by rw [beq_eq_false_iff_ne]; intro q; exact hp q.symm
      simp only [hp1, Bool.false_eq_true, if_false, List.length_cons, ih, List.lookup_cons, h1]
      lia
theorem fname_inj : ∀ f, f < fieldNames.length → ∀ g, g < fieldNames.length → f ≠ g → fname f ≠ fname g := by decide +kernel

theorem setattr_ok {o v : AV} {uo uv : Value} {f : Nat} {R : Unit → Shared → Prop} (S : GSim c.G I σ s.heap) (ro : VR I s.heap o uo) (rv : VR I s.heap v uv) (hf : f < fieldNames.length) (e : setAttrV o f v σ = some σ') (q : ∀ s', St nX c.G I s I σ' s' → R () s') :
    c.wp (setAttr uo (fname f) uv) R s := by
  obtain ⟨r, hr, e⟩ := opt_some e
  obtain ⟨⟨C, fs⟩, hv, e⟩ := opt_some e
  obtain ⟨hl, e⟩ := grd_some e
  (first | subst e | (injection e with e; subst e) | (injection e; done) | cases e)
  obtain ⟨p, hp, hC, g1, ne, ⟨es, ep, g2, hsz⟩, m, hns, hfr⟩ := S.at (instO_of hv)
  cases ro.ofRef hr hp
  replace hl : fs.length ≤ 100 := hl
  replace hsz : es.size ≤ fs.length := hsz
  obtain ⟨o', es', ep', g2', hd', hk, hm⟩ := id hns
  rw [g2] at g2'; (first | subst g2' | (injection g2' with g2'; subst g2') | (injection g2'; done) | cases g2'); (first | subst hd' | (injection hd' with hd'; subst hd') | (injection hd'; done) | cases hd')
  have ia : W.InstAt s.heap p.1 (instObj C p.2) C (some { cls := .type "dict", data := .dict es ep }) := ⟨g1, rfl, rfl, g2⟩
  refine set_plain (inK S) ia (c.G.kf.over C hC).2 ?_
  refine osa_open (inK S) ia (c.G.kf.over C hC).1 (c.G.kf.take C hC f hf) fun b => ?_
  obtain ⟨cd, hc, hdd⟩ := any_some (c.G.kf.dict C hC)
  refine wpAny_bind (wpAny_pure (wpAny_bind (wpAny_bind (wpAny_loadPart g1 (wpAny_bind (looks_clsIn (inK S) hc _ _ _ _ (fun _ _ e => e) ?_))))))
  rw [hdd]
  refine wpAny_pure (a := some p.2) (wpAny_bind (wpAny_pure (wpAny_bind ?_)))
  unfold nsSet
  refine wpAny_bind (wpAny_bind (wpAny_askSetting (wpAny_pure (wpAny_bind (wpAny_mkText (wpAny_bind (wpAny_loadPart g2 ?_)))))))
  dsimp only
  have rk : (!es.any (·.key.isStr (fname f)) && es.any (·.refKey)) = false := by
    have : es.any (·.refKey) = false := by
      rw [Array.any_eq_false']; intro e he; obtain ⟨n, t, h⟩ := hk e he; simp [DictEntry.refKey, h]
    rw [this, Bool.and_false]
  rw [aRefKeyMayBeTheName_at, rk]
  obtain ⟨es2, ep2, e2, k2, m2, z2⟩ := put_obj (name := fname f) (hh := PyData.keyHash c.G.w.params (fname f)) (tk := s.toks + 1) (v := uv) (ep := ep) hk hm
  have D' := Heap.get?_update_self (Obj.putName (fname f) (PyData.keyHash c.G.w.params (fname f)) (.str (fname f) (s.toks + 1)) uv) g2 (by rw [e2]; rfl)
  have zl : es2.size ≤ (fldPut fs f v).length := by
    rw [fldPut_length]
    cases hlk : fs.lookup f with
    | some w =>
      obtain ⟨_, u, hu, _⟩ := hfr.1 f w hlk
      rw [hu] at z2
      exact Nat.le_trans z2 hsz
    | none =>
      refine Nat.le_trans z2 (Nat.add_le_add hsz ?_)
      split
      · exact Nat.zero_le _
      · exact Nat.le_refl _
  refine wpAny_updatePart g2 ?_
  refine wpAny_bind (wpAny_lookBehind D' (by rw [e2]; exact pastItsLine_dict (by rw [sizeLine_eq]; rw [fldPut_length] at zl; split at zl <;> lia)) ?_)
  refine wpAny_pure ?_
  have z := put_at (o := .inst C (fldPut fs f v)) S hp (Heap.SameBut.update s.heap p.2 (Obj.putName (fname f) (PyData.keyHash c.G.w.params (fname f)) (.str (fname f) (s.toks + 1)) uv)) (.inr rfl) ⟨_, D'⟩ fun E => by
    refine ⟨hC, (Heap.get?_update_ne _ _ _ _ ne).trans g1, ne, ⟨es2, ep2, e2 ▸ D', zl⟩, fun x => if x = fname f then some uv else m x, ⟨_, es2, ep2, e2 ▸ D', rfl, k2, m2⟩, fun g w hg => ?_, fun x hx => ?_⟩
    · rw [fldPut_lookup] at hg
      split at hg
      · rename_i hgf
        (first | subst hg | (injection hg with hg; subst hg) | (injection hg; done) | cases hg)
        subst hgf
        exact ⟨hf, uv, if_pos rfl, rv.ext E⟩
      · rename_i hgf
        obtain ⟨hl', u, hu, r⟩ := hfr.1 g w hg
        exact ⟨hl', u, (if_neg (fname_inj g hl' f hf hgf)).trans hu, r.ext E⟩
    · refine (if_neg fun z => hx f v (by rw [fldPut_lookup, if_pos rfl]) z.symm).trans (hfr.2 x fun g w hg => hx g (if g = f then v else w) ?_)
      rw [fldPut_lookup]
      split
      · rfl
      · exact hg
  exact q _ ((St.refl S).go z.2 z.1)
end
end Mine
open PySem PySem.W PySem.Calls PyProof.Rows
namespace Mine
set_option linter.unusedVariables false
set_option maxRecDepth 100000

section
variable {c : Cx} {I : Inj} {s : Shared} {σ σ' : Sto}
theorem list_set_ok {l : Nat} {items : Array Value} {nn : Nat} {k : Int} {tk : Tok} {v : Value} {prog : Program} {w : World} {A : Around} {E : Value → Shared → Prop} {Q : Unit → Shared → Prop} (ho : s.heap.get? l = some { cls := .type "list", data := .seq items nn }) (h0 : 0 ≤ k) (hfit : k < 2 ^ 63) (hn : k < items.size)
    (hQ : ∀ h' n', h'.get? l = some { cls := .type "list", data := .seq (items.setIfInBounds k.toNat v) n' } → Heap.SameBut l s.heap h' → Q () { s with heap := h' }) : wpAny (model prog w) A (setItem (.ref l) (.int k tk) v) Q E s := by
  have hl : s.heap.IsList l items := ⟨_, ho, rfl, nn, rfl⟩
  unfold setItem
  try with_reducible refine wpAny_holding ?_
  first | refine wpAny_bind (wpAny_pure ?_) | skip
  refine wpAny_bind (wpAny_sequenceKey hl.typeIs (by decide) ?_)
  refine wpAny_bind (wpAny_callSpecial?_slot (name := Str.ofString "__setitem__") hl.typeIs slot_list_setitem
    (wpAny_call_entry slot_list_setitem hl.typeIs entry_list_setitem ?_ (args_list_setitem _ _ _)))
  show wpAny _ _ (Builtin.List.listSubscript? (.int k tk) >>= _) _ _ s
  refine wpAny_bind (wpAny_listSubscript_int (fitsIndex_of h0 hfit) ?_)
  clear hfit
  obtain ⟨j, rfl⟩ := Int.eq_ofNat_of_zero_le h0
  have hj : j < items.size := by lia
  have hx' : items[j]? = some items[j] := Array.getElem?_eq_getElem hj
  show wpAny _ _ ((seqItemAt l j >>= fun r => pure (r.map (j, ·))) >>= _) _ _ s
  refine wpAny_bind (wpAny_bind (wpAny_seqItemAt ho rfl (wpAny_pure ?_)))
  rw [hx']
  show wpAny _ _ (setSeqItemAt l j v >>= _) _ _ s
  obtain ⟨n', e⟩ := mapSeq_of (·.setIfInBounds j v) items nn
  refine wpAny_bind (wpAny_setSeqItemAt ho rfl ?_)
  have hfin : (s.heap.update l (Obj.mapSeq (·.setIfInBounds j v))).get? l = some { cls := .type "list", data := .seq (items.setIfInBounds j v) n' } := by
    rw [Heap.get?_update_self _ ho (by rw [e]; rfl), e]
  first
    | exact wpAny_bind (wpAny_pure (wpAny_pure ⟨.none, rfl, wpAny_pure (hQ _ n' hfin (Heap.SameBut.update ..))⟩))
    | exact wpAny_pure ⟨.none, rfl, wpAny_pure (hQ _ n' hfin (Heap.SameBut.update ..))⟩

theorem setitem_ok {o i v : AV} {uo ui uv : Value} {R : Unit → Shared → Prop} (S : GSim c.G I σ s.heap) (ro : VR I s.heap o uo) (ri : VR I s.heap i ui) (rv : VR I s.heap v uv) (e : setItemV o i v σ = some σ') (q : ∀ s', St nX c.G I s I σ' s' → R () s') :
    c.wp (setItem uo ui uv) R s := by
  obtain ⟨r, hr, e⟩ := opt_some e
  have fin : ∀ (ao : AO) {p : Nat × Nat} {h' : Heap} {tk : Nat}, I[r]? = some p → Heap.SameBut p.1 s.heap h' → (∃ o, h'.get? p.1 = some o) → (Ext I s.heap I h' → OR c.G.prog c.G.w I h' ao p) → σ' = σ.set r ao → R () { s with heap := h', toks := tk } := fun ao _ _ _ hp hs hv T hσ => by
    subst hσ
    have z := put_at S hp hs (.inl rfl) hv T
    exact q _ ((St.refl S).go z.2 z.1)
  have tk : (opt (keyT i) fun k => opt (tdictO σ[r]?) fun es => grd (es.length ≤ 1000) (some (σ.set r (.tdict (putK es k v))))) = some σ' → c.wp (setItem uo ui uv) R s := fun e => by
    obtain ⟨kk, hk, e⟩ := opt_some e
    obtain ⟨es, he, e⟩ := opt_some e
    obtain ⟨hl, e⟩ := grd_some e
    have T := tdict_at (v := .ref r) (u := uo) S (asRef_of hr ▸ ro) he
    obtain ⟨p, rfl, hp, as, us, hlen, hd, hf, hvr⟩ := T
    obtain ⟨p', hp', hpp⟩ := (show VR I s.heap (.ref r) (.ref p.1) from asRef_of hr ▸ ro).ref
    have : p.1 = p'.1 := by injection hpp
    rw [this] at hd
    obtain ⟨a, rfl, haf, hkey⟩ := key_of (G := c.G) ri hk
    have hul : us.length = es.length := by simpa using hvr.length
    have hzl : (tz es as us).length = es.length := by simp [tz, hlen, hul]
    rw [this]
    refine wpAny_setItem_heap (hsz := by rw [hzl, sizeLine_eq]; lia) (tupleKind_room_in1 (Nat.lt_of_le_of_lt (by lia) c.hA.2.2)) hkey hd fun h' hd' hs' => ?_
    obtain ⟨as', us', a1, a2, a3, a4⟩ := putT_rel kk rv hlen hvr a
    rw [a2] at hd'
    exact fin (.tdict (putK es kk v)) hp' hs' (let ⟨o, _, _, h, _⟩ := hd'; ⟨o, h⟩) (fun E => ⟨as', us', a1, hd', fun b hb => (a3 b hb).elim (hf b) fun q => q ▸ haf, a4.ext E⟩) (Option.some.inj e).symm
  induction i using AV.cs with
  | int k =>
    obtain ⟨vs, hv, e⟩ := opt_some e
    obtain ⟨hk, e⟩ := grd_some e
    obtain ⟨p, hp, us, ⟨nn, ho⟩, hvr⟩ := S.at (listO_of hv)
    cases ro.ofRef hr hp
    obtain ⟨tt, rfl⟩ := ri.int
    have hz : us.size = vs.length := hvr.length
    exact list_set_ok ho hk.1 (by lia) (by lia) fun h' n' hD hs' => fin (.list (vs.set k.toNat v)) (tk := s.toks) hp hs' ⟨_, hD⟩ (fun E => ⟨_, ⟨n', hD⟩, by
      rw [Array.toList_setIfInBounds]
      exact (hvr.ext E).set (rv.ext E)⟩) (Option.some.inj e).symm
  | str k =>
    obtain ⟨es, hv, e⟩ := opt_some e
    obtain ⟨hl, e⟩ := grd_some e
    obtain ⟨p, hp, us, hul, hd, hvr⟩ := S.at (dictO_of hv)
    cases ro.ofRef hr hp
    obtain ⟨tt, rfl⟩ := ri.str
    refine wpAny_setItem_pairs (hsz := by simp [hul]; rw [sizeLine_eq]; lia) (strKind_is _ _ _ tt) hd fun h' hd' hs' => ?_
    obtain ⟨us', a, b, d⟩ := put_rel k rv hvr
    rw [show stored _ _ _ = dz (putK es k v) us' from b] at hd'
    exact fin (.dict (putK es k v)) hp hs' (let ⟨o, _, _, h, _⟩ := hd'; ⟨o, h⟩) (fun E => ⟨us', a, hd', d.ext E⟩) (Option.some.inj e).symm
  | _ => exact tk e
end
end Mine
open PySem PySem.W PySem.Calls PyProof.Rows
namespace Mine
set_option linter.unusedVariables false
set_option maxRecDepth 100000

/-- how a statement ends -/
inductive FlR (I : Inj) (h : Heap) : Fl → Flow → Prop
  | next : FlR I h .next .next
  | cont : FlR I h .cont .cont
  | ret {v : AV} {u : Value} (r : VR I h v u) : FlR I h (.ret v) (.ret u)
noncomputable def OwnB (G : G0) (env : Env) : Prop := ∀ a, own env a → G.B.get? a = none
/-- behind a statement -/
structure Af (t : Tx) (c : Cx) (I : Inj) (s : Shared) (I' : Inj) (σ' : Sto) (s' : Shared) (ρ' : Vars) : Prop where
  st : St (own c.env) c.G I s I' σ' s'
  frm : Frm t I' s'.heap c.env ρ'
section
variable {t : Tx} {c : Cx} {I I' I'' : Inj} {s s' s'' : Shared} {σ σ' σ'' : Sto} {ρ ρ' ρ'' : Vars}
theorem Af.now (x : Af t c I s I' σ' s' ρ') : Now t c I' s' σ' ρ' := ⟨x.st.sim, x.frm⟩
theorem Af.trans (x : Af t c I s I' σ' s' ρ') (y : Af t c I' s' I'' σ'' s'' ρ'') : Af t c I s I'' σ'' s'' ρ'' := ⟨x.st.trans y.st, y.frm⟩
theorem Now.af (N : Now t c I s σ ρ) (x : St nX c.G I s I' σ' s') : Af t c I s I' σ' s' ρ := ⟨x.weak fun _ z => z.elim, N.frm.next x.ext⟩
theorem Af.then (x : Af t c I s I' σ' s' ρ') (y : St nX c.G I' s' I'' σ'' s'') : Af t c I s I'' σ'' s'' ρ' := x.trans (x.now.af y)
theorem Now.here (N : Now t c I s σ ρ) : Af t c I s I σ s ρ := ⟨St.refl N.sim, N.frm⟩
end
/-- a statement, and its cut-down form -/
noncomputable def SS (t : Tx) (st : Stmt) (p : PS) : Prop :=
  ∀ (c : Cx) {ρ : Vars} {I : Inj} {s : Shared} {σ : Sto} {Q : Fl → Vars → Sto → Prop} {R : Flow → Shared → Prop}, OwnB c.G c.env → Now t c I s σ ρ → OS (exS c.C p ρ σ) Q →
    (∀ f fl ρ' σ' I' s', Q fl ρ' σ' → Af t c I s I' σ' s' ρ' → FlR I' s'.heap fl f → R f s') → c.wp (exec st c.env) R s
noncomputable def SSs (t : Tx) (st : List Stmt) (p : List PS) : Prop :=
  ∀ (c : Cx) {ρ : Vars} {I : Inj} {s : Shared} {σ : Sto} {Q : Fl → Vars → Sto → Prop} {R : Flow → Shared → Prop}, OwnB c.G c.env → Now t c I s σ ρ → OS (exSs c.C p ρ σ) Q →
    (∀ f fl ρ' σ' I' s', Q fl ρ' σ' → Af t c I s I' σ' s' ρ' → FlR I' s'.heap fl f → R f s') → c.wp (execs st c.env) R s

section
variable {t : Tx} {c : Cx} {I : Inj} {s : Shared} {σ : Sto} {ρ : Vars}
theorem name_kind {h : Heap} {env : Env} (ht : t.comp = none) (F : Frm t I h env ρ) {x : Str} {i : Nat} (e : t.name x = some (.inl i)) : env.kindOf x = some .local ∨ env.kindOf x = some .cell := by
  have K := F.kinds
  unfold KindsAre at K
  rw [ht] at K
  rw [K x]
  have e := Tx.name_o e
  rw [ht] at e
  exact (nmT_l e).1
theorem store_ok (ht : t.comp = none) (hO : OwnB c.G c.env) (N : Now t c I s σ ρ) {x : Str} {i : Nat} (hx : t.name x = some (.inl i)) {v : AV} {u : Value} (r : VR I s.heap v u) {R : Unit → Shared → Prop}
    (q : ∀ s', Af t c I s I σ s' (upd ρ i v) → R () s') : c.wp (storeName c.env x u) R s := by
  have F := N.frm
  have fin : ∀ {a : Nat} {h' : Heap} {tk : Nat}, own c.env a → Heap.SameBut a s.heap h' → (∃ o, h'.get? a = some o) → a ∉ foot I → Frm t I h' c.env (upd ρ i v) → R () { s with heap := h', toks := tk } := fun ha hs hv hf F' =>
    q _ ⟨⟨ExtX.same hs (.inr ha) hv, rfl, Sim.aside N.sim (same_keep hs) (F.noTup _ ha) hf (hO _ ha)⟩, F'⟩
  rcases name_kind ht F hx with hk | hk
  · obtain ⟨m, hm⟩ := F.ns
    exact wpAny_storeName_local hk hm (fun h' hn hs => fin (.inl rfl) hs (let ⟨o, _, _, a, _⟩ := hn; ⟨o, a⟩) F.offL (F.store hx hk hm hn hs r)) F.plainKind
  · obtain ⟨a, hc⟩ := F.cells x hk
    obtain ⟨o, v0, hco, hcd⟩ := F.cell x a hc
    exact wpAny_storeName_cell F.kind hk hc ⟨o, hco, hcd⟩ fun h' hn hs => fin (tk := s.toks) (.inr ⟨x, hc⟩) hs (let ⟨o, a, _⟩ := hn; ⟨o, a⟩) (F.offC x a hc) (F.storeC hx hk hc hn hs r)

theorem SSs.nil : SSs t [] [] := fun _ _ _ _ _ _ _ _ N he k => wpAny_execs_nil (k .next .next _ _ _ _ he N.here .next)
theorem SSs.cons {st : Stmt} {p : PS} {sts : List Stmt} {ps : List PS} (h : SS t st p) (hr : SSs t sts ps) : SSs t (st :: sts) (p :: ps) := fun c _ _ _ _ _ _ hO N he k => by
  rw [execs_cons]
  refine wpAny_bind (h c hO N (OS.qs he) fun f fl ρ' σ' I' s' hq x r => ?_)
  induction r with
  | next => exact hr c hO x.now hq fun f fl _ _ _ _ hq y r => k f fl _ _ _ _ hq (x.trans y) r
  | cont => exact wpAny_pure (k _ _ _ _ _ _ hq x .cont)
  | ret r => exact wpAny_pure (k _ _ _ _ _ _ hq x (.ret r))

theorem stm_ret {e : PySem.Expr} {p : PE} {pos : Pos} (h : SE t e p) : SS t (.Return (some e) pos) (.ret p) := fun c _ _ _ _ _ _ _ N he k =>
  wpAny_Return_some (h c N he.dnb fun _ _ _ _ _ hq x r => k _ _ _ _ _ _ hq (N.af x) (.ret r))
theorem stm_cont {pos : Pos} : SS t (.Continue pos) .cont := fun _ _ _ _ _ _ _ _ N he k => wpAny_Continue (k _ _ _ _ _ _ he N.here .cont)
theorem stm_expr {e : PySem.Expr} {p : PE} {pos : Pos} (hs : ∀ env, swapsWith e none pos.line env = pure false) (h : SE t e p) : SS t (.Expr e pos) (.expr p) := fun c _ _ _ _ _ _ _ N he k =>
  wpAny_Expr (h c N he.dnb fun _ _ _ _ _ he x r => by
    obtain ⟨_, hv, he⟩ := he.tpo
    cases r.ofNone hv
    exact k .next _ _ _ _ _ he (N.af x) .next) (by unfold interactive; rw [N.frm.kind]; rfl) (hs c.env)
theorem stm_if {d : PySem.Expr} {pd : PE} {a b : List Stmt} {pa pb : List PS} {pos : Pos} (h : SB t d pd) (ha : SSs t a pa) (hb : SSs t b pb) : SS t (.If d a b pos) (.ite pd pa pb) := fun c _ _ _ _ _ _ hO N he k =>
  wpAny_If (h c N he.dnbB fun b _ _ _ he x => by
    induction b with
    | true => rw [if_pos rfl]; exact ha c hO (N.next x) he fun f fl _ _ _ _ hq y r => k f fl _ _ _ _ hq ((N.af x).trans y) r
    | false => rw [if_neg Bool.false_ne_true]; exact hb c hO (N.next x) he fun f fl _ _ _ _ hq y r => k f fl _ _ _ _ hq ((N.af x).trans y) r)
theorem stm_asg {x : Str} {i : Nat} {px pos : Pos} {e : PySem.Expr} {p : PE} (ht : t.comp = none) (hx : t.name x = some (.inl i)) (h : SE t e p) {Q : Fl → Vars → Sto → Prop} {R : Flow → Shared → Prop} (hs : swapsWith e (some (.Name x px)) pos.line c.env = pure false) (hO : OwnB c.G c.env) (N : Now t c I s σ ρ) (he : OS (exS c.C (.asg i p) ρ σ) Q)
    (k : ∀ f fl ρ' σ' I' s', Q fl ρ' σ' → Af t c I s I' σ' s' ρ' → FlR I' s'.heap fl f → R f s') : c.wp (exec (.Assign [.Name x px] e pos) c.env) R s :=
  wpAny_Assign_Name (h c N he.dnb fun _ _ _ _ _ he x r => store_ok ht hO (N.next x) hx r fun s' y => k .next _ _ _ _ _ he ((N.af x).trans y) .next) hs
theorem stm_asgN {x : Str} {i : Nat} {px pos : Pos} {e : PySem.Expr} {p : PE} (ht : t.comp = none) (hx : t.name x = some (.inl i)) (h : SE t e p) (hs : ∀ env, swapsWith e (some (.Name x px)) pos.line env = pure false) : SS t (.Assign [.Name x px] e pos) (.asg i p) := fun c _ _ _ _ _ _ hO N he k =>
  stm_asg ht hx h (hs c.env) hO N he k
theorem stm_asgSub {o i e : PySem.Expr} {po pi pe : PE} {sp pos : Pos} (h : SE t e pe) (h₁ : SE t o po) (h₂ : SE t i pi) (hs : ∀ env, swapsWith e (some (.Subscript o i sp)) pos.line env = pure false) : SS t (.Assign [.Subscript o i sp] e pos) (.asgSub po pi pe) := fun c _ _ _ _ _ _ _ N he k =>
  wpAny_Assign_Subscript (h c N he.dnb fun _ _ _ _ _ he x r => h₁ c (N.next x) he.dnb fun _ _ _ _ _ he y ro => h₂ c ((N.next x).next y) he.dnb fun _ _ _ _ _ he z ri => by
    obtain ⟨_, e, he⟩ := he.tpo
    exact setitem_ok z.sim (ro.ext z.ext) ri ((r.ext y.ext).ext z.ext) e fun s' w => k .next _ _ _ _ _ he (N.af (((x.trans y).trans z).trans w)) .next) (hs c.env)
theorem stm_asgAttr {o e : PySem.Expr} {po pe : PE} {x : Str} {f : Nat} {ap pos : Pos} (hf : x = fname f) (hfl : f < fieldNames.length) (h : SE t e pe) (h₁ : SE t o po) (hs : ∀ env, swapsWith e (some (.Attribute o x ap)) pos.line env = pure false) : SS t (.Assign [.Attribute o x ap] e pos) (.asgAttr po f pe) := fun c _ _ _ _ _ _ _ N he k =>
  plainObj_wpAny_Assign_Attribute (h c N he.dnb fun _ _ _ _ _ he x r => h₁ c (N.next x) he.dnb fun _ _ _ _ _ he y ro => by
    subst hf
    obtain ⟨_, e, he⟩ := he.tpo
    exact setattr_ok y.sim ro (r.ext y.ext) hfl e fun s' w => k .next _ _ _ _ _ he (N.af ((x.trans y).trans w)) .next) (hs c.env)
theorem stm_augAttr {o e : PySem.Expr} {po pe : PE} {x : Str} {f : Nat} {tp pos : Pos} (hf : x = fname f) (hfl : f < fieldNames.length) (h₁ : SE t o po) (h : SE t e pe) : SS t (.AugAssign (.Attribute o x tp) .Add e pos) (.augAttr po f pe) := fun c _ _ _ _ _ _ _ N he k =>
  wpAny_AugAssign_AttributeAny (h₁ c N he.dnb fun _ _ _ _ _ he x r => by
    subst hf
    obtain ⟨⟨D, fs⟩, hm, he⟩ := he.tpo
    obtain ⟨u, hu, he⟩ := he.tpo
    obtain ⟨i, hi, he⟩ := he.tpo
    obtain ⟨p, hp, _, T⟩ := mem_at x.sim r (instO_of hm)
    rw [hp]
    rw [hp] at r
    refine getField x.sim T hu (by rw [asInt_of hi]; rfl) fun u ru => ?_
    obtain ⟨_, rfl⟩ := ru.ofInt hi
    refine h c (N.next x.tok) he.dnb fun _ _ _ _ _ he y r2 => ?_
    obtain ⟨j, hj, he⟩ := he.tpo
    obtain ⟨_, e, he⟩ := he.tpo
    obtain ⟨_, rfl⟩ := r2.ofInt hj
    refine iadd_int (setattr_ok y.sim (r.ext y.ext) (VR.mkInt _ _) hfl e fun s' w => ?_)
    exact k .next _ _ _ _ _ he (N.af ((x.tok.trans y).trans ((St.refl y.sim).tok.trans w))) .next)
end
end Mine
open PySem PySem.W PySem.Calls PyProof.Rows
namespace Mine
set_option linter.unusedVariables false
set_option maxRecDepth 100000

section
variable {t : Tx} {c : Cx} {I : Inj} {s : Shared} {σ : Sto} {ρ : Vars}
/-- two names, the one after the other -/
theorem store2_ok (ht : t.comp = none) (hO : OwnB c.G c.env) (N : Now t c I s σ ρ) {x y : Str} {px py : Pos} {i j : Nat} (hx : t.name x = some (.inl i)) (hy : t.name y = some (.inl j)) {v w : AV} {u z : Value} (r : VR I s.heap v u) (r' : VR I s.heap w z) {R : Unit → Shared → Prop}
    (q : ∀ s', Af t c I s I σ s' (upd (upd ρ i v) j w) → R () s') : c.wp (assignInOrder [assign (.Name x px) c.env, assign (.Name y py) c.env] [u, z]) R s :=
  assignInOrder_cons (wpAny_assign_Name (store_ok ht hO N hx r fun s1 x1 => assignInOrder_cons (wpAny_assign_Name (store_ok ht hO x1.now hy (r'.extX x1.st.ext N.frm.noTup) fun s2 x2 => assignInOrder_nil (q s2 (x1.trans x2))))))
/-- two values -/
theorem pair_at {h : Heap} {a b : AV} {us : List Value} (r : VRs I h [a, b] us) : ∃ ua ub, us = [ua, ub] ∧ VR I h a ua ∧ VR I h b ub := by
  obtain ⟨ua, r1, e1, ra, ub, r2, e2, rb, e3⟩ := r
  exact ⟨ua, ub, by rw [e1, e2, show r2 = [] from e3], ra, rb⟩
theorem St.grown {G : G0} {h' : Heap} (S : GSim G I σ s.heap) (he : ∀ (b : Nat) o, b ≠ s.heap.objs.size → s.heap.get? b = some o → h'.get? b = some o) : St nX G I s I σ { s with heap := h' } :=
  have up : ∀ (b : Nat) o, s.heap.get? b = some o → h'.get? b = some o := fun b o e => he b o (Nat.ne_of_lt (Heap.lt_size e)) e
  ⟨ExtX.grow up, rfl, S.grow up⟩
theorem stm_asgT {x y : Str} {px py tp pos : Pos} {kd i j : Nat} {e : PySem.Expr} {p : PE} (ht : t.comp = none) (hx : t.name x = some (.inl i)) (hy : t.name y = some (.inl j)) (h : SE t e p)
    (hs : ∀ env, swapsWithSole [.Tuple [.Name x px, .Name y py] kd tp] e pos.line env = pure false) (hw : ∀ env, swappedStores [.Tuple [.Name x px, .Name y py] kd tp] e env = pure none) : SS t (.Assign [.Tuple [.Name x px, .Name y py] kd tp] e pos) (.asgT i j p) := fun c ρ _ _ _ Q R hO N he k =>
  Assign_Tuple (h c N he.dnb fun _ v σ' I' s' he x' r => by
    obtain ⟨⟨a, b⟩, hp, he⟩ := he.tpo
    have fin : ∀ {h' : Heap} {ua ub : Value}, VR I' s'.heap a ua → VR I' s'.heap b ub → Heap.ExtBut s'.heap.objs.size s'.heap h' → c.wp (assignInOrder [assign (.Name x px) c.env, assign (.Name y py) c.env] [ua, ub]) (fun _ s'' => R .next s'') { s' with heap := h' } := fun ra rb he0 => by
      have g := St.grown x'.sim he0
      exact store2_ok ht hO ((N.next x').next g) hx hy (ra.ext g.ext) (rb.ext g.ext) fun s2 w => k .next _ _ _ _ _ he ((N.af (x'.trans g)).trans w) .next
    rcases twoOf_of hp with rfl | hl
    · obtain ⟨ad, xs, rfl, _, htp, hr⟩ := isTup_of r
      obtain ⟨ua, ub, e1, ra, rb⟩ := pair_at hr
      have hxs : xs = #[ua, ub] := Array.toList_inj.mp e1
      subst hxs
      exact assign_Tuple_tuple c.hA.1 htp rfl rfl fun h0 he0 => fin ra rb he0
    · obtain ⟨ad, us, nn, rfl, ho, hr⟩ := list_at x'.sim r hl
      obtain ⟨ua, ub, e1, ra, rb⟩ := pair_at hr
      have hxs : us = #[ua, ub] := Array.toList_inj.mp e1
      subst hxs
      have hl : s'.heap.IsList ad #[ua, ub] := ⟨_, ho, rfl, nn, rfl⟩
      rw [PyProof.Rows.assign_Tuple]
      refine wpAny_bind (wpAny_standAt ?_)
      unfold unpack
      have hn2 : (assignEach [.Name x px, .Name y py] c.env).length = (#[ua, ub] : Array Value).size := rfl
      have hst2 : (assignEach [.Name x px, .Name y py] c.env).findIdx? (·.1) = none := rfl
      rw [hn2, hst2]
      exact wpAny_bind (wpAny_holding (kun_itemsOf c.hA.1 hl fun h0 he0 => fin ra rb he0))) (hs c.env) (hw c.env)

theorem stm_asgSw {x y : Str} {px py tp vp pos : Pos} {kd kv i j : Nat} {a b : PySem.Expr} {pa pb : PE} (ht : t.comp = none) (hx : t.name x = some (.inl i)) (hy : t.name y = some (.inl j)) (hsa : Star a) (hsb : Star b) (h₁ : SE t a pa) (h₂ : SE t b pb)
    (hs : ∀ env, swapsWithSole [.Tuple [.Name x px, .Name y py] kd tp] (.Tuple [a, b] kv vp) pos.line env = pure false) (hw : ∀ {I h env ρ}, Frm t I h env ρ → swappedStores [.Tuple [.Name x px, .Name y py] kd tp] (.Tuple [a, b] kv vp) env = pure (some [x, y])) :
    SS t (.Assign [.Tuple [.Name x px, .Name y py] kd tp] (.Tuple [a, b] kv vp) pos) (.asgSw i j pa pb) := fun c ρ _ _ _ Q R hO N he k =>
  Assign_Tuple_swapped (wpAny_Tuple (wpAny_items_cons (h₁ c N he.dnb fun ua _ _ _ _ he x' ra => ev1s hsb h₂ (N.next x') he.dnb fun ub _ σ' I' s' he y' rb => ⟨lim_size (n := 2) (by decide), by
    have z := tup_ok y'.sim (VRs.cons (ra.ext y'.ext) (VRs.cons rb VRs.nil))
    have yt : St nX c.G _ _ I' σ' { s' with heap := s'.heap.push { cls := .type "tuple", data := .seq [ua, ub].toArray } } := (x'.trans y').go (tk := s'.toks) z.2.1 z.2.2
    obtain ⟨ad, xs, q1, _, htp, hr⟩ := isTup_of z.1
    (first | subst q1 | (injection q1 with q1; subst q1) | (injection q1; done) | cases q1)
    obtain ⟨ua', ub', e1, ra', rb'⟩ := pair_at hr
    have hxs : xs = #[ua', ub'] := Array.toList_inj.mp e1
    subst hxs
    rw [show ([x, y] : List Str).length = (#[ua', ub'] : Array Value).size from rfl]
    refine wpAny_unpackItems_tuple c.hA.1 htp fun h0 he0 => ?_
    have g := St.grown yt.sim he0
    show c.wp (assignInOrder [bindName c.env y, bindName c.env x] [ub', ua']) _ _
    refine assignInOrder_cons (bindName_ (store_ok ht hO (N.next (yt.trans g)) hy (rb'.ext g.ext) fun s1 x1 => ?_))
    exact assignInOrder_cons (bindName_ (store_ok ht hO x1.now hx ((ra'.ext g.ext).extX x1.st.ext (N.next (yt.trans g)).frm.noTup) fun s2 x2 => assignInOrder_nil (k .next _ _ _ _ _ he (((N.af (yt.trans g)).trans x1).trans x2) .next)))⟩) (hsa c.env _))) (hs c.env) (hw N.frm)
theorem stm_asgSubT {o i a b : PySem.Expr} {po pi pa pb : PE} {y : Str} {sp py tp vp pos : Pos} {kd kv j : Nat} (ht : t.comp = none) (hy : t.name y = some (.inl j)) (hsa : Star a) (hsb : Star b) (h₁ : SE t a pa) (h₂ : SE t b pb) (ho : SE t o po) (hi : SE t i pi)
    (hs : ∀ env, swapsWithSole [.Tuple [.Subscript o i sp, .Name y py] kd tp] (.Tuple [a, b] kv vp) pos.line env = pure false) (hw : ∀ env, swappedStores [.Tuple [.Subscript o i sp, .Name y py] kd tp] (.Tuple [a, b] kv vp) env = pure none) :
    SS t (.Assign [.Tuple [.Subscript o i sp, .Name y py] kd tp] (.Tuple [a, b] kv vp) pos) (.asgSubT po pi j pa pb) := fun c ρ _ _ _ Q R hO N he k =>
  Assign_Tuple (wpAny_Tuple (wpAny_items_cons (h₁ c N he.dnb fun ua _ _ _ _ he x' ra => ev1s hsb h₂ (N.next x') he.dnb fun ub _ σ' I' s' he y' rb => ⟨lim_size (n := 2) (by decide), by
    have z := tup_ok y'.sim (VRs.cons (ra.ext y'.ext) (VRs.cons rb VRs.nil))
    have yt : St nX c.G _ _ I' σ' { s' with heap := s'.heap.push { cls := .type "tuple", data := .seq [ua, ub].toArray } } := (x'.trans y').go (tk := s'.toks) z.2.1 z.2.2
    obtain ⟨ad, xs, q1, _, htp, hr⟩ := isTup_of z.1
    (first | subst q1 | (injection q1 with q1; subst q1) | (injection q1; done) | cases q1)
    obtain ⟨ua', ub', e1, ra', rb'⟩ := pair_at hr
    have hxs : xs = #[ua', ub'] := Array.toList_inj.mp e1
    subst hxs
    refine assign_Tuple_tuple c.hA.1 htp rfl rfl fun h0 he0 => ?_
    have g := St.grown yt.sim he0
    show c.wp (assignInOrder [assign (.Subscript o i sp) c.env, assign (.Name y py) c.env] [ua', ub']) _ _
    refine assignInOrder_cons ?_
    rw [arm_assign_Subscript]
    refine wpAny_bind (wpAny_holding (ho c (N.next (yt.trans g)) he.dnb fun _ _ _ _ _ he x1 ro => ?_))
    refine wpAny_bind (wpAny_holding (hi c ((N.next (yt.trans g)).next x1) he.dnb fun _ _ _ _ _ he x2 ri => ?_))
    refine wpAny_bind (wpAny_standAt (wpAny_bind (wpAny_holding ?_)))
    obtain ⟨_, e₅, he⟩ := he.tpo
    refine setitem_ok x2.sim (ro.ext x2.ext) ri (((ra'.ext g.ext).ext x1.ext).ext x2.ext) e₅ fun s3 x3 => wpAny_release ?_
    have all := (((yt.trans g).trans x1).trans x2).trans x3
    exact assignInOrder_cons (wpAny_assign_Name (store_ok ht hO (N.next all) hy ((((rb'.ext g.ext).ext x1.ext).ext x2.ext).ext x3.ext) fun s4 x4 => assignInOrder_nil (k .next _ _ _ _ _ he ((N.af all).trans x4) .next)))⟩) (hsa c.env _))) (hs c.env) (hw c.env)
end
end Mine
open PySem PySem.W PySem.Calls PyProof.Rows
namespace Mine
set_option linter.unusedVariables false
set_option maxRecDepth 100000

section
variable {t : Tx} {c : Cx} {I : Inj} {s : Shared} {σ : Sto} {ρ : Vars} {scope : Scope}
theorem Af.aside {h' : Heap} {tk a : Nat} {I' : Inj} {s' : Shared} {σ' : Sto} {ρ' : Vars} (x : Af t c I s I' σ' s' ρ') (hk : ∀ (b : Nat) o, b ≠ a → s'.heap.get? b = some o → h'.get? b = some o) (nt : ∀ xs, ¬ IsTup s'.heap a xs) (hf : a ∉ foot I') (hB : c.G.B.get? a = none) (d : s.heap.get? a = none)
    (hL : a ≠ c.env.locals) (hc : ∀ x b, c.env.cells.lookup x = some b → a ≠ b) : Af t c I s I' σ' { s' with heap := h', toks := tk } ρ' :=
  have ne : ∀ (b : Nat) o, s.heap.get? b = some o → b ≠ a := fun b o e q => by rw [q, d] at e; (first | subst e | (injection e with e; subst e) | (injection e; done) | cases e)
  ⟨⟨⟨x.st.ext.pre, fun b o e => let ⟨o', e'⟩ := x.st.ext.live b o e; ⟨o', hk b o' (ne b o e) e'⟩, fun b o w q e => hk b o (ne b o e) (x.st.ext.keep b o w q e)⟩, congrArg (fun z : Shared => { z with heap := h', toks := tk }) x.st.like, Sim.aside x.st.sim hk nt hf hB⟩, x.frm.aside hk nt hL hc⟩
theorem stm_asgC {x : Str} {i : Nat} {px pos cp : Pos} {elt target iter : PySem.Expr} {ifs : List PySem.Expr} {p : PE} (ht : t.comp = none) (hx : t.name x = some (.inl i)) (hu : SUse t (.ListComp elt [⟨target, iter, ifs, 0⟩] scope cp) scope iter p) :
    SS t (.Assign [.Name x px] (.ListComp elt [⟨target, iter, ifs, 0⟩] scope cp) pos) (.asg i p) := fun c _ _ s _ Q R hO N he k => by
  have hsw : ∃ b, swapsWith (.ListComp elt [⟨target, iter, ifs, 0⟩] scope cp) (some (.Name x px)) pos.line c.env = pure b := ⟨_, rfl⟩
  obtain ⟨b, hsw⟩ := hsw
  induction b with
  | false => exact stm_asg ht hx hu.sound hsw hO N he k
  | true =>
    rw [exec_Assign_Name_used _ _ _ _ hsw]
    refine wpAny_bind (wpAny_standAt (wpAny_bind ?_))
    show c.wp (do let _ ← comprehension (.ListComp elt [⟨target, iter, ifs, 0⟩] scope cp) scope c.env _ (PySem.newList []) false (eval iter c.env) (some (assign (.Name x px) c.env))) _ s
    refine wpAny_bind (wpAny_mono (hu c _ (some (assign (.Name x px) c.env)) (R := fun _ s' => R .next s') N he.dnb fun D Cc I' s' vs σ' he M => ?_) (fun _ s' hq => wpAny_pure (wpAny_pure hq)) fun _ _ e => e)
    obtain ⟨y, r, F, ⟨mC, hmC⟩, hCf, zC, bC, hCL, hcc⟩ := M
    refine wpAny_assign_Name (store_ok ht hO ⟨y.sim, F⟩ hx r fun s2 x2 => ?_)
    have hmC2 : s2.heap.Ns Cc mC := hmC.at' fun o => x2.st.ext.keep Cc o (fun q => q.elim hCL fun ⟨z, q⟩ => hcc z Cc q rfl) hCf
    exact ⟨mC, hmC2, fun h3 hs3 => k .next _ _ _ _ _ he (Af.aside (tk := s2.toks) ⟨(y.weak fun _ z => z.elim).trans x2.st, x2.frm⟩ (same_keep hs3) (ns_noTup hmC2) hCf bC zC hCL hcc) .next⟩
/-- between two turns -/
inductive FInv (t : Tx) (c : Cx) (I : Inj) (s : Shared) (i : Nat) (pb : List PS) (k : Nat) (v : AV) (it : Nat) (Q : Fl → Vars → Sto → Prop) (m : Nat) (s' : Shared) : Prop
  | mk (I' : Inj) (j : Nat) (ρ' : Vars) (σ' : Sto) (go : OS (forGo (fun ρ σ => exSs c.C pb ρ σ) i (nextOf k v) m j ρ' σ') Q) (x : Af t c I s I' σ' s' ρ') (X : ItAt I' s'.heap k v it j) (hf : it ∉ foot I')
theorem stm_for {iter e : PySem.Expr} {x : Str} {px pos : Pos} {i k : Nat} {p : PE} {body : List Stmt} {pb : List PS} (ht : t.comp = none) (hsrc : ItSrc t e k iter) (hp : Plain e) (h : SE t e p) (hx : t.name x = some (.inl i)) (hb : SSs t body pb) :
    SS t (.For (.Name x px) iter body [] pos) (.for_ i k p pb) := fun c ρ I s σ Q R hO N he q => by
  refine wpAny_For (iter_first hsrc hp h N he.dnb (fun v σ h => let ⟨r, e, _⟩ := OS.tpo h; ⟨r, e⟩) fun it v σ₁ I1 s1 go x1 X1 hf1 hB hd => ?_) (hsrc.fold hp)
  have F1 := (N.next x1).frm
  obtain ⟨_, hm⟩ := F1.ns
  have hl := it_ne_ns X1 hm
  have hc : ∀ y a, c.env.cells.lookup y = some a → it ≠ a := fun y a e => it_ne_cell X1 F1 e
  have nown : ¬ own c.env it := fun z => z.elim hl fun ⟨y, z⟩ => hc y it z rfl
  refine codeAny_forLoop (FInv t c I s i pb k v it Q) (fun m s' hI => ?_) (lim + 1) ⟨I1, 0, ρ, σ₁, go, N.af x1, X1, hf1⟩
  obtain ⟨I', j, ρc, σc, go, x', X', hf'⟩ := hI
  have nit := X'.noTup
  induction m using ncs with
  | zero => exact go.elim
  | succ m =>
  obtain ⟨r, hnx, go⟩ := OS.tpo go
  refine wpE (next_ok x'.st.sim X' hnx (fun e h'' hx => ?_) fun w e u h2 tk2 X2 hs ru => ?_)
  · subst e
    exact wpAny_execs_nil (q .next _ _ _ I' { s' with heap := h'' } go (x'.aside (tk := s'.toks) (extBut_keep hx) nit hf' hB hd hl hc) .next)
  · subst e
    have x2 := x'.aside (tk := tk2) (same_keep hs) nit hf' hB hd hl hc
    refine wpAny_assign_Name (wpE (store_ok ht hO x2.now hx ru fun s3 x3 => ?_))
    have X3 : ItAt I' s3.heap k v it (j + 1) := X2.gen (fun _ _ => x3.st.ext.get) (x3.st.ext.tups x2.frm.noTup) fun o => x3.st.ext.keep it o nown hf'
    refine wpE (hb c hO x3.now (OS.pl go) fun f fl ρ4 σ4 I4 s4 hq x4 r4 => ?_)
    have X4 : ItAt I4 s4.heap k v it (j + 1) := X3.gen (fun _ _ => x4.st.ext.get) (x4.st.ext.tups x3.frm.noTup) fun o => x4.st.ext.keep it o nown hf'
    have hf4 : it ∉ foot I4 := by
      obtain ⟨o, _, a, _⟩ := X3.at
      exact x4.st.ext.off hf' a
    have x5 := (x2.trans x3).trans x4
    induction r4 with
    | next => exact ⟨m, Nat.lt_succ_self _, ⟨I4, j + 1, ρ4, σ4, hq, x5, X4, hf4⟩⟩
    | cont => exact ⟨m, Nat.lt_succ_self _, ⟨I4, j + 1, ρ4, σ4, hq, x5, X4, hf4⟩⟩
    | ret r => exact q _ _ _ _ _ _ hq x5 (.ret r)
theorem isE0_of {o : Option (List AV)} : isE0 o = true → o = some [] := by
  induction o with
  | none => exact fun h => nomatch h
  | some l => induction l using lcs with
    | nil => exact fun _ => rfl
    | cons => exact fun h => nomatch h
theorem stm_forE {iter : PySem.Expr} {es : List PySem.Expr} {kd : Nat} {tp pos : Pos} {p : PE} {body : List Stmt} (hp : Plain iter) (h : SE t iter p) : SS t (.For (.Tuple es kd tp) iter body [] pos) (.forE p) := fun c ρ I s σ Q R hO N he q => by
  refine wpAny_For (iter_first .list hp h N he.dnb (fun v σ h => ⟨_, congrArg (fun o => opt o fun vs => some vs[0]?) (isE0_of h.drg.1)⟩) fun it v σ₁ I1 s1 he x1 X1 hf1 hB hd => ?_) (hp.fold c.env)
  obtain ⟨hv, he⟩ := he.drg
  have F1 := (N.next x1).frm
  obtain ⟨_, hm⟩ := F1.ns
  refine codeAny_forLoop_any (fun _ s' => s' = s1) (fun m s' hI => ?_) 0 rfl
  subst hI
  refine wpE (next_ok x1.sim X1 (r := none) (congrArg (fun o => opt o fun vs => some vs[0]?) (isE0_of hv)) (fun _ h'' hx => ?_) fun w e => nomatch e)
  exact wpAny_execs_nil (q .next _ _ _ I1 { s' with heap := h'' } he ((N.af x1).aside (tk := s'.toks) (extBut_keep hx) X1.noTup hf1 hB hd (it_ne_ns X1 hm) fun y a e => it_ne_cell X1 F1 e) .next)
/-- between two turns -/
inductive WInv (t : Tx) (c : Cx) (I : Inj) (s : Shared) (pc : PE) (pb : List PS) (Q : Fl → Vars → Sto → Prop) (m : Nat) (s' : Shared) : Prop
  | mk (I' : Inj) (ρ' : Vars) (σ' : Sto) (go : OS (whileGo (fun ρ σ => evE c.C pc ρ σ) (fun ρ σ => exSs c.C pb ρ σ) m ρ' σ') Q) (x : Af t c I s I' σ' s' ρ')
theorem stm_while {d : PySem.Expr} {pd : PE} {body : List Stmt} {pb : List PS} {pos : Pos} (h : SB t d pd) (hb : SSs t body pb) : SS t (.While d body [] pos) (.while_ pd pb) := fun c ρ I s σ Q R hO N he q => by
  refine wpAny_While (codeAny_whileLoop (WInv t c I s pd pb Q) (fun m s' hI => ?_) 100 ⟨I, ρ, σ, he, N.here⟩)
  obtain ⟨I', ρc, σc, go, x'⟩ := hI
  induction m using ncs with
  | zero => exact go.elim
  | succ m =>
  refine wpE (h c x'.now (OS.dnbB go) fun b σ2 I2 s2 go x2 => ?_)
  have y2 := x'.then x2
  induction b with
  | true =>
    rw [if_pos rfl]
    refine wpE (hb c hO y2.now (OS.pl go) fun f fl ρ4 σ4 I4 s4 hq x4 r4 => ?_)
    have x5 := y2.trans x4
    induction r4 with
    | next => exact ⟨m, Nat.lt_succ_self _, ⟨I4, ρ4, σ4, hq, x5⟩⟩
    | cont => exact ⟨m, Nat.lt_succ_self _, ⟨I4, ρ4, σ4, hq, x5⟩⟩
    | ret r => exact q _ _ _ _ _ _ hq x5 (.ret r)
  | false =>
    rw [if_neg Bool.false_ne_true]
    exact wpAny_execs_nil (q .next _ _ _ _ _ go y2 .next)
end
end Mine
open PySem PySem.W PySem.Calls PyProof.Rows
namespace Mine
set_option linter.unusedVariables false
set_option maxRecDepth 100000

/-! the program's trees are checked against their cut-down forms -/
section
variable {α : Type}
theorem nf {P : Prop} (h : false = true) : P := nomatch h
theorem ands {a b : Bool} (h : (a && b) = true) : a = true ∧ b = true := by rcases a <;> first | exact nf h | exact ⟨rfl, h⟩
noncomputable def l1 (l : List α) (k : α → Bool) : Bool := match l with | [x] => k x | _ => false
noncomputable def l2 (l : List α) (k : α → α → Bool) : Bool := match l with | [x, y] => k x y | _ => false
theorem l1_of {l : List α} {k : α → Bool} (h : l1 l k = true) : ∃ x, l = [x] ∧ k x = true := by
  induction l using lcs with
  | nil => exact nf h
  | cons x l => induction l using lcs with
    | nil => exact ⟨x, rfl, h⟩
    | cons => exact nf h
theorem l2_of {l : List α} {k : α → α → Bool} (h : l2 l k = true) : ∃ x y, l = [x, y] ∧ k x y = true := by
  induction l using lcs with
  | nil => exact nf h
  | cons x l => induction l using lcs with
    | nil => exact nf h
    | cons y l => induction l using lcs with
      | nil => exact ⟨x, y, rfl, h⟩
      | cons => exact nf h
end
set_option genInjectivity false in
set_option genSizeOf false in
/-- what is done with a tree, form by form -/
structure Sel where
  vCall : PySem.Expr → List PySem.Expr → List Keyword → Pos → Bool := fun _ _ _ _ => false
  vName : Str → Pos → Bool := fun _ _ => false
  vAttr : PySem.Expr → Str → Pos → Bool := fun _ _ _ => false
  vConst : Const → Bool := fun _ => false
  vBin : PySem.Expr → Operator → PySem.Expr → Bool := fun _ _ _ => false
  vUn : UnaryOp → PySem.Expr → Bool := fun _ _ => false
  vBool : BoolOp → List PySem.Expr → Bool := fun _ _ => false
  vCmp : PySem.Expr → List CmpOp → List PySem.Expr → Bool := fun _ _ _ => false
  vIf : PySem.Expr → PySem.Expr → PySem.Expr → Bool := fun _ _ _ => false
  vSub : PySem.Expr → PySem.Expr → Bool := fun _ _ => false
  vSlice : Option PySem.Expr → Option PySem.Expr → Option PySem.Expr → Bool := fun _ _ _ => false
  vList : List PySem.Expr → Bool := fun _ => false
  vTup : List PySem.Expr → Bool := fun _ => false
  vDict : List (Option PySem.Expr) → List PySem.Expr → Bool := fun _ _ => false
  vComp : PySem.Expr → List Comprehension → Scope → Bool := fun _ _ _ => false
noncomputable def sel (S : Sel) (e : PySem.Expr) : Bool := by
  cases e with
  | Call f a ks p => exact S.vCall f a ks p
  | Name x p => exact S.vName x p
  | Attribute o x p => exact S.vAttr o x p
  | Constant c n p => exact S.vConst c
  | BinOp l o r p => exact S.vBin l o r
  | UnaryOp o x p => exact S.vUn o x
  | BoolOp o vs p => exact S.vBool o vs
  | Compare l ops rs p => exact S.vCmp l ops rs
  | IfExp c a b p => exact S.vIf c a b
  | Subscript o i p => exact S.vSub o i
  | Slice a b c p => exact S.vSlice a b c
  | List es p => exact S.vList es
  | Tuple es n p => exact S.vTup es
  | Dict ks vs p => exact S.vDict ks vs
  | ListComp elt gens sc p => exact S.vComp elt gens sc
  | _ => exact false
noncomputable def vCall (e : PySem.Expr) (k : PySem.Expr → List PySem.Expr → List Keyword → Pos → Bool) : Bool := sel { vCall := k } e
noncomputable def vName (e : PySem.Expr) (k : Str → Pos → Bool) : Bool := sel { vName := k } e
noncomputable def vAttr (e : PySem.Expr) (k : PySem.Expr → Str → Pos → Bool) : Bool := sel { vAttr := k } e
noncomputable def vConst (e : PySem.Expr) (k : Const → Bool) : Bool := sel { vConst := k } e
noncomputable def vBin (e : PySem.Expr) (k : PySem.Expr → Operator → PySem.Expr → Bool) : Bool := sel { vBin := k } e
noncomputable def vUn (e : PySem.Expr) (k : UnaryOp → PySem.Expr → Bool) : Bool := sel { vUn := k } e
noncomputable def vBool (e : PySem.Expr) (k : BoolOp → List PySem.Expr → Bool) : Bool := sel { vBool := k } e
noncomputable def vCmp (e : PySem.Expr) (k : PySem.Expr → List CmpOp → List PySem.Expr → Bool) : Bool := sel { vCmp := k } e
noncomputable def vIf (e : PySem.Expr) (k : PySem.Expr → PySem.Expr → PySem.Expr → Bool) : Bool := sel { vIf := k } e
noncomputable def vSub (e : PySem.Expr) (k : PySem.Expr → PySem.Expr → Bool) : Bool := sel { vSub := k } e
noncomputable def vSlice (e : PySem.Expr) (k : Option PySem.Expr → Option PySem.Expr → Option PySem.Expr → Bool) : Bool := sel { vSlice := k } e
noncomputable def vList (e : PySem.Expr) (k : List PySem.Expr → Bool) : Bool := sel { vList := k } e
noncomputable def vTup (e : PySem.Expr) (k : List PySem.Expr → Bool) : Bool := sel { vTup := k } e
noncomputable def vDict (e : PySem.Expr) (k : List (Option PySem.Expr) → List PySem.Expr → Bool) : Bool := sel { vDict := k } e
noncomputable def vComp (e : PySem.Expr) (k : PySem.Expr → List Comprehension → Scope → Bool) : Bool := sel { vComp := k } e
section
variable {M : PySem.Expr → Prop}
theorem vCall_of {k : PySem.Expr → List PySem.Expr → List Keyword → Pos → Bool} (f : ∀ (f : PySem.Expr) (a : List PySem.Expr) (ks : List Keyword) (p : Pos), k f a ks p = true → M (.Call f a ks p)) : ∀ {e : PySem.Expr}, vCall e k = true → M e := by
  intro e; cases e <;> first | exact nf | exact f _ _ _ _
theorem vName_of {k : Str → Pos → Bool} (f : ∀ (x : Str) (p : Pos), k x p = true → M (.Name x p)) : ∀ {e : PySem.Expr}, vName e k = true → M e := by
  intro e; cases e <;> first | exact nf | exact f _ _
theorem vAttr_of {k : PySem.Expr → Str → Pos → Bool} (f : ∀ (o : PySem.Expr) (x : Str) (p : Pos), k o x p = true → M (.Attribute o x p)) : ∀ {e : PySem.Expr}, vAttr e k = true → M e := by
  intro e; cases e <;> first | exact nf | exact f _ _ _
theorem vConst_of {k : Const → Bool} (f : ∀ (c : Const) (n : Nat) (p : Pos), k c = true → M (.Constant c n p)) : ∀ {e : PySem.Expr}, vConst e k = true → M e := by
  intro e; cases e <;> first | exact nf | exact f _ _ _
theorem vBin_of {k : PySem.Expr → Operator → PySem.Expr → Bool} (f : ∀ (l : PySem.Expr) (o : Operator) (r : PySem.Expr) (p : Pos), k l o r = true → M (.BinOp l o r p)) : ∀ {e : PySem.Expr}, vBin e k = true → M e := by
  intro e; rcases e <;> first | exact nf | exact f _ _ _ _
theorem vUn_of {k : UnaryOp → PySem.Expr → Bool} (f : ∀ (o : UnaryOp) (x : PySem.Expr) (p : Pos), k o x = true → M (.UnaryOp o x p)) : ∀ {e : PySem.Expr}, vUn e k = true → M e := by
  intro e; rcases e <;> first | exact nf | exact f _ _ _
theorem vBool_of {k : BoolOp → List PySem.Expr → Bool} (f : ∀ (o : BoolOp) (vs : List PySem.Expr) (p : Pos), k o vs = true → M (.BoolOp o vs p)) : ∀ {e : PySem.Expr}, vBool e k = true → M e := by
  intro e; rcases e <;> first | exact nf | exact f _ _ _
theorem vCmp_of {k : PySem.Expr → List CmpOp → List PySem.Expr → Bool} (f : ∀ (l : PySem.Expr) (ops : List CmpOp) (rs : List PySem.Expr) (p : Pos), k l ops rs = true → M (.Compare l ops rs p)) : ∀ {e : PySem.Expr}, vCmp e k = true → M e := by
  intro e; rcases e <;> first | exact nf | exact f _ _ _ _
theorem vIf_of {k : PySem.Expr → PySem.Expr → PySem.Expr → Bool} (f : ∀ (c : PySem.Expr) (a : PySem.Expr) (b : PySem.Expr) (p : Pos), k c a b = true → M (.IfExp c a b p)) : ∀ {e : PySem.Expr}, vIf e k = true → M e := by
  intro e; rcases e <;> first | exact nf | exact f _ _ _ _
theorem vSub_of {k : PySem.Expr → PySem.Expr → Bool} (f : ∀ (o : PySem.Expr) (i : PySem.Expr) (p : Pos), k o i = true → M (.Subscript o i p)) : ∀ {e : PySem.Expr}, vSub e k = true → M e := by
  intro e; rcases e <;> first | exact nf | exact f _ _ _
theorem vSlice_of {k : Option PySem.Expr → Option PySem.Expr → Option PySem.Expr → Bool} (f : ∀ (a : Option PySem.Expr) (b : Option PySem.Expr) (c : Option PySem.Expr) (p : Pos), k a b c = true → M (.Slice a b c p)) : ∀ {e : PySem.Expr}, vSlice e k = true → M e := by
  intro e; rcases e <;> first | exact nf | exact f _ _ _ _
theorem vList_of {k : List PySem.Expr → Bool} (f : ∀ (es : List PySem.Expr) (p : Pos), k es = true → M (.List es p)) : ∀ {e : PySem.Expr}, vList e k = true → M e := by
  intro e; rcases e <;> first | exact nf | exact f _ _
theorem vTup_of {k : List PySem.Expr → Bool} (f : ∀ (es : List PySem.Expr) (n : Nat) (p : Pos), k es = true → M (.Tuple es n p)) : ∀ {e : PySem.Expr}, vTup e k = true → M e := by
  intro e; rcases e <;> first | exact nf | exact f _ _ _
theorem vDict_of {k : List (Option PySem.Expr) → List PySem.Expr → Bool} (f : ∀ (ks : List (Option PySem.Expr)) (vs : List PySem.Expr) (p : Pos), k ks vs = true → M (.Dict ks vs p)) : ∀ {e : PySem.Expr}, vDict e k = true → M e := by
  intro e; rcases e <;> first | exact nf | exact f _ _ _
theorem vComp_of {k : PySem.Expr → List Comprehension → Scope → Bool} (f : ∀ (elt : PySem.Expr) (gens : List Comprehension) (sc : Scope) (p : Pos), k elt gens sc = true → M (.ListComp elt gens sc p)) : ∀ {e : PySem.Expr}, vComp e k = true → M e := by
  intro e; rcases e <;> first | exact nf | exact f _ _ _ _
end
section
/-- a function called by its name -/
noncomputable def vFn (t : Tx) (v : Value) (e : PySem.Expr) (k : List PySem.Expr → Bool) : Bool := vCall e fun f a ks _ => ks.isEmpty && vName f fun x _ => decide (t.name x = some (.inr v)) && k a
theorem vFn_of {M : PySem.Expr → Prop} {t : Tx} {v : Value} {k : List PySem.Expr → Bool} (f : ∀ x xp a p, t.name x = some (.inr v) → k a = true → M (.Call (.Name x xp) a [] p)) {e : PySem.Expr} (h : vFn t v e k = true) : M e := by
  refine vCall_of (fun g a ks p h => ?_) h
  induction ks using lcs with
  | cons => exact nf h
  | nil => exact vName_of (M := fun g => M (.Call g a [] p)) (fun x xp h => f x xp a p (of_decide_eq_true (ands h).1) (ands h).2) h
/-- a method called -/
noncomputable def vMeth (m : Str) (e : PySem.Expr) (k : PySem.Expr → List PySem.Expr → Bool) : Bool := vCall e fun f a ks p => ks.isEmpty && vAttr f fun o x ap => (ap.endLine == p.line) && decide (x = m) && k o a
theorem vMeth_of {M : PySem.Expr → Prop} {m : Str} {k : PySem.Expr → List PySem.Expr → Bool} (f : ∀ o x ap a p, (ap.endLine == p.line) = true → x = m → k o a = true → M (.Call (.Attribute o x ap) a [] p)) {e : PySem.Expr} (h : vMeth m e k = true) : M e := by
  refine vCall_of (fun g a ks p h => ?_) h
  induction ks using lcs with
  | cons => exact nf h
  | nil => exact vAttr_of (M := fun g => M (.Call g a [] p)) (fun o x ap h => f o x ap a p (ands (ands h).1).1 (of_decide_eq_true (ands (ands h).1).2) (ands h).2) h
end

/-- an expression, wherever it stands -/
noncomputable def asgB (p : PE) : Bool := p.ctorIdx != (PE.pairsOf (.var 0)).ctorIdx
structure SO (t : Tx) (e : PySem.Expr) (p : PE) : Prop where
  ev : SE t e p
  tst : SB t e p
  pl : Plain e
  asgn : asgB p = true → ∀ {x : Str} {i : Nat} {px pos : Pos}, t.comp = none → t.name x = some (.inl i) → SS t (.Assign [.Name x px] e pos) (.asg i p)
theorem SO.value {t : Tx} {e : PySem.Expr} {p : PE} (h : SE t e p) (pl : Plain e) (hv : ∀ env whole, isTrue e env whole = (do let v ← whole; standAt e.pos; holding [v] (truthy v))) (as : asgB p = true → ∀ {x : Str} {i : Nat} {px pos : Pos}, t.comp = none → t.name x = some (.inl i) → SS t (.Assign [.Name x px] e pos) (.asg i p)) : SO t e p :=
  ⟨h, SB.of_value h fun c R s w => wpAny_isTrue_value w (hv _ _), pl, as⟩
theorem SO.val {t : Tx} {e : PySem.Expr} {p : PE} (h : SE t e p) (pl : Plain e) (hv : ∀ env whole, isTrue e env whole = (do let v ← whole; standAt e.pos; holding [v] (truthy v))) (ns : ∀ tg line env, swapsWith e tg line env = pure false) : SO t e p :=
  SO.value h pl hv fun _ _ _ _ _ ht hx => stm_asgN ht hx h fun env => ns _ _ env
/-- names -/
noncomputable def isVar (t : Tx) (i : Nat) (x : Str) : Bool := match t.name x with | some (.inl j) => j == i | _ => false
theorem isVar_of {t : Tx} {i : Nat} {x : Str} (h : isVar t i x = true) : t.name x = some (.inl i) := by
  unfold isVar at h
  cases e : t.name x with
  | none => rw [e] at h; exact nf h
  | some v =>
    rw [e] at h
    induction v with
    | inl j => exact congrArg (fun j => some (Sum.inl j)) (beq_iff_eq.mp h)
    | inr => exact nf h
noncomputable def isLoc (sc : Scope) (x : Str) : Bool := decide (sc.names.lookup x = some .local)
noncomputable def constB : AV → Const → Bool
  | .none, .none => true
  | .bool b, .bool d => b == d
  | .int i, .int j => i == j
  | .str s, .str x => decide (x.cps.toList = s)
  | _, _ => false
theorem sound_const {t : Tx} {v : AV} {d : Const} {n : Nat} {pos : Pos} (e : constB v d = true) : SE t (.Constant d n pos) (.val v) := fun c ρ I s σ Q R N he k => by
  induction v using AV.cs with
  | none => induction d with
    | none => exact wpAny_Constant_none (k _ _ _ _ s he (St.refl N.sim) rfl)
    | _ => exact nf e
  | bool b => induction d with
    | bool d => cases (beq_iff_eq.mp e : b = d); exact wpAny_Constant_bool (k _ _ _ _ s he (St.refl N.sim) rfl)
    | _ => exact nf e
  | int b => induction d with
    | int d => cases (beq_iff_eq.mp e : b = d); exact wpAny_Constant_int (k _ _ _ _ _ he (St.refl N.sim).tok (VR.mkInt _ _))
    | _ => exact nf e
  | str b => induction d with
    | str d => cases (of_decide_eq_true e : d.cps.toList = b); exact wpAny_Constant_str (k _ _ _ _ _ he (St.refl N.sim).tok ⟨s.toks, by (first | subst d | (injection d with d; subst d) | (injection d; done) | cases d); simp⟩)
    | _ => rcases b <;> exact nf e
  | _ => exact nf e
/-- what a loop runs over -/
noncomputable def itB (t : Tx) (k : Nat) (e : PySem.Expr) (f : PySem.Expr → Bool) : Bool := match k with
  | 0 => f e
  | 1 => vFn t (.type "range") e fun a => l1 a f
  | 3 => f e
  | _ => false
theorem itB_of {t : Tx} {k : Nat} {e : PySem.Expr} {f : PySem.Expr → Bool} (h : itB t k e f = true) : ∃ e', ItSrc t e' k e ∧ f e' = true := by
  match k, h with
  | 0, h => exact ⟨e, .list, h⟩
  | 3, h => exact ⟨e, .tup, h⟩
  | 1, h => exact vFn_of (M := fun e => ∃ e', ItSrc t e' 1 e ∧ f e' = true) (fun x xp a p hx h => by
      obtain ⟨y, rfl, h⟩ := l1_of h
      exact ⟨y, .range hx, h⟩) h
noncomputable def oldB (t : Tx) (v : AV) (x : Str) : Bool := match v with
  | .old u => decide (t.name x = some (.inr u))
  | _ => false
/-- «x[k]» of the name c -/
noncomputable def subN (c : Str) (k : Int) (e : PySem.Expr) : Bool := vSub e fun o i => (vName o fun x _ => decide (x = c)) && vConst i fun d => decide (d = .int k)
theorem subN_of {M : PySem.Expr → Prop} {c : Str} {k : Int} (f : ∀ p1 n p2 p3, M (.Subscript (.Name c p1) (.Constant (.int k) n p2) p3)) {e : PySem.Expr} (h : subN c k e = true) : M e := by
  refine vSub_of (fun o i p3 h => ?_) h
  refine vName_of (M := fun o => M (.Subscript o i p3)) (fun x p1 h1 => ?_) (ands h).1
  refine vConst_of (M := fun i => M (.Subscript (.Name x p1) i p3)) (fun d n p2 h2 => ?_) (ands h).2
  cases of_decide_eq_true h1
  cases of_decide_eq_true h2
  exact f p1 n p2 p3
/-- one for, no async -/
noncomputable def vGen (g : List Comprehension) (k : PySem.Expr → PySem.Expr → List PySem.Expr → Bool) : Bool := l1 g fun g => (g.is_async == 0) && k g.target g.iter g.ifs
theorem vGen_of {g : List Comprehension} {k} (h : vGen g k = true) : ∃ tg it ifs, g = [⟨tg, it, ifs, 0⟩] ∧ k tg it ifs = true := by
  obtain ⟨⟨tg, it, ifs, a⟩, rfl, h⟩ := l1_of h
  obtain ⟨h1, h⟩ := ands h
  cases (beq_iff_eq.mp h1 : a = 0)
  exact ⟨tg, it, ifs, rfl, h⟩
noncomputable def mul2 (e : PySem.Expr) (f g : PySem.Expr → Bool) (op : Operator) : Bool := vBin e fun l o r => decide (o = op) && (f l && g r)
noncomputable def bool2 (e : PySem.Expr) (f g : PySem.Expr → Bool) (op : BoolOp) : Bool := vBool e fun o vs => decide (o = op) && l2 vs fun x y => f x && g y
noncomputable def noneB {α : Type} : Option α → Bool
  | none => true
  | _ => false
noncomputable def someB {α : Type} (o : Option α) (k : α → Bool) : Bool := match o with
  | some a => k a
  | none => false
theorem noneB_of {α : Type} {o : Option α} (h : noneB o = true) : o = none := by rcases o <;> first | rfl | exact nf h
theorem someB_of {α : Type} {o : Option α} {k : α → Bool} (h : someB o k = true) : ∃ a, o = some a ∧ k a = true := by rcases o <;> first | exact nf h | exact ⟨_, rfl, h⟩
/-- the keys, texts -/
noncomputable def keysB : List (Option PySem.Expr) → List (List Nat) → Bool
  | l, [] => l.isEmpty
  | l, x :: ks => match l with
    | a :: l => (someB a fun e => vConst e fun c => constB (.str x) c) && keysB l ks
    | [] => false
mutual
noncomputable def chk : PE → Tx → PySem.Expr → Bool
  | .val v, t, e => (vConst e fun d => constB v d) || vName e fun x _ => oldB t v x
  | .var i, t, e => vName e fun x _ => isVar t i x
  | .attr a f, t, e => vAttr e fun o x _ => (decide (x = fname f)) && chk a t o
  | .call a es, t, e => callAddrs.contains a && vFn t (.ref a) e fun l => !l.isEmpty && chkL es t l
  | .new D es, t, e => instCls.contains D && vFn t (.ref D) e fun l => !l.isEmpty && chkL es t l
  | .meth a m es, t, e => vMeth (mname m) e fun o l => (decide (l.length < 20)) && (chk a t o && chkL es t l)
  | .ccall D a es, t, e => vMeth (Str.ofString "__init__") e fun o l => (decide (l.length < 20)) && (decide (initOf D = some a)) && (vName o fun x _ => decide (t.name x = some (.inr (.ref D)))) && chkL es t l
  | .len a, t, e => vFn t (.builtin "len") e fun l => l1 l (chk a t)
  | .isin a v, t, e => vFn t (.builtin "isinstance") e fun l => l2 l fun x y => chk a t x && vName y fun y _ => decide (t.name y = some (.inr v))
  | .strOf a, t, e => vFn t (.type "str") e fun l => l1 l (chk a t)
  | .tupOf a, t, e => vFn t (.type "tuple") e fun l => l1 l (chk a t)
  | .listOf a, t, e => vFn t (.type "list") e fun l => l1 l (chk a t)
  | .head a n, t, e => vFn t (.type "list") e fun l => l1 l fun x => vSub x fun o i => (vName o fun _ _ => true) && chk a t o && vSlice i fun a b c => noneB a && noneB c && someB b fun b => vConst b fun d => decide (d = .int n)
  | .lapp a b, t, e => vMeth (Str.ofString "append") e fun o l => chk a t o && l1 l (chk b t)
  | .lins a b c, t, e => vMeth (Str.ofString "insert") e fun o l => chk a t o && l2 l fun x y => chk b t x && chk c t y
  | .lext a b, t, e => vMeth (Str.ofString "extend") e fun o l => chk a t o && l1 l (chk b t)
  | .lidx a b, t, e => vMeth (Str.ofString "index") e fun o l => chk a t o && l1 l (chk b t)
  | .join s a, t, e => vMeth (Str.ofString "join") e fun o l => (vConst o fun d => constB (.str s) d) && l1 l (chk a t)
  | .dget a b, t, e => vMeth (Str.ofString "get") e fun o l => chk a t o && l1 l (chk b t)
  | .dgetD a b c, t, e => vMeth (Str.ofString "get") e fun o l => chk a t o && l2 l fun x y => chk b t x && chk c t y
  | .pairsOf a, t, e => noneB t.comp && vComp e fun elt gens sc => scOK t sc && vGen gens fun tg it ifs => ifs.isEmpty && vName tg fun c _ => isLoc sc c && (!(c == Str.ofString "__debug__")) && (vTup elt fun es => l2 es fun x y => subN c 0 x && subN c 1 y) && vMeth (Str.ofString "values") it fun o l => l.isEmpty && chk a t o
  | .add a b, t, e => mul2 e (chk a t) (chk b t) .Add
  | .sub a b, t, e => mul2 e (chk a t) (chk b t) .Sub
  | .mod a b, t, e => mul2 e (chk a t) (chk b t) .Mod
  | .cmp op a b, t, e => vCmp e fun l ops rs => chk a t l && (l1 ops fun o => decide (o = op)) && l1 rs (chk b t)
  | .and a b, t, e => bool2 e (chk a t) (chk b t) .And
  | .or a b, t, e => bool2 e (chk a t) (chk b t) .Or
  | .not a, t, e => vUn e fun o x => (decide (o = .Not)) && chk a t x
  | .ite c a b, t, e => vIf e fun x y z => chk c t x && (chk a t y && chk b t z)
  | .item a b, t, e => vSub e fun o i => chk a t o && chk b t i
  | .cut a b c, t, e => vSub e fun o i => (vName o fun _ _ => true) && chk a t o && vSlice i fun x y z => noneB z && (someB x (chk b t)) && someB y (chk c t)
  | .list es, t, e => vList e fun l => chkL es t l
  | .tup es, t, e => (decide (es.length ≤ 1000)) && vTup e fun l => chkL es t l
  | .dict ks es, t, e => (decide (ks.length = es.length ∧ ks.length ≤ 4)) && vDict e fun l vs => keysB l ks && chkL es t vs
  | .comp p x k it c, t, e => noneB t.comp && vComp e fun elt gens sc => scOK t sc && vGen gens fun tg src ifs => (vName tg fun n _ => isVar (inComp t sc) x n && isLoc sc n) && (itB t k src (chk it t)) && chkO c (inComp t sc) ifs && chk p (inComp t sc) elt
  | .comp2 p x y it, t, e => noneB t.comp && vComp e fun elt gens sc => scOK t sc && vGen gens fun tg src ifs => ifs.isEmpty && (vTup tg fun l => l2 l fun n m => (vName n fun n _ => isVar (inComp t sc) x n && isLoc sc n) && vName m fun n _ => isVar (inComp t sc) y n && isLoc sc n) && (itB t 0 src (chk it t)) && chk p (inComp t sc) elt
noncomputable def chkL : List PE → Tx → List PySem.Expr → Bool
  | [], _, l => l.isEmpty
  | p :: ps, t, l => match l with
    | e :: es => chk p t e && chkL ps t es
    | [] => false
noncomputable def chkO : Option PE → Tx → List PySem.Expr → Bool
  | none, _, l => l.isEmpty
  | some p, t, l => l1 l (chk p t)
end
end Mine
open PySem PySem.W PySem.Calls PyProof.Rows
namespace Mine
set_option linter.unusedVariables false
set_option maxRecDepth 100000

section
variable {t : Tx}
theorem keys_of : ∀ {ks : List (List Nat)} {l : List (Option PySem.Expr)}, keysB l ks = true → Keys l ks
  | [], l, h => by
    induction l using lcs with
    | nil => exact .nil
    | cons a l => exact nf h
  | x :: ks, l, h => by
    induction l using lcs with
    | nil => exact nf h
    | cons a l =>
      obtain ⟨h1, h2⟩ := ands h
      induction a with
      | none => exact nf h1
      | some e =>
        refine vConst_of (M := fun e => Keys (some e :: l) (x :: ks)) (fun c n p h => ?_) h1
        induction c with
        | str s => cases (of_decide_eq_true h : s.cps.toList = x); exact .cons (keys_of h2)
        | _ => rcases x <;> exact nf h
/-- a call's trees: nothing but its arguments decides -/
theorem plain_call {f : PySem.Expr} {a : PySem.Expr} {l : List PySem.Expr} {pos : Pos} : Plain (.Call f (a :: l) [] pos) := ⟨fun _ _ => rfl, fun _ => rfl, fun _ _ => rfl, fun _ _ _ => by rcases f <;> with_unfolding_all rfl, fun _ _ => by with_unfolding_all rfl⟩
theorem plain_meth {o : PySem.Expr} {x : Str} {ap : Pos} {l : List PySem.Expr} {pos : Pos} : Plain (.Call (.Attribute o x ap) l [] pos) := ⟨fun _ _ => rfl, fun _ => rfl, fun _ _ => rfl, fun _ _ _ => by rcases l <;> with_unfolding_all rfl, fun _ _ => by with_unfolding_all rfl⟩
theorem SO.call {f : PySem.Expr} {a : PySem.Expr} {l : List PySem.Expr} {pos : Pos} {p : PE} (h : SE t (.Call f (a :: l) [] pos) p) : SO t (.Call f (a :: l) [] pos) p := SO.val h plain_call (fun _ _ => rfl) fun _ _ _ => rfl
theorem SO.meth {o : PySem.Expr} {x : Str} {ap : Pos} {l : List PySem.Expr} {pos : Pos} {p : PE} (h : SE t (.Call (.Attribute o x ap) l [] pos) p) : SO t (.Call (.Attribute o x ap) l [] pos) p := SO.val h plain_meth (fun _ _ => rfl) fun _ _ _ => rfl
theorem SO.con {c : Const} {n : _} {p : Pos} {q : PE} (h : SE t (.Constant c n p) q) : SO t (.Constant c n p) q := SO.val h ⟨fun _ _ => rfl, fun _ => rfl, fun _ _ => rfl, fun _ _ _ => by with_unfolding_all rfl, fun _ _ => by with_unfolding_all rfl⟩ (fun _ _ => rfl) fun _ _ _ => rfl
theorem SO.nam {x : Str} {p : Pos} {q : PE} (h : SE t (.Name x p) q) : SO t (.Name x p) q := SO.val h ⟨fun _ _ => rfl, fun _ => rfl, fun _ _ => rfl, fun _ _ _ => by with_unfolding_all rfl, fun _ _ => by with_unfolding_all rfl⟩ (fun _ _ => rfl) fun _ _ _ => rfl
theorem SO.att {o : PySem.Expr} {x : Str} {p : Pos} {q : PE} (h : SE t (.Attribute o x p) q) : SO t (.Attribute o x p) q := SO.val h ⟨fun _ _ => rfl, fun _ => rfl, fun _ _ => rfl, fun _ _ _ => by with_unfolding_all rfl, fun _ _ => by with_unfolding_all rfl⟩ (fun _ _ => rfl) fun _ _ _ => rfl
theorem SO.sub {o i : PySem.Expr} {p : Pos} {q : PE} (h : SE t (.Subscript o i p) q) : SO t (.Subscript o i p) q := SO.val h ⟨fun _ _ => rfl, fun _ => rfl, fun _ _ => rfl, fun _ _ _ => by with_unfolding_all rfl, fun _ _ => by with_unfolding_all rfl⟩ (fun _ _ => rfl) fun _ _ _ => rfl
theorem SO.bin {a b : PySem.Expr} {o : Operator} {p : Pos} {q : PE} (h : SE t (.BinOp a o b p) q) : SO t (.BinOp a o b p) q := SO.val h ⟨fun _ _ => rfl, fun _ => rfl, fun _ _ => rfl, fun _ _ _ => by with_unfolding_all rfl, fun _ _ => by with_unfolding_all rfl⟩ (fun _ _ => rfl) fun _ _ _ => rfl
theorem SO.lst {l : List PySem.Expr} {p : Pos} {q : PE} (h : SE t (.List l p) q) : SO t (.List l p) q := SO.val h ⟨fun _ _ => rfl, fun _ => rfl, fun _ _ => rfl, fun _ _ _ => by with_unfolding_all rfl, fun _ _ => by with_unfolding_all rfl⟩ (fun _ _ => rfl) fun _ _ _ => rfl
theorem SO.tup {l : List PySem.Expr} {n : _} {p : Pos} {q : PE} (h : SE t (.Tuple l n p) q) : SO t (.Tuple l n p) q := SO.val h ⟨fun _ _ => rfl, fun _ => rfl, fun _ _ => rfl, fun _ _ _ => by with_unfolding_all rfl, fun _ _ => by with_unfolding_all rfl⟩ (fun _ _ => rfl) fun _ _ _ => rfl
theorem SO.dic {l : List (Option PySem.Expr)} {vs : List PySem.Expr} {p : Pos} {q : PE} (h : SE t (.Dict l vs p) q) : SO t (.Dict l vs p) q := SO.val h ⟨fun _ _ => rfl, fun _ => rfl, fun _ _ => rfl, fun _ _ _ => by with_unfolding_all rfl, fun _ _ => by with_unfolding_all rfl⟩ (fun _ _ => rfl) fun _ _ _ => rfl
theorem SO.cmp {a : PySem.Expr} {o : List CmpOp} {l : List PySem.Expr} {p : Pos} {q : PE} (h : SE t (.Compare a o l p) q) (g : SB t (.Compare a o l p) q) : SO t (.Compare a o l p) q := ⟨h, g, ⟨fun _ _ => rfl, fun _ => rfl, fun _ _ => rfl, fun _ _ _ => by with_unfolding_all rfl, fun _ _ => by with_unfolding_all rfl⟩, fun _ _ _ _ _ ht hx => stm_asgN ht hx h fun _ => rfl⟩
theorem SO.boo {x y : PySem.Expr} {o : BoolOp} {p : Pos} {q : PE} (h : SE t (.BoolOp o [x, y] p) q) (g : SB t (.BoolOp o [x, y] p) q) : SO t (.BoolOp o [x, y] p) q := ⟨h, g, ⟨fun _ _ => rfl, fun _ => rfl, fun _ _ => rfl, fun _ _ _ => by with_unfolding_all rfl, fun _ _ => by with_unfolding_all rfl⟩, fun _ _ _ _ _ ht hx => stm_asgN ht hx h fun _ => rfl⟩
theorem SO.uno {a : PySem.Expr} {o : UnaryOp} {p : Pos} {q : PE} (h : SE t (.UnaryOp o a p) q) (g : SB t (.UnaryOp o a p) q) : SO t (.UnaryOp o a p) q := ⟨h, g, ⟨fun _ _ => rfl, fun _ => rfl, fun _ _ => rfl, fun _ _ _ => by with_unfolding_all rfl, fun _ _ => by with_unfolding_all rfl⟩, fun _ _ _ _ _ ht hx => stm_asgN ht hx h fun _ => rfl⟩
theorem SO.ife {a b c : PySem.Expr} {p : Pos} {q : PE} (h : SE t (.IfExp a b c p) q) (g : SB t (.IfExp a b c p) q) : SO t (.IfExp a b c p) q := ⟨h, g, ⟨fun _ _ => rfl, fun _ => rfl, fun _ _ => rfl, fun _ _ _ => by with_unfolding_all rfl, fun _ _ => by with_unfolding_all rfl⟩, fun _ _ _ _ _ ht hx => stm_asgN ht hx h fun _ => rfl⟩
/-- a function of one argument -/
theorem fn1 {v : Value} {f : PySem.Expr → Bool} {q : PE} (k : ∀ {x xp e pos}, t.name x = some (.inr v) → f e = true → SE t (.Call (.Name x xp) [e] [] pos) q) {e : PySem.Expr} (h : vFn t v e (fun l => l1 l f) = true) : SO t e q :=
  vFn_of (M := fun e => SO t e q) (fun x xp a p hx h => by
    obtain ⟨y, rfl, h⟩ := l1_of h
    exact SO.call (k hx h)) h
/-- a method of one argument -/
theorem meth1 {m : Str} {f g : PySem.Expr → Bool} {q : PE} (k : ∀ {o x ap e pos}, x = m → (ap.endLine == pos.line) = true → f o = true → g e = true → SE t (.Call (.Attribute o x ap) [e] [] pos) q) {e : PySem.Expr} (h : vMeth m e (fun o l => f o && l1 l g) = true) : SO t e q :=
  vMeth_of (M := fun e => SO t e q) (fun o x ap a p hl hx h => by
    obtain ⟨y, rfl, h2⟩ := l1_of (ands h).2
    exact SO.meth (k hx hl (ands h).1 h2)) h
theorem meth2 {m : Str} {f g g' : PySem.Expr → Bool} {q : PE} (k : ∀ {o x ap a b pos}, x = m → (ap.endLine == pos.line) = true → f o = true → g a = true → g' b = true → SE t (.Call (.Attribute o x ap) [a, b] [] pos) q) {e : PySem.Expr} (h : vMeth m e (fun o l => f o && l2 l fun x y => g x && g' y) = true) : SO t e q :=
  vMeth_of (M := fun e => SO t e q) (fun o x ap a p hl hx h => by
    obtain ⟨y, z, rfl, h2⟩ := l2_of (ands h).2
    exact SO.meth (k hx hl (ands h).1 (ands h2).1 (ands h2).2)) h
theorem mul2_of {f g : PySem.Expr → Bool} {op : Operator} {q : PE} (k : ∀ {l r pos}, f l = true → g r = true → SE t (.BinOp l op r pos) q) {e : PySem.Expr} (h : mul2 e f g op = true) : SO t e q :=
  vBin_of (M := fun e => SO t e q) (fun l o r p h => by
    cases of_decide_eq_true (ands h).1
    exact SO.bin (k (ands (ands h).2).1 (ands (ands h).2).2)) h
theorem bool2_of {f g : PySem.Expr → Bool} {op : BoolOp} {q : PE} (k : ∀ {x y pos}, f x = true → g y = true → SE t (.BoolOp op [x, y] pos) q ∧ SB t (.BoolOp op [x, y] pos) q) {e : PySem.Expr} (h : bool2 e f g op = true) : SO t e q :=
  vBool_of (M := fun e => SO t e q) (fun o vs p h => by
    cases of_decide_eq_true (ands h).1
    obtain ⟨x, y, rfl, h2⟩ := l2_of (ands h).2
    have z := k (pos := p) (ands h2).1 (ands h2).2
    exact SO.boo z.1 z.2) h
theorem SAll.call {f : PySem.Expr} {l : List PySem.Expr} {pos : Pos} {q : PE} (hn : (!l.isEmpty) = true) (h : SE t (.Call f l [] pos) q) : SO t (.Call f l [] pos) q := by
  induction l using lcs with
  | nil => exact nf hn
  | cons => exact SO.call h
theorem oldB_of {v : AV} {x : Str} (h : oldB t v x = true) : ∃ u, v = .old u ∧ t.name x = some (.inr u) := by
  induction v using AV.cs with
  | old u => exact ⟨u, rfl, of_decide_eq_true h⟩
  | _ => exact nf h
noncomputable abbrev isTrueV (e : PySem.Expr) : Prop := ∀ env whole, isTrue e env whole = (do let v ← whole; standAt e.pos; holding [v] (truthy v))
/-- a comprehension -/
theorem SO.comp {scope : Scope} {elt tg it : PySem.Expr} {ifs : List PySem.Expr} {pos : Pos} {p : PE} (h : SUse t (.ListComp elt [⟨tg, it, ifs, 0⟩] scope pos) scope it p) : SO t (.ListComp elt [⟨tg, it, ifs, 0⟩] scope pos) p :=
  SO.value h.sound ⟨fun _ _ => rfl, fun _ => rfl, fun _ _ => rfl, fun _ _ _ => by with_unfolding_all rfl, fun _ _ => by with_unfolding_all rfl⟩ (fun _ _ => rfl) fun _ _ _ _ _ ht hx => stm_asgC ht hx h
theorem chk_ok : ∀ (p : PE) (t : Tx) (e : PySem.Expr), chk p t e = true → SO t e p := by
  refine PE.rec (motive_1 := fun p => ∀ (t : Tx) (e : PySem.Expr), chk p t e = true → SO t e p) (motive_2 := fun ps => ∀ (t : Tx) (l : List PySem.Expr), chkL ps t l = true → SAll t l ps)
    (motive_3 := fun c => ∀ (t : Tx) (ifs : List PySem.Expr), chkO c t ifs = true → (ifs = [] ∧ c = none) ∨ ∃ d pd, ifs = [d] ∧ c = some pd ∧ SB t d pd) ?_ ?_ ?_ ?_ ?_ ?_ ?_ ?_ ?_ ?_ ?_ ?_ ?_ ?_ ?_ ?_ ?_ ?_ ?_ ?_ ?_ ?_ ?_ ?_ ?_ ?_ ?_ ?_ ?_ ?_ ?_ ?_ ?_ ?_ ?_ ?_ ?_ ?_ ?_ ?_
  · intro v  t e h
    exact (Bool.or_eq_true_iff.mp h).elim
      (vConst_of (M := fun e => SO t e (.val v)) (fun c n p h => SO.con (sound_const h)))
      (vName_of (M := fun e => SO t e (.val v)) fun x p h => by
        obtain ⟨u, rfl, hx⟩ := oldB_of h
        exact SO.nam (sound_glob hx))
  · intro i  t e h
    exact vName_of (M := fun e => SO t e (.var i)) (fun x p h => SO.nam (sound_name (isVar_of h))) h
  · intro a f iha t e h
    exact vAttr_of (M := fun e => SO t e (.attr a f)) (fun o x p h =>
      have z := iha t o (ands h).2
      SO.att (sound_attr z.ev (of_decide_eq_true (ands h).1) z.pl.base)) h
  · intro a es ihes t e h
    exact vFn_of (M := fun e => SO t e (.call a es)) (fun x xp l p hx h2 => SAll.call (ands h2).1 (sound_call hx (List.contains_iff_mem.mp (ands h).1) (ihes t l (ands h2).2))) (ands h).2
  · intro D es ihes t e h
    exact vFn_of (M := fun e => SO t e (.new D es)) (fun x xp l p hx h2 => SAll.call (ands h2).1 (sound_new hx (List.contains_iff_mem.mp (ands h).1) (ihes t l (ands h2).2))) (ands h).2
  · intro a m es iha ihes t e h
    exact vMeth_of (M := fun e => SO t e (.meth a m es)) (fun o x ap l p hl hx h =>
      have z := iha t o (ands (ands h).2).1
      SO.meth (sound_meth z.pl.base hx hl (of_decide_eq_true (ands h).1) z.ev (ihes t l (ands (ands h).2).2))) h
  · intro D a es ihes t e h
    exact vMeth_of (M := fun e => SO t e (.ccall D a es)) (fun o x ap l p hl hx h =>
      vName_of (M := fun o => SO t (.Call (.Attribute o x ap) l [] p) (.ccall D a es)) (fun y yp hy => SO.meth (sound_ccall (of_decide_eq_true hy) (of_decide_eq_true (ands (ands (ands h).1).1).2) hx hl (of_decide_eq_true (ands (ands (ands h).1).1).1) (ihes t l (ands h).2))) (ands (ands h).1).2) h
  · intro a iha t e h
    exact fn1 (fun hx h => have z := iha t _ h; sound_len hx z.pl.star z.ev) h
  · intro a v iha t e h
    exact vFn_of (M := fun e => SO t e (.isin a v)) (fun x xp l p hx h => by
      obtain ⟨y, w, rfl, h⟩ := l2_of h
      have z := iha t y (ands h).1
      exact vName_of (M := fun w => SO t (.Call (.Name x xp) [y, w] [] p) (.isin a v)) (fun n np hn => SO.call (sound_isin hx (of_decide_eq_true hn) z.pl.star z.ev)) (ands h).2) h
  · intro a iha t e h
    exact fn1 (fun hx h => have z := iha t _ h; sound_strOf hx z.pl.star z.ev) h
  · intro a iha t e h
    exact fn1 (fun hx h => have z := iha t _ h; sound_tupOf hx z.pl.star z.ev) h
  · intro a iha t e h
    exact fn1 (fun hx h => have z := iha t _ h; sound_listOf hx z.pl.star z.ev) h
  · intro a n iha t e h
    exact fn1 (q := .head a n) (fun {x xp e pos} hx h => vSub_of (M := fun e => SE t (.Call (.Name x xp) [e] [] pos) (.head a n)) (fun o i p2 h => by
      have z := iha t o (ands (ands h).1).2
      refine vName_of (M := fun o => SE t o a → SE t (.Call (.Name x xp) [.Subscript o i p2] [] pos) (.head a n)) (fun y yp _ z => ?_) (ands (ands h).1).1 z.ev
      refine vSlice_of (M := fun i => SE t (.Call (.Name x xp) [.Subscript (.Name y yp) i p2] [] pos) (.head a n)) (fun u v w p1 h => ?_) (ands h).2
      cases noneB_of (ands (ands h).1).1
      cases noneB_of (ands (ands h).1).2
      obtain ⟨b, rfl, h⟩ := someB_of (ands h).2
      refine vConst_of (M := fun b => SE t (.Call (.Name x xp) [.Subscript (.Name y yp) (.Slice none (some b) none p1) p2] [] pos) (.head a n)) (fun d m p h => ?_) h
      cases of_decide_eq_true h
      exact sound_head hx z (Int.natCast_nonneg n) fun _ _ => rfl) h) h
  · intro a b iha ihb t e h
    exact meth1 (fun hx hl h1 h2 => have z := iha t _ h1; have w := ihb t _ h2; sound_lapp hx hl z.pl.base w.pl.star z.ev w.ev) h
  · intro a b c iha ihb ihc t e h
    exact meth2 (fun hx hl h1 h2 h3 => have z := iha t _ h1; have w := ihb t _ h2; have v := ihc t _ h3; sound_lins hx hl z.pl.base w.pl.star v.pl.star z.ev w.ev v.ev) h
  · intro a b iha ihb t e h
    exact meth1 (fun hx hl h1 h2 => have z := iha t _ h1; have w := ihb t _ h2; sound_lext hx hl z.pl.base w.pl.star z.ev w.ev) h
  · intro a b iha ihb t e h
    exact meth1 (fun hx hl h1 h2 => have z := iha t _ h1; have w := ihb t _ h2; sound_lidx hx hl z.pl.base w.pl.star z.ev w.ev) h
  · intro s a iha t e h
    exact meth1 (q := .join s a) (fun {o x ap e pos} hx hl h1 h2 => vConst_of (M := fun o => SE t (.Call (.Attribute o x ap) [e] [] pos) (.join s a)) (fun d n p h => by
      have z := iha t _ h2
      induction d with
      | str d => cases (of_decide_eq_true h : d.cps.toList = s); exact sound_join hx hl z.pl.star z.ev
      | _ => rcases s <;> exact nf h) h1) h
  · intro a b iha ihb t e h
    exact meth1 (fun hx hl h1 h2 => have z := iha t _ h1; have w := ihb t _ h2; sound_dget hx hl z.pl.base w.pl.star z.ev w.ev) h
  · intro a b c iha ihb ihc t e h
    exact meth2 (fun hx hl h1 h2 h3 => have z := iha t _ h1; have w := ihb t _ h2; have v := ihc t _ h3; sound_dgetD hx hl z.pl.base w.pl.star v.pl.star z.ev w.ev v.ev) h
  · intro a iha t e h
    exact vComp_of (M := fun e => SO t e (.pairsOf a)) (fun elt gens sc pos h2 => by
      have ht := noneB_of (ands h).1
      obtain ⟨hsc, h2⟩ := ands h2
      obtain ⟨tg, it, ifs, rfl, h3⟩ := vGen_of h2
      obtain ⟨h4, h5⟩ := ands h3
      cases List.isEmpty_iff.mp h4
      refine vName_of (M := fun tg => SO t (.ListComp elt [⟨tg, it, [], 0⟩] sc pos) (.pairsOf a)) (fun c cp h => ?_) h5
      obtain ⟨h6, h7⟩ := ands h
      obtain ⟨h8, h9⟩ := ands h6
      obtain ⟨h10, h11⟩ := ands h8
      refine vTup_of (M := fun elt => SO t (.ListComp elt [⟨.Name c cp, it, [], 0⟩] sc pos) (.pairsOf a)) (fun es n tp h => ?_) h9
      obtain ⟨x, y, rfl, h12⟩ := l2_of h
      refine subN_of (M := fun x => SO t (.ListComp (.Tuple [x, y] n tp) [⟨.Name c cp, it, [], 0⟩] sc pos) (.pairsOf a)) (fun p1 k1 p2 p3 => ?_) (ands h12).1
      refine subN_of (M := fun y => SO t (.ListComp (.Tuple [_, y] n tp) [⟨.Name c cp, it, [], 0⟩] sc pos) (.pairsOf a)) (fun p4 k2 p5 p6 => ?_) (ands h12).2
      refine vMeth_of (M := fun it => SO t (.ListComp (.Tuple [_, _] n tp) [⟨.Name c cp, it, [], 0⟩] sc pos) (.pairsOf a)) (fun o x ap l q hl hx h => ?_) h7
      cases List.isEmpty_iff.mp (ands h).1
      subst hx
      have z := iha t o (ands h).2
      exact SO.value (sound_pairs ht hsc (of_decide_eq_true h10) (by simpa using h11) hl z.pl.base z.ev) ⟨fun _ _ => rfl, fun _ => rfl, fun _ _ => rfl, fun _ _ _ => by with_unfolding_all rfl, fun _ _ => by with_unfolding_all rfl⟩ (fun _ _ => rfl) fun h => nf h) (ands h).2
  · intro a b iha ihb t e h
    exact mul2_of (fun h1 h2 => sound_add (iha t _ h1).ev (ihb t _ h2).ev) h
  · intro a b iha ihb t e h
    exact mul2_of (fun h1 h2 => sound_sub (iha t _ h1).ev (ihb t _ h2).ev) h
  · intro a b iha ihb t e h
    exact mul2_of (fun h1 h2 => sound_mod (iha t _ h1).ev (ihb t _ h2).ev) h
  · intro op a b iha ihb t e h
    exact vCmp_of (M := fun e => SO t e (.cmp op a b)) (fun l ops rs p h => by
      obtain ⟨o, rfl, h3⟩ := l1_of (ands (ands h).1).2
      obtain ⟨r, rfl, h4⟩ := l1_of (ands h).2
      cases of_decide_eq_true h3
      have z := iha t _ (ands (ands h).1).1
      have w := ihb t _ h4
      have y := sound_cmp (pos := p) z.ev w.ev (w.pl.marks op)
      exact SO.cmp y (test_cmp z.ev w.ev (w.pl.marks op))) h
  · intro a b iha ihb t e h
    exact bool2_of (fun h1 h2 => have z := iha t _ h1; have w := ihb t _ h2; ⟨sound_and z.ev w.ev, test_and z.tst w.tst⟩) h
  · intro a b iha ihb t e h
    exact bool2_of (fun h1 h2 => have z := iha t _ h1; have w := ihb t _ h2; ⟨sound_or z.ev w.ev, test_or z.tst w.tst⟩) h
  · intro a iha t e h
    exact vUn_of (M := fun e => SO t e (.not a)) (fun o x p h => by
      cases of_decide_eq_true (ands h).1
      have z := iha t _ (ands h).2
      have y := sound_not (pos := p) z.ev
      exact SO.uno y (test_not z.tst)) h
  · intro c a b ihc iha ihb t e h
    exact vIf_of (M := fun e => SO t e (.ite c a b)) (fun x y w p h => by
      have z := ihc t _ (ands h).1
      have z1 := iha t _ (ands (ands h).2).1
      have z2 := ihb t _ (ands (ands h).2).2
      have y := sound_ite (pos := p) z.tst z1.ev z2.ev
      exact SO.ife y (test_ite z.tst z1.tst z2.tst)) h
  · intro a b iha ihb t e h
    exact vSub_of (M := fun e => SO t e (.item a b)) (fun o i p h =>
      have z := iha t _ (ands h).1
      have w := ihb t _ (ands h).2
      SO.sub (sound_item z.ev w.ev w.pl.sub)) h
  · intro a b c iha ihb ihc t e h
    exact vSub_of (M := fun e => SO t e (.cut a b c)) (fun o i p h => by
      have z := iha t o (ands (ands h).1).2
      refine vName_of (M := fun o => SE t o a → SO t (.Subscript o i p) (.cut a b c)) (fun y yp _ z => ?_) (ands (ands h).1).1 z.ev
      refine vSlice_of (M := fun i => SO t (.Subscript (.Name y yp) i p) (.cut a b c)) (fun u v w p1 h => ?_) (ands h).2
      cases noneB_of (ands (ands h).1).1
      obtain ⟨x1, rfl, h1⟩ := someB_of (ands (ands h).1).2
      obtain ⟨x2, rfl, h2⟩ := someB_of (ands h).2
      exact SO.sub (sound_cut z (ihb t _ h1).ev (ihc t _ h2).ev)) h
  · intro es ihes t e h
    exact vList_of (M := fun e => SO t e (.list es)) (fun l p h => SO.lst (sound_list (ihes t l h).ses)) h
  · intro es ihes t e h
    exact vTup_of (M := fun e => SO t e (.tup es)) (fun l n p h2 => SO.tup (sound_tuple (of_decide_eq_true (ands h).1) (ihes t l h2).ses)) (ands h).2
  · intro ks es ihes t e h
    exact vDict_of (M := fun e => SO t e (.dict ks es)) (fun l vs p h2 =>
      have k := of_decide_eq_true (ands h).1
      SO.dic (sound_dict (keys_of (ands h2).1) k.1 k.2 (ihes t vs (ands h2).2))) (ands h).2
  · intro p x k it c ihp ihit ihc t e h
    exact vComp_of (M := fun e => SO t e (.comp p x k it c)) (fun elt gens sc pos h2 => by
      have ht := noneB_of (ands h).1
      obtain ⟨hsc, h2⟩ := ands h2
      obtain ⟨tg, src, ifs, rfl, h3⟩ := vGen_of h2
      obtain ⟨h4, h5⟩ := ands h3
      obtain ⟨h6, h7⟩ := ands h4
      obtain ⟨h8, h9⟩ := ands h6
      obtain ⟨e', hsrc, h10⟩ := itB_of h9
      have z := ihit t e' h10
      have w := ihp (inComp t sc) elt h5
      have cs := ihc (inComp t sc) ifs h7
      exact vName_of (M := fun tg => SO t (.ListComp elt [⟨tg, src, ifs, 0⟩] sc pos) (.comp p x k it c)) (fun n np h => SO.comp (use_comp ht hsc hsrc z.pl z.ev (isVar_of (ands h).1) (of_decide_eq_true (ands h).2) cs w.ev)) h8) (ands h).2
  · intro p x y it ihp ihit t e h
    exact vComp_of (M := fun e => SO t e (.comp2 p x y it)) (fun elt gens sc pos h2 => by
      have ht := noneB_of (ands h).1
      obtain ⟨hsc, h2⟩ := ands h2
      obtain ⟨tg, src, ifs, rfl, h3⟩ := vGen_of h2
      obtain ⟨h4, h5⟩ := ands h3
      obtain ⟨h6, h7⟩ := ands h4
      obtain ⟨h8, h9⟩ := ands h6
      cases List.isEmpty_iff.mp h8
      obtain ⟨e', hsrc, h10⟩ := itB_of h7
      have z := ihit t e' h10
      have w := ihp (inComp t sc) elt h5
      refine vTup_of (M := fun tg => SO t (.ListComp elt [⟨tg, src, [], 0⟩] sc pos) (.comp2 p x y it)) (fun l n tp h => ?_) h9
      obtain ⟨a, b, rfl, h⟩ := l2_of h
      refine vName_of (M := fun a => SO t (.ListComp elt [⟨.Tuple [a, b] n tp, src, [], 0⟩] sc pos) (.comp2 p x y it)) (fun u up hu => ?_) (ands h).1
      exact vName_of (M := fun b => SO t (.ListComp elt [⟨.Tuple [_, b] n tp, src, [], 0⟩] sc pos) (.comp2 p x y it)) (fun v vp hv => SO.comp (use_comp2 ht hsc hsrc z.pl z.ev (isVar_of (ands hu).1) (of_decide_eq_true (ands hu).2) (isVar_of (ands hv).1) (of_decide_eq_true (ands hv).2) w.ev)) (ands h).2) (ands h).2
  · intro t l h
    cases List.isEmpty_iff.mp h
    exact .nil
  · intro p ps ihp ihps t l h
    induction l using lcs with
    | nil => exact nf h
    | cons e es =>
      have z := ihp t e (ands h).1
      exact .cons z.pl.star z.ev (ihps t es (ands h).2)
  · exact fun t ifs h => .inl ⟨List.isEmpty_iff.mp h, rfl⟩
  · intro p ihp t ifs h
    obtain ⟨d, rfl, h⟩ := l1_of h
    exact .inr ⟨d, p, rfl, rfl, (ihp t d h).tst⟩
theorem chkL_ok : ∀ (ps : List PE) (t : Tx) (l : List PySem.Expr), chkL ps t l = true → SAll t l ps
  | [], t, l, h => by cases List.isEmpty_iff.mp h; exact .nil
  | p :: ps, t, l, h => by
    induction l using lcs with
    | nil => exact nf h
    | cons e es =>
      have z := chk_ok p t e (ands h).1
      exact .cons z.pl.star z.ev (chkL_ok ps t es (ands h).2)
end
end Mine
open PySem PySem.W PySem.Calls PyProof.Rows
namespace Mine
set_option linter.unusedVariables false
set_option maxRecDepth 100000

set_option genInjectivity false in
set_option genSizeOf false in
/-- what is done with a statement, form by form -/
structure SelS where
  vRet : Option PySem.Expr → Bool := fun _ => false
  vExp : PySem.Expr → Bool := fun _ => false
  vCont : Pos → Bool := fun _ => false
  vAsg : List PySem.Expr → PySem.Expr → Bool := fun _ _ => false
  vAug : PySem.Expr → Operator → PySem.Expr → Bool := fun _ _ _ => false
  vIfS : PySem.Expr → List Stmt → List Stmt → Bool := fun _ _ _ => false
  vWhile : PySem.Expr → List Stmt → List Stmt → Bool := fun _ _ _ => false
  vFor : PySem.Expr → PySem.Expr → List Stmt → List Stmt → Bool := fun _ _ _ _ => false
noncomputable def selS (S : SelS) (e : Stmt) : Bool := by
  cases e with
  | Return v p => exact S.vRet v
  | Expr e p => exact S.vExp e
  | Continue p => exact S.vCont p
  | Assign ts v p => exact S.vAsg ts v
  | AugAssign o op v p => exact S.vAug o op v
  | If d a b p => exact S.vIfS d a b
  | While d a b p => exact S.vWhile d a b
  | For tg it a b p => exact S.vFor tg it a b
  | _ => exact false
noncomputable def vRet (e : Stmt) (k : Option PySem.Expr → Bool) : Bool := selS { vRet := k } e
noncomputable def vExp (e : Stmt) (k : PySem.Expr → Bool) : Bool := selS { vExp := k } e
noncomputable def vCont (e : Stmt) (k : Pos → Bool) : Bool := selS { vCont := k } e
noncomputable def vAsg (e : Stmt) (k : List PySem.Expr → PySem.Expr → Bool) : Bool := selS { vAsg := k } e
noncomputable def vAug (e : Stmt) (k : PySem.Expr → Operator → PySem.Expr → Bool) : Bool := selS { vAug := k } e
noncomputable def vIfS (e : Stmt) (k : PySem.Expr → List Stmt → List Stmt → Bool) : Bool := selS { vIfS := k } e
noncomputable def vWhile (e : Stmt) (k : PySem.Expr → List Stmt → List Stmt → Bool) : Bool := selS { vWhile := k } e
noncomputable def vFor (e : Stmt) (k : PySem.Expr → PySem.Expr → List Stmt → List Stmt → Bool) : Bool := selS { vFor := k } e
section
variable {M : Stmt → Prop}
theorem vRet_of {k : Option PySem.Expr → Bool} (f : ∀ (v : Option PySem.Expr) (p : Pos), k v = true → M (.Return v p)) : ∀ {e : Stmt}, vRet e k = true → M e := by
  intro e; cases e <;> first | exact nf | exact f _ _
theorem vExp_of {k : PySem.Expr → Bool} (f : ∀ (e : PySem.Expr) (p : Pos), k e = true → M (.Expr e p)) : ∀ {e : Stmt}, vExp e k = true → M e := by
  intro e; cases e <;> first | exact nf | exact f _ _
theorem vCont_of {k : Pos → Bool} (f : ∀ (p : Pos), k p = true → M (.Continue p)) : ∀ {e : Stmt}, vCont e k = true → M e := by
  intro e; cases e <;> first | exact nf | exact f _
theorem vAsg_of {k : List PySem.Expr → PySem.Expr → Bool} (f : ∀ (ts : List PySem.Expr) (v : PySem.Expr) (p : Pos), k ts v = true → M (.Assign ts v p)) : ∀ {e : Stmt}, vAsg e k = true → M e := by
  intro e; cases e <;> first | exact nf | exact f _ _ _
theorem vAug_of {k : PySem.Expr → Operator → PySem.Expr → Bool} (f : ∀ (o : PySem.Expr) (op : Operator) (v : PySem.Expr) (p : Pos), k o op v = true → M (.AugAssign o op v p)) : ∀ {e : Stmt}, vAug e k = true → M e := by
  intro e; rcases e <;> first | exact nf | exact f _ _ _ _
theorem vIfS_of {k : PySem.Expr → List Stmt → List Stmt → Bool} (f : ∀ (d : PySem.Expr) (a : List Stmt) (b : List Stmt) (p : Pos), k d a b = true → M (.If d a b p)) : ∀ {e : Stmt}, vIfS e k = true → M e := by
  intro e; rcases e <;> first | exact nf | exact f _ _ _ _
theorem vWhile_of {k : PySem.Expr → List Stmt → List Stmt → Bool} (f : ∀ (d : PySem.Expr) (a : List Stmt) (b : List Stmt) (p : Pos), k d a b = true → M (.While d a b p)) : ∀ {e : Stmt}, vWhile e k = true → M e := by
  intro e; rcases e <;> first | exact nf | exact f _ _ _ _
theorem vFor_of {k : PySem.Expr → PySem.Expr → List Stmt → List Stmt → Bool} (f : ∀ (tg : PySem.Expr) (it : PySem.Expr) (a : List Stmt) (b : List Stmt) (p : Pos), k tg it a b = true → M (.For tg it a b p)) : ∀ {e : Stmt}, vFor e k = true → M e := by
  intro e; rcases e <;> first | exact nf | exact f _ _ _ _ _
end
/-- no comprehension, nor a Tuple but where b says so -/
noncomputable def okN (b : Bool) (e : PySem.Expr) : Bool := sel { vCall := fun _ _ _ _ => true, vName := fun _ _ => true, vAttr := fun _ _ _ => true, vConst := fun _ => true, vBin := fun _ _ _ => true, vUn := fun _ _ => true, vBool := fun _ _ => true, vCmp := fun _ _ _ => true, vIf := fun _ _ _ => true, vSub := fun _ _ => true, vList := fun _ => true, vTup := fun _ => b, vDict := fun _ _ => true } e
noncomputable def okC (e : PySem.Expr) : Bool := okN true e || vComp e fun _ _ _ => true
section
variable {t : Tx} {env : Env}
theorem noswap_of {b : Bool} {tg : Option PySem.Expr} {line : Nat} : ∀ {e : PySem.Expr}, okN b e = true → swapsWith e tg line env = pure false := by
  intro e; rcases e <;> first | exact nf | exact fun _ => rfl
theorem nosw_of {ts : List PySem.Expr} {kd : Nat} {tp : Pos} : ∀ {e : PySem.Expr}, okN false e = true → swappedStores [.Tuple ts kd tp] e env = pure none := by
  intro e; rcases e <;> first | exact nf | exact fun _ => rfl
theorem noswapA_of {o : PySem.Expr} {x : Str} {ap : Pos} {line : Nat} {e : PySem.Expr} (h : (okN true e || vComp e fun _ _ _ => true) = true) : swapsWith e (some (.Attribute o x ap)) line env = pure false :=
  (Bool.or_eq_true_iff.mp h).elim noswap_of (vComp_of (M := fun e => swapsWith e (some (.Attribute o x ap)) line env = pure false) fun _ _ _ _ _ => rfl)
theorem fm1 {f : PySem.Expr → Option Str} {n m : PySem.Expr} (h : f n = none) : (List.filterMap f [n, m]).length ≠ 2 := by
  rw [List.filterMap_cons_none h]
  cases hm : f m with
  | none => rw [List.filterMap_cons_none hm]; exact Nat.noConfusion
  | some y => rw [List.filterMap_cons_some hm]; exact fun q => Nat.noConfusion (Nat.succ.inj q)
theorem sub_nosw {o i a b : PySem.Expr} {y : Str} {sp py tp vp : Pos} {kd kv : Nat} : swappedStores [.Tuple [.Subscript o i sp, .Name y py] kd tp] (.Tuple [a, b] kv vp) env = pure none := by
  unfold swappedStores
  dsimp only
  split
  · rfl
  · split
    · rfl
    · exact if_pos (Bool.or_eq_true_iff.2 (.inl (bne_iff_ne.2 (fm1 rfl))))
theorem tname_kind (ht : t.comp = none) {x : Str} {I : Inj} {h : Heap} {ρ : Vars} (F : Frm t I h env ρ) (hl : t.names.lookup x = some .local) : env.kindOf x = some .local := by
  have K := F.kinds
  unfold KindsAre at K
  rw [ht] at K
  rw [K x, hl]
end
noncomputable def locB (t : Tx) (x : Str) : Bool := decide (t.names.lookup x = some .local)
mutual
noncomputable def chkS : PS → Tx → Stmt → Bool
  | .ret p, t, s => vRet s fun v => someB v fun e => chk p t e
  | .expr p, t, s => vExp s fun e => okN true e && chk p t e
  | .cont, t, s => vCont s fun _ => true
  | .asg i p, t, s => vAsg s fun ts v => asgB p && (l1 ts fun tg => vName tg fun x _ => isVar t i x) && chk p t v
  | .asgT i j p, t, s => vAsg s fun ts v => okN false v && (l1 ts fun tg => vTup tg fun l => l2 l fun n m => (vName n fun x _ => isVar t i x) && vName m fun y _ => isVar t j y) && chk p t v
  | .asgSw i j a b, t, s => vAsg s fun ts v => l1 ts fun tg => vTup tg fun l => l2 l fun n m => vName n fun x px => vName m fun y py => (isVar t i x && isVar t j y) && (locB t x && locB t y) && (py.line == px.line) && (!(x == y)) && vTup v fun l => l2 l fun e f => (chk a t e && chk b t f) && (!([e, f].all (foldedForSure 8))) && (!([e, f].all (constantsAlone 8))) && (okC e && okC f)
  | .asgSub o i p, t, s => vAsg s fun ts v => okN true v && chk p t v && l1 ts fun tg => vSub tg fun x y => chk o t x && chk i t y
  | .asgSubT o i j a b, t, s => vAsg s fun ts v => (l1 ts fun tg => vTup tg fun l => l2 l fun n m => (vSub n fun x y => chk o t x && chk i t y) && vName m fun y _ => isVar t j y) && vTup v fun l => l2 l fun e f => chk a t e && chk b t f
  | .asgAttr o f p, t, s => vAsg s fun ts v => (okN true v || vComp v fun _ _ _ => true) && chk p t v && l1 ts fun tg => vAttr tg fun u x _ => (decide (x = fname f)) && (decide (f < fieldNames.length)) && chk o t u
  | .augAttr o f p, t, s => vAug s fun tg op v => (decide (op = .Add)) && chk p t v && vAttr tg fun u x _ => (decide (x = fname f)) && (decide (f < fieldNames.length)) && chk o t u
  | .ite c a b, t, s => vIfS s fun d x y => chk c t d && (chkSs a t x && chkSs b t y)
  | .for_ i k p b, t, s => vFor s fun tg it x y => y.isEmpty && (vName tg fun n _ => isVar t i n) && (itB t k it (chk p t)) && chkSs b t x
  | .forE p, t, s => vFor s fun tg it x y => y.isEmpty && (vTup tg fun _ => true) && chk p t it
  | .while_ c b, t, s => vWhile s fun d x y => y.isEmpty && chk c t d && chkSs b t x
noncomputable def chkSs : List PS → Tx → List Stmt → Bool
  | [], _, l => l.isEmpty
  | p :: ps, t, l => match l with
    | s :: ss => chkS p t s && chkSs ps t ss
    | [] => false
end
section
theorem fm2 {f : PySem.Expr → Option Str} {n m : PySem.Expr} {x y : Str} (h1 : f n = some x) (h2 : f m = some y) : List.filterMap f [n, m] = [x, y] := by
  rw [List.filterMap_cons_some h1, List.filterMap_cons_some h2]; rfl
theorem any2 {F : PySem.Expr → Bool} {a b : PySem.Expr} (ha : F a = false) (hb : F b = false) : ¬ [a, b].any F = true := by
  show ¬ (F a || (F b || false)) = true
  rw [ha, hb]; exact Bool.noConfusion
theorem two_names {l : List Str} {x y : Str} (h : l = [x, y]) (hxy : (x == y) = false) : ¬ ((l.length != 2 || l.eraseDups.length != l.length) = true) := by
  have hyx : (y == x) = false := by rw [beq_eq_false_iff_ne] at hxy ⊢; exact fun q => hxy q.symm
  simp [h, List.eraseDups_cons, hyx]
theorem nam_in {env : Env} {x : Str} {a b : Nat} (hx : env.kindOf x = some .local) (h : (a == b) = true) : (env.kindOf x == some .local && a == b) = true := by
  rw [hx, h]; rfl
theorem swapped2 {env : Env} {x y : Str} {px py tp vp : Pos} {kd kv : Nat} {a b : PySem.Expr} (hk : env.scope.kind = .function) (hx : env.kindOf x = some .local) (hy : env.kindOf y = some .local) (hl : (py.line == px.line) = true) (hxy : (x == y) = false)
    (sa : okC a = true) (sb : okC b = true) (hf : ([a, b].all (foldedForSure 8)) = false) (hc : ([a, b].all (constantsAlone 8)) = false) : swappedStores [.Tuple [.Name x px, .Name y py] kd tp] (.Tuple [a, b] kv vp) env = pure (some [x, y]) := by
  have hb : (env.blockKind != .function) = false := by unfold Env.blockKind; rw [hk]; rfl
  unfold swappedStores
  dsimp only
  rw [hb]
  refine Eq.trans (if_neg Bool.noConfusion) ?_
  refine Eq.trans (if_neg (any2 (by clear hf hc sb hxy; rcases a <;> first | exact nf sa | rfl) (by clear hf hc sa hxy; rcases b <;> first | exact nf sb | rfl))) ?_
  refine Eq.trans (if_neg (two_names (fm2 (if_pos (nam_in hx (beq_self_eq_true _))) (if_pos (nam_in hy hl))) hxy)) ?_
  refine Eq.trans (if_neg (fun q => Bool.noConfusion (q.symm.trans hf))) ?_
  refine Eq.trans (if_neg (fun q => Bool.noConfusion (q.symm.trans hc))) ?_
  exact congrArg (fun n => (pure (some n) : Sem (Option (List Str)))) (fm2 (if_pos (nam_in hx (beq_self_eq_true _))) (if_pos (nam_in hy hl)))
end
section
variable {t : Tx}
theorem nt {b : Bool} (h : (!b) = true) : b = false := by rcases b <;> first | rfl | exact nf h
theorem chkS_ok (ht : t.comp = none) : ∀ (p : PS) (s : Stmt), chkS p t s = true → SS t s p := by
  refine PS.rec (motive_1 := fun p => ∀ (s : Stmt), chkS p t s = true → SS t s p) (motive_2 := fun ps => ∀ (l : List Stmt), chkSs ps t l = true → SSs t l ps) ?_ ?_ ?_ ?_ ?_ ?_ ?_ ?_ ?_ ?_ ?_ ?_ ?_ ?_ ?_ ?_
  · intro i p  s h
    exact vAsg_of (M := fun s => SS t s (.asg i p)) (fun ts v pos h => by
      obtain ⟨h1, h2⟩ := ands h
      obtain ⟨h3, h4⟩ := ands h1
      obtain ⟨tg, rfl, h5⟩ := l1_of h4
      exact vName_of (M := fun tg => SS t (.Assign [tg] v pos) (.asg i p)) (fun x px h6 => (chk_ok p t v h2).asgn h3 ht (isVar_of h6)) h5) h
  · intro i j p  s h
    exact vAsg_of (M := fun s => SS t s (.asgT i j p)) (fun ts v pos h => by
      obtain ⟨h1, h2⟩ := ands h
      obtain ⟨h3, h4⟩ := ands h1
      obtain ⟨tg, rfl, h5⟩ := l1_of h4
      refine vTup_of (M := fun tg => SS t (.Assign [tg] v pos) (.asgT i j p)) (fun l kd tp h6 => ?_) h5
      obtain ⟨n, m, rfl, h7⟩ := l2_of h6
      refine vName_of (M := fun n => SS t (.Assign [.Tuple [n, m] kd tp] v pos) (.asgT i j p)) (fun x px h8 => ?_) (ands h7).1
      exact vName_of (M := fun m => SS t (.Assign [.Tuple [_, m] kd tp] v pos) (.asgT i j p)) (fun y py h9 => stm_asgT ht (isVar_of h8) (isVar_of h9) (chk_ok p t v h2).ev (fun env => (noswap_of h3 : swapsWith v (some (.Tuple [.Name x px, .Name y py] kd tp)) pos.line env = pure false)) fun _ => nosw_of h3) (ands h7).2) h
  · intro i j a b  s h
    exact vAsg_of (M := fun s => SS t s (.asgSw i j a b)) (fun ts v pos h => by
      obtain ⟨tg, rfl, h5⟩ := l1_of h
      refine vTup_of (M := fun tg => SS t (.Assign [tg] v pos) (.asgSw i j a b)) (fun l kd tp h6 => ?_) h5
      obtain ⟨n, m, rfl, h7⟩ := l2_of h6
      refine vName_of (M := fun n => SS t (.Assign [.Tuple [n, m] kd tp] v pos) (.asgSw i j a b)) (fun x px h8 => ?_) h7
      refine vName_of (M := fun m => SS t (.Assign [.Tuple [_, m] kd tp] v pos) (.asgSw i j a b)) (fun y py h9 => ?_) h8
      obtain ⟨h10, h11⟩ := ands h9
      obtain ⟨h12, h13⟩ := ands h10
      obtain ⟨h14, h15⟩ := ands h12
      obtain ⟨h16, h17⟩ := ands h14
      refine vTup_of (M := fun v => SS t (.Assign [.Tuple [_, _] kd tp] v pos) (.asgSw i j a b)) (fun l kv vp h18 => ?_) h11
      obtain ⟨e, f, rfl, h19⟩ := l2_of h18
      obtain ⟨h20, h21⟩ := ands h19
      obtain ⟨h22, h23⟩ := ands h20
      obtain ⟨h24, h25⟩ := ands h22
      have z := chk_ok a t e (ands h24).1
      have w := chk_ok b t f (ands h24).2
      exact stm_asgSw ht (isVar_of (ands h16).1) (isVar_of (ands h16).2) z.pl.star w.pl.star z.ev w.ev (fun _ => rfl) fun F => swapped2 F.kind (tname_kind ht F (of_decide_eq_true (ands h17).1)) (tname_kind ht F (of_decide_eq_true (ands h17).2)) h15 (nt h13) (ands h21).1 (ands h21).2 (nt h25) (nt h23)) h
  · intro o i p  s h
    exact vAsg_of (M := fun s => SS t s (.asgSub o i p)) (fun ts v pos h => by
      obtain ⟨h1, h2⟩ := ands h
      obtain ⟨h3, h4⟩ := ands h1
      obtain ⟨tg, rfl, h5⟩ := l1_of h2
      exact vSub_of (M := fun tg => SS t (.Assign [tg] v pos) (.asgSub o i p)) (fun x y sp h6 => stm_asgSub (chk_ok p t v h4).ev (chk_ok o t x (ands h6).1).ev (chk_ok i t y (ands h6).2).ev fun _ => noswap_of h3) h5) h
  · intro o i j a b  s h
    exact vAsg_of (M := fun s => SS t s (.asgSubT o i j a b)) (fun ts v pos h => by
      obtain ⟨h1, h2⟩ := ands h
      obtain ⟨tg, rfl, h5⟩ := l1_of h1
      refine vTup_of (M := fun tg => SS t (.Assign [tg] v pos) (.asgSubT o i j a b)) (fun l kd tp h6 => ?_) h5
      obtain ⟨n, m, rfl, h7⟩ := l2_of h6
      refine vSub_of (M := fun n => SS t (.Assign [.Tuple [n, m] kd tp] v pos) (.asgSubT o i j a b)) (fun x y sp h8 => ?_) (ands h7).1
      refine vName_of (M := fun m => SS t (.Assign [.Tuple [_, m] kd tp] v pos) (.asgSubT o i j a b)) (fun u up h9 => ?_) (ands h7).2
      refine vTup_of (M := fun v => SS t (.Assign [.Tuple [_, _] kd tp] v pos) (.asgSubT o i j a b)) (fun l kv vp h18 => ?_) h2
      obtain ⟨e, f, rfl, h19⟩ := l2_of h18
      have z := chk_ok a t e (ands h19).1
      have w := chk_ok b t f (ands h19).2
      exact stm_asgSubT ht (isVar_of h9) z.pl.star w.pl.star z.ev w.ev (chk_ok o t x (ands h8).1).ev (chk_ok i t y (ands h8).2).ev (fun _ => rfl) fun _ => sub_nosw) h
  · intro o f p  s h
    exact vAsg_of (M := fun s => SS t s (.asgAttr o f p)) (fun ts v pos h => by
      obtain ⟨h1, h2⟩ := ands h
      obtain ⟨h3, h4⟩ := ands h1
      obtain ⟨tg, rfl, h5⟩ := l1_of h2
      exact vAttr_of (M := fun tg => SS t (.Assign [tg] v pos) (.asgAttr o f p)) (fun u x ap h6 => stm_asgAttr (of_decide_eq_true (ands (ands h6).1).1) (of_decide_eq_true (ands (ands h6).1).2) (chk_ok p t v h4).ev (chk_ok o t u (ands h6).2).ev fun _ => noswapA_of h3) h5) h
  · intro o f p  s h
    exact vAug_of (M := fun s => SS t s (.augAttr o f p)) (fun tg op v pos h => by
      obtain ⟨h1, h2⟩ := ands h
      obtain ⟨h3, h4⟩ := ands h1
      cases of_decide_eq_true h3
      exact vAttr_of (M := fun tg => SS t (.AugAssign tg .Add v pos) (.augAttr o f p)) (fun u x ap h6 => stm_augAttr (of_decide_eq_true (ands (ands h6).1).1) (of_decide_eq_true (ands (ands h6).1).2) (chk_ok o t u (ands h6).2).ev (chk_ok p t v h4).ev) h2) h
  · intro p  s h
    exact vExp_of (M := fun s => SS t s (.expr p)) (fun e pos h => stm_expr (fun _ => noswap_of (ands h).1) (chk_ok p t e (ands h).2).ev) h
  · intro c a b iha ihb s h
    exact vIfS_of (M := fun s => SS t s (.ite c a b)) (fun d x y pos h => stm_if (chk_ok c t d (ands h).1).tst (iha x (ands (ands h).2).1) (ihb y (ands (ands h).2).2)) h
  · intro i k p b ihb s h
    exact vFor_of (M := fun s => SS t s (.for_ i k p b)) (fun tg it x y pos h => by
      obtain ⟨h1, h2⟩ := ands h
      obtain ⟨h3, h4⟩ := ands h1
      obtain ⟨h5, h6⟩ := ands h3
      cases List.isEmpty_iff.mp h5
      obtain ⟨e', hsrc, h7⟩ := itB_of h4
      have z := chk_ok p t e' h7
      have w := ihb x h2
      exact vName_of (M := fun tg => SS t (.For tg it x [] pos) (.for_ i k p b)) (fun n np h8 => stm_for ht hsrc z.pl z.ev (isVar_of h8) w) h6) h
  · intro p  s h
    exact vFor_of (M := fun s => SS t s (.forE p)) (fun tg it x y pos h => by
      obtain ⟨h1, h2⟩ := ands h
      obtain ⟨h5, h6⟩ := ands h1
      cases List.isEmpty_iff.mp h5
      have z := chk_ok p t it h2
      exact vTup_of (M := fun tg => SS t (.For tg it x [] pos) (.forE p)) (fun n _ np _ => stm_forE z.pl z.ev) h6) h
  · intro c b ihb s h
    exact vWhile_of (M := fun s => SS t s (.while_ c b)) (fun d x y pos h => by
      obtain ⟨h1, h2⟩ := ands h
      obtain ⟨h5, h6⟩ := ands h1
      cases List.isEmpty_iff.mp h5
      exact stm_while (chk_ok c t d h6).tst (ihb x h2)) h
  · intro p  s h
    exact vRet_of (M := fun s => SS t s (.ret p)) (fun v pos h => by
      obtain ⟨e, rfl, h⟩ := someB_of h
      exact stm_ret (chk_ok p t e h).ev) h
  · intro   s h
    exact vCont_of (M := fun s => SS t s .cont) (fun _ _ => stm_cont) h
  · intro l h
    cases List.isEmpty_iff.mp h
    exact SSs.nil
  · intro p ps ihp ihps l h
    induction l using lcs with
    | nil => exact nf h
    | cons s ss => exact SSs.cons (ihp s (ands h).1) (ihps ss (ands h).2)
theorem chkSs_ok (ht : t.comp = none) : ∀ (ps : List PS) (l : List Stmt), chkSs ps t l = true → SSs t l ps
  | [], l, h => by cases List.isEmpty_iff.mp h; exact SSs.nil
  | p :: ps, l, h => by
    induction l using lcs with
    | nil => exact nf h
    | cons s ss => exact SSs.cons (chkS_ok ht p s (ands h).1) (chkSs_ok ht ps ss (ands h).2)
end
end Mine
open PySem PySem.W PySem.Calls PyProof.Rows
namespace Mine
set_option linter.unusedVariables false
set_option maxRecDepth 100000

theorem lookup_zip_none {n : Str} : ∀ {ns : List Str} {vs : List Value}, n ∉ ns → (ns.zip vs).lookup n = none
  | [], _, _ => by simp
  | _ :: _, [], _ => by simp
  | a :: ns, v :: vs, h => by
    rw [List.zip_cons_cons, List.lookup_cons]
    have : (n == a) = false := by rw [beq_eq_false_iff_ne]; exact fun e => h (e ▸ List.mem_cons_self)
    rw [this]
    exact lookup_zip_none fun m => h (List.mem_cons_of_mem _ m)
theorem lookup_zip_at : ∀ {ns : List Str} {vs : List Value} {i : Nat} {n : Str} {v : Value}, ns.Nodup → ns[i]? = some n → vs[i]? = some v → (ns.zip vs).lookup n = some v
  | [], _, i, _, _, _, h, _ => by simp at h
  | _ :: _, [], i, _, _, _, _, h => by simp at h
  | a :: ns, u :: vs, 0, n, v, _, h, g => by
    simp at h g; subst h; subst g
    simp [List.lookup_cons]
  | a :: ns, u :: vs, i + 1, n, v, nd, h, g => by
    have hm : n ∈ ns := List.mem_of_getElem? (by simpa using h)
    have : (n == a) = false := by rw [beq_eq_false_iff_ne]; rintro rfl; exact (List.nodup_cons.mp nd).1 hm
    rw [List.zip_cons_cons, List.lookup_cons, this]
    exact lookup_zip_at (List.nodup_cons.mp nd).2 (by simpa using h) (by simpa using g)

theorem all_zip {ns : List Str} {vs : List Value} (nd : ns.Nodup) (hl : vs.length = ns.length) : ns.filterMap (fun n => ((ns.zip vs).lookup n).map (n, ·)) = ns.zip vs := by
  have : ∀ (pre : List Str) (pv : List Value) (ns : List Str) (vs : List Value), pre.length = pv.length → (pre ++ ns).Nodup → vs.length = ns.length → ns.filterMap (fun n => (((pre ++ ns).zip (pv ++ vs)).lookup n).map (n, ·)) = ns.zip vs := by
    intro pre pv ns
    induction ns generalizing pre pv with
    | nil => intros; simp
    | cons n ns ih =>
      intro vs hp nd hl
      induction vs using lcs with
      | nil => simp at hl
      | cons v vs =>
        have e : ((pre ++ n :: ns).zip (pv ++ v :: vs)).lookup n = some v := lookup_zip_at (i := pre.length) nd (by simp) (by rw [hp]; simp)
        rw [List.filterMap_cons, e, List.zip_cons_cons]
        have := ih (pre ++ [n]) (pv ++ [v]) vs (by simp [hp]) (by simpa using nd) (by simpa using hl)
        simp only [List.append_assoc, List.singleton_append] at this
        simp only [Option.map_some]
        rw [this]
  exact this [] [] ns vs rfl nd hl

theorem zip_snoc : ∀ {ns : List Str} {us : List Value} {n : Str} {d : Value}, ns[us.length]? = some n → ns.zip us ++ [(n, d)] = ns.zip (us ++ [d])
  | [], us, n, d, h => by simp at h
  | a :: ns, [], n, d, h => by simp at h; subst h; simp
  | a :: ns, u :: us, n, d, h => by
    rw [List.zip_cons_cons, List.cons_append, List.cons_append, List.zip_cons_cons, zip_snoc (by simpa using h)]
theorem zip_miss : ∀ {ns : List Str} {us : List Value} {n : Str}, ns.Nodup → ns[us.length]? = some n → (ns.zip us).lookup n = none
  | [], us, n, _, h => by simp at h
  | a :: ns, [], n, _, h => by simp
  | a :: ns, u :: us, n, nd, h => by
    have hm : n ∈ ns := List.mem_of_getElem? (by simpa using h)
    have : (n == a) = false := by rw [beq_eq_false_iff_ne]; rintro rfl; exact (List.nodup_cons.mp nd).1 hm
    rw [List.zip_cons_cons, List.lookup_cons, this]
    exact zip_miss (List.nodup_cons.mp nd).2 (by simpa using h)

theorem fill_zip {M : Model} {A : Around} {E : Value → Shared → Prop} {Q : List (Str × Value) → Shared → Prop} {s : Shared} {ns : List Str} (nd : ns.Nodup) (f : Str × Value → List (Str × Value) → Sem (ForInStep (List (Str × Value))))
    (hf : ∀ n d sl, f (n, d) sl = if (sl.lookup n).isNone then pure (.yield (sl ++ [(n, d)])) else pure (.yield sl)) :
    ∀ (m : Nat) (j : Nat) (ds : List Value) (us : List Value), m = ds.length → j + ds.length = ns.length → j ≤ us.length → us.length ≤ ns.length →
      Q (ns.zip (us ++ ds.drop (us.length - j))) s → wpAny M A (forIn ((ns.drop j).zip ds) (ns.zip us) f) Q E s
  | m, j, [], us, _, h1, h2, h3, q => by
    simp only [List.zip_nil_right, List.forIn_nil]
    simpa using wpAny_pure (by simpa using q)
  | 0, j, d :: ds, us, e, _, _, _, _ => by simp at e
  | m + 1, j, d :: ds, us, e, h1, h2, h3, q => by
    simp only [List.length_cons] at h1 e
    have hj : j < ns.length := by lia
    rw [List.drop_eq_getElem_cons hj, List.zip_cons_cons, List.forIn_cons, hf]
    by_cases hu : j < us.length
    · have e : (ns.zip us).lookup ns[j] = some us[j] := lookup_zip_at nd (List.getElem?_eq_getElem hj) (List.getElem?_eq_getElem hu)
      rw [e]
      refine wpAny_bind (wpAny_pure (fill_zip nd f hf m (j + 1) ds us (by lia) (by lia) hu h3 ?_))
      have : us.length - j = (us.length - (j + 1)) + 1 := by lia
      rw [this, List.drop_succ_cons] at q
      exact q
    · have hje : j = us.length := by lia
      have hg : ns[us.length]? = some ns[j] := by rw [← hje]; exact List.getElem?_eq_getElem hj
      have e : (ns.zip us).lookup ns[j] = none := zip_miss nd hg
      rw [e]
      simp only [Option.isNone_none, if_true]
      have ez : ns.zip us ++ [(ns[j], d)] = ns.zip (us ++ [d]) := zip_snoc hg
      rw [ez]
      refine wpAny_bind (wpAny_pure (fill_zip nd f hf m (j + 1) ds (us ++ [d]) (by lia) (by lia) (by simp; lia) (by simp; lia) ?_))
      have : us.length - j = 0 := by lia
      rw [this, List.drop_zero] at q
      have e3 : (us ++ [d]).length - (j + 1) = 0 := by simp; lia
      rw [e3, List.drop_zero, List.append_assoc]
      exact q

theorem skip {α : Type} {M : Model} {A : Around} {E : Value → Shared → Prop} {Q : α → Shared → Prop} {s : Shared} {c : Prop} [Decidable c] {a b : Sem α} (h : ¬c) (g : wpAny M A b Q E s) : wpAny M A (ite c a b) Q E s := by
  rw [if_neg h]; exact g
theorem none_missing {ns : List Str} {us : List Value} {k : Nat} (nd : ns.Nodup) (h : k ≤ us.length) : (ns.take k).filter (fun n => ((ns.zip us).lookup n).isNone) = [] := by
  rw [List.filter_eq_nil_iff]
  intro n hn
  obtain ⟨i, hi, ei⟩ := List.mem_iff_getElem.mp hn
  rw [List.getElem_take] at ei
  rw [List.length_take] at hi
  rw [← ei, lookup_zip_at nd (List.getElem?_eq_getElem (Nat.lt_of_lt_of_le hi (Nat.min_le_right ..))) (List.getElem?_eq_getElem (Nat.lt_of_lt_of_le (Nat.lt_of_lt_of_le hi (Nat.min_le_left ..)) h))]
  exact Bool.noConfusion
theorem ar1 {u n d : Nat} (h1 : u ≤ n) (h3 : d ≤ n) : u - (n - d) = d - (n - u) := by
  have := Nat.sub_right_comm n (n - u) (n - d)
  rwa [Nat.sub_sub_self h1, Nat.sub_sub_self h3] at this
theorem ar2 {u n d : Nat} (h1 : u ≤ n) (h2 : n - u ≤ d) : u + (d - (d - (n - u))) = n := by rw [Nat.sub_sub_self h2, Nat.add_sub_cancel' h1]
theorem fin_bind {ns : List Str} {us ds : List Value} (nd : ns.Nodup) (h1 : us.length ≤ ns.length) (h2 : ns.length - us.length ≤ ds.length) (h3 : ds.length ≤ ns.length) :
    (ns ++ []).filterMap (fun n => ((ns.zip (us ++ ds.drop (us.length - (ns.length - ds.length)))).lookup n).map (n, ·)) = ns.zip (us ++ ds.drop (ds.length - (ns.length - us.length))) := by
  rw [List.append_nil, ar1 h1 h3, all_zip nd (by rw [List.length_append, List.length_drop, ar2 h1 h2])]
theorem bindsTo_gen {s : Shared} {fd : FuncData} {ps : List Arg} {kd : List (Option PySem.Expr)} {df : List PySem.Expr} {us ds : List Value} {op : Option (Array Value)} (hp : fd.params = ⟨[], ps, none, [], kd, none, df⟩)
    (nd : (ps.map (·.arg)).Nodup) (h1 : us.length ≤ ps.length) (h2 : ps.length - us.length ≤ ds.length) (h3 : ds.length ≤ ps.length) (hop : (op.getD #[]).toList = ds)
    (hd : ∀ (M : Model) (A : Around) (E : Value → Shared → Prop) (Q : Option (Array Value) → Shared → Prop), Q op s → wpAny M A (seqItems? fd.defaults) Q E s) :
    BindsTo s fd ⟨us, []⟩ ((ps.map (·.arg)).zip (us ++ ds.drop (ds.length - (ps.length - us.length)))) := by
  have hl : (ps.map (·.arg)).length = ps.length := List.length_map ..
  have hD : (op.getD #[]).toList.drop ((op.getD #[]).toList.length - (ps.map (·.arg)).length) = ds := by rw [hop, hl, Nat.sub_eq_zero_of_le h3, List.drop_zero]
  rw [← hl] at h1 h2 h3 ⊢
  have hk : (ps.map (·.arg)).length - ds.length ≤ us.length := Nat.sub_le_iff_le_add.mpr (Nat.sub_le_iff_le_add'.mp h2)
  have e1 := none_missing nd hk
  have e3 : (ps.map (·.arg)).length - ds.length + ds.length = (ps.map (·.arg)).length := Nat.sub_add_cancel h3
  have e4 := fin_bind nd h1 h2 h3
  have k1 : ¬(decide (us.length > (ps.map (·.arg)).length) && true) = true := fun h => Nat.not_lt.mpr h1 (of_decide_eq_true (ands h).1)
  clear hl hop
  subst hD
  obtain ⟨nm, qn, pr, bd, sc, gl, clo, dV, kV, doc, pm, an, cd, ct, bi⟩ := fd
  dsimp only at hp hd
  subst hp
  intro M A E Q q
  refine wpAny_bind (wpAny_pure (wpAny_bind (hd _ _ _ _ ?_)))
  refine skip k1 (skip (fun h => nf (show false = true from (congrArg (fun l : List Str => !l.isEmpty) e1).symm.trans h)) (wpAny_bind (fill_zip nd _ (fun _ _ _ => rfl) _ _ _ us rfl e3 hk h1 (wpAny_bind (wpAny_pure (skip Bool.noConfusion (wpAny_pure ?_)))))))
  exact Eq.mpr (congrArg (fun l => Q l s) e4) q
noncomputable def nodupB : List Str → Bool
  | [] => true
  | x :: l => !(l.contains x) && nodupB l
theorem nodupB_iff : ∀ {l : List Str}, nodupB l = true → l.Nodup
  | [], _ => List.nodup_nil
  | x :: l, h => by
    unfold nodupB at h
    simp only [Bool.and_eq_true, Bool.not_eq_true', List.contains_eq_mem, decide_eq_false_iff_not] at h
    exact List.nodup_cons.mpr ⟨h.1, nodupB_iff h.2⟩
theorem bindL_off {k : Str → Option NameKind} {x : Str} : ∀ {l : List (Str × Value)} {m : Str → Option Value}, (∀ p ∈ l, p.1 ≠ x) → bindL k l m x = m x
  | [], m, _ => rfl
  | (n, v) :: r, m, h => by
    unfold bindL
    rw [bindL_off fun p hp => h p (List.mem_cons_of_mem _ hp)]
    split
    · exact if_neg fun e : x = n => h (n, v) List.mem_cons_self e.symm
    · rfl
theorem bindC_off {k : Str → Option NameKind} {x : Str} : ∀ {l : List (Str × Value)} {m : Str → Option Value}, (∀ p ∈ l, p.1 ≠ x) → bindC k l m x = m x
  | [], m, _ => rfl
  | (n, v) :: r, m, h => by
    unfold bindC
    rw [bindC_off fun p hp => h p (List.mem_cons_of_mem _ hp)]
    split
    · rfl
    · exact if_neg fun e : x = n => h (n, v) List.mem_cons_self e.symm
theorem off_zip {ns : List Str} {us : List Value} {x : Str} (h : x ∉ ns) : ∀ p ∈ ns.zip us, p.1 ≠ x := fun p hp e => h (e ▸ (List.of_mem_zip hp).1)
theorem bindL_at {k : Str → Option NameKind} {x : Str} {u : Value} : ∀ {ns : List Str} {us : List Value} {m : Str → Option Value} {i : Nat}, ns.Nodup → ns[i]? = some x → us[i]? = some u → k x = some .local → bindL k (ns.zip us) m x = some u
  | [], _, _, i, _, h, _, _ => by simp at h
  | _ :: _, [], _, i, _, _, h, _ => by simp at h
  | a :: ns, v :: us, m, 0, nd, h, g, hk => by
    simp at h g; subst h; subst g
    rw [List.zip_cons_cons]
    unfold bindL
    rw [bindL_off (off_zip (List.nodup_cons.mp nd).1), if_pos hk, if_pos rfl]
  | a :: ns, v :: us, m, i + 1, nd, h, g, hk => by
    rw [List.zip_cons_cons]
    unfold bindL
    exact bindL_at (List.nodup_cons.mp nd).2 (by simpa using h) (by simpa using g) hk
theorem bindC_at {k : Str → Option NameKind} {x : Str} {u : Value} : ∀ {ns : List Str} {us : List Value} {m : Str → Option Value} {i : Nat}, ns.Nodup → ns[i]? = some x → us[i]? = some u → k x ≠ some .local → bindC k (ns.zip us) m x = some u
  | [], _, _, i, _, h, _, _ => by simp at h
  | _ :: _, [], _, i, _, _, h, _ => by simp at h
  | a :: ns, v :: us, m, 0, nd, h, g, hk => by
    simp at h g; subst h; subst g
    rw [List.zip_cons_cons]
    unfold bindC
    rw [bindC_off (off_zip (List.nodup_cons.mp nd).1), if_neg hk, if_pos rfl]
  | a :: ns, v :: us, m, i + 1, nd, h, g, hk => by
    rw [List.zip_cons_cons]
    unfold bindC
    exact bindC_at (List.nodup_cons.mp nd).2 (by simpa using h) (by simpa using g) hk

section
variable {prog : Program} {w : World} {A : Around} {s : Shared}
theorem call_cells {R : Result → Shared → Prop} {a : Addr} {o : Obj} {fd : FuncData} {body : List Stmt} {args : Args} {binds : List (Str × Value)}
    (hroom : A.depth < recursionLimit) (ho : s.heap.get? a = some o) (hdata : o.data = .func fd) (hlim : s.heap.NoLimit) (hcd : s.heap.CodeRec fd.code fd.qualname)
    (hbody : fd.body = .stmts body) (hbind : BindsTo s fd args binds) (hclo : fd.closure = [])
    (hkind : ∀ x ∈ binds, fd.scope.names.lookup x.1 = some .local ∨ (fd.scope.names.lookup x.1 = some .cell ∧ ((cellsFrom (s.heap.objs.size + 1) fd.scope.names []).lookup x.1).isSome = true))
    (h : ∀ s₁, InCallC s (callEnvC fd s.heap.objs.size a).locals (bindL (callEnvC fd s.heap.objs.size a).kindOf binds fun _ => none) (callEnvC fd s.heap.objs.size a).cells
        (bindC (callEnvC fd s.heap.objs.size a).kindOf binds fun _ => none) s₁ →
      wpAny (model prog w) (A.deeper (callEnvC fd s.heap.objs.size a)) (execs body (callEnvC fd s.heap.objs.size a)) (fun f s' => R (.ok (.ret (match f with | .ret v => v | _ => .none))) s')
        (fun e s' => wpAny (model prog w) (A.deeper (callEnvC fd s.heap.objs.size a)) (leaving (callEnvC fd s.heap.objs.size a) e) (fun _ s'' => R (.error e) s'') (fun e' s'' => R (.error e') s'') s') s₁)
    (hco : fd.scope.isCoroutine = false) (hgen : fd.scope.isGenerator = false) (hk : fd.scope.kind = .function) :
    codeAny (model prog w) A (.call (.ref a) args) R s := by
  refine codeAny_call_function hroom ho hdata hco hgen hbody hcd (hbind _ _ _ _ ?_)
  rw [hclo]
  refine wpAny_newFunctionEnv_cells hk hkind fun env he s' x => ?_
  subst he
  exact ⟨hlim.keeps x.toInCall.keep, codeAny_func (h s' x)⟩
end

theorem name_pos {l : List (Str × NameKind)} {y : Str} {i : Nat} (h : ({ names := l } : Tx).name y = some (.inl i)) : (l.map (·.1))[i]? = some y ∧ (l.lookup y = some .local ∨ l.lookup y = some .cell) := by
  have pos : posIn l y = some i → (l.map (·.1))[i]? = some y := fun e => by
    unfold posIn at e
    obtain ⟨hi, h1, _⟩ := List.findIdx?_eq_some_iff_getElem.mp e
    rw [List.getElem?_map, List.getElem?_eq_getElem hi, Option.map_some, beq_iff_eq.mp h1]
  exact ⟨pos (nmT_l (Tx.name_o h)).2, (nmT_l (Tx.name_o h)).1⟩

theorem bindV_len {d : FD} {vs ws : List AV} (h : bindV d vs = some ws) : vs.length ≤ d.nargs ∧ d.nargs - vs.length ≤ d.dfl.length ∧ ws = vs ++ d.dfl.drop (d.dfl.length - (d.nargs - vs.length)) :=
  have h := grd_some h
  ⟨h.1.1, h.1.2, (Option.some.inj h.2).symm⟩
/-- defaults -/
noncomputable def valB (v : AV) (u : Value) : Bool := by
  induction u with
  | none => exact decide (asNone v = some ())
  | bool b => exact decide (asBool v = some b)
  | int i _ => exact decide (asInt v = some i)
  | str x _ => exact decide (asStr v = some x.cps.toList)
  | _ => exact false
noncomputable def valsB : List AV → List Value → Bool
  | [], l => l.isEmpty
  | v :: vs, l => match l with
    | u :: us => valB v u && valsB vs us
    | [] => false
theorem valB_of {I : Inj} {h : Heap} {v : AV} {u : Value} (e : valB v u = true) : VR I h v u := by
  induction u with
  | none => cases asNone_of (of_decide_eq_true e); rfl
  | bool b => cases asBool_of (of_decide_eq_true e); rfl
  | int i t => cases asInt_of (of_decide_eq_true e); exact ⟨t, rfl⟩
  | str x t => cases asStr_of (of_decide_eq_true e); exact ⟨t, by (first | subst x | (injection x with x; subst x) | (injection x; done) | cases x); rfl⟩
  | _ => exact nf e
theorem valsB_of {I : Inj} {h : Heap} : ∀ {vs : List AV} {us : List Value}, valsB vs us = true → VRs I h vs us
  | [], us, e => List.isEmpty_iff.mp e
  | v :: vs, us, e => by
    induction us using lcs with
    | nil => exact nf e
    | cons u us => exact VRs.cons (valB_of (ands e).1) (valsB_of (ands e).2)
noncomputable def seqD (d : Data) : Option (Array Value) := by
  induction d with
  | seq l _ => exact some l
  | _ => exact none
noncomputable def funD (d : Data) : Option FuncData := by
  induction d with
  | func f => exact some f
  | _ => exact none
noncomputable def stmB (b : FuncBody) : Option (List Stmt) := by
  induction b with
  | stmts l => exact some l
  | _ => exact none
theorem seqD_of {d : Data} {l : Array Value} : seqD d = some l → ∃ n, d = .seq l n := by
  induction d with
  | seq m n => exact fun h => ⟨n, congrArg (Data.seq · n) (Option.some.inj h)⟩
  | _ => exact no
theorem funD_of {d : Data} {l : FuncData} : funD d = some l → d = .func l := by
  induction d with
  | func m => exact fun h => congrArg Data.func (Option.some.inj h)
  | _ => exact no
theorem stmB_of {d : FuncBody} {l : List Stmt} : stmB d = some l → d = .stmts l := by
  induction d with
  | stmts m => exact fun h => congrArg FuncBody.stmts (Option.some.inj h)
  | _ => exact no
theorem elimB {α : Type} {o : Option α} {f : α → Bool} (h : o.elim false f = true) : ∃ a, o = some a ∧ f a = true := by
  induction o with
  | none => exact nf h
  | some a => exact ⟨a, rfl, h⟩
theorem obj_eta {o : Obj} {c : Value} {d : Data} (h1 : o.cls = c) (h2 : o.data = d) : o = ⟨c, o.dict, d, o.slots⟩ := by
  subst h1; subst h2; rfl
noncomputable def dflB (K : Frag) (v : Value) (vs : List AV) : Bool := by
  induction v with
  | none => exact vs.isEmpty
  | ref T => exact (K.lookup T).elim false fun o => (seqD o.data).elim false fun l => valsB vs l.toList
  | _ => exact false
noncomputable def okFn (K : Frag) (fd : FuncData) (d : FD) : Bool := (fd.params.posonlyargs.isEmpty) && ((fd.params.vararg.isNone) && ((fd.params.kwonlyargs.isEmpty) && ((fd.params.kwarg.isNone) && ((nodupB (fd.params.args.map (·.arg))) && ((((fd.scope.names.map (·.1)).take fd.params.args.length == fd.params.args.map (·.arg))) && ((decide (fd.scope.names.length ≤ 100)) && ((!fd.scope.isCoroutine) && ((!fd.scope.isGenerator) && ((fd.scope.kind == .function) && ((codeIn K fd.code fd.qualname) && ((fd.closure.isEmpty) && ((fd.globals == mainGlobals) && ((fd.builtins == builtinsNs) && ((decide (d.dfl.length ≤ fd.params.args.length)) && (((fd.params.args.all fun p => fd.scope.names.lookup p.arg == some .local || fd.scope.names.lookup p.arg == some .cell)) && ((decide (fd.params.args.length = d.nargs)) && ((dflB K fd.defaults d.dfl))))))))))))))))))
structure OkFn (K : Frag) (fd : FuncData) (d : FD) : Prop where
  k1 : fd.params.posonlyargs = []
  k2 : fd.params.vararg = none
  k3 : fd.params.kwonlyargs = []
  k4 : fd.params.kwarg = none
  nd : (fd.params.args.map (·.arg)).Nodup
  pre : (fd.scope.names.map (·.1)).take fd.params.args.length = fd.params.args.map (·.arg)
  few : fd.scope.names.length ≤ 100
  co : fd.scope.isCoroutine = false
  gen : fd.scope.isGenerator = false
  fn : fd.scope.kind = .function
  code : codeIn K fd.code fd.qualname = true
  clo : fd.closure = []
  gl : fd.globals = mainGlobals
  bi : fd.builtins = builtinsNs
  dl : d.dfl.length ≤ fd.params.args.length
  loc : (fd.params.args.all fun p => fd.scope.names.lookup p.arg == some .local || fd.scope.names.lookup p.arg == some .cell) = true
  na : fd.params.args.length = d.nargs
  df : dflB K fd.defaults d.dfl = true
theorem notB {b : Bool} (h : (!b) = true) : b = false := by rcases b <;> first | rfl | exact nf h
theorem okFn_of {K : Frag} {fd : FuncData} {d : FD} (h : okFn K fd d = true) : OkFn K fd d :=
  ⟨List.isEmpty_iff.mp (ands h).1, Option.isNone_iff_eq_none.mp (ands (ands h).2).1, List.isEmpty_iff.mp (ands (ands (ands h).2).2).1, Option.isNone_iff_eq_none.mp (ands (ands (ands (ands h).2).2).2).1, nodupB_iff (ands (ands (ands (ands (ands h).2).2).2).2).1, beq_iff_eq.mp (ands (ands (ands (ands (ands (ands h).2).2).2).2).2).1, of_decide_eq_true (ands (ands (ands (ands (ands (ands (ands h).2).2).2).2).2).2).1, notB (ands (ands (ands (ands (ands (ands (ands (ands h).2).2).2).2).2).2).2).1, notB (ands (ands (ands (ands (ands (ands (ands (ands (ands h).2).2).2).2).2).2).2).2).1, beq_iff_eq.mp (ands (ands (ands (ands (ands (ands (ands (ands (ands (ands h).2).2).2).2).2).2).2).2).2).1, (ands (ands (ands (ands (ands (ands (ands (ands (ands (ands (ands h).2).2).2).2).2).2).2).2).2).2).1, List.isEmpty_iff.mp (ands (ands (ands (ands (ands (ands (ands (ands (ands (ands (ands (ands h).2).2).2).2).2).2).2).2).2).2).2).1, beq_iff_eq.mp (ands (ands (ands (ands (ands (ands (ands (ands (ands (ands (ands (ands (ands h).2).2).2).2).2).2).2).2).2).2).2).2).1, beq_iff_eq.mp (ands (ands (ands (ands (ands (ands (ands (ands (ands (ands (ands (ands (ands (ands h).2).2).2).2).2).2).2).2).2).2).2).2).2).1, of_decide_eq_true (ands (ands (ands (ands (ands (ands (ands (ands (ands (ands (ands (ands (ands (ands (ands h).2).2).2).2).2).2).2).2).2).2).2).2).2).2).1, (ands (ands (ands (ands (ands (ands (ands (ands (ands (ands (ands (ands (ands (ands (ands (ands h).2).2).2).2).2).2).2).2).2).2).2).2).2).2).2).1, of_decide_eq_true (ands (ands (ands (ands (ands (ands (ands (ands (ands (ands (ands (ands (ands (ands (ands (ands (ands h).2).2).2).2).2).2).2).2).2).2).2).2).2).2).2).2).1, (ands (ands (ands (ands (ands (ands (ands (ands (ands (ands (ands (ands (ands (ands (ands (ands (ands h).2).2).2).2).2).2).2).2).2).2).2).2).2).2).2).2).2⟩
/-- the written part's function at a is d -/
noncomputable def fnB (K : Frag) (a : Addr) (d : FD) : Bool := (K.lookup a).elim false fun o => (funD o.data).elim false fun fd => (stmB fd.body).elim false fun body => okFn K fd d && chkSs d.body { names := fd.scope.names } body
theorem fnB_of {K : Frag} {a : Addr} {d : FD} (h : fnB K a d = true) : ∃ oc od fd osl body, K.lookup a = some ⟨oc, od, .func fd, osl⟩ ∧ fd.body = .stmts body ∧ okFn K fd d = true ∧ chkSs d.body { names := fd.scope.names } body = true := by
  obtain ⟨o, ho, h⟩ := elimB h
  obtain ⟨fd, hf, h⟩ := elimB h
  obtain ⟨b, hb, h⟩ := elimB h
  exact ⟨_, _, fd, _, b, ho.trans (congrArg some (obj_eta rfl (funD_of hf))), stmB_of hb, (ands h).1, (ands h).2⟩
theorem dflB_of {K : Frag} {v : Value} {vs : List AV} {s : Shared} (X : K.In s.heap) (h : dflB K v vs = true) : ∃ (ds : List Value) (op : Option (Array Value)), (op.getD #[]).toList = ds ∧ (∀ (M : Model) (A : Around) (E : Value → Shared → Prop) (Q : Option (Array Value) → Shared → Prop), Q op s → wpAny M A (seqItems? v) Q E s) ∧ valsB vs ds = true := by
  induction v with
  | none =>
    cases List.isEmpty_iff.mp h
    exact ⟨[], none, rfl, fun M A E Q h => wpAny_bind (wpAny_pure (wpAny_pure h)), rfl⟩
  | ref T =>
    obtain ⟨o, ho, h⟩ := elimB h
    obtain ⟨l, hl, h⟩ := elimB h
    obtain ⟨n, hl⟩ := seqD_of hl
    exact ⟨_, some _, rfl, fun M A E Q h => wpAny_seqItems (X _ _ (ho.trans (congrArg some (obj_eta rfl hl)))) rfl h, h⟩
  | _ => exact nf h
/-- what comes out of a call -/
noncomputable def retK (Q : AV → Sto → Prop) : Fl → Vars → Sto → Prop
  | .ret v, _, σ => Q v σ
  | .next, _, σ => Q .none σ
  | .cont, _, _ => False
theorem OK.outC {o : Ex} {Q : AV → Sto → Prop} (h : OK (outC o) Q) : OS o (retK Q) := by
  rcases o with _ | ⟨fl, ρ, σ⟩
  · exact h
  · induction fl with
    | cont => exact h
    | _ => exact h
theorem call_tab {G : G0} {sc : Scr} {n : Nat} {C : Calls} (hC : SCalls G sc n C) {a : Addr} {d : FD} (hd : fnB G.K a d = true) {vs ws : List AV} (hv : bindV d vs = some ws) {σ : Sto} {Q : AV → Sto → Prop} (he : OK (outC (exSs C d.body (varsOf ws) σ)) Q)
    {A : Around} {I : Inj} {s : Shared} {us : List Value} {R : Result → Shared → Prop} (hA : RoomC (n + 1) A) (S : GSim G I σ s.heap) (hu : VRs I s.heap vs us)
    (q : ∀ u v σ' I' s', Q v σ' → St nX G I s I' σ' s' → VR I' s'.heap v u → R (.ok (.ret u)) s') : codeAny (model G.prog G.w) A (.call (.ref a) ⟨us, []⟩) R s := by
  obtain ⟨oc, od, fd, osl, body, ho, hb, hok, hchk⟩ := fnB_of hd
  have k := okFn_of hok
  obtain ⟨b1, b2, b3⟩ := bindV_len hv
  have ho' := S.base _ _ (G.X _ _ ho)
  have nd := k.nd
  have hus := VRs.length hu
  obtain ⟨ds, op, hop, hds, hvd⟩ := dflB_of (s := s) (inK S) k.df
  have hdl : ds.length = d.dfl.length := VRs.length (valsB_of (I := I) (h := s.heap) hvd)
  have hps : fd.params = ⟨[], fd.params.args, none, [], fd.params.kw_defaults, none, fd.params.defaults⟩ := by
    have k1 := k.k1
    have k2 := k.k2
    have k3 := k.k3
    have k4 := k.k4
    cases e : fd.params with
    | mk a b c d e f g => rw [e] at k1 k2 k3 k4; (first | subst k1 | (injection k1 with k1; subst k1) | (injection k1; done) | cases k1); (first | subst k2 | (injection k2 with k2; subst k2) | (injection k2; done) | cases k2); (first | subst k3 | (injection k3 with k3; subst k3) | (injection k3; done) | cases k3); (first | subst k4 | (injection k4 with k4; subst k4) | (injection k4; done) | cases k4); rfl
  rw [← hus, ← hdl, ← k.na] at b2 b3
  rw [← hus, ← k.na] at b1
  have hbind := bindsTo_gen (s := s) (us := us) hps nd b1 b2 (hdl ▸ k.dl) hop hds
  have hwl : ws.length = fd.params.args.length := by rw [b3, List.length_append, List.length_drop, ← hdl, ← hus]; exact ar2 b1 b2
  have hwu : VRs I s.heap ws (us ++ ds.drop (ds.length - (fd.params.args.length - us.length))) := b3 ▸ VRs.append hu (VRs.drop _ (valsB_of hvd))
  generalize us ++ ds.drop (ds.length - (fd.params.args.length - us.length)) = rs at hbind hwu
  have hk : ∀ x ∈ (fd.params.args.map (·.arg)).zip rs, fd.scope.names.lookup x.1 = some .local ∨ (fd.scope.names.lookup x.1 = some .cell ∧ ((cellsFrom (s.heap.objs.size + 1) fd.scope.names []).lookup x.1).isSome = true) := fun x hx => by
    obtain ⟨p, hp, e⟩ := List.mem_map.mp (List.of_mem_zip hx).1
    have := List.all_eq_true.mp k.loc p hp
    rw [Bool.or_eq_true, beq_iff_eq, beq_iff_eq, e] at this
    exact this.imp id fun q => ⟨q, cellsFrom_some _ _ _ (.inl q)⟩
  refine call_cells (Nat.lt_of_le_of_lt (Nat.le_add_right ..) hA.2.1) ho' rfl (G.lim.keeps S.base) (codeRec_of (inK S) k.code) hb hbind k.clo hk (fun s₁ x => ?_) k.co k.gen k.fn
  obtain ⟨h₁, tk₁, rfl⟩ := x.toInCall.same
  have hkeep := x.toInCall.keep
  have hL : ∀ c : Nat, s.heap.objs.size ≤ c → s.heap.get? c = none := fun c hc => none_of_le hc
  have hown : ∀ c, own (callEnvC fd s.heap.objs.size a) c → s.heap.get? c = none := fun c hc => by
    rcases hc with rfl | ⟨y, hy⟩
    · exact hL _ (Nat.le_refl _)
    · exact hL _ (Nat.le_of_lt (x.above y c (mem_of_lookup hy)))
  have hO : OwnB G (callEnvC fd s.heap.objs.size a) := fun c hc => dead_of S (hown c hc)
  have kinds : ∀ y, (callEnvC fd s.heap.objs.size a).kindOf y = fd.scope.names.lookup y := fun y => rfl
  have F : Frm { names := fd.scope.names } I h₁ (callEnvC fd s.heap.objs.size a) (varsOf ws) := by
    refine ⟨k.fn, k.gl, k.bi, kinds, ⟨_, x.toInCall.ns⟩, fun y c e => ?_, S.dead (hown _ (.inl rfl)), fun y c e => S.dead (hown _ (.inr ⟨y, e⟩)), fun y i v hy hv => ?_, fun y hy => ?_, k.few, fun y z c ey ez => ?_⟩
    · obtain ⟨o, a, b⟩ := x.cell y c e
      exact ⟨o, _, a, b⟩
    · obtain ⟨r, hr, hvr⟩ := VRs.at hwu (j := i) hv
      obtain ⟨hp, hl⟩ := name_pos hy
      have hi : i < fd.params.args.length := hwl ▸ (List.getElem?_eq_some_iff.mp hv).1
      have hpi : (fd.params.args.map (·.arg))[i]? = some y := by
        rw [← k.pre, List.getElem?_take, if_pos hi]; exact hp
      refine ⟨r, hvr.ext (ExtX.grow hkeep), ?_⟩
      rcases hl with hl | hl
      · exact .inl ⟨hl, _, x.toInCall.ns, bindL_at nd hpi hr hl⟩
      · obtain ⟨c, hc⟩ := Option.isSome_iff_exists.mp (cellsFrom_some fd.scope.names (s.heap.objs.size + 1) [] (.inl hl))
        obtain ⟨o, e1, e2⟩ := x.cell y c hc
        rw [bindC_at nd hpi hr (by rw [kinds, hl]; simp)] at e2
        exact .inr ⟨.inl hl, c, o, hc, e1, e2⟩
    · exact Option.isSome_iff_exists.mp (cellsFrom_some _ _ _ (.inl hy))
    · exact name_of_addr x.apart (mem_of_lookup ey) (mem_of_lookup ez)
  refine wpE (chkSs_ok (t := { names := fd.scope.names }) rfl _ _ hchk ⟨G, sc, n, C, callEnvC fd s.heap.objs.size a, A.deeper (callEnvC fd s.heap.objs.size a), hC, hA.deeper _⟩ hO (s := { s with heap := h₁, toks := tk₁ }) ⟨Sim.grow S hkeep, F⟩ (OK.outC he) fun f fl ρ' σ' I' s' hq x' r => ?_)
  have x₂ : St nX G I s I' σ' s' := ⟨x'.st.ext.since hkeep hown, x'.st.like, x'.st.sim⟩
  induction r with
  | next => exact q _ _ _ _ _ hq x₂ rfl
  | cont => exact hq.elim
  | ret r => exact q _ _ _ _ _ hq x₂ r

/-- the calls that stand outside the table -/
noncomputable def OrcOK (G : G0) : Prop := ∀ a vs v, orc a vs = some v → ∀ (A : Around) (I : Inj) (σ : Sto) (s : Shared) (us : List Value) (R : Result → Shared → Prop), RoomC 4 A → GSim G I σ s.heap → VRs I s.heap vs us →
    (∀ u s', St nX G I s I σ s' → VR I s'.heap v u → R (.ok (.ret u)) s') → codeAny (model G.prog G.w) A (.call (.ref a) ⟨us, []⟩) R s
theorem RoomC.mono {n m : Nat} {A : Around} (h : RoomC n A) (hm : m ≤ n) : RoomC m A := ⟨h.1, by have := h.2.1; lia, by have := h.2.2; lia⟩
theorem sound_calls {G : G0} {sc : Scr} {T : Tab} (hT : ∀ a d, T a = some d → fnB G.K a d = true) (hO : OrcOK G) (hsc : ∃ vs, G.B.IsList sc.1 vs.toArray ∧ IntsAre vs sc.2) (n : Nat) : SCalls G sc n (runT T sc n) := by
  induction n with
  | zero => exact ⟨hsc, fun _ _ _ h => h.elim, fun _ _ _ _ _ h => h.elim⟩
  | succ n ih =>
    refine ⟨hsc, fun vs σ Q h => ?_, fun a vs σ Q ha h A I s us R hA S hu q => ?_⟩
    · rw [runT_succ] at h
      rw [if_pos rfl] at h
      exact h
    · rw [runT_succ] at h
      rw [if_neg ha] at h
      obtain ⟨_, h⟩ := h.drg
      cases e : (if 3 ≤ n then orc a vs else none) with
      | some v =>
        rw [e] at h
        by_cases hn : 3 ≤ n
        · rw [if_pos hn] at e
          exact hO a vs v e A I σ s us R (hA.mono (Nat.succ_le_succ hn)) S hu fun u s' x r => q u v σ I s' h x r
        · rw [if_neg hn] at e
          exact no e
      | none =>
        rw [e] at h
        obtain ⟨d, hd, h⟩ := OK.tpo h
        obtain ⟨ws, hws, h⟩ := OK.tpo h
        exact call_tab ih (hT a _ hd) hws h hA S hu q
end Mine
open PySem PySem.W PySem.Calls PyProof.Rows
namespace Mine
set_option linter.unusedVariables false
set_option maxRecDepth 100000
/-! the functions of the program, cut down (printed by gen_tab.py) -/
noncomputable def b37 : List PS := [.asgAttr (.var 0) 0 (.var 1), .asgAttr (.var 0) 1 (.var 2), .asgAttr (.var 0) 2 (.dict [] []), .asgAttr (.var 0) 3 (.val .none), .asgAttr (.var 0) 4 (.val (.bool false)), .asgAttr (.var 0) 5 (.val .none)]
noncomputable def d37 : FD := ⟨3, [], b37⟩
noncomputable def b59 : List PS := [.expr (.ccall 40 37 [.var 0, .var 1, .var 2]), .asgAttr (.var 0) 6 (.var 3)]
noncomputable def d59 : FD := ⟨4, [.str []], b59⟩
noncomputable def b79 : List PS := [.expr (.ccall 40 37 [.var 0, .var 1, .var 2]), .asgAttr (.var 0) 7 (.ite (.cmp (.Is) (.var 3) (.val .none)) (.list []) (.var 3))]
noncomputable def d79 : FD := ⟨4, [.none], b79⟩
noncomputable def b98 : List PS := [.expr (.ccall 40 37 [.var 0, .var 1, .var 2]), .asgAttr (.var 0) 8 (.dict [] []), .asgAttr (.var 0) 9 (.val .none)]
noncomputable def d98 : FD := ⟨3, [], b98⟩
noncomputable def b105 : List PS := [.asg 3 (.call 250 [.var 1]), .asg 4 (.dget (.attr (.var 0) 8) (.var 3)), .ite (.cmp (.Is) (.var 4) (.val .none)) [.asgSub (.attr (.var 0) 8) (.var 3) (.list [.var 1, .var 2])] [.asgSub (.var 4) (.val (.int 1)) (.var 2)]]
noncomputable def d105 : FD := ⟨3, [], b105⟩
noncomputable def b117 : List PS := [.ret (.pairsOf (.attr (.var 0) 8))]
noncomputable def d117 : FD := ⟨1, [], b117⟩
noncomputable def b137 : List PS := [.expr (.ccall 40 37 [.var 0, .var 1, .var 2]), .asgAttr (.var 0) 10 (.var 3), .asgAttr (.var 0) 11 (.var 4), .asgAttr (.var 0) 12 (.var 5)]
noncomputable def d137 : FD := ⟨6, [.none, .none, .bool false], b137⟩
noncomputable def b218 : List PS := [.expr (.ccall 40 37 [.var 0, .var 1, .var 2]), .asgAttr (.var 0) 13 (.var 3), .asgAttr (.var 0) 14 (.var 4), .asgAttr (.var 0) 15 (.var 5), .asgAttr (.var 0) 16 (.var 6), .asgAttr (.var 0) 17 (.dict [] []), .asgAttr (.var 0) 18 (.dict [] []), .asgAttr (.var 0) 19 (.list []), .asgAttr (.var 0) 20 (.list []), .asgAttr (.var 0) 21 (.val .none), .asgAttr (.var 0) 22 (.val .none), .asgAttr (.var 0) 23 (.val .none)]
noncomputable def d218 : FD := ⟨7, [.none, .bool false, .none, .none], b218⟩
noncomputable def b237 : List PS := [.ite (.cmp (.Is) (.var 0) (.val .none)) [.ret (.val (.str [110, 105, 108]))] [], .ite (.isin (.var 0) (.type "bool")) [.ret (.val (.str [98, 111, 111, 108]))] [], .ite (.isin (.var 0) (.type "int")) [.ret (.val (.str [105, 110, 116]))] [], .ret (.ite (.isin (.var 0) (.type "str")) (.val (.str [115, 121, 109])) (.val (.str [116, 104, 105, 110, 103])))]
noncomputable def d237 : FD := ⟨1, [], b237⟩
noncomputable def b244 : List PS := [.asg 2 (.call 237 [.var 0]), .ite (.cmp (.NotEq) (.var 2) (.call 237 [.var 1])) [.ret (.val (.bool false))] [], .ret (.ite (.cmp (.Eq) (.var 2) (.val (.str [116, 104, 105, 110, 103]))) (.cmp (.Eq) (.attr (.var 0) 0) (.attr (.var 1) 0)) (.cmp (.Eq) (.var 0) (.var 1)))]
noncomputable def d244 : FD := ⟨2, [], b244⟩
noncomputable def b250 : List PS := [.asg 2 (.call 237 [.var 0]), .ite (.cmp (.NotEq) (.var 2) (.val (.str [116, 104, 105, 110, 103]))) [.ret (.tup [.var 2, .var 0])] [], .ite (.isin (.var 0) (.ref 62)) [.ret (.tup [.val (.str [116, 101, 120, 116]), .attr (.var 0) 6])] [], .ite (.and (.isin (.var 0) (.ref 82)) (.cmp (.Gt) (.var 1) (.val (.int 0)))) [.ret (.tup [.val (.str [108, 105, 115, 116]), .tupOf (.comp (.call 250 [.var 101, .sub (.var 1) (.val (.int 1))]) 101 0 (.attr (.var 0) 7) none)])] [], .ite (.and (.isin (.var 0) (.ref 140)) (.cmp (.Gt) (.var 1) (.val (.int 0)))) [.ret (.tup [.val (.str [114, 97, 110, 103, 101]), .call 250 [.attr (.var 0) 10, .sub (.var 1) (.val (.int 1))], .call 250 [.attr (.var 0) 11, .sub (.var 1) (.val (.int 1))], .attr (.var 0) 12])] [], .ret (.tup [.val (.str [116, 104, 105, 110, 103]), .attr (.var 0) 0])]
noncomputable def d250 : FD := ⟨2, [.int 12], b250⟩
noncomputable def b290 : List PS := [.asg 1 (.comp (.call 285 [.item (.var 0) (.var 101), .cut (.var 0) (.add (.var 101) (.val (.int 1))) (.add (.var 101) (.val (.int 2)))]) 101 1 (.len (.var 0)) none), .ret (.add (.add (.val (.str [34])) (.join [] (.var 1))) (.val (.str [34])))]
noncomputable def d290 : FD := ⟨1, [], b290⟩
noncomputable def b304 : List PS := [.ite (.cmp (.Eq) (.call 237 [.var 0]) (.val (.str [115, 121, 109]))) [.ret (.add (.add (.ite (.call 264 [.var 0]) (.var 0) (.call 290 [.var 0])) (.val (.str [58, 32]))) (.call 331 [.var 1, .var 2]))] [], .ret (.add (.add (.call 331 [.var 0, .var 2]) (.val (.str [32, 61, 62, 32]))) (.call 331 [.var 1, .var 2]))]
noncomputable def d304 : FD := ⟨3, [], b304⟩
noncomputable def b311 : List PS := [.asg 2 (.ite (.and (.cmp (.Is) (.attr (.var 0) 10) (.val .none)) (.cmp (.IsNot) (.attr (.var 0) 11) (.val .none))) (.val (.str [])) (.call 331 [.attr (.var 0) 10, .var 1])), .asg 3 (.ite (.and (.cmp (.Is) (.attr (.var 0) 11) (.val .none)) (.cmp (.IsNot) (.attr (.var 0) 10) (.val .none))) (.val (.str [])) (.call 331 [.attr (.var 0) 11, .var 1])), .ret (.add (.add (.var 2) (.ite (.attr (.var 0) 12) (.val (.str [46, 46, 46])) (.val (.str [46, 46])))) (.var 3))]
noncomputable def d311 : FD := ⟨2, [], b311⟩
noncomputable def b316 : List PS := [.ite (.isin (.var 0) (.ref 62)) [.ret (.call 290 [.attr (.var 0) 6])] [], .ite (.isin (.var 0) (.ref 82)) [.ite (.and (.cmp (.Lt) (.var 1) (.val (.int 1))) (.cmp (.Gt) (.len (.attr (.var 0) 7)) (.val (.int 0)))) [.ret (.val (.str [91, 46, 46, 46, 93]))] [], .ret (.add (.add (.val (.str [91])) (.join [44, 32] (.comp (.call 331 [.var 101, .sub (.var 1) (.val (.int 1))]) 101 0 (.attr (.var 0) 7) none))) (.val (.str [93])))] [], .ite (.isin (.var 0) (.ref 120)) [.ite (.and (.cmp (.Lt) (.var 1) (.val (.int 1))) (.cmp (.Gt) (.len (.attr (.var 0) 8)) (.val (.int 0)))) [.ret (.val (.str [123, 46, 46, 46, 125]))] [], .ret (.add (.add (.val (.str [123])) (.join [44, 32] (.comp2 (.call 304 [.var 101, .var 102, .sub (.var 1) (.val (.int 1))]) 101 102 (.meth (.var 0) 11 [])))) (.val (.str [125])))] [], .ite (.isin (.var 0) (.ref 140)) [.ret (.ite (.cmp (.Gt) (.var 1) (.val (.int 0))) (.call 311 [.var 0, .sub (.var 1) (.val (.int 1))]) (.val (.str [40, 46, 46, 46, 41])))] [], .ite (.isin (.var 0) (.ref 228)) [.ret (.call 278 [.var 0])] [], .asg 2 (.call 278 [.attr (.var 0) 1]), .ite (.isin (.var 0) (.ref 181)) [.ret (.call 323 [.var 0, .var 2, .var 1])] [], .ite (.isin (.var 0) (.ref 161)) [.ret (.ite (.attr (.var 0) 39) (.val (.str [35, 60, 80, 114, 111, 99, 32, 40, 108, 97, 109, 98, 100, 97, 41, 62])) (.val (.str [35, 60, 80, 114, 111, 99, 62])))] [], .ret (.add (.add (.val (.str [35, 60])) (.var 2)) (.val (.str [62])))]
noncomputable def d316 : FD := ⟨2, [], b316⟩
noncomputable def b331 : List PS := [.asg 2 (.call 237 [.var 0]), .ite (.cmp (.Eq) (.var 2) (.val (.str [116, 104, 105, 110, 103]))) [.ret (.call 316 [.var 0, .var 1])] [], .ite (.cmp (.Eq) (.var 2) (.val (.str [115, 121, 109]))) [.ret (.call 297 [.var 0])] [], .ite (.cmp (.Eq) (.var 2) (.val (.str [110, 105, 108]))) [.ret (.val (.str [110, 105, 108]))] [], .ite (.cmp (.Eq) (.var 2) (.val (.str [98, 111, 111, 108]))) [.ret (.ite (.var 0) (.val (.str [116, 114, 117, 101])) (.val (.str [102, 97, 108, 115, 101])))] [], .ret (.strOf (.var 0))]
noncomputable def d331 : FD := ⟨2, [.int 6], b331⟩
noncomputable def b413 : List PS := [.asgAttr (.var 0) 24 (.var 1), .asgAttr (.var 0) 25 (.ite (.cmp (.Is) (.var 2) (.val .none)) (.dict [] []) (.var 2)), .asgAttr (.var 0) 26 (.var 3), .asgAttr (.var 0) 27 (.var 4), .asgAttr (.var 0) 28 (.val (.int 0)), .asgAttr (.var 0) 29 (.val (.int 0)), .asgAttr (.var 0) 30 (.val (.int 8)), .asgAttr (.var 0) 31 (.dict [] []), .asgAttr (.var 0) 32 (.dict [] []), .asgAttr (.var 0) 33 (.val (.int 0)), .asgAttr (.var 0) 34 (.val (.int 0)), .asgAttr (.var 0) 35 (.dict [] []), .asgAttr (.var 0) 36 (.list []), .asgAttr (.var 0) 37 (.val (.bool false)), .asgAttr (.var 0) 38 (.new 40 [.meth (.var 0) 0 [], .meth (.var 0) 1 [.val (.str [79, 98, 106, 101, 99, 116])]]), .asgAttr (.var 0) 37 (.val (.bool true)), .for_ 5 0 (.listOf (.attr (.var 0) 32)) [.expr (.meth (.var 0) 3 [.var 5])]]
noncomputable def d413 : FD := ⟨5, [.none, .none, .int 20000], b413⟩
noncomputable def b434 : List PS := [.augAttr (.var 0) 29 (.val (.int 1)), .ret (.attr (.var 0) 29)]
noncomputable def d434 : FD := ⟨1, [], b434⟩
noncomputable def b455 : List PS := [.asg 2 (.dget (.attr (.var 0) 32) (.var 1)), .ret (.ite (.cmp (.Is) (.var 2) (.val .none)) (.meth (.var 0) 2 [.var 1]) (.var 2))]
noncomputable def d455 : FD := ⟨2, [], b455⟩
noncomputable def b460 : List PS := [.asg 2 (.cmp (.NotIn) (.var 1) (.val (.old (.ref 386)))), .asg 3 (.new 228 [.meth (.var 0) 0 [], .val .none, .var 1, .var 2]), .asgSub (.attr (.var 0) 32) (.var 1) (.var 3), .asgAttr (.var 3) 22 (.var 1), .asg 4 (.item (.val (.old (.ref 387))) (.var 1)), .asgAttr (.var 3) 15 (.ite (.cmp (.Is) (.var 4) (.val .none)) (.val .none) (.meth (.var 0) 1 [.var 4])), .asgAttr (.var 3) 1 (.meth (.var 0) 1 [.ite (.var 2) (.val (.str [67, 108, 97, 115, 115])) (.val (.str [77, 111, 100, 117, 108, 101]))]), .asgAttr (.var 3) 19 (.comp (.meth (.var 0) 1 [.var 101]) 101 3 (.dgetD (.val (.old (.ref 390))) (.var 1) (.tup [])) none), .ite (.attr (.var 0) 37) [.expr (.meth (.var 0) 3 [.var 1])] [], .ret (.var 3)]
noncomputable def d460 : FD := ⟨2, [], b460⟩
noncomputable def b467 : List PS := [.ite (.or (.cmp (.In) (.add (.var 1) (.val (.str [46]))) (.attr (.var 0) 24)) (.cmp (.In) (.add (.var 1) (.val (.str [46]))) (.attr (.var 0) 25))) [.expr (.call 385 [.var 0, .item (.attr (.var 0) 32) (.var 1)])] []]
noncomputable def d467 : FD := ⟨2, [], b467⟩
noncomputable def b482 : List PS := [.ite (.cmp (.Is) (.var 1) (.val .none)) [.ret (.meth (.var 0) 1 [.val (.str [78, 105, 108, 67, 108, 97, 115, 115])])] [], .ite (.isin (.var 1) (.type "bool")) [.ret (.meth (.var 0) 1 [.ite (.var 1) (.val (.str [84, 114, 117, 101, 67, 108, 97, 115, 115])) (.val (.str [70, 97, 108, 115, 101, 67, 108, 97, 115, 115]))])] [], .ite (.isin (.var 1) (.type "int")) [.ret (.meth (.var 0) 1 [.val (.str [73, 110, 116, 101, 103, 101, 114])])] [], .ret (.ite (.isin (.var 1) (.type "str")) (.meth (.var 0) 1 [.val (.str [83, 121, 109, 98, 111, 108])]) (.attr (.var 1) 1))]
noncomputable def d482 : FD := ⟨2, [], b482⟩
noncomputable def b517 : List PS := [.ret (.new 62 [.meth (.var 0) 0 [], .meth (.var 0) 1 [.val (.str [83, 116, 114, 105, 110, 103])], .var 1])]
noncomputable def d517 : FD := ⟨2, [], b517⟩
noncomputable def b524 : List PS := [.ret (.new 82 [.meth (.var 0) 0 [], .meth (.var 0) 1 [.val (.str [65, 114, 114, 97, 121])], .listOf (.var 1)])]
noncomputable def d524 : FD := ⟨2, [], b524⟩
noncomputable def b531 : List PS := [.asg 2 (.new 120 [.meth (.var 0) 0 [], .meth (.var 0) 1 [.val (.str [72, 97, 115, 104])]]), .forE (.var 1), .ret (.var 2)]
noncomputable def d531 : FD := ⟨2, [], b531⟩
noncomputable def b545 : List PS := [.ite (.and (.cmp (.IsNot) (.var 1) (.val .none)) (.cmp (.IsNot) (.var 2) (.val .none))) [.asg 4 (.or (.cmp (.Eq) (.call 237 [.var 1]) (.val (.str [98, 111, 111, 108]))) (.cmp (.Eq) (.call 237 [.var 2]) (.val (.str [98, 111, 111, 108])))), .ite (.or (.var 4) (.not (.call 244 [.meth (.var 0) 9 [.var 1], .meth (.var 0) 9 [.var 2]]))) [.expr (.meth (.var 0) 12 [.val (.str [65, 114, 103, 117, 109, 101, 110, 116, 69, 114, 114, 111, 114]), .val (.str [98, 97, 100, 32, 118, 97, 108, 117, 101, 32, 102, 111, 114, 32, 114, 97, 110, 103, 101])])] []] [], .asg 5 (.new 140 [.meth (.var 0) 0 [], .meth (.var 0) 1 [.val (.str [82, 97, 110, 103, 101])], .var 1, .var 2, .var 3]), .asgAttr (.var 5) 4 (.val (.bool true)), .ret (.var 5)]
noncomputable def d545 : FD := ⟨4, [], b545⟩
noncomputable def b664 : List PS := [.asgSub (.var 0) (.val (.int 1)) (.add (.item (.var 0) (.val (.int 1))) (.val (.int 1))), .ite (.cmp (.LtE) (.item (.var 0) (.val (.int 1))) (.len (.item (.var 0) (.val (.int 0))))) [.ret (.mod (.item (.item (.var 0) (.val (.int 0))) (.sub (.item (.var 0) (.val (.int 1))) (.val (.int 1)))) (.var 1))] [], .asgSub (.var 0) (.val (.int 2)) (.add (.item (.var 0) (.val (.int 2))) (.val (.int 1))), .ret (.mod (.mod (.item (.var 0) (.val (.int 2))) (.val (.int 3))) (.var 1))]
noncomputable def d664 : FD := ⟨2, [], b664⟩
noncomputable def b671 : List PS := [.ret (.item (.list [.tup [.val (.str [105, 110, 116]), .val (.int 1)], .tup [.val (.str [115, 121, 109]), .val (.str [97])], .tup [.val (.str [116, 101, 120, 116]), .val (.str [98])], .tup [.val (.str [105, 110, 116]), .val (.int 2)], .tup [.val (.str [116, 101, 120, 116]), .val (.str [])], .tup [.val (.str [119, 111, 114, 100]), .val .none]]) (.call 664 [.var 0, .val (.int 6)]))]
noncomputable def d671 : FD := ⟨1, [], b671⟩
noncomputable def b676 : List PS := [.asg 2 (.comp (.item (.list [.val (.str [108, 105, 115, 116]), .val (.str [108, 105, 115, 116]), .val (.str [116, 97, 98, 108, 101]), .val (.str [108, 105, 115, 116]), .val (.str [114, 97, 110, 103, 101])]) (.call 664 [.var 0, .val (.int 5)])) 101 1 (.var 1) none), .asgSubT (.var 2) (.val (.int 0)) 3 (.val (.str [108, 105, 115, 116])) (.list []), .asg 4 (.comp (.var 101) 101 1 (.var 1) (some (.cmp (.Eq) (.item (.var 2) (.var 101)) (.val (.str [108, 105, 115, 116]))))), .for_ 5 0 (.var 2) [.ite (.cmp (.Eq) (.var 5) (.val (.str [114, 97, 110, 103, 101]))) [.expr (.lapp (.var 3) (.list [.var 5, .comp (.tup [.val (.str [110, 111, 100, 101]), .item (.var 4) (.call 664 [.var 0, .len (.var 4)])]) 101 1 (.val (.int 2)) none])), .cont] [], .asg 6 (.comp (.call 671 [.var 0]) 101 1 (.item (.list [.val (.int 1), .val (.int 2), .val (.int 0)]) (.call 664 [.var 0, .val (.int 3)])) none), .ite (.cmp (.Lt) (.call 664 [.var 0, .val (.int 4)]) (.val (.int 3))) [.expr (.lins (.var 6) (.call 664 [.var 0, .add (.len (.var 6)) (.val (.int 1))]) (.tup [.val (.str [110, 111, 100, 101]), .call 664 [.var 0, .var 1]]))] [], .expr (.lapp (.var 3) (.list [.var 5, .var 6]))], .ret (.var 3)]
noncomputable def d676 : FD := ⟨2, [], b676⟩
noncomputable def b681 : List PS := [.asg 2 (.comp (.ite (.cmp (.Eq) (.item (.var 101) (.val (.int 0))) (.val (.str [116, 97, 98, 108, 101]))) (.meth (.var 0) 6 [.list []]) (.meth (.var 0) 5 [.list []])) 101 0 (.var 1) none), .for_ 3 1 (.len (.var 1)) [.ite (.cmp (.Eq) (.item (.item (.var 1) (.var 3)) (.val (.int 0))) (.val (.str [114, 97, 110, 103, 101]))) [.asgT 4 5 (.item (.item (.var 1) (.var 3)) (.val (.int 1))), .asgSub (.var 2) (.var 3) (.meth (.var 0) 8 [.item (.var 2) (.item (.var 4) (.val (.int 1))), .item (.var 2) (.item (.var 5) (.val (.int 1))), .cmp (.Eq) (.mod (.var 3) (.val (.int 2))) (.val (.int 1))])] []], .for_ 3 1 (.len (.var 1)) [.asg 6 (.comp (.call 688 [.var 0, .var 2, .var 101]) 101 0 (.item (.item (.var 1) (.var 3)) (.val (.int 1))) none), .ite (.cmp (.Eq) (.item (.item (.var 1) (.var 3)) (.val (.int 0))) (.val (.str [108, 105, 115, 116]))) [.expr (.lext (.attr (.item (.var 2) (.var 3)) 7) (.var 6))] [.ite (.cmp (.Eq) (.item (.item (.var 1) (.var 3)) (.val (.int 0))) (.val (.str [116, 97, 98, 108, 101]))) [.for_ 7 1 (.len (.var 6)) [.expr (.meth (.item (.var 2) (.var 3)) 10 [.ite (.cmp (.Eq) (.mod (.var 7) (.val (.int 2))) (.val (.int 0))) (.var 7) (.add (.val (.str [107])) (.strOf (.var 7))), .item (.var 6) (.var 7)])]] []]], .ret (.var 2)]
noncomputable def d681 : FD := ⟨2, [], b681⟩
noncomputable def b688 : List PS := [.ite (.cmp (.Eq) (.item (.var 2) (.val (.int 0))) (.val (.str [110, 111, 100, 101]))) [.ret (.item (.var 1) (.item (.var 2) (.val (.int 1))))] [], .ret (.ite (.cmp (.Eq) (.item (.var 2) (.val (.int 0))) (.val (.str [116, 101, 120, 116]))) (.meth (.var 0) 4 [.item (.var 2) (.val (.int 1))]) (.item (.var 2) (.val (.int 1))))]
noncomputable def d688 : FD := ⟨3, [], b688⟩
noncomputable def b695 : List PS := [.asgT 3 4 (.item (.var 0) (.var 1)), .ite (.cmp (.Eq) (.var 3) (.val (.str [114, 97, 110, 103, 101]))) [.ite (.cmp (.Lt) (.var 2) (.val (.int 1))) [.ret (.list [.val (.str [40, 46, 46, 46, 41])])] [], .ret (.list [.tup [.item (.var 4) (.val (.int 0)), .sub (.var 2) (.val (.int 1))], .ite (.cmp (.Eq) (.mod (.var 1) (.val (.int 2))) (.val (.int 1))) (.val (.str [46, 46, 46])) (.val (.str [46, 46])), .tup [.item (.var 4) (.val (.int 1)), .sub (.var 2) (.val (.int 1))]])] [], .ite (.and (.cmp (.Lt) (.var 2) (.val (.int 1))) (.cmp (.NotEq) (.var 4) (.list []))) [.ret (.list [.ite (.cmp (.Eq) (.var 3) (.val (.str [108, 105, 115, 116]))) (.val (.str [91, 46, 46, 46, 93])) (.val (.str [123, 46, 46, 46, 125]))])] [], .asg 5 (.list [.ite (.cmp (.Eq) (.var 3) (.val (.str [108, 105, 115, 116]))) (.val (.str [91])) (.val (.str [123]))]), .for_ 6 1 (.len (.var 4)) [.expr (.lapp (.var 5) (.ite (.cmp (.Gt) (.var 6) (.val (.int 0))) (.val (.str [44, 32])) (.val (.str [])))), .ite (.cmp (.Eq) (.var 3) (.val (.str [116, 97, 98, 108, 101]))) [.expr (.lapp (.var 5) (.ite (.cmp (.Eq) (.mod (.var 6) (.val (.int 2))) (.val (.int 0))) (.add (.strOf (.var 6)) (.val (.str [32, 61, 62, 32]))) (.add (.add (.val (.str [107])) (.strOf (.var 6))) (.val (.str [58, 32])))))] [], .expr (.lapp (.var 5) (.tup [.item (.var 4) (.var 6), .sub (.var 2) (.val (.int 1))]))], .ret (.add (.var 5) (.list [.ite (.cmp (.Eq) (.var 3) (.val (.str [108, 105, 115, 116]))) (.val (.str [93])) (.val (.str [125]))]))]
noncomputable def d695 : FD := ⟨3, [], b695⟩
noncomputable def b700 : List PS := [.asg 3 (.list [.tup [.tup [.val (.str [110, 111, 100, 101]), .var 1], .var 2]]), .while_ (.cmp (.NotEq) (.comp (.var 101) 101 0 (.var 3) (some (.not (.isin (.var 101) (.type "str"))))) (.list [])) [.asg 5 (.list []), .for_ 4 0 (.var 3) [.ite (.isin (.var 4) (.type "str")) [.expr (.lapp (.var 5) (.var 4))] [.ite (.cmp (.Eq) (.item (.item (.var 4) (.val (.int 0))) (.val (.int 0))) (.val (.str [110, 111, 100, 101]))) [.asg 5 (.add (.var 5) (.call 695 [.var 0, .item (.item (.var 4) (.val (.int 0))) (.val (.int 1)), .item (.var 4) (.val (.int 1))]))] [.asgT 6 7 (.item (.var 4) (.val (.int 0))), .expr (.lapp (.var 5) (.item (.dict [[105, 110, 116], [115, 121, 109], [116, 101, 120, 116], [119, 111, 114, 100]] [.strOf (.var 7), .add (.val (.str [58])) (.strOf (.var 7)), .add (.add (.val (.str [34])) (.strOf (.var 7))) (.val (.str [34])), .val (.str [110, 105, 108])]) (.var 6)))]]], .asg 3 (.ite (.cmp (.Eq) (.comp (.val (.int 1)) 101 0 (.var 5) (some (.not (.isin (.var 101) (.type "str"))))) (.list [])) (.list [.join [] (.comp (.var 101) 101 0 (.var 5) none)]) (.var 5))], .ret (.join [] (.var 3))]
noncomputable def d700 : FD := ⟨3, [], b700⟩
noncomputable def b705 : List PS := [.asg 3 (.comp (.tup [.val (.str [98, 121, 32, 105, 116, 115, 101, 108, 102]), .var 101]) 101 1 (.len (.var 0)) none), .for_ 4 1 (.var 1) [.asg 5 (.list []), .for_ 2 1 (.len (.var 0)) [.asgT 6 7 (.item (.var 0) (.var 2)), .asg 8 (.comp (.ite (.cmp (.Eq) (.item (.var 101) (.val (.int 0))) (.val (.str [110, 111, 100, 101]))) (.item (.var 3) (.item (.var 101) (.val (.int 1)))) (.var 101)) 101 0 (.var 7) none), .asg 9 (.ite (.cmp (.Eq) (.var 6) (.val (.str [114, 97, 110, 103, 101]))) (.cmp (.Eq) (.mod (.var 2) (.val (.int 2))) (.val (.int 1))) (.val (.bool false))), .expr (.lapp (.var 5) (.ite (.cmp (.Eq) (.var 6) (.val (.str [116, 97, 98, 108, 101]))) (.tup [.val (.str [98, 121, 32, 105, 116, 115, 101, 108, 102]), .var 2]) (.tup [.var 6, .var 9, .var 8])))], .asg 3 (.comp (.ite (.cmp (.NotEq) (.item (.var 101) (.val (.int 0))) (.val (.str [98, 121, 32, 105, 116, 115, 101, 108, 102]))) (.tup [.val (.str [99, 108, 97, 115, 115]), .lidx (.var 5) (.var 101)]) (.var 101)) 101 0 (.var 5) none)], .ret (.var 3)]
noncomputable def d705 : FD := ⟨2, [], b705⟩
noncomputable def b710 : List PS := [.asgSw 1 2 (.list [.head (.var 0) 40, .val (.int 0), .val (.int 0)]) (.new 653 [.dict [] []]), .asg 3 (.item (.list [.val (.int 2), .val (.int 3), .val (.int 1), .val (.int 4), .val (.int 6)]) (.call 664 [.var 1, .val (.int 5)])), .asg 4 (.call 676 [.var 1, .var 3]), .asg 5 (.call 681 [.var 2, .var 4]), .asg 6 (.item (.list [.val (.int 6), .val (.int 2), .val (.int 3), .val (.int 0), .val (.int 1), .val (.int 4)]) (.call 664 [.var 1, .val (.int 6)])), .for_ 7 1 (.var 3) [.ite (.cmp (.NotEq) (.call 331 [.item (.var 5) (.var 7), .var 6]) (.call 700 [.var 4, .var 7, .var 6])) [.ret (.val (.bool false))] []], .ite (.cmp (.NotEq) (.call 331 [.item (.var 5) (.val (.int 0))]) (.call 700 [.var 4, .val (.int 0), .val (.int 6)])) [.ret (.val (.bool false))] [], .asgSw 8 9 (.call 705 [.var 4, .val (.int 12)]) (.comp (.call 250 [.var 101]) 101 0 (.var 5) none), .for_ 7 1 (.var 3) [.for_ 10 1 (.var 3) [.ite (.or (.cmp (.NotEq) (.cmp (.Eq) (.item (.var 9) (.var 7)) (.item (.var 9) (.var 10))) (.cmp (.Eq) (.item (.var 8) (.var 7)) (.item (.var 8) (.var 10)))) (.cmp (.NotEq) (.call 244 [.item (.var 5) (.var 7), .item (.var 5) (.var 10)]) (.cmp (.Eq) (.var 7) (.var 10)))) [.ret (.val (.bool false))] []]], .ret (.cmp (.Eq) (.var 9) (.comp (.call 250 [.var 101]) 101 0 (.var 5) none))]
noncomputable def d710 : FD := ⟨1, [], b710⟩
noncomputable def tabLL : List (Nat × FD) := [(37, d37), (59, d59), (79, d79), (98, d98), (105, d105), (117, d117), (137, d137), (218, d218), (237, d237), (244, d244), (250, d250), (290, d290), (304, d304), (311, d311), (316, d316), (331, d331), (413, d413), (434, d434), (455, d455), (460, d460), (467, d467), (482, d482), (517, d517), (524, d524), (531, d531), (545, d545), (664, d664), (671, d671), (676, d676), (681, d681), (688, d688), (695, d695), (700, d700), (705, d705), (710, d710)]
noncomputable def tabB : Tab := fun a => tabLL.lookup a
end Mine
open PySem PySem.W PySem.Calls PyProof.Rows
namespace Mine
set_option linter.unusedVariables false
set_option maxRecDepth 100000
theorem runT_tab {T : Tab} {sc : Scr} {n : Nat} {a : Nat} {d : FD} {vs ws : List AV} {σ : Sto} (ha : fnAddrs.contains a = true) (h1 : a ≠ 1) (ho : orc a vs = none) (ht : T a = some d) (hb : bindV d vs = some ws) :
    runT T sc (n + 1) a vs σ = outC (exSs (runT T sc n) d.body (varsOf ws) σ) := by
  rw [runT_succ, if_neg h1, grd, if_pos ha, ho, ht, ite_self]
  show opt (bindV d vs) _ = _
  rw [hb]; rfl
noncomputable def σ0 (X : List AV) : Sto := [.list X, .list [.ref 0, .int 0, .int 0]]
end Mine
open PySem PySem.W PySem.Calls PyProof.Rows
namespace Mine
set_option linter.unusedVariables false
/-- the box: the list of ints at 0, its counters -/
structure Box (σ : Sto) (ns : List Int) : Prop where
  data : σ[0]? = some (.list (ns.map .int))
  few : ns.length ≤ 1000
  box : ∃ a b : Nat, σ[1]? = some (.list [.ref 0, .int a, .int b])
end Mine
open PySem PySem.W PySem.Calls PyProof.Rows
namespace Mine
set_option linter.unusedVariables false
set_option maxRecDepth 100000

/-! the written part's facts, by a look -/
noncomputable def valC (o : CFound) : Option Value := by
  induction o with
  | val v => exact some v
  | _ => exact none
theorem valC_of {o : CFound} {v : Value} : valC o = some v → o = .val v := by
  induction o with
  | val m => exact fun h => congrArg CFound.val (Option.some.inj h)
  | _ => exact no
noncomputable def clsB (K : Frag) (C a : Addr) : Bool := (findCls K (.ref C) (.type "type") "__init__").elim false fun o => decide (valC o = some (.ref a))
theorem clsB_iff {K : Frag} {C a : Addr} (h : clsB K C a = true) : findCls K (.ref C) (.type "type") "__init__" = some (.val (.ref a)) := by
  obtain ⟨o, ho, h⟩ := elimB h
  exact ho.trans (congrArg some (valC_of (of_decide_eq_true h)))
noncomputable def clB (K : Frag) (C : Addr) : Bool := plainGet K C "" && (hasDictIn K C && (((List.range fieldNames.length).all fun f => badF C f || decide (findIn K (.ref C) (fname f) = some none)) && (decide (findIn K (.ref C) "__class__" = some (some (.builtin "object.__class__"))) && (decide (mroIn K C (.type "object") = some true) && ((clsAddrs.all fun D => if superOf C D then isIn K (.ref C) D else kin_not K C D) && ((["bool", "int", "str"].all fun T => kin_notT K C T) && (makesIn K C && (keepIn K (.ref C) && (plainOver K C && (decide (findIn K (.ref C) "__setattr__" = some (some (.builtin "object.__setattr__"))) && (((List.range fieldNames.length).all fun f => decide (takerIn K C (fname f) = some none)))))))))))))
noncomputable def iniB (K : Frag) (C a : Addr) : Bool := decide (C ∈ instCls) && (decide (a ∈ fnAddrs) && (decide (findIn K (.ref C) "__init__" = some (some (.ref a))) && (clsB K C a && (readsIn K C (.type "type") && (decide (specialIn K (.ref C) "__getattribute__" = some (some (.builtin "type.__getattribute__"))))))))
noncomputable def methB (K : Frag) (C : Addr) (m : Str) (a : Addr) : Bool := decide (C ∈ instCls) && (decide (a ∈ fnAddrs) && (decide (findIn K (.ref C) m = some (some (.ref a)))))
noncomputable def kfB (K : Frag) : Bool := (instCls.all fun C => clB K C) && (decide (specialIn K (.builtin "object.__class__") "__get__" = some (some (.builtin "getset_descriptor.__get__"))) && (decide (takesIn K (.builtin "object.__class__") = some true) && ((["NoneType", "bool", "int", "str"].all fun T => clsAddrs.all fun D => isNotIn K T D) && ((fnAddrs.all fun a => isFn K (.ref a)) && ((callAddrs.all fun a => keepIn K (.ref a)) && ((initT.all fun p => iniB K p.1 p.2) && ((methT.all fun p => methB K p.1.1 (mname p.1.2) p.2))))))))
theorem allB {α : Type} {l : List α} {f : α → Bool} (h : l.all f = true) : ∀ a ∈ l, f a = true := List.all_eq_true.mp h
theorem dec {p : Prop} [Decidable p] (h : decide p = true) : p := of_decide_eq_true h
theorem ini_of {K : Frag} {C a : Addr} (h : iniB K C a = true) : C ∈ instCls ∧ a ∈ fnAddrs ∧ findIn K (.ref C) "__init__" = some (some (.ref a)) ∧ findCls K (.ref C) (.type "type") "__init__" = some (.val (.ref a)) ∧
    readsIn K C (.type "type") = true ∧ specialIn K (.ref C) "__getattribute__" = some (some (.builtin "type.__getattribute__")) :=
  ⟨dec (ands h).1, dec (ands (ands h).2).1, dec (ands (ands (ands h).2).2).1, clsB_iff (ands (ands (ands (ands h).2).2).2).1, (ands (ands (ands (ands (ands h).2).2).2).2).1, dec (ands (ands (ands (ands (ands h).2).2).2).2).2⟩
theorem meth_of {K : Frag} {C : Addr} {m : Str} {a : Addr} (h : methB K C m a = true) : C ∈ instCls ∧ a ∈ fnAddrs ∧ findIn K (.ref C) m = some (some (.ref a)) :=
  ⟨dec (ands h).1, dec (ands (ands h).2).1, dec (ands (ands h).2).2⟩
theorem fld_of {a : Bool} {p : Prop} [Decidable p] (h : (a || decide p) = true) (ha : a = false) : p := by subst ha; exact dec h
theorem kf_of {K : Frag} (h : kfB K = true) : KF K where
  get := fun C hC => (ands (allB (ands h).1 C hC)).1
  dict := fun C hC => (ands (ands (allB (ands h).1 C hC)).2).1
  make := fun C hC => (ands (ands (ands (ands (ands (ands (ands (ands (allB (ands h).1 C hC)).2).2).2).2).2).2).2).1
  kcl := fun C hC => (ands (ands (ands (ands (ands (ands (ands (ands (ands (allB (ands h).1 C hC)).2).2).2).2).2).2).2).2).1
  cls := fun C hC => dec (ands (ands (ands (ands (allB (ands h).1 C hC)).2).2).2).1
  obj := fun C hC => dec (ands (ands (ands (ands (ands (allB (ands h).1 C hC)).2).2).2).2).1
  fld := fun C hC f hf hb => fld_of (allB (ands (ands (ands (allB (ands h).1 C hC)).2).2).1 f (List.mem_range.mpr hf)) hb
  take := fun C hC f hf => dec (allB (ands (ands (ands (ands (ands (ands (ands (ands (ands (ands (ands (allB (ands h).1 C hC)).2).2).2).2).2).2).2).2).2).2).2 f (List.mem_range.mpr hf))
  isT := fun C hC D hD hs => (if_pos hs).symm.trans (allB (ands (ands (ands (ands (ands (ands (allB (ands h).1 C hC)).2).2).2).2).2).1 D hD)
  isF := fun C hC D hD hs => (if_neg (fun e => Bool.noConfusion (hs.symm.trans e))).symm.trans (allB (ands (ands (ands (ands (ands (ands (allB (ands h).1 C hC)).2).2).2).2).2).1 D hD)
  isB := fun C hC T hT => allB (ands (ands (ands (ands (ands (ands (ands (allB (ands h).1 C hC)).2).2).2).2).2).2).1 T hT
  over := fun C hC => ⟨(ands (ands (ands (ands (ands (ands (ands (ands (ands (ands (allB (ands h).1 C hC)).2).2).2).2).2).2).2).2).2).1, dec (ands (ands (ands (ands (ands (ands (ands (ands (ands (ands (ands (allB (ands h).1 C hC)).2).2).2).2).2).2).2).2).2).2).1⟩
  clsGet := dec (ands (ands h).2).1
  clsSet := dec (ands (ands (ands h).2).2).1
  prim := fun T hT D hD => allB (allB (ands (ands (ands (ands h).2).2).2).1 T hT) D hD
  fn := allB (ands (ands (ands (ands (ands h).2).2).2).2).1
  kfn := allB (ands (ands (ands (ands (ands (ands h).2).2).2).2).2).1
  ini := fun C a e => ini_of (allB (ands (ands (ands (ands (ands (ands (ands h).2).2).2).2).2).2).1 (C, a) (lkm e))
  meth := fun C m a e => meth_of (allB (ands (ands (ands (ands (ands (ands (ands h).2).2).2).2).2).2).2 ((C, m), a) (lkm e))
theorem nsIn_gl {p : Program} {loose : List Str} {mg mb : Str → Option Value} {K : Frag} {B : Heap} (X : K.In B) (T : TopRead p loose mg mb B) (h : globs.all (fun q => match nsIn K mainGlobals (Str.ofString q.1) with
      | some (some v) => decide (v = q.2)
      | some none => decide (bootBuiltins (Str.ofString q.1) = some q.2 ∧ Str.ofString q.1 ≠ "__name__")
      | none => false) = true) : ∀ x v, globOf x = some v → mg x = some v ∨ (mg x = none ∧ mb x = some v) := by
  intro x v e
  unfold globOf at e
  obtain ⟨q, hq, e2⟩ := Option.map_eq_some_iff.mp e
  have hm := List.mem_of_find?_eq_some hq
  have he := List.find?_some hq
  simp only [beq_iff_eq] at he
  have := List.all_eq_true.mp h q hm
  subst e2
  rw [he] at this
  split at this
  · rename_i u hu
    simp only [decide_eq_true_eq] at this
    subst this
    exact .inl (mg_of X T.g hu)
  · rename_i hu
    simp only [decide_eq_true_eq] at this
    exact .inr ⟨mg_none_of X T.g hu, (T.builtins x this.2).trans this.1⟩
  · (first | subst this | (injection this with this; subst this) | (injection this; done) | cases this)
end Mine
open PySem PySem.W PySem.Calls PyProof.Rows
namespace Mine
set_option linter.unusedVariables false
set_option maxRecDepth 100000

noncomputable def keyS? (v : Value) : Str := (strD v).getD ⟨#[]⟩
noncomputable def kvsOf (es : List DictEntry) : List (Str × Value) := es.map fun e => (keyS? e.key, e.val)
theorem pairs_of {prog : Program} {w : World} : ∀ {es : List DictEntry}, KeysLit w.params es → Pairs (strKind prog w) es (kvsOf es)
  | [], _ => .nil
  | e :: r, h => by
    obtain ⟨⟨x, t, hk, hh⟩, hr⟩ := h
    refine Pairs.cons ?_ rfl (pairs_of hr)
    show (strKind prog w).is (keyS? e.key) e.key = true
    rw [hk]
    exact strKind_is prog w x t
theorem dict_of {prog : Program} {w : World} {K : Frag} {B : Heap} {a : Addr} {es : Array DictEntry} {n : Nat} (X : K.In B) (hl : K.lookup a = some ⟨.type "dict", none, .dict es n, #[]⟩) (hk : KeysLit w.params es.toList) (nd : nodupB ((kvsOf es.toList).map (·.1)) = true) :
    B.DictOf (strKind prog w) a (kvsOf es.toList) :=
  ⟨_, es, n, X _ _ hl, ⟨rfl, rfl, rfl⟩, rfl, fun e he => by
    obtain ⟨x, t, e1, e2⟩ := hk.all e (Array.mem_toList_iff.mpr he)
    exact ⟨x, by rw [e1]; exact strKind_is prog w x t, e2⟩, pairs_of hk, nodupB_iff nd⟩

noncomputable def bOK (kvs : List (Str × Value)) : Bool := builtinsT.all fun p => (valueAt kvs ⟨p.1.toArray⟩).elim false fun u => valB p.2 u
noncomputable def tupB (K : Frag) (a : Addr) (vs : List AV) : Bool := (K.lookup a).elim false fun o => decide (tyV o.cls = some "tuple") && (seqD o.data).elim false fun l => valsB vs l.toList
noncomputable def mOK (K : Frag) (kvs : List (Str × Value)) : Bool := mixedT.all fun p => (valueAt kvs ⟨p.1.toArray⟩).elim p.2.isEmpty fun u => (refV u).elim false fun a => tupB K a p.2
theorem bOK_of {kvs : List (Str × Value)} (h : bOK kvs = true) : ∀ x v, builtinsAt x = some v → ∃ u, valueAt kvs ⟨x.toArray⟩ = some u ∧ ∀ I h, VR I h v u := by
  intro x v e
  obtain ⟨u, e2, h⟩ := elimB (allB h _ (lkm e))
  exact ⟨u, e2, fun _ _ => valB_of h⟩
theorem mOK_of {K : Frag} {B : Heap} (X : K.In B) {kvs : List (Str × Value)} (h : mOK K kvs = true) : ∀ x vs, mixedAt x = some vs → (vs = [] ∧ valueAt kvs ⟨x.toArray⟩ = none) ∨ ∃ a xs, valueAt kvs ⟨x.toArray⟩ = some (.ref a) ∧ IsTup B a xs ∧ VRs [] B vs xs.toList := by
  intro x vs e
  have h : (valueAt kvs ⟨x.toArray⟩).elim vs.isEmpty (fun u => (refV u).elim false fun a => tupB K a vs) = true := allB h _ (lkm e)
  cases e2 : valueAt kvs ⟨x.toArray⟩ with
  | none => rw [e2] at h; exact .inl ⟨List.isEmpty_iff.mp h, rfl⟩
  | some u =>
    rw [e2] at h
    obtain ⟨a, ha, h⟩ := elimB h
    obtain ⟨o, ho, h⟩ := elimB h
    obtain ⟨l, hl, h2⟩ := elimB (ands h).2
    obtain ⟨n, hl⟩ := seqD_of hl
    exact .inr ⟨a, l, congrArg some (refV_of ha), ⟨o, X _ _ ho, tyV_of (of_decide_eq_true (ands h).1), n, hl⟩, valsB_of h2⟩

theorem end_ok {c : ClaimW} {cl : Str → Option Addr} {mean : ExcName → Option Value} {args : List WData} {s₁ : Shared} {h : Heap} {t : Nat} (hk : ∀ b o, s₁.heap.get? b = some o → h.get? b = some o) (hg : s₁.gens = #[])
    (hr : ∀ cls, c.raises args cls = false) (hp : c.post args (.bool true) args = true) : GoodW c cl mean args s₁ (.ok (.ret (.bool true))) ⟨h, s₁.gens, s₁.drawn, t, s₁.os⟩ :=
  ⟨.inl ⟨_, _, [], rfl, hr, ReadsW.bool true, hp, fun _ => ⟨List.nodup_nil, fun _ hm => (nomatch hm)⟩⟩, hk, rfl, hg⟩

theorem walk (G : G0) (hT : ∀ a d, tabB a = some d → fnB G.K a d = true) (hO : OrcOK G) {l : Addr} {vs : List Value} {ns : List Int} (hl : G.B.IsList l vs.toArray) (hi : IntsAre vs ns)
    {nm : Str} {scope : Scope} {fa : Addr} {cd : Value} {h : Heap} {gens : Array GenState} {drawn : Drawn} {toks : Nat} {os : _} {body : List Stmt} {x : Str} {Q : Flow → Shared → Prop} {E : Value → Shared → Prop}
    (hk : scope.kind = .function) (hn : scope.names.length ≤ 100) (hnc : scope.names.all (fun p => p.2 != .cell) = true) (hx : ({ names := scope.names } : Tx).name x = some (.inl 0)) (hb : chkSs b710 { names := scope.names } body = true)
    (F : Fr G.B G.B.objs.size h fun y => List.lookup y [(x, Value.ref l)].reverse)
    (R : OS (exSs (runT tabB (l, ns) 40) b710 (varsOf [.old (.ref l)]) []) fun fl _ _ => fl = .ret (.bool true))
    (q : ∀ h' tk, (∀ b o, G.B.get? b = some o → h'.get? b = some o) → Q (.ret (.bool true)) ⟨h', gens, drawn, tk, os⟩) :
    wpAny (model G.prog G.w) (callerA.deeper (envOf nm scope G.B.objs.size fa cd)) (execs body (envOf nm scope G.B.objs.size fa cd)) Q E ⟨h, gens, drawn, toks, os⟩ := by
  have S : GSim G [] [] h := by
    constructor
    · rfl
    · exact F.keep
    · intro p hp; (first | subst hp | (injection hp with hp; subst hp) | (injection hp; done) | cases hp)
    · intro i j p q e; simp at e
    · intro i o p e; simp at e
    · intro p hp; (first | subst hp | (injection hp with hp; subst hp) | (injection hp; done) | cases hp)
  have hL : G.B.get? G.B.objs.size = none := by
    cases e : G.B.get? G.B.objs.size with
    | none => rfl
    | some o => exact absurd (Heap.lt_size e) (Nat.lt_irrefl _)
  have lk : ∀ y, (scope.names.lookup y) ≠ some .cell := fun y e => by
    have := List.all_eq_true.mp hnc (y, .cell) (mem_of_lookup e)
    simp at this
  have FF : Frm { names := scope.names } [] h (envOf nm scope G.B.objs.size fa cd) (varsOf [.old (.ref l)]) := by
    refine ⟨hk, rfl, rfl, fun y => rfl, ⟨_, F.ns⟩, fun y c e => ?_, by simp [foot], fun y c e => by simp [foot], fun y i v hy hv => ?_, fun y hy => absurd hy (lk y), hn, fun y z c e => ?_⟩
    · exact absurd e (by simp [envOf])
    · have hi : i = 0 := by
        have := (List.getElem?_eq_some_iff.mp hv).1
        simp at this; lia
      subst hi
      (first | subst hv | (injection hv with hv; subst hv) | (injection hv; done) | cases hv)
      obtain ⟨hp, hloc⟩ := name_pos hy
      obtain ⟨hp2, _⟩ := name_pos hx
      have hxy : x = y := by rw [hp2] at hp; cases hp; rfl
      subst hxy
      refine ⟨.ref l, rfl, .inl ⟨?_, _, F.ns, by simp⟩⟩
      rcases hloc with h' | h'
      · exact h'
      · exact absurd h' (lk _)
    · exact absurd e (by simp [envOf])
  have hown : OwnB G (envOf nm scope G.B.objs.size fa cd) := fun a ha => by
    rcases ha with rfl | ⟨y, hy⟩
    · exact hL
    · exact absurd hy (by simp [envOf])
  have hA : Room 40 (callerA.deeper (envOf nm scope G.B.objs.size fa cd)) := by
    refine ⟨rfl, ?_, ?_⟩
    · show 1 + 300 + 1 + 2 * 40 + 1 < 1000; decide
    · show 4 + 3 + 20 * 40 + 210 < 9900; decide
  refine wpE (chkSs_ok (t := { names := scope.names }) rfl _ _ hb ⟨G, (l, ns), 40, _, envOf nm scope G.B.objs.size fa cd, _, sound_calls hT hO ⟨vs, hl, hi⟩ 40, hA⟩ hown (s := ⟨h, gens, drawn, toks, os⟩) ⟨S, FF⟩ R fun f fl ρ' σ' I' s' e x r => ?_)
  subst e
  cases r with
  | ret r =>
    unfold VR at r
    subst r
    rw [x.st.like]
    exact q _ _ x.st.sim.base
end Mine
open PySem PySem.W PySem.Calls PyProof.Rows
namespace Mine
set_option linter.unusedVariables false
set_option maxRecDepth 100000
section
variable {prog : Program} {w : World} {A : Around} {s : Shared} {K : Frag}
theorem enterK {R : Result → Shared → Prop} {name qual : Str} {params : Arguments} {body : List Stmt} {scope : Scope} {dV kV doc pm cdv ct oc : Value} {an od : Option Addr} {osl : Array (Option Value)} {f : Addr} {us : List Value} {binds : List (Str × Value)}
    (X : K.In s.heap) (hlim : s.heap.NoLimit) (hroom : A.depth < recursionLimit)
    (ho : K.lookup f = some ⟨oc, od, .func (fnOf name qual params body scope dV kV doc pm an cdv ct), osl⟩) (hcd : codeIn K cdv qual = true) 
    (hbind : BindsTo s (fnOf name qual params body scope dV kV doc pm an cdv ct) ⟨us, []⟩ binds) (hloc : ∀ y ∈ binds, scope.names.lookup y.1 = some .local)
    (h : ∀ L h₁, Fr s.heap L h₁ (fun y => binds.reverse.lookup y) → News s.heap L h₁ [] →
      wpAny (model prog w) (A.deeper (envOf qual scope L f cdv)) (execs body (envOf qual scope L f cdv))
        (fun fl s' => R (.ok (.ret (match fl with | .ret v => v | _ => .none))) s')
        (fun e s' => wpAny (model prog w) (A.deeper (envOf qual scope L f cdv)) (leaving (envOf qual scope L f cdv) e) (fun _ s'' => R (.error e) s'') (fun e' s'' => R (.error e') s'') s')
        { s with heap := h₁, toks := s.toks + binds.length })
    (hco : scope.isCoroutine = false) (hgen : scope.isGenerator = false) (hk : scope.kind = .function)
    (hcell : ∀ x ∈ scope.names, x.2 ≠ .cell) : codeAny (model prog w) A (.call (.ref f) ⟨us, []⟩) R s := by
  refine codeAny_call_def hroom (X _ _ ho) rfl hlim (codeRec_of X hcd) rfl hbind hcell hloc (fun h₁ hns hkeep => ?_) hco hgen hk
  exact h s.heap.objs.size h₁ ⟨hns, hkeep, Nat.le_refl _⟩ (fun p hp => by (first | subst hp | (injection hp with hp; subst hp) | (injection hp; done) | cases hp))
theorem enterKC {R : Result → Shared → Prop} {name qual : Str} {params : Arguments} {body : List Stmt} {scope : Scope} {dV kV doc pm cdv ct oc : Value} {an od : Option Addr} {osl : Array (Option Value)} {f : Addr} {us : List Value} {binds : List (Str × Value)}
    (X : K.In s.heap) (hlim : s.heap.NoLimit) (hroom : A.depth < recursionLimit)
    (ho : K.lookup f = some ⟨oc, od, .func (fnOf name qual params body scope dV kV doc pm an cdv ct), osl⟩) (hcd : codeIn K cdv qual = true) 
    (hbind : BindsTo s (fnOf name qual params body scope dV kV doc pm an cdv ct) ⟨us, []⟩ binds) (hkind : (binds.all fun y => scope.names.lookup y.1 == some .local || scope.names.lookup y.1 == some .cell) = true)
    (hnd : ((cellsFrom 0 scope.names []).map (·.1)).Nodup)
    (h : ∀ L h₁ tk cells, Fr s.heap L h₁ (bindL (envOfC qual scope L f cdv).kindOf binds fun _ => none) → News s.heap L h₁ cells →
      CellsAre (bindC (envOfC qual scope L f cdv).kindOf binds fun _ => none) (cellsFrom (L + 1) scope.names []) cells →
      wpAny (model prog w) (A.deeper (envOfC qual scope L f cdv)) (execs body (envOfC qual scope L f cdv))
        (fun fl s' => R (.ok (.ret (match fl with | .ret v => v | _ => .none))) s')
        (fun e s' => wpAny (model prog w) (A.deeper (envOfC qual scope L f cdv)) (leaving (envOfC qual scope L f cdv) e) (fun _ s'' => R (.error e) s'') (fun e' s'' => R (.error e') s'') s')
        { s with heap := h₁, toks := tk })
    (hco : scope.isCoroutine = false) (hgen : scope.isGenerator = false) (hk : scope.kind = .function) : codeAny (model prog w) A (.call (.ref f) ⟨us, []⟩) R s := by
  refine codeAny_call_function (fd := fnOf name qual params body scope dV kV doc pm an cdv ct) hroom (X _ _ ho) rfl hco hgen rfl (codeRec_of X hcd) (hbind _ _ _ _ ?_)
  refine wpAny_newFunctionEnv_cells hk (kindsX hkind _) fun env' he s' x => ?_
  subst he
  refine ⟨hlim.keeps x.toInCall.keep, codeAny_func ?_⟩
  obtain ⟨h₁, tk, rfl, _⟩ := x.done
  have hk₁ := x.toInCall.keep
  obtain ⟨cells, NC, Y⟩ := Cl.news (h₀ := s.heap) (Nat.le_refl _) fun n c hm => ⟨x.cell n c (lookup_of_mem_nodup (cellsFrom_names scope.names 0 (s.heap.objs.size + 1) [] [] rfl ▸ hnd) hm), x.above n c hm⟩
  exact h s.heap.objs.size h₁ tk cells ⟨x.toInCall.ns, hk₁, Nat.le_refl _⟩ (fun p hp => ⟨(NC p hp).1, (NC p hp).2.1, (NC p hp).2.2⟩) Y
end
/-- a closed call's contract -/
noncomputable def Con (prog : Program) (w : World) (K : Frag) (Tp : Heap → Prop) (n : Nat) (f : Addr) (us : List Value) (V : Value → Prop) : Prop :=
  ∀ (A : Around) (s : Shared) (R : Result → Shared → Prop), A.handled = none → A.depth + n < recursionLimit → A.units + 20 * n < cLine → K.In s.heap → Tp s.heap →
    (∀ u h' tk, V u → s.heap.StaysIn h' → R (.ok (.ret u)) { s with heap := h', toks := tk }) → codeAny (model prog w) A (.call (.ref f) ⟨us, []⟩) R s
theorem callCon {prog : Program} {w : World} {K : Frag} {p : Program} {loose : List Str} {mean : ExcName → Option Value} {mg mb : Str → Option Value} {n : Nat} {f : Addr} {us : List Value} {V : Value → Prop} (c : Con prog w K (Top p loose mean mg mb) n f us V)
    {A : Around} {base : Heap} {L : Addr} {s : Shared} {m : Str → Option Value} {news : List (Addr × Obj)} {Q : Value → Shared → Prop} {E : Value → Shared → Prop} (ha : A.handled = none) (hd : A.depth + n < recursionLimit) (hu : A.units + 20 * n < cLine)
    (X : K.In base) (T : Top p loose mean mg mb base) (F : Fr base L s.heap m) (N : News base L s.heap news)
    (h : ∀ u h' tk, V u → Fr base L h' m → News base L h' news → Q u { s with heap := h', toks := tk }) : wpAny (model prog w) A (call (.ref f) us) Q E s := by
  refine wpAny_call (c A s _ ha hd hu (X.keeps F.keep) (T.keeps F.keep) fun u h' tk hv st => ?_)
  exact h u h' tk hv ⟨F.ns.at' fun o e => st _ o e, fun b o e => st b o (F.keep b o e), F.above⟩ fun p hp => let ⟨a, b, c⟩ := N p hp; ⟨st _ _ a, b, c⟩
noncomputable def strsOf (l : List Value) : Option (List PyData) := by
  induction l with
  | nil => exact some []
  | cons v r ih => exact opt (strD v) fun x => opt ih fun r => some (PyData.str x :: r)
theorem strsOf_reads {h : Heap} {l : List Value} : ∀ {ds : List PyData}, strsOf l = some ds → ReadsAll h l ds [] := by
  induction l with
  | nil => intro ds e; obtain rfl := Option.some.inj e; exact .nil
  | cons v r ih =>
    intro ds e
    obtain ⟨x, hx, e1⟩ := opt_some e
    obtain ⟨r', hr, e2⟩ := opt_some e1
    obtain ⟨t, rfl⟩ := strD_of hx
    obtain rfl := Option.some.inj e2
    exact ReadsAll.cons (as := []) (bs := []) (.str x t) (ih hr)
theorem inTop {prog : Program} {w : World} {K : Frag} {A : Around} {base : Heap} {L a : Addr} {s : Shared} {m : Str → Option Value} {Q : Value → Shared → Prop} {E : Value → Shared → Prop} {items : Array Value} {n : Nat} {dd : Option Addr} {sl : Array (Option Value)} {ds : List PyData} {x : Str} {t : Tok} {b : Bool}
    (hu : A.units + 2 < cLine) (X : K.In base) (F : Fr base L s.heap m) (hl : K.lookup a = some ⟨.type "tuple", dd, .seq items n, sl⟩) (r : strsOf items.toList = some ds) (h1 : (PyData.canLayAll0 ds && PyData.canLay0 (.str x)) = true) (hb : (ds.any fun y => PyData.eqv y (.str x)) = b)
    (h : Q (.bool b) s) : wpAny (model prog w) A (compareOp .In (.str x t) (.ref a)) Q E s := by
  rw [Bool.and_eq_true] at h1
  refine SeqAt.in_tuple_reads (Reads.tuple (X.keeps F.keep _ _ hl) rfl rfl (strsOf_reads r)) (.str x t) h1.1 h1.2 ?_ (by rw [hb]; exact h)
  simp only [PyData.depth]; lia
end Mine
open PySem PySem.W PySem.Calls PyProof.Rows
namespace Mine
set_option linter.unusedVariables false
set_option maxRecDepth 100000
theorem strs_cons {I : Inj} {h : Heap} {x : List Nat} {xs : List (List Nat)} : ∀ {vs : List AV} {us : List Value}, asStrs vs = some (x :: xs) → VRs I h vs us → ∃ t vs' us', us = .str ⟨x.toArray⟩ t :: us' ∧ asStrs vs' = some xs ∧ VRs I h vs' us'
  | [], _, e, _ => nomatch e
  | v :: vs, us, e, hu => by
    obtain ⟨s, hs, e⟩ := opt_some e
    obtain ⟨r, hr, e⟩ := opt_some e
    (first | subst e | (injection e with e; subst e) | (injection e; done) | cases e)
    unfold VRs at hu
    obtain ⟨u, us, rfl, r, hu⟩ := hu
    obtain ⟨t, rfl⟩ := r.ofStr hs
    exact ⟨t, vs, us, rfl, hr, hu⟩
theorem strs_nil {I : Inj} {h : Heap} : ∀ {vs : List AV} {us : List Value}, asStrs vs = some [] → VRs I h vs us → us = []
  | [], _, _, hu => hu
  | v :: vs, us, e, _ => by
    obtain ⟨s, hs, e⟩ := opt_some e
    obtain ⟨r, hr, e⟩ := opt_some e
    (first | subst e | (injection e with e; subst e) | (injection e; done) | cases e)
theorem orcOK_of {G : G0} {p : Program} {loose : List Str} {mean : ExcName → Option Value} (T : Top p loose mean G.mg G.mb G.B)
    (c1 : ∀ t t' : Tok, Con G.prog G.w G.K (Top p loose mean G.mg G.mb) 4 285 [.str (Str.ofString "b") t, .str (Str.ofString "") t'] (fun u => ∃ t, u = .str (Str.ofString "b") t))
    (c2 : ∀ t : Tok, Con G.prog G.w G.K (Top p loose mean G.mg G.mb) 8 297 [.str (Str.ofString "a") t] (fun u => ∃ t, u = .str (Str.ofString ":a") t))
    (c3 : ∀ t : Tok, Con G.prog G.w G.K (Top p loose mean G.mg G.mb) 6 264 [.str (Str.ofString "k1") t] (fun u => u = .bool true)) : OrcOK G := by
  intro a vs v e A I σ s us R hA S hu q
  have X := G.X.keeps S.base
  have T' := T.keeps S.base
  have fin : ∀ {u : Value} {h' : Heap} {tk : Nat}, s.heap.StaysIn h' → VR I h' v u → R (.ok (.ret u)) { s with heap := h', toks := tk } := fun {u h' tk} st r => q u _ ((St.refl S).go (ExtX.grow st) (Sim.grow S st)) r
  have h1 := hA.1
  have h2 : A.depth + 8 < recursionLimit := hA.2.1
  have h3 : A.units + 280 < cLine := hA.2.2
  obtain ⟨⟨ys, w⟩, hq, e⟩ := opt_some e
  obtain ⟨xs, hx, e⟩ := opt_some e
  obtain ⟨hys, e⟩ := grd_some e
  (first | subst e | (injection e with e; subst e) | (injection e; done) | cases e)
  subst hys
  rcases List.mem_cons.mp (lkm hq) with e | m
  · cases e
    obtain ⟨t1, vs, us, rfl, hx, hu⟩ := strs_cons hx hu
    obtain ⟨t2, vs, us, rfl, hx, hu⟩ := strs_cons hx hu
    cases strs_nil hx hu
    refine c1 t1 t2 A s R h1 (Nat.lt_of_le_of_lt (Nat.add_le_add_left (by decide) _) h2) (Nat.lt_of_le_of_lt (Nat.add_le_add_left (by decide) _) h3) X T' fun u h' tk hv st => ?_
    obtain ⟨t, rfl⟩ := hv
    exact fin st (VR.mkStr _ _)
  · rcases List.mem_cons.mp m with e | m
    · cases e
      obtain ⟨t1, vs, us, rfl, hx, hu⟩ := strs_cons hx hu
      cases strs_nil hx hu
      refine c2 t1 A s R h1 h2 (Nat.lt_of_le_of_lt (Nat.add_le_add_left (by decide) _) h3) X T' fun u h' tk hv st => ?_
      obtain ⟨t, rfl⟩ := hv
      exact fin st (VR.mkStr _ _)
    · cases List.mem_singleton.mp m
      obtain ⟨t1, vs, us, rfl, hx, hu⟩ := strs_cons hx hu
      cases strs_nil hx hu
      refine c3 t1 A s R h1 (Nat.lt_of_le_of_lt (Nat.add_le_add_left (by decide) _) h2) (Nat.lt_of_le_of_lt (Nat.add_le_add_left (by decide) _) h3) X T' fun u h' tk hv st => ?_
      subst hv
      exact fin st rfl
end Mine
open PySem PySem.W PySem.Calls PyProof.Rows
namespace Mine
set_option linter.unusedVariables false
set_option maxRecDepth 100000
noncomputable def glB (K : Frag) : Bool := globs.all (fun q => match nsIn K mainGlobals (Str.ofString q.1) with
      | some (some v) => decide (v = q.2)
      | some none => decide (bootBuiltins (Str.ofString q.1) = some q.2 ∧ Str.ofString q.1 ≠ "__name__")
      | none => false)
noncomputable def g0 {prog : Program} {w : World} {K : Frag} {B : Heap} {mg mb : Str → Option Value} {p : Program} {loose : List Str} {mean : ExcName → Option Value} (X : K.In B) (T : Top p loose mean mg mb B) (hkf : kfB K = true) (hgl : glB K = true)
    {es1 es2 : Array DictEntry} {n1 n2 : Nat} (l1 : K.lookup 387 = some ⟨.type "dict", none, .dict es1 n1, #[]⟩) (k1 : KeysLit w.params es1.toList) (d1 : nodupB ((kvsOf es1.toList).map (·.1)) = true) (b1 : bOK (kvsOf es1.toList) = true)
    (l2 : K.lookup 390 = some ⟨.type "dict", none, .dict es2 n2, #[]⟩) (k2 : KeysLit w.params es2.toList) (d2 : nodupB ((kvsOf es2.toList).map (·.1)) = true) (b2 : mOK K (kvsOf es2.toList) = true)
    {o710 : Obj} (l3 : K.lookup 710 = some o710) {its : Array Value} {n3 : Nat} {dd : Option Addr} {sl : Array (Option Value)} (l4 : K.lookup 386 = some ⟨.type "tuple", dd, .seq its n3, sl⟩) (b4 : strsOf its.toList = some [.str ⟨kernName.toArray⟩, .str ⟨cmpName.toArray⟩, .str ⟨enumName.toArray⟩]) : G0 :=
  { prog := prog, w := w, K := K, B := B, mg := mg, mb := mb, X := X, lim := T.nolimit, g := T.g, b := T.b, gl := nsIn_gl X (topRead_of T) hgl,
    bdict := ⟨_, dict_of X l1 k1 d1, bOK_of b1⟩, mdict := ⟨_, dict_of X l2 k2 d2, mOK_of X b2⟩, size := ⟨_, X _ _ l3⟩, kf := kf_of hkf, mods := ⟨_, Reads.tuple (X _ _ l4) rfl rfl (strsOf_reads b4)⟩ }
end Mine
namespace Mine
theorem tab_all {K : Frag} : ∀ {L : List (Nat × FD)}, (L.all fun q => fnB K q.1 q.2) = true → ∀ a d, L.lookup a = some d → fnB K a d = true
  | [], _, a, d, e => by simp at e
  | q :: L, h, a, d, e => by
    rw [List.lookup_cons] at e
    split at e
    · rename_i hb
      (first | subst e | (injection e with e; subst e) | (injection e; done) | cases e)
      rw [beq_iff_eq.mp hb]
      exact (ands h).1
    · exact tab_all (ands h).2 a d e
theorem hT_of {K : Frag} (h : (tabLL.all fun q => fnB K q.1 q.2) = true) : ∀ a d, tabB a = some d → fnB K a d = true := tab_all h
end Mine
open PySem PySem.W PySem.Calls PyProof.Rows
namespace Mine
set_option linter.unusedVariables false

/-! the plain side: nodes, what is shown, codes, marks -/
inductive Sc where | n1 | sa | tb | n2 | te | nl
  deriving DecidableEq
inductive Pt where | node (k : Nat) | sc (s : Sc)
inductive Kd where | list | table | range
  deriving DecidableEq
structure Nd where
  kd : Kd
  ps : List Pt
noncomputable abbrev sInt : List Nat := [105, 110, 116]
noncomputable abbrev sSym : List Nat := [115, 121, 109]
noncomputable abbrev sText : List Nat := [116, 101, 120, 116]
noncomputable abbrev sWord : List Nat := [119, 111, 114, 100]
noncomputable abbrev sNode : List Nat := [110, 111, 100, 101]
noncomputable abbrev sList : List Nat := [108, 105, 115, 116]
noncomputable abbrev sTable : List Nat := [116, 97, 98, 108, 101]
noncomputable abbrev sRange : List Nat := [114, 97, 110, 103, 101]
noncomputable abbrev sThing : List Nat := [116, 104, 105, 110, 103]
noncomputable abbrev sNil : List Nat := [110, 105, 108]
noncomputable abbrev sSelf : List Nat := [98, 121, 32, 105, 116, 115, 101, 108, 102]
noncomputable abbrev sClass : List Nat := [99, 108, 97, 115, 115]
noncomputable def Sc.tag : Sc → List Nat
  | .n1 | .n2 => sInt | .sa => sSym | .tb | .te => sText | .nl => sWord
noncomputable def Sc.val : Sc → AV
  | .n1 => .int 1 | .n2 => .int 2 | .sa => .str [97] | .tb => .str [98] | .te => .str [] | .nl => .none
noncomputable def Sc.av (s : Sc) : AV := .tup [.str s.tag, s.val]
noncomputable def Pt.av : Pt → AV
  | .node k => .tup [.str sNode, .int k]
  | .sc s => s.av
noncomputable def Kd.nm : Kd → List Nat
  | .list => sList | .table => sTable | .range => sRange
noncomputable def Sc.shown : Sc → List Nat
  | .n1 => [49] | .n2 => [50] | .sa => [58, 97] | .tb => [34, 98, 34] | .te => [34, 34] | .nl => sNil
noncomputable def keyS (i : Nat) : List Nat := if i % 2 = 0 then [48 + i] ++ [32, 61, 62, 32] else [107] ++ [48 + i] ++ [58, 32]
noncomputable def joinC (s sep r : List Nat) (l : List (List Nat)) : List Nat := by
  induction l using lcs with
  | nil => exact s
  | cons => exact s ++ sep ++ r
noncomputable def joinS (sep : List Nat) : List (List Nat) → List Nat
  | [] => []
  | s :: l => joinC s sep (joinS sep l) l
theorem joinS_one {sep s : List Nat} : joinS sep [s] = s := rfl
theorem joinS_cons {sep s t : List Nat} {l : List (List Nat)} : joinS sep (s :: t :: l) = s ++ sep ++ joinS sep (t :: l) := rfl
noncomputable def Pt.shw (f : Nat → List Nat) : Pt → List Nat
  | .node k => f k
  | .sc s => s.shown
noncomputable def dots (k : Nat) : List Nat := if k % 2 = 1 then [46, 46, 46] else [46, 46]
noncomputable def keyed (f : Nat → List Nat) : Nat → List Pt → List (List Nat)
  | _, [] => []
  | i, p :: ps => (keyS i ++ p.shw f) :: keyed f (i + 1) ps
noncomputable def Pt.nd : Pt → Nat
  | .node k => k
  | .sc _ => 0
noncomputable def nd0 (ps : List Pt) (i : Nat) : Nat := (ps.getD i (.node 0)).nd
noncomputable def shw0 (n : Nd) : List Nat := match n.kd with
  | .range => [40, 46, 46, 46, 41]
  | .list => bif n.ps.isEmpty then [91, 93] else [91, 46, 46, 46, 93]
  | .table => bif n.ps.isEmpty then [123, 125] else [123, 46, 46, 46, 125]
noncomputable def shwN (f : Nat → List Nat) (k : Nat) (n : Nd) : List Nat := match n.kd with
  | .range => f (nd0 n.ps 0) ++ dots k ++ f (nd0 n.ps 1)
  | .list => [91] ++ joinS [44, 32] (n.ps.map (Pt.shw f)) ++ [93]
  | .table => [123] ++ joinS [44, 32] (keyed f 0 n.ps) ++ [125]
/-- how a node is shown -/
noncomputable def Shw (N : List Nd) : Nat → Nat → List Nat
  | 0, k => (N[k]?).elim [] shw0
  | d + 1, k => (N[k]?).elim [] (shwN (Shw N d) k)
theorem Shw_0 {N : List Nd} {k : Nat} {n : Nd} (h : N[k]? = some n) : Shw N 0 k = shw0 n := congrArg (fun o => Option.elim o [] shw0) h
theorem Shw_s {N : List Nd} {d k : Nat} {n : Nd} (h : N[k]? = some n) : Shw N (d + 1) k = shwN (Shw N d) k n := congrArg (fun o => Option.elim o [] (shwN (Shw N d) k)) h
theorem Shw_no {N : List Nd} {k : Nat} (h : N[k]? = none) : ∀ d, Shw N d k = []
  | 0 => congrArg (fun o => Option.elim o [] shw0) h
  | d + 1 => congrArg (fun o => Option.elim o [] (shwN (Shw N d) k)) h
noncomputable def Pt.ok (m : Nat) : Pt → Prop
  | .node k => k < m
  | .sc _ => True
/-- the nodes that the law builds -/
structure Nodes (N : List Nd) : Prop where
  pos : 0 < N.length
  few : N.length ≤ 6
  short : ∀ n ∈ N, n.ps.length ≤ 3
  ok : ∀ n ∈ N, ∀ p ∈ n.ps, p.ok N.length
  rng : ∀ n ∈ N, n.kd = .range → ∃ a b pa pb, n.ps = [.node a, .node b] ∧ N[a]? = some ⟨.list, pa⟩ ∧ N[b]? = some ⟨.list, pb⟩

/-! codes -/
noncomputable abbrev pStr (s : List Nat) : PyData := .str ⟨s.toArray⟩
noncomputable def Sc.ctag : Sc → List Nat
  | .n1 | .n2 => sInt | .sa => sSym | .tb | .te => sText | .nl => sNil
noncomputable def Sc.vpy : Sc → PyData
  | .n1 => .int 1 | .n2 => .int 2 | .sa => pStr [97] | .tb => pStr [98] | .te => pStr [] | .nl => .none
noncomputable def Sc.cod (s : Sc) : PyData := .tuple [pStr s.ctag, s.vpy]
noncomputable def Pt.cod (f : Nat → PyData) : Pt → PyData
  | .node k => f k
  | .sc s => s.cod
noncomputable def thingC (num : Nat → Int) (k : Nat) : PyData := .tuple [pStr sThing, .int (num k)]
noncomputable def codN (num : Nat → Int) (f : Nat → PyData) (k : Nat) (n : Nd) : PyData := match n.kd with
  | .list => .tuple [pStr sList, .tuple (n.ps.map (Pt.cod f))]
  | .range => .tuple [pStr sRange, f (nd0 n.ps 0), f (nd0 n.ps 1), .bool (decide (k % 2 = 1))]
  | .table => thingC num k
noncomputable def Cod (N : List Nd) (num : Nat → Int) : Nat → Nat → PyData
  | 0, k => thingC num k
  | d + 1, k => (N[k]?).elim (thingC num k) (codN num (Cod N num d) k)
theorem Cod_s {N : List Nd} {num : Nat → Int} {d k : Nat} {n : Nd} (h : N[k]? = some n) : Cod N num (d + 1) k = codN num (Cod N num d) k n := congrArg (fun o => Option.elim o (thingC num k) (codN num (Cod N num d) k)) h

/-! marks -/
inductive Mark where | self (k : Nat) | cls (i : Nat)
  deriving DecidableEq, Inhabited
inductive MI where | m (x : Mark) | s (s : Sc)
  deriving DecidableEq
inductive Sign where | self (k : Nat) | sg (kd : Kd) (odd : Bool) (inner : List MI)
  deriving DecidableEq
noncomputable def Mark.av : Mark → AV
  | .self k => .tup [.str sSelf, .int k]
  | .cls i => .tup [.str sClass, .int i]
noncomputable def Pt.mi (ms : List Mark) : Pt → MI
  | .node k => .m (ms.getD k default)
  | .sc s => .s s
noncomputable def signOf (ms : List Mark) (k : Nat) (n : Nd) : Sign := match n.kd with
  | .table => .self k
  | kd => .sg kd (decide (kd = .range) && decide (k % 2 = 1)) (n.ps.map (Pt.mi ms))
noncomputable def signs (N : List Nd) (ms : List Mark) : List Sign := N.mapIdx (signOf ms)
noncomputable def markOf (sg : List Sign) : Sign → Mark
  | .self k => .self k
  | s => .cls (sg.idxOf s)
noncomputable def Marks (N : List Nd) : Nat → List Mark
  | 0 => (List.range N.length).map .self
  | r + 1 => (signs N (Marks N r)).map (markOf (signs N (Marks N r)))

theorem eqv_str {s t : List Nat} : PyData.eqv (pStr s) (pStr t) = decide (s = t) := by
  rw [Bool.eq_iff_iff]; simp [PyData.eqv]
theorem eqv_int {i j : Int} : PyData.eqv (.int i) (.int j) = decide (i = j) := by
  rw [Bool.eq_iff_iff]; simp [PyData.eqv]
theorem eqv_tup {s t : List Nat} {xs ys : List PyData} : PyData.eqv (.tuple (pStr s :: xs)) (.tuple (pStr t :: ys)) = (decide (s = t) && PyData.eqvAll xs ys) := congrArg (· && PyData.eqvAll xs ys) eqv_str
theorem eqv_tag {s t : List Nat} {xs ys : List PyData} (h : s ≠ t) : PyData.eqv (.tuple (pStr s :: xs)) (.tuple (pStr t :: ys)) = false := by
  rw [eqv_tup, decide_eq_false h, Bool.false_and]
theorem eqv_same {s : List Nat} {xs ys : List PyData} : PyData.eqv (.tuple (pStr s :: xs)) (.tuple (pStr s :: ys)) = PyData.eqvAll xs ys := by
  rw [eqv_tup, decide_eq_true rfl, Bool.true_and]
theorem eqv_pair {s t : List Nat} {D E : PyData} : PyData.eqv (.tuple [pStr s, D]) (.tuple [pStr t, E]) = (decide (s = t) && PyData.eqv D E) := eqv_tup.trans (congrArg (decide (s = t) && ·) (Bool.and_true _))
theorem no_iff {a b : PyData} {P : Prop} (h : PyData.eqv a b = false) (g : ¬P) : PyData.eqv a b = true ↔ P := ⟨fun e => Bool.noConfusion (h.symm.trans e), fun p => (g p).elim⟩
theorem of_beq {P : Prop} [Decidable P] {b : Bool} (h : (b == decide P) = true) : b = true ↔ P := eq_of_beq h ▸ decide_eq_true_iff
theorem sc_cod (s t : Sc) : PyData.eqv s.cod t.cod = true ↔ s = t := of_beq (by rcases s <;> rcases t <;> rfl)
/-- the words that a node's code begins with -/
noncomputable def ndTag (t : List Nat) : Bool := t == sThing || t == sList || t == sRange
theorem ne_ctag {t : List Nat} (h : ndTag t = true) (s : Sc) : t ≠ s.ctag := by
  rintro rfl
  revert h
  rcases s <;> exact fun h => Bool.noConfusion h
theorem cod_tag (N : List Nd) (num : Nat → Int) (d k : Nat) : ∃ t xs, Cod N num d k = .tuple (pStr t :: xs) ∧ ndTag t = true := by
  induction d using ncs with
  | zero => exact ⟨_, _, rfl, rfl⟩
  | succ d =>
    unfold Cod
    induction N[k]? with
    | none => exact ⟨_, _, rfl, rfl⟩
    | some n =>
      obtain ⟨kd, ps⟩ := n
      rcases kd <;> exact ⟨_, _, rfl, rfl⟩
theorem cod_sc (N : List Nd) (num : Nat → Int) (d k : Nat) (s : Sc) : PyData.eqv (Cod N num d k) s.cod = false ∧ PyData.eqv s.cod (Cod N num d k) = false := by
  obtain ⟨t, xs, h, g⟩ := cod_tag N num d k
  rw [h]
  exact ⟨eqv_tag (ne_ctag g s), eqv_tag (ne_ctag g s).symm⟩

theorem Marks_length (N : List Nd) : ∀ r, (Marks N r).length = N.length
  | 0 => by simp [Marks]
  | r + 1 => by simp [Marks, signs]

theorem cons_iff {α : Type} {a b : α} {l m : List α} : a :: l = b :: m ↔ a = b ∧ l = m := ⟨fun h => List.cons.inj h, fun h => by rw [h.1, h.2]⟩
theorem eqvAll_map {N : List Nd} {num : Nat → Int} {ms : List Mark} {d : Nat} (hn : ms.length = N.length) (ih : ∀ k l, k < N.length → l < N.length → (PyData.eqv (Cod N num d k) (Cod N num d l) = true ↔ ms[k]? = ms[l]?)) :
    ∀ (ps qs : List Pt), (∀ p ∈ ps, p.ok N.length) → (∀ p ∈ qs, p.ok N.length) → (PyData.eqvAll (ps.map (Pt.cod (Cod N num d))) (qs.map (Pt.cod (Cod N num d))) = true ↔ ps.map (Pt.mi ms) = qs.map (Pt.mi ms)) := by
  intro ps
  induction ps with
  | nil =>
    intro qs _ _
    induction qs using lcs with
    | nil => exact ⟨fun _ => rfl, fun _ => rfl⟩
    | cons q qs => exact ⟨fun h => (nomatch h), fun h => (nomatch h)⟩
  | cons p ps ih2 =>
    intro qs hp hq
    induction qs using lcs with
    | nil => exact ⟨fun h => (nomatch h), fun h => (nomatch h)⟩
    | cons q qs =>
      have h1 := ih2 qs (fun x hx => hp x (List.mem_cons_of_mem _ hx)) (fun x hx => hq x (List.mem_cons_of_mem _ hx))
      have h2 : PyData.eqv (p.cod (Cod N num d)) (q.cod (Cod N num d)) = true ↔ p.mi ms = q.mi ms := by
        have op := hp p List.mem_cons_self
        have oq := hq q List.mem_cons_self
        induction p with
        | node k =>
          induction q with
          | node l =>
            have gd : ∀ {k : Nat}, k < N.length → ms[k]? = some (ms.getD k default) := fun {k} h => by rw [List.getD_eq_getElem?_getD, List.getElem?_eq_getElem (hn ▸ h)]; rfl
            refine (ih k l op oq).trans ?_
            rw [gd op, gd oq]
            exact ⟨fun h => congrArg MI.m (Option.some.inj h), fun h => congrArg some (MI.m.inj h)⟩
          | sc s => exact no_iff (cod_sc N num d k s).1 fun h => nomatch h
        | sc s =>
          induction q with
          | node l => exact no_iff (cod_sc N num d l s).2 fun h => nomatch h
          | sc t => exact (sc_cod s t).trans ⟨fun h => congrArg MI.s h, fun h => MI.s.inj h⟩
      exact Bool.and_eq_true_iff.trans ((and_congr h2 h1).trans cons_iff.symm)

theorem idxOf_iff {α : Type} [DecidableEq α] {l : List α} {a b : α} (ha : a ∈ l) : l.idxOf a = l.idxOf b ↔ a = b := by
  constructor
  · intro h
    have hlt : l.idxOf a < l.length := List.idxOf_lt_length_iff.mpr ha
    have h1 : l[l.idxOf a] = a := List.getElem_idxOf hlt
    have h2 : l[l.idxOf b]'(h ▸ hlt) = b := List.getElem_idxOf (h ▸ hlt)
    rw [← h1, ← h2]
    congr 1
  · rintro rfl; rfl
theorem range_nd {N : List Nd} (H : Nodes N) {k : Nat} {ps : List Pt} (e : N[k]? = some ⟨.range, ps⟩) : ∃ a b, ps = [.node a, .node b] ∧ a < N.length ∧ b < N.length := by
  obtain ⟨a, b, pa, pb, h, ha, hb⟩ := H.rng _ (List.mem_of_getElem? e) rfl
  exact ⟨a, b, h, (List.getElem?_eq_some_iff.mp ha).1, (List.getElem?_eq_some_iff.mp hb).1⟩

theorem cls_iff {sg : List Sign} {a b : Sign} (ha : a ∈ sg) : Mark.cls (sg.idxOf a) = .cls (sg.idxOf b) ↔ a = b := ⟨fun h => (idxOf_iff ha).mp (Mark.cls.inj h), fun h => by rw [h]⟩
theorem mark_at {N : List Nd} {r k : Nat} {n : Nd} (e : N[k]? = some n) : (Marks N (r + 1))[k]? = some (markOf (signs N (Marks N r)) (signOf (Marks N r) k n)) := by
  simp only [Marks, List.getElem?_map]
  rw [signs, List.getElem?_mapIdx, e]
  rfl
theorem sign_mem {N : List Nd} {r k : Nat} {n : Nd} (e : N[k]? = some n) : signOf (Marks N r) k n ∈ signs N (Marks N r) := by
  refine List.mem_of_getElem? (i := k) ?_
  rw [signs, List.getElem?_mapIdx, e]
  rfl
theorem some_iff {α : Type} {a b : α} : some a = some b ↔ a = b := ⟨fun h => Option.some.inj h, fun h => congrArg some h⟩
theorem thg {num : Nat → Int} {k l : Nat} (h : num k = num l → k = l) : PyData.eqv (thingC num k) (thingC num l) = true ↔ k = l := by
  unfold thingC
  rw [eqv_pair, decide_eq_true rfl, Bool.true_and, eqv_int, decide_eq_true_iff]
  exact ⟨h, fun h => by rw [h]⟩
theorem codes_marks {N : List Nd} (H : Nodes N) {num : Nat → Int} (hnum : ∀ k l, k < N.length → l < N.length → num k = num l → k = l) :
    ∀ r k l, k < N.length → l < N.length → (PyData.eqv (Cod N num r k) (Cod N num r l) = true ↔ (Marks N r)[k]? = (Marks N r)[l]?) := by
  intro r
  induction r with
  | zero =>
    intro k l hk hl
    refine (thg (hnum k l hk hl)).trans ?_
    have at' : ∀ {k}, k < N.length → (Marks N 0)[k]? = some (.self k) := fun {k} h => by
      unfold Marks
      rw [List.getElem?_map, List.getElem?_range h]; rfl
    rw [at' hk, at' hl]
    exact ⟨fun h => by rw [h], fun h => Mark.self.inj (Option.some.inj h)⟩
  | succ r ih =>
    intro k l hk hl
    have am := eqvAll_map (num := num) (Marks_length N r) ih
    obtain ⟨⟨dk, pk⟩, ek⟩ : ∃ n, N[k]? = some n := ⟨_, List.getElem?_eq_getElem hk⟩
    obtain ⟨⟨dl, pl⟩, el⟩ : ∃ n, N[l]? = some n := ⟨_, List.getElem?_eq_getElem hl⟩
    have okk := H.ok _ (List.mem_of_getElem? ek)
    have okl := H.ok _ (List.mem_of_getElem? el)
    have mmk := sign_mem (r := r) ek
    rw [mark_at ek, mark_at el, Cod_s ek, Cod_s el]
    refine Iff.trans ?_ some_iff.symm
    induction dk with
    | table =>
      induction dl with
      | table => exact (thg (hnum k l hk hl)).trans ⟨fun h => congrArg Mark.self h, fun h => Mark.self.inj h⟩
      | list => exact no_iff (eqv_tag (by decide)) fun h => nomatch h
      | range => exact no_iff (eqv_tag (by decide)) fun h => nomatch h
    | list =>
      induction dl with
      | table => exact no_iff (eqv_tag (by decide)) fun h => nomatch h
      | list =>
        refine Iff.trans ?_ (cls_iff mmk).symm
        refine Eq.to_iff (congrArg (· = true) (eqv_pair.trans (Bool.true_and _))) |>.trans ((am pk pl okk okl).trans ?_)
        exact ⟨fun h => congrArg (Sign.sg .list false) h, fun h => (Sign.sg.inj h).2.2⟩
      | range => exact no_iff (eqv_tag (by decide)) fun h => nomatch (Sign.sg.inj ((cls_iff mmk).mp h)).1
    | range =>
      obtain ⟨a, b, rfl, ha, hb⟩ := range_nd H ek
      induction dl with
      | table => exact no_iff (eqv_tag (by decide)) fun h => nomatch h
      | list => exact no_iff (eqv_tag (by decide)) fun h => nomatch (Sign.sg.inj ((cls_iff mmk).mp h)).1
      | range =>
        obtain ⟨a', b', rfl, ha', hb'⟩ := range_nd H el
        refine Iff.trans ?_ (cls_iff mmk).symm
        have h1 := (am [.node a, .node b] [.node a', .node b'] okk okl)
        refine Iff.trans (b := (PyData.eqv (Cod N num r a) (Cod N num r a') && (PyData.eqv (Cod N num r b) (Cod N num r b') && true)) = true ∧ decide (k % 2 = 1) = decide (l % 2 = 1)) ?_ ?_
        · refine (Eq.to_iff (congrArg (· = true) (eqv_same (s := sRange)))).trans ?_
          show (PyData.eqv (Cod N num r a) (Cod N num r a') && (PyData.eqv (Cod N num r b) (Cod N num r b') && ((decide (k % 2 = 1) == decide (l % 2 = 1)) && true))) = true ↔ _
          rw [Bool.and_true, Bool.and_true, ← Bool.and_assoc, Bool.and_eq_true_iff, beq_iff_eq]
        · refine (and_congr_left' h1).trans ⟨fun h => by rw [show signOf (Marks N r) k ⟨.range, [.node a, .node b]⟩ = .sg .range (decide (k % 2 = 1)) ([Pt.node a, .node b].map (Pt.mi (Marks N r))) from rfl, h.1, h.2]; rfl, fun h => ⟨(Sign.sg.inj h).2.2, (Sign.sg.inj h).2.1⟩⟩
end Mine
open PySem PySem.W PySem.Calls PyProof.Rows
namespace Mine
set_option linter.unusedVariables false
set_option linter.unusedSimpArgs false
set_option maxRecDepth 100000
/-! what a run of the small machine must meet: see N4 -/
structure WE (C : Calls) (e : PE) (ρ : Vars) (σ : Sto) (Q : AV → Sto → Prop) : Prop where
  ok : OK (evE C e ρ σ) Q
structure WEs (C : Calls) (es : List PE) (ρ : Vars) (σ : Sto) (Q : List AV → Sto → Prop) : Prop where
  ok : OK (evEs C es ρ σ) Q
structure WS (C : Calls) (ss : List PS) (ρ : Vars) (σ : Sto) (Q : Fl → Vars → Sto → Prop) : Prop where
  ok : OS (exSs C ss ρ σ) Q
/-! what is left to do, by name -/
inductive KInst (o : Option AO) (P : Addr → List (Nat × AV) → Prop) : Prop | mk (D : Addr) (fs : List (Nat × AV)) (h : o = some (.inst D fs)) (q : P D fs)
inductive KF3 (o : Option AV) (Q : AV → Sto → Prop) (σ : Sto) : Prop | mk (u : AV) (h : o = some u) (h2 : isOld u = false) (q : Q u σ)
inductive KM3 (o : Option Addr) (b : Bool) (P : Addr → Prop) : Prop | mk (a : Addr) (h : o = some a) (hb : b = false) (q : P a)
inductive KInt2 (u v : AV) (P : Int → Int → Prop) : Prop | mk (i j : Int) (h1 : u = .int i) (h2 : v = .int j) (q : P i j)
inductive KB (u : AV) (A B : Prop) : Prop | mk (t : Bool) (h : u = .bool t) (a : t = true → A) (b : t = false → B)
inductive KBo (u : AV) (A B : Prop) : Prop | mk (t : Bool) (h : u = .bool t) (a : t = false → A) (b : t = true → B)
theorem KB.el {u : AV} {A B M : Prop} (h : KB u A B) (k1 : u = .bool true → A → M) (k2 : u = .bool false → B → M) : M := by
  obtain ⟨t, h, a, b⟩ := h
  (first | subst t | (injection t with t; subst t) | (injection t; done) | cases t)
  · exact k2 h (b rfl)
  · exact k1 h (a rfl)
theorem KBo.el {u : AV} {A B M : Prop} (h : KBo u A B) (k1 : u = .bool false → A → M) (k2 : u = .bool true → B → M) : M := by
  obtain ⟨t, h, a, b⟩ := h
  (first | subst t | (injection t with t; subst t) | (injection t; done) | cases t)
  · exact k1 h (a rfl)
  · exact k2 h (b rfl)
inductive KN (u : AV) (P : Bool → Prop) : Prop | mk (t : Bool) (h : u = .bool t) (q : P t)
inductive KNat (u : AV) (P : Nat → Prop) : Prop | mk (k : Nat) (h : u = .int k) (q : P k)
inductive KStr (u : AV) (P : List Nat → Prop) : Prop | mk (k : List Nat) (h : u = .str k) (q : P k)
inductive KRef (o : AV) (A : Prop) (P : Nat → Prop) : Prop | mk (r : Nat) (h : o = .ref r) (a : A) (q : P r)
inductive KList (o : Option AO) (P : List AV → Prop) : Prop | mk (vs : List AV) (h : o = some (.list vs)) (q : P vs)
inductive KTwo (v : AV) (σ : Sto) (P : AV → AV → Prop) : Prop | mk (a b : AV) (h : v = .tup [a, b] ∨ asList σ v = some [a, b]) (q : P a b)
noncomputable abbrev K1 := AV → Sto → Prop
noncomputable abbrev kAt (Q : K1) (σ : Sto) : AV → Prop := fun v => Q v σ
noncomputable abbrev kBool (Q : K1) (σ : Sto) : Bool → Prop := fun b => Q (.bool b) σ
section
variable {C : Calls} {ρ : Vars} {σ : Sto} {Q : AV → Sto → Prop} {Qs : List AV → Sto → Prop}
noncomputable abbrev kCons2 (v : AV) (Qs : List AV → Sto → Prop) : List AV → Sto → Prop := fun vs σ => Qs (v :: vs) σ
noncomputable abbrev kCons (C : Calls) (es : List PE) (ρ : Vars) (Qs : List AV → Sto → Prop) : K1 := fun v σ => WEs C es ρ σ (kCons2 v Qs)
theorem rEs_nil (h : Qs [] σ) : WEs C [] ρ σ Qs := ⟨h⟩
theorem rEs_cons {e es} (h : WE C e ρ σ (kCons C es ρ Qs)) : WEs C (e :: es) ρ σ Qs := ⟨OK.bnd (OK_mono h.ok fun _ _ h => OK.bnd (OK_mono h.ok fun _ _ h => h))⟩
theorem rE_val {v} (h : Q v σ) : WE C (.val v) ρ σ Q := ⟨h⟩
theorem rE_var {x} (h : KSome (ρ x) (kAt Q σ)) : WE C (.var x) ρ σ Q := ⟨by obtain ⟨_, h1, h2⟩ := h; exact OK.opt h1 h2⟩
noncomputable abbrev kFld (f : Nat) (Q : K1) (σ : Sto) : Addr → List (Nat × AV) → Prop := fun D fs => KF3 (fget D fs f) Q σ
noncomputable abbrev kAttr (f : Nat) (Q : K1) : K1 := fun v σ => KInst (memO σ v) (kFld f Q σ)
theorem rE_attr {e f} (h : WE C e ρ σ (kAttr f Q)) : WE C (.attr e f) ρ σ Q := ⟨OK.bnd (OK_mono h.ok fun _ _ h => by obtain ⟨D, fs, h2, ⟨_, h3, h4, h5⟩⟩ := h; exact OK.opt (a := (D, fs)) (congrArg instO h2) (OK.opt h3 (OK.grd h4 h5)))⟩
noncomputable abbrev kCall (C : Calls) (a : Addr) (Q : K1) : List AV → Sto → Prop := fun vs σ => OK (C a vs σ) Q
theorem rE_call {a es} (h : WEs C es ρ σ (kCall C a Q)) : WE C (.call a es) ρ σ Q := ⟨OK.bnd h.ok⟩
theorem rE_ccall {D a es} (h : WEs C es ρ σ (kCall C a Q)) : WE C (.ccall D a es) ρ σ Q := ⟨OK.bnd h.ok⟩
noncomputable abbrev kHead (C : Calls) (n : Nat) (Q : K1) : K1 := fun v σ => OK (C 1 [v, .int n] σ) Q
theorem rE_head {e n} (h : WE C e ρ σ (kHead C n Q)) : WE C (.head e n) ρ σ Q := ⟨OK.bnd h.ok⟩
noncomputable abbrev kNewR (L : Nat) (Q : K1) : K1 := fun r σ' => r = .none ∧ Q (.ref L) σ'
noncomputable abbrev kNewC (C : Calls) (D : Addr) (vs : List AV) (σ : Sto) (Q : K1) : Addr → Prop := fun a => OK (C a (.ref σ.length :: vs) (σ ++ [.inst D []])) (kNewR σ.length Q)
noncomputable abbrev kNew (C : Calls) (D : Addr) (Q : K1) : List AV → Sto → Prop := fun vs σ => KSome (initOf D) (kNewC C D vs σ Q)
theorem rE_new {D es} (h : WEs C es ρ σ (kNew C D Q)) : WE C (.new D es) ρ σ Q := ⟨OK.bnd (OK_mono h.ok fun _ _ h => by obtain ⟨_, h2, h3⟩ := h; exact OK.opt h2 (OK.bnd (OK_mono h3 fun _ _ h => OK.opt (a := ()) (congrArg asNone h.1) h.2)))⟩
noncomputable abbrev kMcall (C : Calls) (a : Addr) (o : AV) (Q : K1) : List AV → Sto → Prop := fun vs σ => OK (C a (o :: vs) σ) Q
noncomputable abbrev kMarg (C : Calls) (es : List PE) (ρ : Vars) (o : AV) (σ : Sto) (Q : K1) : Addr → Prop := fun a => WEs C es ρ σ (kMcall C a o Q)
noncomputable abbrev kMeth2 (C : Calls) (m : Nat) (es : List PE) (ρ : Vars) (o : AV) (σ : Sto) (Q : K1) : Addr → List (Nat × AV) → Prop := fun D fs => KM3 (methOf D m) (fs.any (fun p => fieldNames[p.1]? == methNames[m]?)) (kMarg C es ρ o σ Q)
noncomputable abbrev kMeth (C : Calls) (m : Nat) (es : List PE) (ρ : Vars) (Q : K1) : K1 := fun o σ => KInst (memO σ o) (kMeth2 C m es ρ o σ Q)
theorem rE_meth {e m es} (h : WE C e ρ σ (kMeth C m es ρ Q)) : WE C (.meth e m es) ρ σ Q := ⟨OK.bnd (OK_mono h.ok fun _ _ h => by obtain ⟨D, fs, h2, ⟨_, h3, h4, h5⟩⟩ := h; exact OK.opt (a := (D, fs)) (congrArg instO h2) (OK.opt h3 (OK.grd h4 (OK.bnd h5.ok))))⟩
noncomputable abbrev kLen2 (Q : K1) (σ : Sto) : Nat → Prop := fun n => n < 1000000 ∧ Q (.int n) σ
noncomputable abbrev kLen (Q : K1) : K1 := fun v σ => KSome (lenV σ v) (kLen2 Q σ)
theorem rE_len {e} (h : WE C e ρ σ (kLen Q)) : WE C (.len e) ρ σ Q := ⟨OK.bnd (OK_mono h.ok fun _ _ h => by obtain ⟨_, h2, h3, h4⟩ := h; exact OK.opt h2 (OK.grd h3 h4))⟩
noncomputable abbrev kIsin (c : Value) (Q : K1) : K1 := fun v σ => KSome (isInst σ v c) (kBool Q σ)
theorem rE_isin {e c} (h : WE C e ρ σ (kIsin c Q)) : WE C (.isin e c) ρ σ Q := ⟨OK.bnd (OK_mono h.ok fun _ _ h => by obtain ⟨_, h2, h3⟩ := h; exact OK.opt h2 h3)⟩
noncomputable abbrev kStrOf (Q : K1) : K1 := fun v σ => KSome (strV v) (kAt Q σ)
theorem rE_strOf {e} (h : WE C e ρ σ (kStrOf Q)) : WE C (.strOf e) ρ σ Q := ⟨OK.bnd (OK_mono h.ok fun _ _ h => by obtain ⟨_, h2, h3⟩ := h; exact OK.opt h2 h3)⟩
noncomputable abbrev kTup2 (Q : K1) (σ : Sto) : List AV → Prop := fun vs => vs.length ≤ lim ∧ Q (.tup vs) σ
noncomputable abbrev kTupOf (Q : K1) : K1 := fun v σ => KSome (asList σ v) (kTup2 Q σ)
theorem rE_tupOf {e} (h : WE C e ρ σ (kTupOf Q)) : WE C (.tupOf e) ρ σ Q := ⟨OK.bnd (OK_mono h.ok fun _ _ h => by obtain ⟨_, h2, h3, h4⟩ := h; exact OK.opt h2 (OK.grd h3 h4))⟩
noncomputable abbrev kListOf (Q : K1) : K1 := fun v σ => OK (listOfV σ v) Q
theorem rE_listOf {e} (h : WE C e ρ σ (kListOf Q)) : WE C (.listOf e) ρ σ Q := ⟨OK.bnd h.ok⟩
theorem OK_newList {vs} : OK (newList vs σ) Q ↔ vs.length ≤ lim ∧ Q (.ref σ.length) (σ ++ [.list vs]) := ⟨OK.drg, fun h => OK.grd h.1 h.2⟩
theorem OK_mkStr {s} : OK (mkStr s σ) Q ↔ s.length ≤ lim ∧ Q (.str s) σ := ⟨OK.drg, fun h => OK.grd h.1 h.2⟩
noncomputable abbrev kList (Q : K1) : List AV → Sto → Prop := fun vs σ => vs.length ≤ lim ∧ Q (.ref σ.length) (σ ++ [.list vs])
theorem rE_list {es} (h : WEs C es ρ σ (kList Q)) : WE C (.list es) ρ σ Q := ⟨OK.bnd (OK_mono h.ok fun _ _ h => OK_newList.2 h)⟩
noncomputable abbrev kTup (Q : K1) : List AV → Sto → Prop := fun vs σ => Q (.tup vs) σ
theorem rE_tup {es} (h : WEs C es ρ σ (kTup Q)) : WE C (.tup es) ρ σ Q := ⟨OK.bnd h.ok⟩
noncomputable abbrev kDict (ks : List (List Nat)) (Q : K1) : List AV → Sto → Prop := fun vs σ => (ks.length = vs.length ∧ ks.length ≤ 4) ∧ Q (.ref σ.length) (σ ++ [.dict ((ks.zip vs).foldl (fun d p => putK d p.1 p.2) [])])
theorem rE_dict {ks es} (h : WEs C es ρ σ (kDict ks Q)) : WE C (.dict ks es) ρ σ Q := ⟨OK.bnd (OK_mono h.ok fun _ _ h => OK.grd h.1 h.2)⟩
noncomputable abbrev kAdd2 (u : AV) (Q : K1) : K1 := fun v σ => OK (addV u v σ) Q
noncomputable abbrev kSnd (C : Calls) (b : PE) (ρ : Vars) (K : AV → K1) : K1 := fun u σ => WE C b ρ σ (K u)
noncomputable abbrev kAdd (Q : K1) : AV → K1 := fun u => kAdd2 u Q
theorem rE_add {a b} (h : WE C a ρ σ (kSnd C b ρ (kAdd Q))) : WE C (.add a b) ρ σ Q := ⟨OK.bnd (OK_mono h.ok fun _ _ h => OK.bnd h.ok)⟩
noncomputable abbrev kSub2 (Q : K1) (σ : Sto) : Int → Int → Prop := fun i j => Q (.int (i - j)) σ
noncomputable abbrev kSub (Q : K1) : AV → K1 := fun u v σ => KInt2 u v (kSub2 Q σ)
theorem WE_sub {a b} (h : WE C a ρ σ (kSnd C b ρ (kSub Q))) : WE C (.sub a b) ρ σ Q := ⟨OK.bnd (OK_mono h.ok fun _ _ h => OK.bnd (OK_mono h.ok fun _ _ h => by obtain ⟨_, _, h1, h2, h3⟩ := h; exact OK.opt (congrArg asInt h1) (OK.opt (congrArg asInt h2) h3)))⟩
noncomputable abbrev kMod2 (Q : K1) (σ : Sto) : Int → Int → Prop := fun i j => (0 < j ∧ j < 1000000) ∧ Q (.int (i % j)) σ
noncomputable abbrev kMod (Q : K1) : AV → K1 := fun u v σ => KInt2 u v (kMod2 Q σ)
theorem WE_mod {a b} (h : WE C a ρ σ (kSnd C b ρ (kMod Q))) : WE C (.mod a b) ρ σ Q := ⟨OK.bnd (OK_mono h.ok fun _ _ h => OK.bnd (OK_mono h.ok fun _ _ h => by obtain ⟨_, _, h1, h2, h3, h4⟩ := h; exact OK.opt (congrArg asInt h1) (OK.opt (congrArg asInt h2) (OK.grd h3 h4))))⟩
noncomputable abbrev kCmp (op : CmpOp) (Q : K1) : AV → K1 := fun u v σ => KSome (cmpV op u v σ) (kBool Q σ)
theorem rE_cmp {op a b} (h : WE C a ρ σ (kSnd C b ρ (kCmp op Q))) : WE C (.cmp op a b) ρ σ Q := ⟨OK.bnd (OK_mono h.ok fun _ _ h => OK.bnd (OK_mono h.ok fun _ _ h => by obtain ⟨_, h1, h2⟩ := h; exact OK.opt h1 h2))⟩
noncomputable abbrev kIsB (Q : K1) : K1 := fun v σ => (∃ r, v = .bool r) ∧ Q v σ
noncomputable abbrev kAnd (C : Calls) (b : PE) (ρ : Vars) (Q : K1) : K1 := fun u σ => KB u (WE C b ρ σ (kIsB Q)) (Q (.bool false) σ)
theorem WE_and {a b} (h : WE C a ρ σ (kAnd C b ρ Q)) : WE C (.and a b) ρ σ Q := ⟨OK.bnd (OK_mono h.ok fun _ _ h => h.el (fun h1 h2 => OK.opt (congrArg asBool h1) (OK.bnd (OK_mono h2.ok fun _ _ h => by obtain ⟨⟨_, e⟩, q⟩ := h; exact OK.opt (congrArg asBool e) (e ▸ q)))) (fun h1 h3 => OK.opt (congrArg asBool h1) h3))⟩
noncomputable abbrev kOr (C : Calls) (b : PE) (ρ : Vars) (Q : K1) : K1 := fun u σ => KBo u (WE C b ρ σ (kIsB Q)) (Q (.bool true) σ)
theorem WE_or {a b} (h : WE C a ρ σ (kOr C b ρ Q)) : WE C (.or a b) ρ σ Q := ⟨OK.bnd (OK_mono h.ok fun _ _ h => h.el (fun h1 h2 => OK.opt (congrArg asBool h1) (OK.bnd (OK_mono h2.ok fun _ _ h => by obtain ⟨⟨_, e⟩, q⟩ := h; exact OK.opt (congrArg asBool e) (e ▸ q)))) (fun h1 h3 => OK.opt (congrArg asBool h1) h3))⟩
noncomputable abbrev kNot2 (Q : K1) (σ : Sto) : Bool → Prop := fun t => Q (.bool (!t)) σ
noncomputable abbrev kNot (Q : K1) : K1 := fun u σ => KN u (kNot2 Q σ)
theorem WE_not {a} (h : WE C a ρ σ (kNot Q)) : WE C (.not a) ρ σ Q := ⟨OK.bnd (OK_mono h.ok fun _ _ h => by obtain ⟨_, h1, h2⟩ := h; exact OK.opt (congrArg asBool h1) h2)⟩
noncomputable abbrev kIte (C : Calls) (a b : PE) (ρ : Vars) (Q : K1) : K1 := fun u σ => KB u (WE C a ρ σ Q) (WE C b ρ σ Q)
theorem WE_ite {c a b} (h : WE C c ρ σ (kIte C a b ρ Q)) : WE C (.ite c a b) ρ σ Q := ⟨OK.bnd (OK_mono h.ok fun _ _ h => h.el (fun h1 h2 => OK.opt (congrArg asBool h1) h2.ok) (fun h1 h3 => OK.opt (congrArg asBool h1) h3.ok))⟩
noncomputable abbrev kItem (Q : K1) : AV → K1 := fun u v σ => KSome (itemV u v σ) (kAt Q σ)
theorem rE_item {a b} (h : WE C a ρ σ (kSnd C b ρ (kItem Q))) : WE C (.item a b) ρ σ Q := ⟨OK.bnd (OK_mono h.ok fun _ _ h => OK.bnd (OK_mono h.ok fun _ _ h => by obtain ⟨_, h1, h2⟩ := h; exact OK.opt h1 h2))⟩
theorem WE_cut {o a b} (h : WE C o ρ σ fun o σ => ∃ s, o = .str s ∧ WE C a ρ σ fun i σ => ∃ i', i = .int i' ∧ WE C b ρ σ fun j σ => ∃ j', j = .int j' ∧ s.length ≤ lim ∧ Q (.str (Txt.slice ⟨s.toArray⟩ (some i') (some j')).cps.toList) σ) : WE C (.cut o a b) ρ σ Q := ⟨OK.bnd (OK_mono h.ok fun _ _ h => by obtain ⟨_, h1, h⟩ := h; exact OK.opt (congrArg asStr h1) (OK.bnd (OK_mono h.ok fun _ _ h => by obtain ⟨_, h1, h⟩ := h; exact OK.opt (congrArg asInt h1) (OK.bnd (OK_mono h.ok fun _ _ h => by obtain ⟨_, h1, h2, h3⟩ := h; exact OK.opt (congrArg asInt h1) (OK.grd h2 h3))))))⟩
noncomputable abbrev isL (σ : Sto) (o : AV) : Prop := ∃ vs, asList σ o = some vs
noncomputable abbrev kLapp3 (r : Nat) (v : AV) (σ : Sto) (Q : K1) : List AV → Prop := fun vs => vs.length ≤ lim ∧ Q .none (σ.set r (.list (vs ++ [v])))
noncomputable abbrev kLapp2 (r : Nat) (Q : K1) : K1 := fun v σ => KList σ[r]? (kLapp3 r v σ Q)
noncomputable abbrev kLapp1 (C : Calls) (e : PE) (ρ : Vars) (σ : Sto) (Q : K1) : Nat → Prop := fun r => WE C e ρ σ (kLapp2 r Q)
noncomputable abbrev kLapp (C : Calls) (e : PE) (ρ : Vars) (Q : K1) : K1 := fun o σ => KRef o (isL σ o) (kLapp1 C e ρ σ Q)
theorem WE_lapp {l e} (h : WE C l ρ σ (kLapp C e ρ Q)) : WE C (.lapp l e) ρ σ Q := ⟨OK.bnd (OK_mono h.ok fun _ _ h => by obtain ⟨_, h1, ⟨_, h2⟩, h⟩ := h; exact OK.opt h2 (OK.bnd (OK_mono h.ok fun _ _ h => by obtain ⟨_, h3, h4, h5⟩ := h; exact OK.opt (congrArg asRef h1) (OK.opt (congrArg listO h3) (OK.grd h4 h5)))))⟩
theorem WE_lins {l i e} (h : WE C l ρ σ fun o σ => KRef o (isL σ o) fun r => WE C i ρ σ fun u σ => KNat u fun k => WE C e ρ σ fun v σ => KList σ[r]? fun vs => (vs.length ≤ 100 ∧ k ≤ vs.length) ∧ Q .none (σ.set r (.list (insAt vs k v)))) : WE C (.lins l i e) ρ σ Q := ⟨OK.bnd (OK_mono h.ok fun _ _ h => by obtain ⟨_, h1, ⟨_, h2⟩, h⟩ := h; exact OK.opt h2 (OK.bnd (OK_mono h.ok fun _ _ h => by obtain ⟨k, h3, h⟩ := h; exact OK.opt (congrArg asInt h3) (OK.bnd (OK_mono h.ok fun _ _ h => by obtain ⟨_, h4, ⟨h5, h6⟩, h7⟩ := h; exact OK.opt (congrArg asRef h1) (OK.opt (congrArg listO h4) (OK.grd ⟨h5, Int.natCast_nonneg k, h6⟩ h7)))))))⟩
theorem WE_lext {l e} (h : WE C l ρ σ fun o σ => KRef o (isL σ o) fun r => WE C e ρ σ fun v σ => ∃ vs ws, σ[r]? = some (.list vs) ∧ asList σ v = some ws ∧ vs.length + ws.length ≤ 1000 ∧ Q .none (σ.set r (.list (vs ++ ws)))) : WE C (.lext l e) ρ σ Q := ⟨OK.bnd (OK_mono h.ok fun _ _ h => by obtain ⟨_, h1, ⟨_, h2⟩, h⟩ := h; exact OK.opt h2 (OK.bnd (OK_mono h.ok fun _ _ h => by obtain ⟨_, _, h3, h4, h5, h6⟩ := h; exact OK.opt (congrArg asRef h1) (OK.opt h4 (OK.opt (congrArg listO h3) (OK.grd h5 h6))))))⟩
theorem WE_lidx {l e} (h : WE C l ρ σ fun o σ => isL σ o ∧ WE C e ρ σ fun v σ => ∃ vs i, asList σ o = some vs ∧ (vs.all fun u => (eqV σ u v).isSome) = true ∧ vs.length ≤ 1000000 ∧ idxOf σ v vs 0 = some i ∧ Q (.int i) σ) : WE C (.lidx l e) ρ σ Q := ⟨OK.bnd (OK_mono h.ok fun _ _ h => by obtain ⟨⟨_, h2⟩, h⟩ := h; exact OK.opt h2 (OK.bnd (OK_mono h.ok fun _ _ h => by obtain ⟨_, _, h3, h4, h5, h6, h7⟩ := h; exact OK.opt h3 (OK.grd ⟨h4, h5⟩ (OK.opt h6 h7)))))⟩
noncomputable abbrev kJoin3 (s : List Nat) (Q : K1) (σ : Sto) : List Nat → Prop := fun r => s.length ≤ 10 ∧ r.length ≤ lim ∧ Q (.str r) σ
noncomputable abbrev kJoin2 (s : List Nat) (Q : K1) (σ : Sto) : List AV → Prop := fun vs => KSome (joinL s vs) (kJoin3 s Q σ)
noncomputable abbrev kJoin (s : List Nat) (Q : K1) : K1 := fun v σ => KSome (asList σ v) (kJoin2 s Q σ)
theorem rE_join {s e} (h : WE C e ρ σ (kJoin s Q)) : WE C (.join s e) ρ σ Q := ⟨OK.bnd (OK_mono h.ok fun _ _ h => by obtain ⟨_, h1, ⟨_, h2, h3, h4⟩⟩ := h; exact OK.opt h1 (OK.opt h2 (OK.grd h3 (OK_mkStr.2 h4))))⟩
noncomputable abbrev kDget2 (o : AV) (Q : K1) : K1 := fun k σ => KSome (dgetV o k σ) (kAt Q σ)
noncomputable abbrev kDget (C : Calls) (k : PE) (ρ : Vars) (Q : K1) : K1 := fun o σ => isD σ o = true ∧ WE C k ρ σ (kDget2 o Q)
theorem rE_dget {d k} (h : WE C d ρ σ (kDget C k ρ Q)) : WE C (.dget d k) ρ σ Q := ⟨OK.bnd (OK_mono h.ok fun _ _ h => OK.grd h.1 (OK.bnd (OK_mono h.2.ok fun _ _ h => by obtain ⟨_, h1, h2⟩ := h; exact OK.opt h1 h2)))⟩
theorem WE_dgetD {d k e} (h : WE C d ρ σ fun o σ => o = .old (.ref 390) ∧ WE C k ρ σ fun u σ => ∃ s, u = .str s ∧ WE C e ρ σ fun v σ => v = .tup [] ∧ ∃ vs, mixedAt s = some vs ∧ Q (.tup vs) σ) : WE C (.dgetD d k e) ρ σ Q := ⟨OK.bnd (OK_mono h.ok fun _ _ h => OK.grd (congrArg is390 h.1) (OK.bnd (OK_mono h.2.ok fun _ _ h => by obtain ⟨_, h1, h⟩ := h; exact OK.opt (congrArg asStr h1) (OK.bnd (OK_mono h.ok fun _ _ h => by obtain ⟨h2, _, h4, h5⟩ := h; exact OK.grd (congrArg isE h2) (OK.opt h4 h5))))))⟩
noncomputable abbrev kPairs2 (Q : K1) (σ : Sto) : List AV → Prop := fun vs => vs.length ≤ lim ∧ Q (.ref σ.length) (σ ++ [.list vs])
noncomputable abbrev kPairs (Q : K1) : K1 := fun v σ => KSome (pairsOfV σ v) (kPairs2 Q σ)
theorem WE_pairsOf {e} (h : WE C e ρ σ (kPairs Q)) : WE C (.pairsOf e) ρ σ Q := ⟨OK.bnd (OK_mono h.ok fun _ _ h => by obtain ⟨_, h1, h2⟩ := h; exact OK.opt h1 (OK_newList.2 h2))⟩
/-- a loop's run, sealed -/
structure CG (f : AV → Sto → Option (Option AV × Sto)) (next : Nat → Sto → Option (Option AV)) (σ : Sto) (Q : List AV → Sto → Prop) : Prop where
  ok : OK (compGo f next (lim + 1) 0 [] σ) Q
structure FG (f : Vars → Sto → Ex) (x : Nat) (next : Nat → Sto → Option (Option AV)) (ρ : Vars) (σ : Sto) (R : Fl → Vars → Sto → Prop) : Prop where
  ok : OS (forGo f x next (lim + 1) 0 ρ σ) R
noncomputable abbrev kComp (C : Calls) (elt : PE) (x k : Nat) (cond : Option PE) (ρ : Vars) (Q : K1) : K1 := fun v σ => CG (compF C elt x cond ρ) (nextOf k v) σ (kList Q)
theorem rE_comp {elt x k it cond} (h : WE C it ρ σ (kComp C elt x k cond ρ Q)) : WE C (.comp elt x k it cond) ρ σ Q := ⟨OK.bnd (OK_mono h.ok fun _ _ h => OK.bnd (OK_mono h.ok fun _ _ h => OK_newList.2 h))⟩
noncomputable abbrev kComp2 (C : Calls) (elt : PE) (x y : Nat) (ρ : Vars) (Q : K1) : K1 := fun v σ => CG (compF2 C elt x y ρ) (nextOf 0 v) σ (kList Q)
theorem rE_comp2 {elt x y it} (h : WE C it ρ σ (kComp2 C elt x y ρ Q)) : WE C (.comp2 elt x y it) ρ σ Q := ⟨OK.bnd (OK_mono h.ok fun _ _ h => OK.bnd (OK_mono h.ok fun _ _ h => OK_newList.2 h))⟩
noncomputable abbrev kSm (R : Option AV → Sto → Prop) : K1 := fun v σ => R (some v) σ
theorem okF {elt x u} {R : Option AV → Sto → Prop} (h : WE C elt (upd (cut ρ) x u) σ (kSm R)) : OK (compF C elt x none ρ u σ) R := OK.bnd (o := some (true, σ)) (OK.bnd h.ok)
theorem okF2 {elt x y a b} {R : Option AV → Sto → Prop} (h : WE C elt (upd (upd (cut ρ) x a) y b) σ (kSm R)) : OK (compF2 C elt x y ρ (.tup [a, b]) σ) R := OK.opt (a := (a, b)) rfl (OK.bnd h.ok)
noncomputable abbrev kCond (C : Calls) (elt : PE) (ρ : Vars) (R : Option AV → Sto → Prop) : K1 := fun t σ => KB t (WE C elt ρ σ (kSm R)) (R none σ)
theorem OK_compFc {elt x u c} {R : Option AV → Sto → Prop} (h : WE C c (upd (cut ρ) x u) σ (kCond C elt (upd (cut ρ) x u) R)) : OK (compF C elt x (some c) ρ u σ) R := OK.bnd (OK.bnd (OK_mono h.ok fun _ _ h => h.el (fun h1 h2 => OK.opt (congrArg asBool h1) (OK.bnd h2.ok)) (fun h1 h3 => OK.opt (congrArg asBool h1) h3)))
theorem OK_compGo {f : AV → Sto → Option (Option AV × Sto)} {next : Nat → Sto → Option (Option AV)} (m : Nat) (Inv : Nat → List AV → Sto → Prop) (hm : m ≤ lim) (h0 : Inv 0 [] σ)
    (hend : ∀ acc σ, Inv m acc σ → next m σ = some none)
    (hstep : ∀ j acc σ, j < m → Inv j acc σ → ∃ v, next j σ = some (some v) ∧ OK (f v σ) fun u σ' => Inv (j + 1) (accO acc u) σ')
    (hQ : ∀ acc σ, Inv m acc σ → Qs acc σ) : CG f next σ Qs := ⟨OK_loop hend hstep hQ m 0 _ [] σ (Nat.zero_add m) (Nat.lt_succ_of_le hm) h0⟩
/-! statements -/
variable {R : Fl → Vars → Sto → Prop}
noncomputable def thenS (C : Calls) (ss : List PS) (R : Fl → Vars → Sto → Prop) : Fl → Vars → Sto → Prop := fun fl ρ σ => match fl with
  | .next => WS C ss ρ σ R
  | .cont => R .cont ρ σ
  | .ret v => R (.ret v) ρ σ
theorem thn_next {ss} (h : WS C ss ρ σ R) : thenS C ss R .next ρ σ := h
theorem thn_cont {ss} (h : R .cont ρ σ) : thenS C ss R .cont ρ σ := h
theorem thn_ret {ss v} (h : R (.ret v) ρ σ) : thenS C ss R (.ret v) ρ σ := h
theorem WS_nil (h : R .next ρ σ) : WS C [] ρ σ R := ⟨h⟩
theorem WS_cons {s ss} (h : OS (exS C s ρ σ) (thenS C ss R)) : WS C (s :: ss) ρ σ R := ⟨OS.sq (OS_mono h fun fl _ _ => match fl with
  | .next => fun h => h.ok
  | .cont => fun h => h
  | .ret _ => fun h => h)⟩
noncomputable abbrev kAsg (C : Calls) (ss : List PS) (x : Nat) (ρ : Vars) (R : Fl → Vars → Sto → Prop) : K1 := fun v σ => WS C ss (upd ρ x v) σ R
theorem WS_asg {x e ss} (h : WE C e ρ σ (kAsg C ss x ρ R)) : WS C (.asg x e :: ss) ρ σ R := WS_cons (OS.bnd h.ok)
theorem WS_asgT {x y e ss} (h : WE C e ρ σ fun v σ => KTwo v σ fun a b => WS C ss (upd (upd ρ x a) y b) σ R) : WS C (.asgT x y e :: ss) ρ σ R := WS_cons (OS.bnd (OK_mono h.ok fun _ _ h => by obtain ⟨a, b, h1, h2⟩ := h; exact OS.opt (a := (a, b)) (twoOf_mk h1) h2))
theorem WS_asgSw {x y a b ss} (h : WE C a ρ σ fun u σ => WE C b ρ σ fun v σ => WS C ss (upd (upd ρ y v) x u) σ R) : WS C (.asgSw x y a b :: ss) ρ σ R := WS_cons (OS.bnd (OK_mono h.ok fun _ _ h => OS.bnd h.ok))
noncomputable abbrev kSub3 (C : Calls) (ss : List PS) (ρ : Vars) (R : Fl → Vars → Sto → Prop) : Sto → Prop := fun s' => WS C ss ρ s' R
noncomputable abbrev kAsgSub (C : Calls) (ss : List PS) (ρ : Vars) (R : Fl → Vars → Sto → Prop) (o i : PE) : K1 := fun v σ => WE C o ρ σ fun o σ => WE C i ρ σ fun i σ => KSome (setItemV o i v σ) (kSub3 C ss ρ R)
theorem WS_asgSub {o i e ss} (h : WE C e ρ σ (kAsgSub C ss ρ R o i)) : WS C (.asgSub o i e :: ss) ρ σ R := WS_cons (OS.bnd (OK_mono h.ok fun _ _ h => OS.bnd (OK_mono h.ok fun _ _ h => OS.bnd (OK_mono h.ok fun _ _ h => by obtain ⟨_, h1, h2⟩ := h; exact OS.opt h1 h2))))
theorem WS_asgSubT {o i x a b ss} (h : WE C a ρ σ fun u σ => WE C b ρ σ fun v σ => WE C o ρ σ fun o σ => WE C i ρ σ fun i σ => KSome (setItemV o i u σ) fun s' => WS C ss (upd ρ x v) s' R) : WS C (.asgSubT o i x a b :: ss) ρ σ R := WS_cons (OS.bnd (OK_mono h.ok fun _ _ h => OS.bnd (OK_mono h.ok fun _ _ h => OS.bnd (OK_mono h.ok fun _ _ h => OS.bnd (OK_mono h.ok fun _ _ h => by obtain ⟨_, h1, h2⟩ := h; exact OS.opt h1 h2)))))
noncomputable abbrev kAsgAttr2 (C : Calls) (ss : List PS) (ρ : Vars) (R : Fl → Vars → Sto → Prop) (f : Nat) : AV → K1 := fun v o σ => KSome (setAttrV o f v σ) (kSub3 C ss ρ R)
theorem WS_asgAttr {o f e ss} (h : WE C e ρ σ (kSnd C o ρ (kAsgAttr2 C ss ρ R f))) : WS C (.asgAttr o f e :: ss) ρ σ R := WS_cons (OS.bnd (OK_mono h.ok fun _ _ h => OS.bnd (OK_mono h.ok fun _ _ h => by obtain ⟨_, h1, h2⟩ := h; exact OS.opt h1 h2)))
theorem WS_augAttr {o f e ss} (h : WE C o ρ σ fun o σ => KInst (memO σ o) fun D fs => ∃ i, fget D fs f = some (.int i) ∧ WE C e ρ σ fun v σ => ∃ j, v = .int j ∧ KSome (setAttrV o f (.int (i + j)) σ) fun s' => WS C ss ρ s' R) : WS C (.augAttr o f e :: ss) ρ σ R := WS_cons (OS.bnd (OK_mono h.ok fun _ _ h => by obtain ⟨D, fs, h1, ⟨_, h2, h⟩⟩ := h; exact OS.opt (a := (D, fs)) (congrArg instO h1) (OS.opt h2 (OS.opt rfl (OS.bnd (OK_mono h.ok fun _ _ h => by obtain ⟨_, h3, ⟨_, h4, h5⟩⟩ := h; exact OS.opt (congrArg asInt h3) (OS.opt h4 h5)))))))
noncomputable abbrev kExpr (C : Calls) (ss : List PS) (ρ : Vars) (R : Fl → Vars → Sto → Prop) : K1 := fun v σ => v = .none ∧ WS C ss ρ σ R
theorem WS_expr {e ss} (h : WE C e ρ σ (kExpr C ss ρ R)) : WS C (.expr e :: ss) ρ σ R := WS_cons (OS.bnd (OK_mono h.ok fun _ _ h => OS.opt (a := ()) (congrArg asNone h.1) h.2))
noncomputable abbrev kIf (C : Calls) (a b : List PS) (ρ : Vars) (S : Fl → Vars → Sto → Prop) : K1 := fun v σ => KB v (WS C a ρ σ S) (WS C b ρ σ S)
theorem WS_ite {c a b ss} (h : WE C c ρ σ (kIf C a b ρ (thenS C ss R))) : WS C (.ite c a b :: ss) ρ σ R := WS_cons (OS.bnd (OK_mono h.ok fun _ _ h => h.el (fun h1 h2 => OS.opt (congrArg asBool h1) h2.ok) (fun h1 h3 => OS.opt (congrArg asBool h1) h3.ok)))
noncomputable abbrev kFor (C : Calls) (body : List PS) (x k : Nat) (ρ : Vars) (S : Fl → Vars → Sto → Prop) : K1 := fun v σ => FG (fun ρ σ => exSs C body ρ σ) x (nextOf k v) ρ σ S
theorem WS_for {x k it body ss} (h : WE C it ρ σ (kFor C body x k ρ (thenS C ss R))) : WS C (.for_ x k it body :: ss) ρ σ R := WS_cons (OS.bnd (OK_mono h.ok fun _ _ h => h.ok))
theorem WS_forE {it ss} (h : WE C it ρ σ fun v σ => asList σ v = some [] ∧ WS C ss ρ σ R) : WS C (.forE it :: ss) ρ σ R := WS_cons (OS.bnd (OK_mono h.ok fun _ _ h => OS.grd (congrArg isE0 h.1) h.2))
theorem WS_while {c body ss} (h : OS (whileGo (fun ρ σ => evE C c ρ σ) (fun ρ σ => exSs C body ρ σ) 100 ρ σ) (thenS C ss R)) : WS C (.while_ c body :: ss) ρ σ R := WS_cons h
noncomputable abbrev kRet (ρ : Vars) (R : Fl → Vars → Sto → Prop) : K1 := fun v σ => R (.ret v) ρ σ
theorem WS_ret {e ss} (h : WE C e ρ σ (kRet ρ R)) : WS C (.ret e :: ss) ρ σ R := WS_cons (OS.bnd h.ok)
theorem WS_cont {ss} (h : R .cont ρ σ) : WS C (.cont :: ss) ρ σ R := WS_cons h
noncomputable abbrev wStep (C : Calls) (p : PE) (ρ : Vars) (σ : Sto) (Q : AV → Sto → Prop) : Prop := match p with
  | .val v => Q v σ
  | .call a es => WEs C es ρ σ (kCall C a Q)
  | .ccall D a es => WEs C es ρ σ (kCall C a Q)
  | .attr e f => WE C e ρ σ (kAttr f Q)
  | .meth e m es => WE C e ρ σ (kMeth C m es ρ Q)
  | .new D es => WEs C es ρ σ (kNew C D Q)
  | .item a b => WE C a ρ σ (kSnd C b ρ (kItem Q))
  | .len e => WE C e ρ σ (kLen Q)
  | .isin e c => WE C e ρ σ (kIsin c Q)
  | .strOf e => WE C e ρ σ (kStrOf Q)
  | .tupOf e => WE C e ρ σ (kTupOf Q)
  | .listOf e => WE C e ρ σ (kListOf Q)
  | .list es => WEs C es ρ σ (kList Q)
  | .tup es => WEs C es ρ σ (kTup Q)
  | .dict ks es => WEs C es ρ σ (kDict ks Q)
  | .add a b => WE C a ρ σ (kSnd C b ρ (kAdd Q))
  | .sub a b => WE C a ρ σ (kSnd C b ρ (kSub Q))
  | .mod a b => WE C a ρ σ (kSnd C b ρ (kMod Q))
  | .cmp op a b => WE C a ρ σ (kSnd C b ρ (kCmp op Q))
  | .and a b => WE C a ρ σ (kAnd C b ρ Q)
  | .or a b => WE C a ρ σ (kOr C b ρ Q)
  | .not a => WE C a ρ σ (kNot Q)
  | .ite c a b => WE C c ρ σ (kIte C a b ρ Q)
  | .lapp l e => WE C l ρ σ (kLapp C e ρ Q)
  | .lins l i e => WE C l ρ σ fun o σ => KRef o (isL σ o) fun r => WE C i ρ σ fun u σ => KNat u fun k => WE C e ρ σ fun v σ => KList σ[r]? fun vs => (vs.length ≤ 100 ∧ k ≤ vs.length) ∧ Q .none (σ.set r (.list (insAt vs k v)))
  | .lext l e => WE C l ρ σ fun o σ => KRef o (isL σ o) fun r => WE C e ρ σ fun v σ => ∃ vs ws, σ[r]? = some (.list vs) ∧ asList σ v = some ws ∧ vs.length + ws.length ≤ 1000 ∧ Q .none (σ.set r (.list (vs ++ ws)))
  | .lidx l e => WE C l ρ σ fun o σ => isL σ o ∧ WE C e ρ σ fun v σ => ∃ vs i, asList σ o = some vs ∧ (vs.all fun u => (eqV σ u v).isSome) = true ∧ vs.length ≤ 1000000 ∧ idxOf σ v vs 0 = some i ∧ Q (.int i) σ
  | .join s e => WE C e ρ σ (kJoin s Q)
  | .dget d k => WE C d ρ σ (kDget C k ρ Q)
  | .dgetD d k e => WE C d ρ σ fun o σ => o = .old (.ref 390) ∧ WE C k ρ σ fun u σ => ∃ s, u = .str s ∧ WE C e ρ σ fun v σ => v = .tup [] ∧ ∃ vs, mixedAt s = some vs ∧ Q (.tup vs) σ
  | .pairsOf e => WE C e ρ σ (kPairs Q)
  | .comp elt x k it cond => WE C it ρ σ (kComp C elt x k cond ρ Q)
  | .comp2 elt x y it => WE C it ρ σ (kComp2 C elt x y ρ Q)
  | _ => False
noncomputable def gE (p : PE) : Bool := match p with
  | .val _ => true
  | .call _ _ => true
  | .ccall _ _ _ => true
  | .attr _ _ => true
  | .meth _ _ _ => true
  | .new _ _ => true
  | .item _ _ => true
  | .len _ => true
  | .isin _ _ => true
  | .strOf _ => true
  | .tupOf _ => true
  | .listOf _ => true
  | .list _ => true
  | .tup _ => true
  | .dict _ _ => true
  | .add _ _ => true
  | .sub _ _ => true
  | .mod _ _ => true
  | .cmp _ _ _ => true
  | .and _ _ => true
  | .or _ _ => true
  | .not _ => true
  | .ite _ _ _ => true
  | .lapp _ _ => true
  | .lins _ _ _ => true
  | .lext _ _ => true
  | .lidx _ _ => true
  | .join _ _ => true
  | .dget _ _ => true
  | .dgetD _ _ _ => true
  | .pairsOf _ => true
  | .comp _ _ _ _ _ => true
  | .comp2 _ _ _ _ => true
  | _ => false
theorem rE {p} (g : gE p = true) (h : wStep C p ρ σ Q) : WE C p ρ σ Q := by
  cases p with
  | val => exact rE_val h
  | call => exact rE_call h
  | ccall => exact rE_ccall h
  | attr => exact rE_attr h
  | meth => exact rE_meth h
  | new => exact rE_new h
  | item => exact rE_item h
  | len => exact rE_len h
  | isin => exact rE_isin h
  | strOf => exact rE_strOf h
  | tupOf => exact rE_tupOf h
  | listOf => exact rE_listOf h
  | list => exact rE_list h
  | tup => exact rE_tup h
  | dict => exact rE_dict h
  | add => exact rE_add h
  | sub => exact WE_sub h
  | mod => exact WE_mod h
  | cmp => exact rE_cmp h
  | and => exact WE_and h
  | or => exact WE_or h
  | not => exact WE_not h
  | ite => exact WE_ite h
  | lapp => exact WE_lapp h
  | lins => exact WE_lins h
  | lext => exact WE_lext h
  | lidx => exact WE_lidx h
  | join => exact rE_join h
  | dget => exact rE_dget h
  | dgetD => exact WE_dgetD h
  | pairsOf => exact WE_pairsOf h
  | comp => exact rE_comp h
  | comp2 => exact rE_comp2 h
  | _ => (first | subst g | (injection g with g; subst g) | (injection g; done) | cases g)
noncomputable abbrev sStep (C : Calls) (s : PS) (ss : List PS) (ρ : Vars) (σ : Sto) (R : Fl → Vars → Sto → Prop) : Prop := match s with
  | .asg x e => WE C e ρ σ (kAsg C ss x ρ R)
  | .ite c a b => WE C c ρ σ (kIf C a b ρ (thenS C ss R))
  | .ret e => WE C e ρ σ (kRet ρ R)
  | .expr e => WE C e ρ σ (kExpr C ss ρ R)
  | .asgAttr o f e => WE C e ρ σ (kSnd C o ρ (kAsgAttr2 C ss ρ R f))
  | .augAttr o f e => WE C o ρ σ fun o σ => KInst (memO σ o) fun D fs => ∃ i, fget D fs f = some (.int i) ∧ WE C e ρ σ fun v σ => ∃ j, v = .int j ∧ KSome (setAttrV o f (.int (i + j)) σ) fun s' => WS C ss ρ s' R
  | .asgSub o i e => WE C e ρ σ (kAsgSub C ss ρ R o i)
  | .asgSubT o i x a b => WE C a ρ σ fun u σ => WE C b ρ σ fun v σ => WE C o ρ σ fun o σ => WE C i ρ σ fun i σ => KSome (setItemV o i u σ) fun s' => WS C ss (upd ρ x v) s' R
  | .asgT x y e => WE C e ρ σ fun v σ => KTwo v σ fun a b => WS C ss (upd (upd ρ x a) y b) σ R
  | .asgSw x y a b => WE C a ρ σ fun u σ => WE C b ρ σ fun v σ => WS C ss (upd (upd ρ y v) x u) σ R
  | .for_ x k it body => WE C it ρ σ (kFor C body x k ρ (thenS C ss R))
  | .forE it => WE C it ρ σ fun v σ => asList σ v = some [] ∧ WS C ss ρ σ R
  | .while_ c body => OS (whileGo (fun ρ σ => evE C c ρ σ) (fun ρ σ => exSs C body ρ σ) 100 ρ σ) (thenS C ss R)
  | .cont => R .cont ρ σ
theorem rS {s ss} (h : sStep C s ss ρ σ R) : WS C (s :: ss) ρ σ R := by
  cases s with
  | asg => exact WS_asg h
  | ite => exact WS_ite h
  | ret => exact WS_ret h
  | expr => exact WS_expr h
  | asgAttr => exact WS_asgAttr h
  | augAttr => exact WS_augAttr h
  | asgSub => exact WS_asgSub h
  | asgSubT => exact WS_asgSubT h
  | asgT => exact WS_asgT h
  | asgSw => exact WS_asgSw h
  | for_ => exact WS_for h
  | forE => exact WS_forE h
  | while_ => exact WS_while h
  | cont => exact WS_cont h
theorem OS_forGo {f : Vars → Sto → Ex} {x : Nat} {next : Nat → Sto → Option (Option AV)} (m : Nat) (Inv : Nat → Vars → Sto → Prop) (hm : m ≤ lim) (h0 : Inv 0 ρ σ)
    (hend : ∀ ρ σ, Inv m ρ σ → next m σ = some none)
    (hstep : ∀ j ρ σ, j < m → Inv j ρ σ → ∃ v, next j σ = some (some v) ∧ OS (f (upd ρ x v) σ) fun fl ρ σ => (∀ r, fl ≠ .ret r) ∧ Inv (j + 1) ρ σ)
    (hQ : ∀ ρ σ, Inv m ρ σ → R .next ρ σ) : FG f x next ρ σ R := ⟨OS_loop hend hstep hQ m 0 _ ρ σ (Nat.zero_add m) (Nat.lt_succ_of_le hm) h0⟩
/-- a call through the table -/
noncomputable def retQ (Q : AV → Sto → Prop) : Fl → Vars → Sto → Prop := fun fl _ σ => match fl with
  | .ret v => Q v σ
  | .next => Q .none σ
  | .cont => False
theorem rtq_ret {v} (h : Q v σ) : retQ Q (.ret v) ρ σ := h
theorem rtq_next (h : Q .none σ) : retQ Q .next ρ σ := h
theorem OK_call {sc : Scr} {n a : Nat} {vs : List AV} (d : FD) (ws : List AV) (ha : fnAddrs.contains a = true) (h1 : a ≠ 1) (ho : orc a vs = none) (ht : tabB a = some d) (hb : bindV d vs = some ws)
    (h : WS (runT tabB sc n) d.body (varsOf ws) σ (retQ Q)) : OK (runT tabB sc (n + 1) a vs σ) Q := by
  rw [runT_tab ha h1 ho ht hb]
  exact match exSs (runT tabB sc n) d.body (varsOf ws) σ, h.ok with
    | some (.next, _, _), k => k
    | some (.ret _, _, _), k => k
end
end Mine
open PySem PySem.W PySem.Calls PyProof.Rows
namespace Mine
set_option linter.unusedVariables false
set_option linter.unusedSimpArgs false
set_option maxRecDepth 100000
/-! small bounds -/
theorem six_lim {n : Nat} (h : n ≤ 6) : n ≤ lim := Nat.le_trans h (by decide)
theorem six_mil {n : Nat} (h : n ≤ 6) : n < 1000000 := Nat.lt_of_le_of_lt h (by decide)
theorem ix_mil {i n : Nat} (hi : i < n) (h : n ≤ 6) : i < 1000000 := Nat.lt_of_lt_of_le hi (Nat.le_trans h (by decide))
theorem ix_mil3 {i n : Nat} (hi : i < n) (h : n ≤ 3) : i < 1000000 := Nat.lt_of_lt_of_le hi (Nat.le_trans h (by decide))
theorem ge_ne {a b c : Nat} (h : b ≤ a) (hc : c < b) : a ≠ c := fun e => by subst e; exact absurd h (Nat.not_le_of_lt hc)
/-! frames -/
noncomputable def Pre (σ σ' : Sto) : Prop := ∀ (i : Nat) (o : AO), σ[i]? = some o → σ'[i]? = some o
theorem Pre.refl {σ : Sto} : Pre σ σ := fun _ _ h => h
theorem Pre.trans {a b c : Sto} (h : Pre a b) (g : Pre b c) : Pre a c := fun i o e => g i o (h i o e)
theorem Pre.app {σ τ : Sto} : Pre σ (σ ++ τ) := fun i o e => by
  have := (List.getElem?_eq_some_iff.mp e).1
  rw [List.getElem?_append_left this]; exact e
theorem Pre.le {σ σ' : Sto} (h : Pre σ σ') : σ.length ≤ σ'.length := by
  rcases Nat.eq_zero_or_pos σ.length with e | e
  · lia
  · have := h (σ.length - 1) σ[σ.length - 1] (List.getElem?_eq_getElem (by lia))
    have := (List.getElem?_eq_some_iff.mp this).1
    lia
theorem Pre.set {σ σ' : Sto} {i : Nat} {o : AO} (h : Pre σ σ') (hi : σ.length ≤ i) : Pre σ (σ'.set i o) := fun j p e => by
  have := (List.getElem?_eq_some_iff.mp e).1
  rw [List.getElem?_set_ne (by lia)]; exact h j p e
theorem get_new {σ : Sto} {o : AO} : (σ ++ [o])[σ.length]? = some o := by simp
theorem get_app {σ τ : Sto} {i : Nat} {o : AO} (h : σ[i]? = some o) : (σ ++ τ)[i]? = some o := Pre.app i o h
theorem get_lt {σ : Sto} {i : Nat} {o : AO} (h : σ[i]? = some o) : i < σ.length := (List.getElem?_eq_some_iff.mp h).1
theorem get_set {σ : Sto} {i : Nat} {o p : AO} (h : σ[i]? = some p) : (σ.set i o)[i]? = some o := by
  simp [get_lt h]

/-! equality -/
theorem toPy_str {σ : Sto} {n : Nat} {s : List Nat} : toPy σ (n + 1) (.str s) = some (.str ⟨s.toArray⟩) := rfl
theorem fits_str {s : List Nat} : fitsEq (.str ⟨s.toArray⟩) = s.all (fun x => decide (x < 0x110000)) := by
  simp [fitsEq, PyData.canLay0, PyData.strOk, PyData.depth]
noncomputable def okS (s : List Nat) : Bool := s.all (fun x => decide (x < 0x110000))
theorem eqV_str {σ : Sto} {s t : List Nat} (h1 : okS s = true) (h2 : okS t = true) : eqV σ (.str s) (.str t) = some (decide (s = t)) := by
  show grd ((fitsEq (.str ⟨s.toArray⟩) && fitsEq (.str ⟨t.toArray⟩)) = true) _ = _
  rw [fits_str, fits_str, show s.all _ = true from h1, show t.all _ = true from h2]
  show some _ = _
  congr 1
  rw [Bool.eq_iff_iff]; simp [PyData.eqv]
theorem eqV_int {σ : Sto} {i j : Int} : eqV σ (.int i) (.int j) = some (decide (i = j)) := rfl
theorem eqV_bool {σ : Sto} {i j : Bool} : eqV σ (.bool i) (.bool j) = some (decide (i = j)) := by
  rcases i <;> rcases j <;> rfl
section
variable {σ : Sto} {Q : AV → Sto → Prop} {P : AV → Prop}
theorem ex_some {α : Type} {o : Option α} {x : α} {P : α → Prop} (h : o = some x) (q : P x) : KSome o P := ⟨x, h, q⟩
theorem ex_eqs {s t : List Nat} {P : Bool → Prop} (h : (okS s && okS t) = true) (q : P (decide (s = t))) : KSome (cmpV .Eq (.str s) (.str t) σ) P := by
  rw [Bool.and_eq_true] at h
  exact ⟨_, eqV_str (σ := σ) h.1 h.2, q⟩
theorem ex_nes {s t : List Nat} {P : Bool → Prop} (h : (okS s && okS t) = true) (q : P (!decide (s = t))) : KSome (cmpV .NotEq (.str s) (.str t) σ) P := by
  rw [Bool.and_eq_true] at h
  exact ⟨_, congrArg (fun o => opt o fun x => some (!x)) (eqV_str (σ := σ) h.1 h.2), q⟩
theorem ex_eqi {s t : Int} {P : Bool → Prop} (q : P (decide (s = t))) : KSome (cmpV .Eq (.int s) (.int t) σ) P := ⟨_, eqV_int (σ := σ), q⟩
theorem ex_eqb {s t : Bool} {P : Bool → Prop} (q : P (decide (s = t))) : KSome (cmpV .Eq (.bool s) (.bool t) σ) P := ⟨_, eqV_bool (σ := σ), q⟩
theorem ex_neb {s t : Bool} {P : Bool → Prop} (q : P (!decide (s = t))) : KSome (cmpV .NotEq (.bool s) (.bool t) σ) P := ⟨_, congrArg (fun o => opt o fun x => some (!x)) (eqV_bool (σ := σ)), q⟩
theorem ex_lt {i j : Int} {P : Bool → Prop} (q : P (decide (i < j))) : KSome (cmpV .Lt (.int i) (.int j) σ) P := ⟨_, rfl, q⟩
theorem ex_le {i j : Int} {P : Bool → Prop} (q : P (decide (i ≤ j))) : KSome (cmpV .LtE (.int i) (.int j) σ) P := ⟨_, rfl, q⟩
theorem ex_gt {i j : Int} {P : Bool → Prop} (q : P (decide (j < i))) : KSome (cmpV .Gt (.int i) (.int j) σ) P := ⟨_, rfl, q⟩
theorem br_t {b : Bool} {A B : Prop} (h : b = true) (a : A) : KB (AV.bool b) A B := ⟨b, rfl, fun _ => a, fun e => by rw [h] at e; (first | subst e | (injection e with e; subst e) | (injection e; done) | cases e)⟩
theorem br_f {b : Bool} {A B : Prop} (h : b = false) (a : B) : KB (AV.bool b) A B := ⟨b, rfl, fun e => (by rw [h] at e; (first | subst e | (injection e with e; subst e) | (injection e; done) | cases e)), fun _ => a⟩
theorem orr_f {b : Bool} {A B : Prop} (h : b = false) (a : A) : KBo (AV.bool b) A B := ⟨b, rfl, fun _ => a, fun e => by rw [h] at e; (first | subst e | (injection e with e; subst e) | (injection e; done) | cases e)⟩
theorem orr_t {b : Bool} {A B : Prop} (h : b = true) (a : B) : KBo (AV.bool b) A B := ⟨b, rfl, fun e => (by rw [h] at e; (first | subst e | (injection e with e; subst e) | (injection e; done) | cases e)), fun _ => a⟩
theorem ex_inst {i : Nat} {D : Addr} {fs : List (Nat × AV)} {P : Addr → List (Nat × AV) → Prop} (h : σ[i]? = some (.inst D fs)) (q : P D fs) : KInst (memO σ (.ref i)) P := ⟨D, fs, h, q⟩
theorem ex_ty {i : Nat} {D : Addr} {fs : List (Nat × AV)} {T : String} {P : Bool → Prop} (h : σ[i]? = some (.inst D fs)) (hT : isPrim 4 T = some false) (q : P false) : KSome (isInst σ (.ref i) (.type T)) P := ⟨false, (congrArg (fun o => opt (instO o) fun _ => isPrim 4 T) h).trans hT, q⟩
theorem ex_cls {i : Nat} {D C : Addr} {fs : List (Nat × AV)} {P : Bool → Prop} (h : σ[i]? = some (.inst D fs)) (hT : clsAddrs.contains C = true) (q : P (superOf D C)) : KSome (isInst σ (.ref i) (.ref C)) P := ⟨_, (if_pos hT).trans (congrArg (fun o => opt (instO o) fun x => some (superOf x.1 C)) h), q⟩
theorem int_mil {i : Nat} (h : i < 1000000) : (i : Int) < 1000000 := by lia
theorem asList_ref {L : Nat} {vs : List AV} (hL : σ[L]? = some (.list vs)) : asList σ (.ref L) = some vs := congrArg listO hL
theorem OK_addS {s t : List Nat} (h : (s ++ t).length ≤ lim ∧ Q (.str (s ++ t)) σ) : OK (addV (.str s) (.str t) σ) Q := OK.grd h.1 h.2
theorem setAttr_at {r : Nat} {D : Addr} {fs : List (Nat × AV)} {f : Nat} {v : AV} (h : σ[r]? = some (.inst D fs)) (hl : fs.length ≤ 100) : setAttrV (.ref r) f v σ = some (σ.set r (.inst D (fldPut fs f v))) :=
  (congrArg (fun o => opt (instO o) fun x => grd (x.2.length ≤ 100) (some (σ.set r (.inst x.1 (fldPut x.2 f v))))) h).trans (if_pos hl)
theorem dget_at {i : Nat} {es : List (List Nat × AV)} {s : List Nat} {v : AV} (h : σ[i]? = some (.dict es)) (e : (getK es s).getD .none = v) : dgetV (.ref i) (.str s) σ = some v :=
  (congrArg (fun o => opt (dictO o) fun es => some ((getK es s).getD .none)) h).trans (congrArg some e)
theorem dgetT_at {i : Nat} {o : AO} {es : List (List KI × AV)} {l : List AV} {k : List KI} {v : AV} (h : σ[i]? = some o) (ht : tdictO (some o) = some es) (hk : keyT (.tup l) = some k) (e : (getK es k).getD .none = v) : dgetV (.ref i) (.tup l) σ = some v :=
  (congrArg (fun q => opt q fun k => opt (tdictO σ[i]?) fun es => some ((getK es k).getD .none)) hk).trans ((congrArg (fun q => opt q fun es => some ((getK es k).getD .none)) ((congrArg tdictO h).trans ht)).trans (congrArg some e))
theorem setD_at {r : Nat} {es : List (List Nat × AV)} {k : List Nat} {v : AV} (h : σ[r]? = some (.dict es)) (hl : es.length ≤ 1000) : setItemV (.ref r) (.str k) v σ = some (σ.set r (.dict (putK es k v))) :=
  (congrArg (fun o => opt (dictO o) fun es => grd (es.length ≤ 1000) (some (σ.set r (.dict (putK es k v))))) h).trans (if_pos hl)
theorem setT_at {r : Nat} {o : AO} {es : List (List KI × AV)} {l : List AV} {k : List KI} {v : AV} (h : σ[r]? = some o) (ht : tdictO (some o) = some es) (hk : keyT (.tup l) = some k) (hl : es.length ≤ 1000) : setItemV (.ref r) (.tup l) v σ = some (σ.set r (.tdict (putK es k v))) :=
  (congrArg (fun q => opt q fun k => opt (tdictO σ[r]?) fun es => grd (es.length ≤ 1000) (some (σ.set r (.tdict (putK es k v))))) hk).trans ((congrArg (fun q : Option (List (List KI × AV)) => opt q fun es => grd (es.length ≤ 1000) (some (σ.set r (.tdict (putK es k v))))) ((congrArg tdictO h).trans ht)).trans (if_pos hl))
theorem setL_at {r : Nat} {vs : List AV} {i : Int} {v : AV} (h : σ[r]? = some (.list vs)) (hl : 0 ≤ i ∧ i.toNat < vs.length ∧ i < 1000000) : setItemV (.ref r) (.int i) v σ = some (σ.set r (.list (vs.set i.toNat v))) :=
  (congrArg (fun o => opt (listO o) fun vs => grd (0 ≤ i ∧ i.toNat < vs.length ∧ i < 1000000) (some (σ.set r (.list (vs.set i.toNat v))))) h).trans (if_pos hl)
theorem in_at {i : Nat} {es : List (List Nat × AV)} {s : List Nat} {b : Bool} (h : σ[i]? = some (.dict es)) (e : (getK es s).isSome = b) : cmpV .In (.str s) (.ref i) σ = some b :=
  (congrArg (fun o => opt (dictO o) fun es => some (getK es s).isSome) h).trans (congrArg some e)
theorem item_at {i : Nat} {es : List (List Nat × AV)} {s : List Nat} {v : AV} (h : σ[i]? = some (.dict es)) (e : getK es s = some v) : itemV (.ref i) (.str s) σ = some v :=
  (congrArg (fun o => opt (dictO o) fun es => getK es s) h).trans e
theorem addL_at {i j : Nat} {xs ys : List AV} (h : σ[i]? = some (.list xs)) (g : σ[j]? = some (.list ys)) : addV (.ref i) (.ref j) σ = newList (xs ++ ys) σ :=
  (congrArg (fun o => opt (listO o) fun xs => opt (listO σ[j]?) fun ys => newList (xs ++ ys) σ) h).trans (congrArg (fun o => opt (listO o) fun ys => newList (xs ++ ys) σ) g)
theorem ne_of {o : Option Bool} {b : Bool} (h : o = some b) : (opt o fun x => some (!x)) = some (!b) := congrArg (fun o => opt o fun x => some (!x)) h
theorem at_sub1 {d : Nat} (q : Q (.int d) σ) : kSub2 Q σ ((d + 1 : Nat) : Int) 1 := by
  show Q (.int (((d + 1 : Nat) : Int) - 1)) σ
  rw [show ((d + 1 : Nat) : Int) - 1 = (d : Int) by lia]
  exact q
end
theorem lt3 {i : Nat} (h : i < 3) : i = 0 ∨ i = 1 ∨ i = 2 := by
  induction i using ncs with
  | zero => exact .inl rfl
  | succ i => induction i using ncs with
    | zero => exact .inr (.inl rfl)
    | succ i => induction i using ncs with
      | zero => exact .inr (.inr rfl)
      | succ i => exact absurd h (Nat.not_lt.2 (Nat.le_add_left 3 i))
theorem get_map_lt {α β : Type} (f : α → β) {l : List α} {r : Nat} (h : r < l.length) : ∃ s, (l.map f)[r]? = some (f s) := ⟨l[r], by rw [List.getElem?_map, List.getElem?_eq_getElem h]; rfl⟩
theorem get_nat {P : Nat → Prop} {l : List Nat} {r : Nat} (h : r < l.length) (hp : ∀ x ∈ l, P x) : ∃ m : Nat, (l.map fun n : Nat => AV.int n)[r]? = some (.int m) ∧ P m := ⟨l[r], by rw [List.getElem?_map, List.getElem?_eq_getElem h]; rfl, hp _ (List.getElem_mem h)⟩
end Mine
namespace Mine
set_option linter.unusedVariables false
set_option linter.unusedSimpArgs false
set_option maxRecDepth 100000
set_option maxHeartbeats 4000000
set_option hygiene false
local macro_rules | `(tactic| walk_at "m1") => `(tactic| first
  | refine rE_var ⟨_, rfl, ?_⟩
  | refine rE_var ⟨_, by assumption, ?_⟩
  | refine rE rfl ?_
  | refine rS ?_
  | refine rEs_nil ?_
  | refine rEs_cons ?_
  | refine WS_nil ?_
  | refine thn_next ?_
  | refine thn_ret ?_
  | refine thn_cont ?_
  | refine rtq_ret ?_
  | refine rtq_next ?_
  | refine ex_eqs (by decide) ?_
  | refine ex_nes (by decide) ?_
  | refine ex_eqi ?_
  | refine ex_some (o := cmpV .Is _ .none _) rfl ?_
  | refine ex_some (o := cmpV .IsNot _ .none _) rfl ?_
  | refine ex_some (o := isInst _ .none _) rfl ?_
  | refine ex_some (o := isInst _ (.bool _) _) rfl ?_
  | refine ex_some (o := isInst _ (.int _) _) rfl ?_
  | refine ex_some (o := isInst _ (.str _) _) rfl ?_
  | refine ex_some (o := isInst _ (.tup _) _) rfl ?_
  | refine ex_ty (by assumption) rfl ?_
  | refine ex_cls (by assumption) rfl ?_
  | refine ex_lt ?_
  | refine ex_le ?_
  | refine ex_gt ?_
  | refine br_t (by first | exact rfl | assumption) ?_
  | refine br_f (by first | exact rfl | assumption) ?_
  | refine orr_t (by first | exact rfl | assumption) ?_
  | refine orr_f (by first | exact rfl | assumption) ?_
  | refine ex_inst (by assumption) ?_)
local macro_rules | `(tactic| walk_at "m") => `(tactic| repeat walk_at "m1")
local macro_rules | `(tactic| walk_at "z") => `(tactic| first
  | assumption
  | exact six_lim (by assumption)
  | exact six_mil (by assumption)
  | exact ix_mil (by assumption) (by assumption)
  | exact ix_mil3 (by assumption) (by assumption)
  | exact ge_ne (by assumption) (by decide)
  | (simp only [lim]; omega)
  | omega)
set_option hygiene true
section
variable {sc : Scr} {n : Nat} {σ : Sto} {Q : AV → Sto → Prop}
theorem run_sort {v : AV} {s : List Nat} (h : (match v with | .none => s = [110, 105, 108] | .bool _ => s = [98, 111, 111, 108] | .int _ => s = [105, 110, 116] | .str _ => s = [115, 121, 109] | .ref i => s = sThing ∧ ∃ C fs, σ[i]? = some (.inst C fs) | _ => False)) (q : Q (.str s) σ) : OK (runT tabB sc (n + 1) 237 [v] σ) Q := by
  refine OK_call d237 [v] rfl (by decide) rfl rfl rfl ?_
  unfold d237 b237
  induction v using AV.cs with
  | none => subst h; walk_at "m"; exact q
  | bool b => subst h; walk_at "m"; exact q
  | int i => subst h; walk_at "m"; exact q
  | str s => subst h; walk_at "m"; exact q
  | ref i => obtain ⟨rfl, C, fs, h⟩ := h; walk_at "m"; exact q
  | _ => exact h.elim
end
/-! the world -/
noncomputable def wfs (n : Int) : List (Nat × AV) := [(24, .ref 2), (25, .ref 4), (26, .none), (27, .int 20000), (28, .int 0), (29, .int n), (30, .int 8), (31, .ref 5), (32, .ref 6), (33, .int 0), (34, .int 0), (35, .ref 7), (36, .ref 8), (37, .bool true), (38, .ref 44)]
noncomputable def names11 : List (List Nat) := [objName, botName, clsName, modName, kernName, cmpName, enumName, strgName, arrName, hashName, rngName]
noncomputable def isMod (σ : Sto) (v : AV) : Prop := ∃ (r : Nat) (fs : List (Nat × AV)) (k : Int), v = .ref r ∧ r ≠ 3 ∧ r ≠ 6 ∧ σ[r]? = some (.inst 228 fs) ∧ fget 228 fs 0 = some (.int k)
structure Wld (σ : Sto) (n : Nat) (es : List (List Nat × AV)) : Prop where
  w : σ[3]? = some (.inst 653 (wfs n))
  nat : σ[2]? = some (.dict [])
  prl : σ[4]? = some (.dict [])
  made : σ[6]? = some (.dict es)
  obj : getK es objName = some (.ref 9)
  cls : getK es clsName = some (.ref 21)
  mdl : getK es modName = some (.ref 27)
  nodup : (es.map (·.1)).Nodup
  sub : es.map (·.1) ⊆ names11
  mods : ∀ s v, getK es s = some v → isMod σ v
  big : 47 ≤ σ.length
/-- a step of the world -/
structure WSt (σ : Sto) (n : Nat) (es : List (List Nat × AV)) (σ' : Sto) (n' : Nat) (es' : List (List Nat × AV)) : Prop where
  keep : ∀ (i : Nat) (o : AO), i ≠ 3 → i ≠ 6 → σ[i]? = some o → σ'[i]? = some o
  up : n ≤ n'
  mono : ∀ s v, getK es s = some v → getK es' s = some v
  le : σ.length ≤ σ'.length
theorem WSt.refl {σ n es} : WSt σ n es σ n es := ⟨fun _ _ _ _ h => h, Nat.le_refl _, fun _ _ h => h, Nat.le_refl _⟩
theorem WSt.trans {σ n es σ' n' es' σ'' n'' es''} (a : WSt σ n es σ' n' es') (b : WSt σ' n' es' σ'' n'' es'') : WSt σ n es σ'' n'' es'' :=
  ⟨fun i o h3 h6 e => b.keep i o h3 h6 (a.keep i o h3 h6 e), Nat.le_trans a.up b.up, fun s v h => b.mono s v (a.mono s v h), Nat.le_trans a.le b.le⟩
theorem WSt.pre {σ n es σ'} (p : Pre σ σ') : WSt σ n es σ' n es := ⟨fun i o _ _ e => p i o e, Nat.le_refl _, fun _ _ h => h, p.le⟩
theorem isMod.mono {σ σ' : Sto} {v : AV} (h : isMod σ v) (k : ∀ (i : Nat) (o : AO), i ≠ 3 → i ≠ 6 → σ[i]? = some o → σ'[i]? = some o) : isMod σ' v := by
  obtain ⟨r, fs, k', rfl, h3, h6, e, f⟩ := h
  exact ⟨r, fs, k', rfl, h3, h6, k _ _ h3 h6 e, f⟩
theorem Wld.ext {σ σ' n es} (h : Wld σ n es) (p : Pre σ σ') : Wld σ' n es :=
  ⟨p _ _ h.w, p _ _ h.nat, p _ _ h.prl, p _ _ h.made, h.obj, h.cls, h.mdl, h.nodup, h.sub, fun s v e => (h.mods s v e).mono fun i o _ _ e => p i o e, Nat.le_trans h.big p.le⟩
/-- an object that is no world and no such dict may change -/
theorem Wld.set {σ n es} {i : Nat} {o : AO} (h : Wld σ n es) (hi : 47 ≤ i) (hn : ∀ C fs, σ[i]? ≠ some (.inst C fs)) : Wld (σ.set i o) n es := by
  have g : ∀ {j : Nat} {p : AO}, j < 47 → σ[j]? = some p → (σ.set i o)[j]? = some p := fun {j p} hj e => by rw [List.getElem?_set_ne (by lia)]; exact e
  refine ⟨g (by lia) h.w, g (by lia) h.nat, g (by lia) h.prl, g (by lia) h.made, h.obj, h.cls, h.mdl, h.nodup, h.sub, fun s v e => ?_, by rw [List.length_set]; exact h.big⟩
  obtain ⟨r, fs, k', rfl, h3, h6, e, f⟩ := h.mods s v e
  refine ⟨r, fs, k', rfl, h3, h6, ?_, f⟩
  have : i ≠ r := fun q => hn _ _ (q ▸ e)
  rw [List.getElem?_set_ne this]; exact e
section
variable {sc : Scr} {k n : Nat} {es : List (List Nat × AV)} {σ : Sto} {Q : AV → Sto → Prop}
theorem fld_num {n : Int} {m : Int} : fldPut (wfs n) 29 (.int m) = wfs m := rfl
theorem run_number (W : Wld σ n es) (q : ∀ σ', σ' = σ.set 3 (.inst 653 (wfs ((n + 1 : Nat) : Int))) → Wld σ' (n + 1) es → WSt σ n es σ' (n + 1) es → Q (.int ((n + 1 : Nat) : Int)) σ') : OK (runT tabB sc (k + 1) 434 [.ref 3] σ) Q := by
  refine OK_call d434 [.ref 3] rfl (by decide) rfl rfl rfl ?_
  unfold d434 b434
  have hw := W.w
  walk_at "m"
  refine ⟨_, rfl, ?_⟩
  walk_at "m"
  refine ⟨_, rfl, ?_⟩
  have hs : setAttrV (.ref 3) 29 (.int ((n : Int) + 1)) σ = some (σ.set 3 (.inst 653 (wfs ((n + 1 : Nat) : Int)))) := by
    rw [setAttr_at hw (of_decide_eq_true rfl), fld_num]
    rfl
  refine ⟨_, hs, ?_⟩
  have hl := get_lt W.w
  have hn : (σ.set 3 (.inst 653 (wfs ((n + 1 : Nat) : Int))))[3]? = some (.inst 653 (wfs ((n + 1 : Nat) : Int))) := get_set hw
  have hk : ∀ (i : Nat) (o : AO), i ≠ 3 → i ≠ 6 → σ[i]? = some o → (σ.set 3 (.inst 653 (wfs ((n + 1 : Nat) : Int))))[i]? = some o := fun i o h3 h6 e => by rw [List.getElem?_set_ne (fun e => h3 e.symm)]; exact e
  have hk3 : ∀ (i : Nat) (o : AO), i ≠ 3 → σ[i]? = some o → (σ.set 3 (.inst 653 (wfs ((n + 1 : Nat) : Int))))[i]? = some o := fun i o h3 e => by rw [List.getElem?_set_ne (fun e => h3 e.symm)]; exact e
  walk_at "m"
  refine ⟨_, rfl, rfl, ?_⟩
  refine q _ rfl ?_ ⟨hk, Nat.le_succ _, fun _ _ h => h, by rw [List.length_set]; exact Nat.le_refl _⟩
  exact ⟨hn, hk3 _ _ (by decide) W.nat, hk3 _ _ (by decide) W.prl, hk3 _ _ (by decide) W.made, W.obj, W.cls, W.mdl, W.nodup, W.sub, fun s v e => (W.mods s v e).mono hk, by rw [List.length_set]; exact W.big⟩
theorem run_found {s : List Nat} {v : AV} (W : Wld σ n es) (h : getK es s = some v) (q : Q v σ) : OK (runT tabB sc (k + 1) 455 [.ref 3, .str s] σ) Q := by
  refine OK_call d455 [.ref 3, .str s] rfl (by decide) rfl rfl rfl ?_
  unfold d455 b455
  have hw := W.w
  obtain ⟨r, fs, k', rfl, h3, h6, e, f⟩ := W.mods s v h
  walk_at "m"
  refine ⟨_, rfl, rfl, ?_⟩
  have hm := W.made
  refine ⟨isD_d hm, ?_⟩
  walk_at "m"
  refine ⟨.ref r, dget_at hm (by rw [h]; rfl), ?_⟩
  walk_at "m"
  exact q
end
/-! new objects -/
section
variable {C : Calls} {ρ : Vars} {σ τ : Sto} {o : AO} {Q : AV → Sto → Prop}
theorem set_new {σ τ : Sto} {o o' : AO} : (σ ++ o :: τ).set σ.length o' = σ ++ o' :: τ := by
  induction σ with
  | nil => rfl
  | cons a σ ih => simp only [List.cons_append, List.length_cons, List.set_cons_succ, ih]
theorem get_mid {σ τ : Sto} {o : AO} : (σ ++ o :: τ)[σ.length]? = some o := by simp
theorem WE_dictNew (q : Q (.ref (σ.length + (τ.length + 1))) (σ ++ o :: (τ ++ [.dict []]))) : WE C (.dict [] []) ρ (σ ++ o :: τ) Q := by
  refine rE_dict (rEs_nil ⟨⟨rfl, Nat.zero_le _⟩, ?_⟩)
  rw [List.append_assoc, List.cons_append, List.length_append, List.length_cons]
  exact q
theorem WE_listNew (q : Q (.ref (σ.length + (τ.length + 1))) (σ ++ o :: (τ ++ [.list []]))) : WE C (.list []) ρ (σ ++ o :: τ) Q := by
  refine rE_list (rEs_nil ⟨Nat.zero_le _, ?_⟩)
  rw [List.append_assoc, List.cons_append, List.length_append, List.length_cons]
  exact q
theorem ex_setNew {D : Addr} {fs : List (Nat × AV)} {f : Nat} {v : AV} {P : Sto → Prop} (h : fs.length ≤ 100) (q : P (σ ++ .inst D (fldPut fs f v) :: τ)) : KSome (setAttrV (.ref σ.length) f v (σ ++ .inst D fs :: τ)) P := by
  refine ⟨_, ?_, q⟩
  rw [setAttr_at get_mid h, set_new]
end
set_option hygiene false
local macro_rules | `(tactic| walk_at "mi1") => `(tactic| first
  | refine WE_dictNew ?_
  | refine WE_listNew ?_
  | refine ex_setNew (of_decide_eq_true rfl) ?_
  | walk_at "m1")
local macro_rules | `(tactic| walk_at "mi") => `(tactic| repeat walk_at "mi1")
set_option hygiene true
section
variable {sc : Scr} {k : Nat} {σ : Sto} {D : Addr} {num own x y z : AV} {Q : AV → Sto → Prop} {R : Sto → Prop}
theorem run_init (q : Q .none (σ ++ [.inst D [(0, num), (1, own), (2, .ref (σ.length + 1)), (3, .none), (4, .bool false), (5, .none)], .dict []])) : OK (runT tabB sc (k + 1) 37 [.ref σ.length, num, own] (σ ++ [.inst D []])) Q := by
  refine OK_call d37 [.ref σ.length, num, own] rfl (by decide) rfl rfl rfl ?_
  unfold d37 b37
  walk_at "mi"
  exact q
theorem new_thing (q : R (σ ++ [.inst 40 [(0, num), (1, own), (2, .ref (σ.length + 1)), (3, .none), (4, .bool false), (5, .none)], .dict []])) :
    KSome (initOf 40) fun a => OK (runT tabB sc (k + 2) a (.ref σ.length :: [num, own]) (σ ++ [.inst 40 []])) fun r σ' => r = .none ∧ R σ' :=
  ⟨37, rfl, run_init ⟨rfl, q⟩⟩
theorem new_text (q : R (σ ++ [.inst 62 [(0, num), (1, own), (2, .ref (σ.length + 1)), (3, .none), (4, .bool false), (5, .none), (6, x)], .dict []])) :
    KSome (initOf 62) fun a => OK (runT tabB sc (k + 2) a (.ref σ.length :: [num, own, x]) (σ ++ [.inst 62 []])) fun r σ' => r = .none ∧ R σ' := by
  refine ⟨59, rfl, OK_call d59 [.ref σ.length, num, own, x] rfl (by decide) rfl rfl rfl ?_⟩
  unfold d59 b59
  walk_at "mi"
  refine run_init ⟨rfl, ?_⟩
  walk_at "mi"
  exact ⟨rfl, q⟩
theorem new_list {r : Nat} (q : R (σ ++ [.inst 82 [(0, num), (1, own), (2, .ref (σ.length + 1)), (3, .none), (4, .bool false), (5, .none), (7, .ref r)], .dict []])) :
    KSome (initOf 82) fun a => OK (runT tabB sc (k + 2) a (.ref σ.length :: [num, own, .ref r]) (σ ++ [.inst 82 []])) fun r σ' => r = .none ∧ R σ' := by
  refine ⟨79, rfl, OK_call d79 [.ref σ.length, num, own, .ref r] rfl (by decide) rfl rfl rfl ?_⟩
  unfold d79 b79
  walk_at "mi"
  refine run_init ⟨rfl, ?_⟩
  walk_at "mi"
  exact ⟨rfl, q⟩
theorem new_table (q : R (σ ++ [.inst 120 [(0, num), (1, own), (2, .ref (σ.length + 1)), (3, .none), (4, .bool false), (5, .none), (8, .ref (σ.length + 2)), (9, .none)], .dict [], .dict []])) :
    KSome (initOf 120) fun a => OK (runT tabB sc (k + 2) a (.ref σ.length :: [num, own]) (σ ++ [.inst 120 []])) fun r σ' => r = .none ∧ R σ' := by
  refine ⟨98, rfl, OK_call d98 [.ref σ.length, num, own] rfl (by decide) rfl rfl rfl ?_⟩
  unfold d98 b98
  walk_at "mi"
  refine run_init ⟨rfl, ?_⟩
  walk_at "mi"
  exact ⟨rfl, q⟩
theorem new_range (q : R (σ ++ [.inst 140 [(0, num), (1, own), (2, .ref (σ.length + 1)), (3, .none), (4, .bool false), (5, .none), (10, x), (11, y), (12, z)], .dict []])) :
    KSome (initOf 140) fun a => OK (runT tabB sc (k + 2) a (.ref σ.length :: [num, own, x, y, z]) (σ ++ [.inst 140 []])) fun r σ' => r = .none ∧ R σ' := by
  refine ⟨137, rfl, OK_call d137 [.ref σ.length, num, own, x, y, z] rfl (by decide) rfl rfl rfl ?_⟩
  unfold d137 b137
  walk_at "mi"
  refine run_init ⟨rfl, ?_⟩
  walk_at "mi"
  exact ⟨rfl, q⟩
noncomputable def modFs (L : Nat) (num own x y : AV) : List (Nat × AV) := [(0, num), (1, own), (2, .ref (L + 1)), (3, .none), (4, .bool false), (5, .none), (13, x), (14, y), (15, .none), (16, .none), (17, .ref (L + 2)), (18, .ref (L + 3)), (19, .ref (L + 4)), (20, .ref (L + 5)), (21, .none), (22, .none), (23, .none)]
theorem new_module (q : R (σ ++ [.inst 228 (modFs σ.length num own x y), .dict [], .dict [], .dict [], .list [], .list []])) :
    KSome (initOf 228) fun a => OK (runT tabB sc (k + 2) a (.ref σ.length :: [num, own, x, y]) (σ ++ [.inst 228 []])) fun r σ' => r = .none ∧ R σ' := by
  refine ⟨218, rfl, OK_call d218 [.ref σ.length, num, own, x, y, .none, .none] rfl (by decide) rfl rfl rfl ?_⟩
  unfold d218 b218
  walk_at "mi"
  refine run_init ⟨rfl, ?_⟩
  walk_at "mi"
  exact ⟨rfl, q⟩
end
/-! make_builtin -/
section
variable {es : List (List Nat × AV)} {s t : List Nat} {v : AV}
theorem getK_none (h : getK es s = none) : ∀ p ∈ es, p.1 ≠ s := by
  unfold getK at h
  rw [Option.map_eq_none_iff, List.find?_eq_none] at h
  intro p hp e
  exact h p hp (by simp [e])
theorem putK_new (h : getK es s = none) : putK es s v = es ++ [(s, v)] := by
  unfold putK
  rw [if_neg]
  simp only [List.any_eq_true, decide_eq_true_eq, not_exists, not_and]
  exact fun p hp => getK_none h p hp
theorem getK_app (h : getK es s = none) : getK (es ++ [(s, v)]) t = if s = t then some v else getK es t := by
  unfold getK
  rw [List.find?_append]
  split
  · rename_i e
    subst e
    have : es.find? (fun p => decide (p.1 = s)) = none := by
      rw [List.find?_eq_none]; intro p hp; simp [getK_none h p hp]
    rw [this]; simp
  · rename_i e
    simp [e]
end
theorem Wld.attr {σ n es} {r : Nat} {fs : List (Nat × AV)} {f : Nat} {v : AV} (W : Wld σ n es) (hr : 47 ≤ r) (h : σ[r]? = some (.inst 228 fs)) (hf : fget 228 (fldPut fs f v) 0 = fget 228 fs 0) : Wld (σ.set r (.inst 228 (fldPut fs f v))) n es := by
  have g : ∀ {j : Nat} {p : AO}, j < 47 → σ[j]? = some p → (σ.set r (.inst 228 (fldPut fs f v)))[j]? = some p := fun {j p} hj e => by rw [List.getElem?_set_ne (by lia)]; exact e
  refine ⟨g (by lia) W.w, g (by lia) W.nat, g (by lia) W.prl, g (by lia) W.made, W.obj, W.cls, W.mdl, W.nodup, W.sub, fun s u e => ?_, by rw [List.length_set]; exact W.big⟩
  obtain ⟨r', fs', k', rfl, h3, h6, e, f⟩ := W.mods s u e
  by_cases hrr : r = r'
  · subst hrr
    rw [h] at e; (first | subst e | (injection e with e; subst e) | (injection e; done) | cases e)
    exact ⟨_, _, k', rfl, h3, h6, get_set h, hf.trans f⟩
  · exact ⟨r', fs', k', rfl, h3, h6, by rw [List.getElem?_set_ne hrr]; exact e, f⟩
theorem Wld.add {σ n es} {r : Nat} {fs : List (Nat × AV)} {k : Int} {s : List Nat} (W : Wld σ n es) (hr : 47 ≤ r) (h : σ[r]? = some (.inst 228 fs)) (hf : fget 228 fs 0 = some (.int k)) (hs : s ∈ names11) (hn : getK es s = none) : Wld (σ.set 6 (.dict (es ++ [(s, .ref r)]))) n (es ++ [(s, .ref r)]) := by
  have g : ∀ {j : Nat} {p : AO}, j ≠ 6 → σ[j]? = some p → (σ.set 6 (.dict (es ++ [(s, .ref r)])))[j]? = some p := fun {j p} hj e => by rw [List.getElem?_set_ne (by lia)]; exact e
  have gk : ∀ {t v}, getK es t = some v → getK (es ++ [(s, .ref r)]) t = some v := fun {t v} e => by
    rw [getK_app hn, if_neg (fun q => by rw [q, e] at hn; (first | subst hn | (injection hn with hn; subst hn) | (injection hn; done) | cases hn)), e]
  refine ⟨g (by lia) W.w, g (by lia) W.nat, g (by lia) W.prl, get_set W.made, gk W.obj, gk W.cls, gk W.mdl, ?_, ?_, fun t u e => ?_, by rw [List.length_set]; exact W.big⟩
  · rw [List.map_append, List.nodup_append]
    refine ⟨W.nodup, by simp, ?_⟩
    intro a ha b hb
    simp only [List.map_cons, List.map_nil, List.mem_singleton] at hb
    subst hb
    rw [List.mem_map] at ha
    obtain ⟨p, hp, rfl⟩ := ha
    exact getK_none hn p hp
  · intro a ha
    rw [List.map_append, List.mem_append] at ha
    rcases ha with ha | ha
    · exact W.sub ha
    · simp only [List.map_cons, List.map_nil, List.mem_singleton] at ha
      subst ha; exact hs
  · rw [getK_app hn] at e
    split at e
    · (first | subst e | (injection e with e; subst e) | (injection e; done) | cases e)
      exact ⟨r, fs, k, rfl, by lia, by lia, g (by lia) h, hf⟩
    · obtain ⟨r', fs', k', rfl, h3, h6, e, f⟩ := W.mods t u e
      exact ⟨r', fs', k', rfl, h3, h6, g h6 e, f⟩
theorem Wld.few {σ n es} (W : Wld σ n es) : es.length ≤ 11 := by
  have := List.Nodup.length_le_of_subset W.nodup W.sub
  rw [List.length_map] at this; exact this
/-- what builtin promises -/
noncomputable def BuiltOK (sc : Scr) (k : Nat) (s : List Nat) : Prop := ∀ (σ : Sto) (n : Nat) (es : List (List Nat × AV)) (Q : AV → Sto → Prop), Wld σ n es →
  (∀ (r : Nat) σ' n' es', Wld σ' n' es' → WSt σ n es σ' n' es' → getK es' s = some (.ref r) → Q (.ref r) σ') → OK (runT tabB sc k 455 [.ref 3, .str s] σ) Q
section
variable {sc : Scr} {k n : Nat} {es : List (List Nat × AV)} {σ : Sto} {Q : AV → Sto → Prop}
theorem run_give {s : List Nat} (W : Wld σ n es) (hs : s.length ≤ 1000) (q : Q .none σ) : OK (runT tabB sc (k + 1) 467 [.ref 3, .str s] σ) Q := by
  refine OK_call d467 [.ref 3, .str s] rfl (by decide) rfl rfl rfl ?_
  unfold d467 b467
  have hw := W.w
  have hn := W.nat
  have hp := W.prl
  have hl : (s ++ [46]).length ≤ lim := by simp [lim]; lia
  walk_at "m"
  refine OK_addS ⟨hl, ?_⟩
  walk_at "m"
  refine ⟨_, rfl, rfl, ?_⟩
  refine ⟨false, in_at hn rfl, ?_⟩
  walk_at "m"
  refine OK_addS ⟨hl, ?_⟩
  walk_at "m"
  refine ⟨_, rfl, rfl, ?_⟩
  refine ⟨false, in_at hp rfl, ?_⟩
  refine ⟨⟨false, rfl⟩, ?_⟩
  walk_at "m"
  exact q
noncomputable def parOf : AV → AV
  | .none => .none
  | _ => .ref 9
/-- where the fresh module stands while it is filled -/
structure Mk (σ₀ : Sto) (n₀ : Nat) (es₀ : List (List Nat × AV)) (s : List Nat) (r : Nat) (fs : List (Nat × AV)) (σ : Sto) (n : Nat) (es : List (List Nat × AV)) : Prop where
  W : Wld σ n es
  st : WSt σ₀ n₀ es₀ σ n es
  at_ : σ[r]? = some (.inst 228 fs)
  rb : σ₀.length ≤ r
  has : getK es s = some (.ref r)
  few : fs.length ≤ 100
theorem Mk.attr {σ₀ n₀ es₀ s r fs σ n es} {f : Nat} {v : AV} (M : Mk σ₀ n₀ es₀ s r fs σ n es) (hb : 47 ≤ σ₀.length) (hf : fget 228 (fldPut fs f v) 0 = fget 228 fs 0) (hl : (fldPut fs f v).length ≤ 100) : Mk σ₀ n₀ es₀ s r (fldPut fs f v) (σ.set r (.inst 228 (fldPut fs f v))) n es :=
  ⟨M.W.attr (Nat.le_trans hb M.rb) M.at_ hf, ⟨fun i o h3 h6 e => by rw [List.getElem?_set_ne (by have := get_lt e; have := M.rb; lia)]; exact M.st.keep i o h3 h6 e, M.st.up, M.st.mono, by rw [List.length_set]; exact M.st.le⟩, get_set M.at_, M.rb, M.has, hl⟩
theorem Mk.step {σ₀ n₀ es₀ s r fs σ n es σ' n' es'} (M : Mk σ₀ n₀ es₀ s r fs σ n es) (hb : 47 ≤ σ₀.length) (W : Wld σ' n' es') (st : WSt σ n es σ' n' es') : Mk σ₀ n₀ es₀ s r fs σ' n' es' :=
  ⟨W, M.st.trans st, st.keep _ _ (by have := M.rb; lia) (by have := M.rb; lia) M.at_, M.rb, st.mono _ _ M.has, M.few⟩
theorem run_make {s : List Nat} {b : Bool} {bt : AV} {ms : List (List Nat)} (hs : s ∈ names11) (hb : ∀ σ : Sto, cmpV .NotIn (.str s) (.old (.ref 386)) σ = some b) (hbt : builtinsAt s = some bt) (hbt' : bt = .none ∨ bt = .str objName)
    (hms : mixedAt s = some (ms.map .str)) (hl : s.length ≤ 1000) (hH : ∀ m ∈ ms, BuiltOK sc (k + 4) m) (hml : ms.length ≤ 10) (W : Wld σ n es) (hn : getK es s = none)
    (q : ∀ (r : Nat) σ' n' es', Wld σ' n' es' → WSt σ n es σ' n' es' → getK es' s = some (.ref r) → Q (.ref r) σ') : OK (runT tabB sc (k + 5) 460 [.ref 3, .str s] σ) Q := by
  refine OK_call d460 [.ref 3, .str s] rfl (by decide) rfl rfl rfl ?_
  unfold d460 b460
  have hbig := W.big
  walk_at "m"
  refine ⟨b, hb _, ?_⟩
  walk_at "m"
  have hw := W.w
  walk_at "m"
  refine ⟨_, rfl, rfl, ?_⟩
  walk_at "m"
  refine run_number W fun σ1 _ W1 st1 => ?_
  walk_at "m"
  refine new_module ?_
  have W2 : Wld (σ1 ++ [.inst 228 (modFs σ1.length (.int ((n + 1 : Nat) : Int)) .none (.str s) (.bool b)), .dict [], .dict [], .dict [], .list [], .list []]) (n + 1) es := W1.ext Pre.app
  have st2 := st1.trans (WSt.pre (n := n + 1) (es := es) (Pre.app (τ := [.inst 228 (modFs σ1.length (.int ((n + 1 : Nat) : Int)) .none (.str s) (.bool b)), .dict [], .dict [], .dict [], .list [], .list []])))
  have hat : (σ1 ++ [.inst 228 (modFs σ1.length (.int ((n + 1 : Nat) : Int)) .none (.str s) (.bool b)), .dict [], .dict [], .dict [], .list [], .list []])[σ1.length]? = some (.inst 228 (modFs σ1.length (.int ((n + 1 : Nat) : Int)) .none (.str s) (.bool b))) := get_mid
  have hle := st1.le
  generalize hσ2 : (σ1 ++ [AO.inst 228 (modFs σ1.length (.int ((n + 1 : Nat) : Int)) .none (.str s) (.bool b)), .dict [], .dict [], .dict [], .list [], .list []]) = σ2 at W2 st2 hat ⊢
  have hr : σ.length ≤ σ1.length := hle
  generalize hrr : σ1.length = r at hat hr ⊢
  clear hσ2
  have hw := W2.w
  have hm := W2.made
  walk_at "m"
  refine ⟨_, rfl, rfl, ?_⟩
  walk_at "m"
  refine ⟨σ2.set 6 (.dict (es ++ [(s, .ref r)])), ?_, ?_⟩
  · rw [setD_at hm (Nat.le_trans W.few (by decide)), putK_new hn]
  have M : Mk σ n es s r (modFs r (.int ((n + 1 : Nat) : Int)) .none (.str s) (.bool b)) (σ2.set 6 (.dict (es ++ [(s, .ref r)]))) (n + 1) (es ++ [(s, .ref r)]) := by
    refine ⟨W2.add (by lia) hat rfl hs hn, ?_, ?_, hr, ?_, of_decide_eq_true rfl⟩
    · refine st2.trans ⟨fun i o h3 h6 e => by rw [List.getElem?_set_ne (by lia)]; exact e, Nat.le_refl _, fun t v e => ?_, by rw [List.length_set]; exact Nat.le_refl _⟩
      rw [getK_app hn, if_neg (fun q => by rw [q, e] at hn; (first | subst hn | (injection hn with hn; subst hn) | (injection hn; done) | cases hn)), e]
    · rw [List.getElem?_set_ne (by lia)]; exact hat
    · rw [getK_app hn, if_pos rfl]
  generalize hσ3 : σ2.set 6 (.dict (es ++ [(s, .ref r)])) = σ3 at M ⊢
  generalize hes3 : es ++ [(s, AV.ref r)] = es3 at M
  clear hσ3 hes3 hm
  walk_at "m"
  refine ⟨_, setAttr_at M.at_ (of_decide_eq_true rfl), ?_⟩
  replace M := M.attr hbig (f := 22) (v := .str s) rfl (of_decide_eq_true rfl)
  generalize hσ4 : σ3.set r _ = σ4 at M ⊢
  clear hσ4
  walk_at "m"
  refine ⟨bt, hbt, ?_⟩
  refine WS_asgAttr ?_
  have key : ∀ {u : AV} {Q' : AV → Sto → Prop}, Q' (parOf bt) σ4 → WE (runT tabB sc (k + 4)) (.ite (.cmp .Is (.var 4) (.val .none)) (.val .none) (.meth (.var 0) 1 [.var 4])) (upd (upd (upd (varsOf [.ref 3, .str s]) 2 (.bool b)) 3 (.ref r)) 4 bt) σ4 Q' := by
    intro u Q' q'
    have hw := M.W.w
    rcases hbt' with rfl | rfl
    · walk_at "m"; exact q'
    · walk_at "m"
      refine ⟨_, rfl, rfl, ?_⟩
      walk_at "m"
      exact run_found M.W M.W.obj q'
  refine key (u := .none) ?_
  walk_at "m"
  refine ⟨_, setAttr_at M.at_ (of_decide_eq_true rfl), ?_⟩
  replace M := M.attr hbig (f := 15) (v := (parOf bt)) rfl (of_decide_eq_true rfl)
  generalize hσ5 : σ4.set r _ = σ5 at M ⊢
  clear hσ5 key
  have hw := M.W.w
  walk_at "m"
  refine ⟨_, rfl, rfl, ?_⟩
  have key : ∀ {Q' : AV → Sto → Prop}, Q' (.ref (if b then 21 else 27)) σ5 → WEs (runT tabB sc (k + 4)) [.ite (.var 2) (.val (.str [67, 108, 97, 115, 115])) (.val (.str [77, 111, 100, 117, 108, 101]))] (upd (upd (upd (varsOf [.ref 3, .str s]) 2 (.bool b)) 3 (.ref r)) 4 bt) σ5 fun vs σ => OK (runT tabB sc (k + 4) 455 (.ref 3 :: vs) σ) Q' := by
    intro Q' q'
    (first | subst b | (injection b with b; subst b) | (injection b; done) | cases b)
    · walk_at "m"
      exact run_found M.W M.W.mdl q'
    · walk_at "m"
      exact run_found M.W M.W.cls q'
  refine key ?_
  walk_at "m"
  refine ⟨_, setAttr_at M.at_ (of_decide_eq_true rfl), ?_⟩
  replace M := M.attr hbig (f := 1) (v := .ref (if b then 21 else 27)) rfl (of_decide_eq_true rfl)
  generalize hσ6 : σ5.set r _ = σ6 at M ⊢
  clear hσ6 key
  walk_at "m"
  refine ⟨rfl, ?_⟩
  walk_at "m"
  refine ⟨s, rfl, ?_⟩
  walk_at "m"
  refine ⟨rfl, _, hms, ?_⟩
  refine OK_compGo ms.length (fun j acc σ' => acc.length = j ∧ ∃ n' es', Mk σ n es s r _ σ' n' es') (by simp [lim]; lia) ⟨rfl, _, _, M⟩ ?_ ?_ ?_
  · intro acc σ' _
    simp [nextOf, opt, asTup]
  · rintro j acc σ' hj ⟨ha, n', es', M'⟩
    refine ⟨.str ms[j], by simp [nextOf, opt, asTup, hj], ?_⟩
    refine okF ?_
    have hw := M'.W.w
    walk_at "m"
    refine ⟨_, rfl, rfl, ?_⟩
    walk_at "m"
    refine hH _ (List.getElem_mem hj) _ _ _ _ M'.W fun r' σ'' n'' es'' W'' st'' _ => ?_
    exact ⟨by simp [accO, ha], n'', es'', M'.step hbig W'' st''⟩
  · rintro acc σ7 ⟨ha, n7, es7, M⟩
    refine ⟨by simp [lim]; lia, ?_⟩
    replace M := M.step hbig (M.W.ext (Pre.app (τ := [.list acc]))) (WSt.pre Pre.app)
    generalize hσ8 : σ7 ++ [AO.list acc] = σ8 at M ⊢
    clear hσ8
    walk_at "m"
    refine ⟨_, setAttr_at M.at_ (of_decide_eq_true rfl), ?_⟩
    replace M := M.attr hbig (f := 19) (v := .ref σ7.length) rfl (of_decide_eq_true rfl)
    generalize hσ9 : σ8.set r _ = σ9 at M ⊢
    clear hσ9
    have hw := M.W.w
    walk_at "m"
    refine ⟨_, rfl, rfl, ?_⟩
    walk_at "m"
    refine ⟨_, rfl, rfl, ?_⟩
    walk_at "m"
    refine run_give M.W hl ⟨rfl, ?_⟩
    walk_at "m"
    exact q r σ9 n7 es7 M.W M.st M.has
end
theorem notin {s : List Nat} {b : Bool} (h : okS s = true) (hb : (!(s == kernName || s == cmpName || s == enumName)) = b) : ∀ σ : Sto, cmpV .NotIn (.str s) (.old (.ref 386)) σ = some b := fun σ => by
  have : PyData.canLay0 (.str ⟨s.toArray⟩) = true := by
    simp only [PyData.canLay0, PyData.strOk]
    simpa [okS] using h
  exact (if_pos ⟨rfl, this⟩).trans (congrArg some hb)
section
variable {sc : Scr} {k n : Nat} {es : List (List Nat × AV)} {σ : Sto} {Q : AV → Sto → Prop}
theorem built_of {s : List Nat} {b : Bool} {bt : AV} {ms : List (List Nat)} (hs : s ∈ names11) (hb : ∀ σ : Sto, cmpV .NotIn (.str s) (.old (.ref 386)) σ = some b) (hbt : builtinsAt s = some bt) (hbt' : bt = .none ∨ bt = .str objName)
    (hms : mixedAt s = some (ms.map .str)) (hl : s.length ≤ 1000) (hH : ∀ m ∈ ms, BuiltOK sc (k + 4) m) (hml : ms.length ≤ 10) : BuiltOK sc (k + 6) s := by
  intro σ n es Q W q
  rcases h : getK es s with _ | v
  · refine OK_call d455 [.ref 3, .str s] rfl (by decide) rfl rfl rfl ?_
    unfold d455 b455
    have hw := W.w
    have hm := W.made
    walk_at "m"
    refine ⟨_, rfl, rfl, ?_⟩
    refine ⟨isD_d hm, ?_⟩
    walk_at "m"
    refine ⟨.none, dget_at hm (by rw [h]; rfl), ?_⟩
    walk_at "m"
    refine ⟨_, rfl, rfl, ?_⟩
    walk_at "m"
    exact run_make hs hb hbt hbt' hms hl hH hml W h fun r σ' n' es' W' st' h' => q r σ' n' es' W' st' h'
  · obtain ⟨r, fs, k', rfl, h3, h6, e, f⟩ := W.mods s v h
    exact run_found W h (q r σ n es W WSt.refl h)
theorem built_enum : BuiltOK sc (k + 6) enumName := built_of (b := false) (bt := .none) (ms := []) (by decide) (notin (by decide) (by decide)) rfl (.inl rfl) rfl (by decide) (fun m h => by (first | subst h | (injection h with h; subst h) | (injection h; done) | cases h)) (by decide)
theorem built_cmp : BuiltOK sc (k + 6) cmpName := built_of (b := false) (bt := .none) (ms := []) (by decide) (notin (by decide) (by decide)) rfl (.inl rfl) rfl (by decide) (fun m h => by (first | subst h | (injection h with h; subst h) | (injection h; done) | cases h)) (by decide)
theorem built_arr : BuiltOK sc (k + 8) arrName := built_of (k := k + 2) (b := true) (bt := .str objName) (ms := [enumName]) (by decide) (notin (by decide) (by decide)) rfl (.inr rfl) rfl (by decide) (fun m h => by rw [List.mem_singleton] at h; subst h; exact built_enum) (by decide)
theorem built_hash : BuiltOK sc (k + 8) hashName := built_of (k := k + 2) (b := true) (bt := .str objName) (ms := [enumName]) (by decide) (notin (by decide) (by decide)) rfl (.inr rfl) rfl (by decide) (fun m h => by rw [List.mem_singleton] at h; subst h; exact built_enum) (by decide)
theorem built_rng : BuiltOK sc (k + 8) rngName := built_of (k := k + 2) (b := true) (bt := .str objName) (ms := [enumName]) (by decide) (notin (by decide) (by decide)) rfl (.inr rfl) rfl (by decide) (fun m h => by rw [List.mem_singleton] at h; subst h; exact built_enum) (by decide)
theorem built_strg : BuiltOK sc (k + 8) strgName := built_of (k := k + 2) (b := true) (bt := .str objName) (ms := [cmpName]) (by decide) (notin (by decide) (by decide)) rfl (.inr rfl) rfl (by decide) (fun m h => by rw [List.mem_singleton] at h; subst h; exact built_cmp) (by decide)
noncomputable def textFs (m : Int) (ow d : Nat) (s : List Nat) : List (Nat × AV) := [(0, .int m), (1, .ref ow), (2, .ref d), (3, .none), (4, .bool false), (5, .none), (6, .str s)]
noncomputable def listFs (m : Int) (ow d c : Nat) : List (Nat × AV) := [(0, .int m), (1, .ref ow), (2, .ref d), (3, .none), (4, .bool false), (5, .none), (7, .ref c)]
noncomputable def tableFs (m : Int) (ow d c : Nat) : List (Nat × AV) := [(0, .int m), (1, .ref ow), (2, .ref d), (3, .none), (4, .bool false), (5, .none), (8, .ref c), (9, .none)]
noncomputable def rangeFs (m : Int) (ow d : Nat) (x y : AV) (b : Bool) : List (Nat × AV) := [(0, .int m), (1, .ref ow), (2, .ref d), (3, .none), (4, .bool true), (5, .none), (10, x), (11, y), (12, .bool b)]
theorem run_text {s : List Nat} (W : Wld σ n es)
    (q : ∀ (r : Nat) σ' n' es' (m ow d : Nat), Wld σ' n' es' → WSt σ n es σ' n' es' → σ.length ≤ r → σ'[r]? = some (.inst 62 (textFs m ow d s)) → Q (.ref r) σ') : OK (runT tabB sc (k + 9) 517 [.ref 3, .str s] σ) Q := by
  refine OK_call d517 [.ref 3, .str s] rfl (by decide) rfl rfl rfl ?_
  unfold d517 b517
  have hw := W.w
  walk_at "m"
  refine ⟨_, rfl, rfl, ?_⟩
  walk_at "m"
  refine run_number W fun σ1 _ W1 st1 => ?_
  have hw := W1.w
  walk_at "m"
  refine ⟨_, rfl, rfl, ?_⟩
  walk_at "m"
  refine built_strg _ _ _ _ W1 fun r2 σ2 n2 es2 W2 st2 h2 => ?_
  walk_at "m"
  refine new_text ?_
  refine q _ _ n2 es2 _ _ _ (W2.ext Pre.app) ((st1.trans st2).trans (WSt.pre Pre.app)) (st1.trans st2).le get_mid
theorem run_list {v : Nat} {vs : List AV} (W : Wld σ n es) (hv : σ[v]? = some (.list vs)) (h3 : v ≠ 3) (h6 : v ≠ 6) (hl : vs.length ≤ lim)
    (q : ∀ (r : Nat) σ' n' es' (m ow d c : Nat), Wld σ' n' es' → WSt σ n es σ' n' es' → σ.length ≤ r → σ'[r]? = some (.inst 82 (listFs m ow d c)) → σ.length ≤ c → σ'[c]? = some (.list vs) → n < m → m ≤ n' → getK es' arrName = some (.ref ow) → Q (.ref r) σ') : OK (runT tabB sc (k + 9) 524 [.ref 3, .ref v] σ) Q := by
  refine OK_call d524 [.ref 3, .ref v] rfl (by decide) rfl rfl rfl ?_
  unfold d524 b524
  have hw := W.w
  walk_at "m"
  refine ⟨_, rfl, rfl, ?_⟩
  walk_at "m"
  refine run_number W fun σ1 _ W1 st1 => ?_
  have hw := W1.w
  walk_at "m"
  refine ⟨_, rfl, rfl, ?_⟩
  walk_at "m"
  refine built_arr _ _ _ _ W1 fun r2 σ2 n2 es2 W2 st2 h2 => ?_
  have hv2 := st2.keep _ _ h3 h6 (st1.keep _ _ h3 h6 hv)
  walk_at "m"
  have : listOfV σ2 (.ref v) = newList vs σ2 := congrArg (fun o => opt (elemsO o) fun vs => newList vs σ2) hv2
  show OK (listOfV σ2 (.ref v)) _
  rw [this]
  refine OK_newList.2 ⟨hl, ?_⟩
  walk_at "m"
  refine new_list ?_
  have st3 := (st1.trans st2).trans (WSt.pre (n := n2) (es := es2) (Pre.app (τ := [.list vs])))
  refine q _ _ n2 es2 _ _ _ _ ((W2.ext (Pre.app (τ := [.list vs]))).ext Pre.app) (st3.trans (WSt.pre Pre.app)) st3.le get_mid (st1.trans st2).le (get_app get_new) (Nat.lt_succ_self n) st2.up h2
theorem run_table {v : Nat} (W : Wld σ n es) (hv : σ[v]? = some (.list [])) (h3 : v ≠ 3) (h6 : v ≠ 6)
    (q : ∀ (r : Nat) σ' n' es' (m ow d c : Nat), Wld σ' n' es' → WSt σ n es σ' n' es' → σ.length ≤ r → σ'[r]? = some (.inst 120 (tableFs m ow d c)) → σ.length ≤ c → σ'[c]? = some (.dict []) → n < m → m ≤ n' → Q (.ref r) σ') : OK (runT tabB sc (k + 9) 531 [.ref 3, .ref v] σ) Q := by
  refine OK_call d531 [.ref 3, .ref v] rfl (by decide) rfl rfl rfl ?_
  unfold d531 b531
  have hw := W.w
  walk_at "m"
  refine ⟨_, rfl, rfl, ?_⟩
  walk_at "m"
  refine run_number W fun σ1 _ W1 st1 => ?_
  have hw := W1.w
  walk_at "m"
  refine ⟨_, rfl, rfl, ?_⟩
  walk_at "m"
  refine built_hash _ _ _ _ W1 fun r2 σ2 n2 es2 W2 st2 h2 => ?_
  have hv2 := st2.keep _ _ h3 h6 (st1.keep _ _ h3 h6 hv)
  walk_at "m"
  refine new_table ?_
  walk_at "m"
  refine ⟨asList_ref (get_app hv2), ?_⟩
  walk_at "m"
  refine q _ _ n2 es2 _ _ _ _ (W2.ext Pre.app) ((st1.trans st2).trans (WSt.pre Pre.app)) (st1.trans st2).le get_mid (by have := (st1.trans st2).le; lia) ?_ (Nat.lt_succ_self n) st2.up
  rw [List.getElem?_append_right (by lia)]
  simp
end
section
variable {sc : Scr} {k n : Nat} {es : List (List Nat × AV)} {σ : Sto} {Q : AV → Sto → Prop}
theorem run_class {i : Nat} {D : Addr} {fs : List (Nat × AV)} {r : Nat} (h : σ[i]? = some (.inst D fs)) (hf : fget D fs 1 = some (.ref r)) (q : Q (.ref r) σ) : OK (runT tabB sc (k + 1) 482 [.ref 3, .ref i] σ) Q := by
  refine OK_call d482 [.ref 3, .ref i] rfl (by decide) rfl rfl rfl ?_
  unfold d482 b482
  walk_at "m"
  exact ⟨_, hf, rfl, q⟩
theorem run_same {i j : Nat} {D E : Addr} {fs gs : List (Nat × AV)} {a b : Int} (h : σ[i]? = some (.inst D fs)) (hf : fget D fs 0 = some (.int a)) (g : σ[j]? = some (.inst E gs)) (gf : fget E gs 0 = some (.int b)) (q : Q (.bool (decide (a = b))) σ) :
    OK (runT tabB sc (k + 2) 244 [.ref i, .ref j] σ) Q := by
  refine OK_call d244 [.ref i, .ref j] rfl (by decide) rfl rfl rfl ?_
  unfold d244 b244
  walk_at "m"
  refine run_sort (s := sThing) ⟨rfl, _, _, h⟩ ?_
  walk_at "m"
  refine run_sort (s := sThing) ⟨rfl, _, _, g⟩ ?_
  walk_at "m"
  refine ⟨_, hf, rfl, ?_⟩
  walk_at "m"
  refine ⟨_, gf, rfl, ?_⟩
  walk_at "m"
  exact q
theorem run_range {i j : Nat} {fs gs : List (Nat × AV)} {ow : Nat} {b : Bool} (W : Wld σ n es) (h : σ[i]? = some (.inst 82 fs)) (g : σ[j]? = some (.inst 82 gs)) (hf : fget 82 fs 1 = some (.ref ow)) (gf : fget 82 gs 1 = some (.ref ow)) (ho : isMod σ (.ref ow))
    (q : ∀ (r : Nat) σ' n' es' (m ow d : Nat), Wld σ' n' es' → WSt σ n es σ' n' es' → σ.length ≤ r → σ'[r]? = some (.inst 140 (rangeFs m ow d (.ref i) (.ref j) b)) → n < m → m ≤ n' → Q (.ref r) σ') : OK (runT tabB sc (k + 9) 545 [.ref 3, .ref i, .ref j, .bool b] σ) Q := by
  refine OK_call d545 [.ref 3, .ref i, .ref j, .bool b] rfl (by decide) rfl rfl rfl ?_
  unfold d545 b545
  obtain ⟨o, ofs, ok, oe, o3, o6, oat, onum⟩ := ho
  (first | subst oe | (injection oe with oe; subst oe) | (injection oe; done) | cases oe)
  have hw := W.w
  walk_at "m"
  refine ⟨⟨true, rfl⟩, ?_⟩
  walk_at "m"
  refine run_sort (s := sThing) ⟨rfl, _, _, h⟩ ?_
  walk_at "m"
  refine run_sort (s := sThing) ⟨rfl, _, _, g⟩ ?_
  walk_at "m"
  refine ⟨⟨false, rfl⟩, ?_⟩
  walk_at "m"
  refine ⟨_, rfl, rfl, ?_⟩
  walk_at "m"
  refine run_class h hf ?_
  walk_at "m"
  refine ⟨_, rfl, rfl, ?_⟩
  walk_at "m"
  refine run_class g gf ?_
  walk_at "m"
  refine run_same oat onum oat onum ?_
  rw [decide_eq_true rfl]
  refine ⟨true, rfl, ?_⟩
  refine ⟨⟨_, rfl⟩, ?_⟩
  walk_at "m"
  refine ⟨_, rfl, rfl, ?_⟩
  walk_at "m"
  refine run_number W fun σ1 _ W1 st1 => ?_
  have hw := W1.w
  walk_at "m"
  refine ⟨_, rfl, rfl, ?_⟩
  walk_at "m"
  refine built_rng _ _ _ _ W1 fun r2 σ2 n2 es2 W2 st2 h2 => ?_
  walk_at "m"
  refine new_range ?_
  walk_at "m"
  refine ex_setNew (of_decide_eq_true rfl) ?_
  walk_at "m"
  exact q _ _ n2 es2 _ _ _ (W2.ext Pre.app) ((st1.trans st2).trans (WSt.pre Pre.app)) (st1.trans st2).le get_mid (Nat.lt_succ_self n) st2.up
end
/-! the nodes -/
structure Pr1 (σ σ' : Sto) : Prop where
  keep : ∀ (i : Nat) (o : AO), i ≠ 1 → σ[i]? = some o → σ'[i]? = some o
  le : σ.length ≤ σ'.length
theorem Pr1.refl {σ : Sto} : Pr1 σ σ := ⟨fun _ _ _ h => h, Nat.le_refl _⟩
theorem Pr1.trans {a b c : Sto} (h : Pr1 a b) (g : Pr1 b c) : Pr1 a c := ⟨fun i o n e => g.keep i o n (h.keep i o n e), Nat.le_trans h.le g.le⟩
theorem Pr1.app {σ τ : Sto} : Pr1 σ (σ ++ τ) := ⟨fun i o _ e => Pre.app i o e, Pre.app.le⟩
theorem Pr1.set {σ σ' : Sto} {i : Nat} {o : AO} (h : Pr1 σ σ') (hi : σ.length ≤ i) : Pr1 σ (σ'.set i o) := ⟨fun j p n e => by
  have := get_lt e
  rw [List.getElem?_set_ne (by lia)]; exact h.keep j p n e, by rw [List.length_set]; exact h.le⟩
theorem Box.app {σ τ : Sto} {ns : List Int} (B : Box σ ns) : Box (σ ++ τ) ns := by
  obtain ⟨h, f, a, b, e⟩ := B
  exact ⟨get_app h, f, a, b, get_app e⟩
theorem Box.set {σ : Sto} {ns : List Int} {i : Nat} {o : AO} (B : Box σ ns) (hi : 2 ≤ i) : Box (σ.set i o) ns := by
  obtain ⟨h, f, a, b, e⟩ := B
  exact ⟨by rw [List.getElem?_set_ne (by lia)]; exact h, f, a, b, by rw [List.getElem?_set_ne (by lia)]; exact e⟩
section
variable {sc : Scr} {k : Nat} {σ : Sto} {ns : List Int} {Q : AV → Sto → Prop}
theorem grd_pos {β : Type} {p : Prop} [d : Decidable p] {o : Option β} (hp : p) : grd p o = o := if_pos hp
theorem idx_of {j : Int} (h : 0 ≤ j ∧ j < 1000000) : idx (.int j) = some j.toNat := grd_pos h
theorem idx_nat {i : Nat} (hi : i < 1000000) : idx (.int i) = some i := idx_of ⟨Int.natCast_nonneg i, int_mil hi⟩
theorem itemV_list {σ : Sto} {L : Nat} {vs : List AV} {i : Nat} {v : AV} (h : σ[L]? = some (.list vs)) (hi : i < 1000000) (hv : vs[i]? = some v) : itemV (.ref L) (.int i) σ = some v := by
  show opt (listO σ[L]?) _ = _
  rw [h, listO, opt, idx_nat hi]
  exact hv
theorem itemV_at {σ : Sto} {L : Nat} {vs : List AV} {j : Int} {i : Nat} {v : AV} (h : σ[L]? = some (.list vs)) (hi : i < 1000000) (hv : vs[i]? = some v) (e : j = i) : itemV (.ref L) (.int j) σ = some v := e ▸ itemV_list h hi hv
theorem emod_nat (x : Int) {m : Nat} (h : 0 < m) : ∃ r : Nat, r < m ∧ x % (m : Int) = r :=
  have h' : (0 : Int) < m := Int.natCast_pos.mpr h
  have n := Int.emod_nonneg x (Int.ne_of_gt h')
  ⟨(x % (m : Int)).toNat, (Int.toNat_lt n).mpr (Int.emod_lt_of_pos x h'), (Int.toNat_of_nonneg n).symm⟩
theorem setV_list {σ : Sto} {L : Nat} {vs : List AV} {i : Nat} {v : AV} (h : σ[L]? = some (.list vs)) (hi : i < 1000000) (hv : i < vs.length) : setItemV (.ref L) (.int i) v σ = some (σ.set L (.list (vs.set i v))) :=
  setL_at h ⟨Int.natCast_nonneg i, hv, int_mil hi⟩
theorem take_ok {m : Nat} (B : Box σ ns) (hm : 0 < m) (hm2 : m < 1000000) (q : ∀ (r : Nat) σ', r < m → Box σ' ns → Pr1 σ σ' → Q (.int r) σ') : OK (runT tabB sc (k + 1) 664 [.ref 1, .int m] σ) Q := by
  obtain ⟨h0, hf, a, b, h1⟩ := B
  have fin : ∀ (x : Int) (c d : Nat), Q (.int (x % (m : Int))) (σ.set 1 (.list [.ref 0, .int c, .int d])) := fun x c d => by
    obtain ⟨r, hr, e⟩ := emod_nat x hm
    rw [e]
    refine q r _ hr ⟨(List.getElem?_set_ne (by decide)).trans h0, hf, c, d, get_set h1⟩ ⟨fun i o n e => (List.getElem?_set_ne (Ne.symm n)).trans e, Nat.le_of_eq (List.length_set ..).symm⟩
  have g1 := fun o => get_set (o := o) h1
  have g0 : ∀ o, (σ.set 1 o)[0]? = some (.list (ns.map .int)) := fun o => (List.getElem?_set_ne (by decide)).trans h0
  refine OK_call d664 [.ref 1, .int m] rfl (by decide) rfl rfl rfl ?_
  unfold d664 b664
  walk_at "m"
  refine ⟨.int a, itemV_list (i := 1) h1 (by decide) rfl, ?_⟩
  walk_at "m"
  refine ⟨_, setV_list (i := 1) h1 (by decide) (show 1 < 3 by decide), ?_⟩
  walk_at "m"
  refine ⟨.int (a + 1 : Nat), itemV_list (i := 1) (g1 _) (by decide) rfl, ?_⟩
  walk_at "m"
  refine ⟨.ref 0, itemV_list (i := 0) (g1 _) (by decide) rfl, ?_⟩
  walk_at "m"
  refine ⟨ns.length, ?_, ?_, ?_⟩
  · exact len_lm (g0 _)
  · exact Nat.lt_of_le_of_lt hf (by decide)
  walk_at "m"
  refine ⟨decide (a + 1 ≤ ns.length), congrArg AV.bool (decide_eq_decide.mpr Int.ofNat_le), fun hc => ?_, fun hc => ?_⟩
  · have hc := of_decide_eq_true hc
    walk_at "m"
    refine ⟨_, itemV_list (i := 0) (g1 _) (by decide) rfl, ?_⟩
    walk_at "m"
    refine ⟨_, itemV_list (i := 1) (g1 _) (by decide) rfl, ?_⟩
    walk_at "m"
    refine ⟨_, _, rfl, rfl, ?_⟩
    refine ⟨.int ns[a], itemV_at (i := a) (g0 _) (Nat.lt_of_lt_of_le hc (Nat.le_trans hf (by decide))) (by rw [List.getElem?_map, List.getElem?_eq_getElem hc]; rfl) (by lia), ?_⟩
    walk_at "m"
    refine ⟨_, _, rfl, rfl, ⟨Int.natCast_pos.mpr hm, int_mil hm2⟩, ?_⟩
    exact fin ns[a] (a + 1) b
  · walk_at "m"
    refine ⟨_, itemV_list (i := 2) (g1 _) (by decide) rfl, ?_⟩
    walk_at "m"
    refine ⟨_, setV_list (i := 2) (g1 _) (by decide) (show 2 < 3 by decide), ?_⟩
    walk_at "m"
    rw [List.set_set]
    refine ⟨_, itemV_list (i := 2) (g1 _) (by decide) rfl, ?_⟩
    walk_at "m"
    refine ⟨_, _, rfl, rfl, ⟨by decide, by decide⟩, ?_⟩
    walk_at "m"
    refine ⟨_, _, rfl, rfl, ⟨Int.natCast_pos.mpr hm, int_mil hm2⟩, ?_⟩
    exact fin _ (a + 1) (b + 1)
theorem take_lit {m : Nat} {mi : Int} (e : mi = (m : Int)) (B : Box σ ns) (hm : 0 < m) (hm2 : m < 1000000) (q : ∀ (r : Nat) σ', r < m → Box σ' ns → Pr1 σ σ' → Q (.int r) σ') : OK (runT tabB sc (k + 1) 664 [.ref 1, .int mi] σ) Q := by
  subst e; exact take_ok B hm hm2 q
theorem run_scalar (B : Box σ ns) (q : ∀ (s : Sc) σ', Box σ' ns → Pr1 σ σ' → Q s.av σ') : OK (runT tabB sc (k + 2) 671 [.ref 1] σ) Q := by
  refine OK_call d671 [.ref 1] rfl (by decide) rfl rfl rfl ?_
  unfold d671 b671
  walk_at "m"
  refine ⟨by decide, ?_⟩
  walk_at "m"
  refine take_lit (m := 6) rfl B.app (by decide) (by decide) fun r σ' hr B' p' => ?_
  have h1 := p'.keep σ.length _ (by have := get_lt B.box.choose_spec.choose_spec; lia) get_new
  have key : ∃ s : Sc, [AV.tup [.str [105, 110, 116], .int 1], .tup [.str [115, 121, 109], .str [97]], .tup [.str [116, 101, 120, 116], .str [98]], .tup [.str [105, 110, 116], .int 2], .tup [.str [116, 101, 120, 116], .str []], .tup [.str [119, 111, 114, 100], .none]][r]? = some s.av := by
    exact get_map_lt Sc.av (l := [.n1, .sa, .tb, .n2, .te, .nl]) hr
  obtain ⟨s, hs⟩ := key
  refine ⟨s.av, itemV_list h1 (by lia) hs, ?_⟩
  walk_at "m"
  exact q s σ' B' (Pr1.app.trans p')
end
/-- one node in the store -/
noncomputable def NdAt (σ : Sto) (lo r : Nat) (nd : Nd) : Prop := ∃ p, lo ≤ r ∧ lo ≤ p ∧ σ[r]? = some (.list [.str nd.kd.nm, .ref p]) ∧ σ[p]? = some (.list (nd.ps.map Pt.av))
structure Ndl (σ : Sto) (lo : Nat) (rs : List Nat) (N : List Nd) : Prop where
  len : rs.length = N.length
  at_ : ∀ (k : Nat) (nd : Nd) (r : Nat), N[k]? = some nd → rs[k]? = some r → NdAt σ lo r nd
theorem NdAt.keep {σ σ' : Sto} {lo r : Nat} {nd : Nd} (h : NdAt σ lo r nd) (hk : ∀ (i : Nat) (o : AO), lo ≤ i → σ[i]? = some o → σ'[i]? = some o) : NdAt σ' lo r nd := by
  obtain ⟨p, h1, h2, h3, h4⟩ := h
  exact ⟨p, h1, h2, hk _ _ h1 h3, hk _ _ h2 h4⟩
theorem Ndl.keep {σ σ' : Sto} {lo : Nat} {rs : List Nat} {N : List Nd} (h : Ndl σ lo rs N) (hk : ∀ (i : Nat) (o : AO), lo ≤ i → σ[i]? = some o → σ'[i]? = some o) : Ndl σ' lo rs N :=
  ⟨h.len, fun k nd r e g => (h.at_ k nd r e g).keep hk⟩
theorem Ndl.snoc {σ : Sto} {lo r : Nat} {rs : List Nat} {N : List Nd} {nd : Nd} (h : Ndl σ lo rs N) (g : NdAt σ lo r nd) : Ndl σ lo (rs ++ [r]) (N ++ [nd]) := by
  refine ⟨by simp [h.len], fun k nd' r' e e' => ?_⟩
  by_cases hk : k < N.length
  · rw [List.getElem?_append_left hk] at e
    rw [List.getElem?_append_left (by rw [h.len]; exact hk)] at e'
    exact h.at_ k nd' r' e e'
  · have hk2 : k = N.length := by
      have := (List.getElem?_eq_some_iff.mp e).1
      simp at this; lia
    subst hk2
    rw [← h.len] at e'
    simp at e e'
    subst e e'; exact g
noncomputable def Pt.isN : Pt → Bool
  | .node _ => true
  | .sc _ => false
/-- what a node keeps to -/
structure NdOK (m : Nat) (ks : List Kd) (k : Nat) (nd : Nd) : Prop where
  kd : ks[k]? = some nd.kd
  short : nd.ps.length ≤ 3
  ok : ∀ p ∈ nd.ps, p.ok m
  one : nd.kd ≠ .range → (nd.ps.filter Pt.isN).length ≤ 1
  rng : nd.kd = .range → ∃ a b, nd.ps = [.node a, .node b] ∧ ks[a]? = some .list ∧ ks[b]? = some .list
theorem len2 {α : Type} {l : List α} (h : l.length = 2) : ∃ x y, l = [x, y] := by
  induction l using lcs with
  | nil => (first | subst h | (injection h with h; subst h) | (injection h; done) | cases h)
  | cons x l => induction l using lcs with
    | nil => (first | subst h | (injection h with h; subst h) | (injection h; done) | cases h)
    | cons y l => induction l using lcs with
      | nil => exact ⟨x, y, rfl⟩
      | cons => (first | subst h | (injection h with h; subst h) | (injection h; done) | cases h)
theorem next_of {n : Int} {j : Nat} {σ : Sto} (h : -1000000 < n ∧ n < 1000000) : nextOf 1 (.int n) j σ = some (if (j : Int) < n then some (.int j) else none) := grd_pos h
theorem next_int {m j : Nat} {σ : Sto} (hm : m < 1000000) (h : j < m) : nextOf 1 (.int m) j σ = some (some (.int j)) :=
  (next_of ⟨by lia, int_mil hm⟩).trans (congrArg some (if_pos (Int.ofNat_lt.mpr h)))
theorem next_int_end {m : Nat} {σ : Sto} (hm : m < 1000000) : nextOf 1 (.int m) m σ = some none :=
  (next_of ⟨by lia, int_mil hm⟩).trans (congrArg some (if_neg (Int.lt_irrefl _)))
theorem next_list {L j : Nat} {vs : List AV} {v : AV} {σ : Sto} (hL : σ[L]? = some (.list vs)) (h : vs[j]? = some v) : nextOf 0 (.ref L) j σ = some (some v) := by
  rw [nextOf, asList_ref hL]; exact congrArg some h
theorem next_list_end {L j : Nat} {vs : List AV} {σ : Sto} (hL : σ[L]? = some (.list vs)) (h : vs.length = j) : nextOf 0 (.ref L) j σ = some none := by
  rw [nextOf, asList_ref hL]
  exact congrArg some (List.getElem?_eq_none (Nat.le_of_eq h))
theorem getS {α : Type} {l : List α} {i : Nat} {a : α} {β : Type} {f : α → β} (h : l[i]? = some a) : (l.map f)[i]? = some (f a) := by
  rw [List.getElem?_map, h]; rfl
section
variable {sc : Scr} {k : Nat} {σ : Sto} {ns : List Int} {Q : AV → Sto → Prop}
theorem nm_eq_list (kd : Kd) : decide (kd.nm = sList) = decide (kd = .list) := by rcases kd <;> decide
theorem nm_eq_range (kd : Kd) : decide (kd.nm = sRange) = decide (kd = .range) := by rcases kd <;> decide
theorem nm_eq_table (kd : Kd) : decide (kd.nm = sTable) = decide (kd = .table) := by rcases kd <;> decide
theorem nm_ok (kd : Kd) : okS kd.nm = true := by rcases kd <;> decide
noncomputable def bodyN : List PS := [.ite (.cmp (.Eq) (.var 5) (.val (.str [114, 97, 110, 103, 101]))) [.expr (.lapp (.var 3) (.list [.var 5, .comp (.tup [.val (.str [110, 111, 100, 101]), .item (.var 4) (.call 664 [.var 0, .len (.var 4)])]) 101 1 (.val (.int 2)) none])), .cont] [], .asg 6 (.comp (.call 671 [.var 0]) 101 1 (.item (.list [.val (.int 1), .val (.int 2), .val (.int 0)]) (.call 664 [.var 0, .val (.int 3)])) none), .ite (.cmp (.Lt) (.call 664 [.var 0, .val (.int 4)]) (.val (.int 3))) [.expr (.lins (.var 6) (.call 664 [.var 0, .add (.len (.var 6)) (.val (.int 1))]) (.tup [.val (.str [110, 111, 100, 101]), .call 664 [.var 0, .var 1]]))] [], .expr (.lapp (.var 3) (.list [.var 5, .var 6]))]
/-- one turn of the loop of _law_nodes -/
theorem run_body {ρ : Vars} {L Rw m j : Nat} {kd : Kd} {rws : List Nat} {ks : List Kd} {R : Fl → Vars → Sto → Prop} {xs : List AV}
    (h0 : ρ 0 = some (.ref 1)) (h1 : ρ 1 = some (.int m)) (h3 : ρ 3 = some (.ref L)) (h4 : ρ 4 = some (.ref Rw)) (h5 : ρ 5 = some (.str kd.nm)) (hL : σ[L]? = some (.list xs)) (hR : σ[Rw]? = some (.list (rws.map fun i => .int (i : Nat)))) (hxs : xs.length ≤ 10)
    (B : Box σ ns) (hL2 : 2 ≤ L) (hm : 0 < m) (hm6 : m ≤ 6) (hrw : 0 < rws.length ∧ rws.length ≤ 6) (hrk : ∀ i ∈ rws, i < m ∧ ks[i]? = some .list) (hkd : ks[j]? = some kd) (hR2 : 2 ≤ Rw)
    (q : ∀ fl ρ' σ' r nd, (∀ v, fl ≠ .ret v) → (∀ y, y < 5 → ρ' y = ρ y) → Box σ' ns → (∀ (i : Nat) (o : AO), i ≠ 1 → i ≠ L → σ[i]? = some o → σ'[i]? = some o) → σ.length ≤ σ'.length → NdOK m ks j nd → NdAt σ' σ.length r nd → σ'[L]? = some (.list (xs ++ [.ref r])) → R fl ρ' σ') :
    WS (runT tabB sc (k + 2)) bodyN ρ σ R := by
  have hLlt := get_lt hL
  have hRlt := get_lt hR
  unfold bodyN
  refine WS_ite ?_
  refine rE_cmp (rE_var ⟨_, h5, rE_val ?_⟩)
  refine ex_eqs (by rw [nm_ok]; rfl) ?_
  rw [nm_eq_range]
  by_cases hr : kd = .range
  · rw [decide_eq_true hr]
    refine br_t rfl ?_
    walk_at "m"
    refine ⟨L, rfl, ⟨_, asList_ref hL⟩, ?_⟩
    walk_at "m"
    refine OK_compGo 2 (fun j acc σ' => ∃ ps : List Pt, ps.length = j ∧ acc = ps.map Pt.av ∧ (∀ p ∈ ps, ∃ a ∈ rws, p = .node a) ∧ Box σ' ns ∧ Pr1 σ σ') (by decide) ⟨[], rfl, rfl, by simp, B, Pr1.refl⟩ (fun acc σ' _ => next_int_end (by decide)) ?_ ?_
    · rintro j acc σ' hj ⟨ps, h7, h8, h9, B', p'⟩
      refine ⟨.int j, next_int (m := 2) (by decide) hj, okF ?_⟩
      have hR' := p'.keep _ _ (by lia) hR
      walk_at "m"
      refine ⟨rws.length, len_lm hR', by lia, ?_⟩
      walk_at "m"
      refine take_ok B' hrw.1 (by lia) fun r σ'' hr B'' p'' => ?_
      have hR'' := p''.keep _ _ (by lia) hR'
      refine ⟨.int (rws[r] : Nat), itemV_list hR'' (by lia) (getS (List.getElem?_eq_getElem hr)), ?_⟩
      walk_at "m"
      exact ⟨ps ++ [.node rws[r]], by simp [h7], by simp [h8, accO, Pt.av], by
        intro p hp
        rcases List.mem_append.1 hp with hp | hp
        · exact h9 p hp
        · rw [List.mem_singleton] at hp; exact ⟨_, List.getElem_mem hr, hp⟩, B'', p'.trans p''⟩
    · rintro acc σ' ⟨ps, h7, h8, h9, B', p'⟩
      subst h8
      refine ⟨by simp [lim, h7], ?_⟩
      walk_at "m"
      refine ⟨by simp [lim], ?_⟩
      have hL' := p'.keep _ _ (by lia) hL
      refine ⟨xs, get_app (get_app hL'), by simp [lim]; lia, rfl, ?_⟩
      walk_at "m"
      have le := p'.le
      have e1 : (σ' ++ [AO.list (ps.map Pt.av)])[σ'.length]? = some (.list (ps.map Pt.av)) := get_new
      have e2 : (σ' ++ [AO.list (ps.map Pt.av)] ++ [AO.list [.str kd.nm, .ref σ'.length]])[(σ' ++ [AO.list (ps.map Pt.av)]).length]? = some (.list [.str kd.nm, .ref σ'.length]) := get_new
      refine q .cont ρ _ (σ' ++ [AO.list (ps.map Pt.av)]).length ⟨kd, ps⟩ (by simp) (fun _ _ => rfl) (B'.app.app.set hL2) ?_ (by simp; lia) ?_ ⟨σ'.length, by simp; lia, le, ?_, ?_⟩ ?_
      · intro i o n1 n2 e
        rw [List.getElem?_set_ne (fun h => n2 h.symm)]
        exact get_app (get_app (p'.keep i o n1 e))
      · obtain ⟨x, y, rfl⟩ : ∃ x y, ps = [x, y] := len2 h7
        obtain ⟨a, ha, rfl⟩ := h9 x (by simp)
        obtain ⟨b, hb, rfl⟩ := h9 y (by simp)
        refine ⟨hkd, by simp, ?_, fun h => absurd hr h, fun _ => ⟨a, b, rfl, (hrk a ha).2, (hrk b hb).2⟩⟩
        intro p hp
        simp at hp
        rcases hp with rfl | rfl
        · exact (hrk a ha).1
        · exact (hrk b hb).1
      · rw [List.getElem?_set_ne (by simp; lia)]
        exact e2
      · rw [List.getElem?_set_ne (by lia)]
        exact get_app e1
      · exact get_set (get_app (get_app hL'))
  · rw [decide_eq_false hr]
    refine br_f rfl ?_
    walk_at "m"
    refine ⟨by decide, ?_⟩
    walk_at "m"
    refine take_lit (m := 3) rfl B.app (by decide) (by decide) fun r σ1 hr1 B1 p1 => ?_
    have hq := p1.keep σ.length _ (by lia) get_new
    obtain ⟨c, hc, hc2⟩ := get_nat (P := fun c => c ≤ 2) (l := [1, 2, 0]) hr1 (by decide)
    refine ⟨.int c, itemV_list hq (by lia) hc, ?_⟩
    have p1' : Pr1 σ σ1 := Pr1.app.trans p1
    have hcl : c ≤ lim := by simp only [lim]; lia
    refine OK_compGo c (fun j acc σ' => ∃ ss : List Sc, ss.length = j ∧ acc = ss.map Sc.av ∧ Box σ' ns ∧ Pr1 σ σ') hcl ⟨[], rfl, rfl, B1, p1'⟩ (fun acc σ' _ => next_int_end (by lia)) ?_ ?_
    · rintro j acc σ' hj ⟨ss, h7, h8, B', p'⟩
      refine ⟨.int j, next_int (m := c) (by lia) hj, okF ?_⟩
      walk_at "m"
      refine run_scalar B' fun s σ'' B'' p'' => ?_
      exact ⟨ss ++ [s], by simp [h7], by simp [h8, accO], B'', p'.trans p''⟩
    · rintro acc σ2 ⟨ss, h7, h8, B2, p2⟩
      have h8' : acc = (ss.map Pt.sc).map Pt.av := by rw [h8, List.map_map]; rfl
      clear h8
      subst h8'
      refine ⟨by simp [lim]; lia, ?_⟩
      have hP : (σ2 ++ [AO.list ((ss.map Pt.sc).map Pt.av)])[σ2.length]? = some (.list ((ss.map Pt.sc).map Pt.av)) := get_new
      have p3 : Pr1 σ (σ2 ++ [AO.list ((ss.map Pt.sc).map Pt.av)]) := p2.trans Pr1.app
      have B3 := B2.app (τ := [AO.list ((ss.map Pt.sc).map Pt.av)])
      have hle2 := p2.le
      generalize hPP : σ2.length = P at hP hle2 ⊢
      generalize hσ3 : σ2 ++ [AO.list ((ss.map Pt.sc).map Pt.av)] = σ3 at hP p3 B3 ⊢
      clear hσ3
      -- the end of the turn
      have fin : ∀ (σ4 : Sto) (ps : List Pt) (ρ4 : Vars), ρ4 3 = some (.ref L) → ρ4 5 = some (.str kd.nm) → ρ4 6 = some (.ref P) → (∀ y, y < 5 → ρ4 y = ρ y) → Box σ4 ns → (∀ (i : Nat) (o : AO), i ≠ 1 → i ≠ P → σ3[i]? = some o → σ4[i]? = some o) → σ3.length ≤ σ4.length → σ4[P]? = some (.list (ps.map Pt.av)) → ps.length ≤ 3 → (∀ p ∈ ps, p.ok m) → (ps.filter Pt.isN).length ≤ 1 →
          WS (runT tabB sc (k + 2)) [.expr (.lapp (.var 3) (.list [.var 5, .var 6]))] ρ4 σ4 R := by
        intro σ4 ps ρ4 g3 g5 g6 gy B4 k4 l4 hP4 s4 o4 n4
        have hL4 := k4 L _ (by lia) (by lia) (p3.keep _ _ (by lia) hL)
        walk_at "m"
        refine ⟨L, rfl, ⟨_, asList_ref hL4⟩, ?_⟩
        walk_at "m"
        refine ⟨by simp [lim], xs, get_app hL4, by simp [lim]; lia, rfl, ?_⟩
        walk_at "m"
        have le := p3.le
        refine q .next ρ4 _ σ4.length ⟨kd, ps⟩ (by simp) gy (B4.app.set hL2) ?_ (by simp; lia) ⟨hkd, s4, o4, fun _ => n4, fun h => absurd h hr⟩ ⟨P, by lia, hle2, ?_, ?_⟩ ?_
        · intro i o n1 n2 e
          have := get_lt e
          rw [List.getElem?_set_ne (fun h => n2 h.symm)]
          exact get_app (k4 i o n1 (by lia) (p3.keep i o n1 e))
        · rw [List.getElem?_set_ne (by lia)]
          exact get_new
        · rw [List.getElem?_set_ne (by lia)]
          exact get_app hP4
        · exact get_set (get_app hL4)
      have oks : ∀ p ∈ ss.map Pt.sc, p.ok m := by
        intro p hp
        rw [List.mem_map] at hp
        obtain ⟨s, _, rfl⟩ := hp
        trivial
      have noN : (ss.map Pt.sc).filter Pt.isN = [] := by
        rw [List.filter_eq_nil_iff]
        intro p hp
        rw [List.mem_map] at hp
        obtain ⟨s, _, rfl⟩ := hp
        simp [Pt.isN]
      have hl3 : (ss.map Pt.sc).length = c := by rw [List.length_map, h7]
      walk_at "m"
      refine take_lit (m := 4) rfl B3 (by decide) (by decide) fun r4 σ4 hr4 B4 p4 => ?_
      walk_at "m"
      have hP4 := p4.keep _ _ (by lia) hP
      by_cases h4' : (r4 : Int) < 3
      · rw [decide_eq_true h4']
        refine br_t rfl ?_
        walk_at "m"
        refine ⟨P, rfl, ⟨_, asList_ref hP4⟩, ?_⟩
        walk_at "m"
        refine ⟨c, (len_lm hP4).trans (congrArg some ((List.length_map ..).trans h7)), by lia, ?_⟩
        walk_at "m"
        refine take_lit (m := c + 1) (by simp) B4 (by lia) (by lia) fun r5 σ5 hr5 B5 p5 => ?_
        refine ⟨r5, rfl, ?_⟩
        walk_at "m"
        refine take_ok B5 hm (by lia) fun r6 σ6 hr6 B6 p6 => ?_
        walk_at "m"
        have hP6 := p6.keep _ _ (by lia) (p5.keep _ _ (by lia) hP4)
        refine ⟨_, hP6, ⟨by simp; lia, by simp; lia⟩, rfl, ?_⟩
        refine WS_nil (thn_next ?_)
        have p46 := (p4.trans p5).trans p6
        have hspl : ss.map Pt.sc = (ss.map Pt.sc).take r5 ++ (ss.map Pt.sc).drop r5 := (List.take_append_drop _ _).symm
        refine fin _ ((ss.map Pt.sc).take r5 ++ Pt.node r6 :: (ss.map Pt.sc).drop r5) (upd ρ 6 (.ref P)) h3 h5 rfl (fun y hy => by simp [upd]; lia) (B6.set (by lia)) (fun i o n1 nP e => by rw [List.getElem?_set_ne (fun h => nP h.symm)]; exact p46.keep i o n1 e) (by rw [List.length_set]; exact p46.le) ?_ ?_ ?_ ?_
        · rw [get_set hP6]
          simp [insAt, List.map_take, List.map_drop, Pt.av]
        · simp; lia
        · intro p hp
          rcases List.mem_append.1 hp with hp | hp
          · exact oks p (List.mem_of_mem_take hp)
          · rcases List.mem_cons.1 hp with rfl | hp
            · exact hr6
            · exact oks p (List.mem_of_mem_drop hp)
        · rw [hspl, List.filter_append] at noN
          have n1 := (List.append_eq_nil_iff.1 noN).1
          have n2 := (List.append_eq_nil_iff.1 noN).2
          rw [List.filter_append, List.filter_cons_of_pos rfl, n1, n2]
          simp
      · rw [decide_eq_false h4']
        refine br_f rfl (WS_nil (thn_next ?_))
        refine fin σ4 (ss.map Pt.sc) (upd ρ 6 (.ref P)) h3 h5 rfl (fun y hy => by simp [upd]; lia) B4 (fun i o n1 nP e => p4.keep i o n1 e) p4.le hP4 (by lia) oks (by rw [noN]; decide)
end
section
variable {sc : Scr} {k : Nat} {σ : Sto} {ns : List Int} {Q : AV → Sto → Prop}
structure NI (σ₀ : Sto) (ns : List Int) (ks : List Kd) (rws : List Nat) (m K L Rw lo j : Nat) (ρ : Vars) (σ : Sto) : Prop where
  h0 : ρ 0 = some (.ref 1)
  h1 : ρ 1 = some (.int m)
  h2 : ρ 2 = some (.ref K)
  h3 : ρ 3 = some (.ref L)
  h4 : ρ 4 = some (.ref Rw)
  B : Box σ ns
  p : Pr1 σ₀ σ
  hK : σ[K]? = some (.list (ks.map fun kd => .str kd.nm))
  hR : σ[Rw]? = some (.list (rws.map fun i => .int (i : Nat)))
  N : ∃ rs N, N.length = j ∧ σ[L]? = some (.list (rs.map .ref)) ∧ Ndl σ lo rs N ∧ ∀ (k : Nat) (nd : Nd), N[k]? = some nd → NdOK m ks k nd
theorem run_nodes {m : Nat} (B : Box σ ns) (hm : 0 < m) (hm6 : m ≤ 6)
    (q : ∀ (L : Nat) σ' rs N ks, Box σ' ns → Pr1 σ σ' → σ.length ≤ L → σ'[L]? = some (.list (rs.map .ref)) → Ndl σ' σ.length rs N → N.length = m → ks[0]? = some Kd.list → ks.length = m → (∀ (k : Nat) (nd : Nd), N[k]? = some nd → NdOK m ks k nd) → Q (.ref L) σ') :
    OK (runT tabB sc (k + 3) 676 [.ref 1, .int m] σ) Q := by
  refine OK_call d676 [.ref 1, .int m] rfl (by decide) rfl rfl rfl ?_
  show WS _ [.asg 2 _, .asgSubT _ _ _ _ _, .asg 4 _, .for_ 5 0 (.var 2) bodyN, .ret (.var 3)] _ _ _
  have h2 : 2 ≤ σ.length := by have := get_lt B.box.choose_spec.choose_spec; lia
  refine WS_asg (rE_comp (rE_var ⟨_, rfl, ?_⟩))
  refine OK_compGo m (fun j acc σ' => ∃ ks : List Kd, ks.length = j ∧ acc = ks.map (fun kd => .str kd.nm) ∧ Box σ' ns ∧ Pr1 σ σ') (by simp only [lim]; lia) ⟨[], rfl, rfl, B, Pr1.refl⟩ (fun acc σ' _ => next_int_end (by lia)) ?_ ?_
  · rintro j acc σ' hj ⟨ks, h7, h8, B', p'⟩
    refine ⟨.int j, next_int (by lia) hj, okF ?_⟩
    walk_at "m"
    refine ⟨by decide, ?_⟩
    walk_at "m"
    refine take_lit (m := 5) rfl B'.app (by decide) (by decide) fun r σ'' hr B'' p'' => ?_
    have hq := p''.keep σ'.length _ (by have := p'.le; lia) get_new
    obtain ⟨kd, hkd⟩ := get_map_lt (fun kd : Kd => AV.str kd.nm) (l := [.list, .list, .table, .list, .range]) hr
    refine ⟨.str kd.nm, itemV_list hq (by lia) hkd, ?_⟩
    exact ⟨ks ++ [kd], by simp [h7], by simp [h8, accO], B'', p'.trans (Pr1.app.trans p'')⟩
  · rintro acc σ1 ⟨ks0, h7, h8, B1, p1⟩
    subst h8
    refine ⟨by simp only [lim, List.length_map]; lia, ?_⟩
    have le1 := p1.le
    refine WS_asgSubT ?_
    walk_at "m"
    refine ⟨by decide, ?_⟩
    walk_at "m"
    have hK : (σ1 ++ [AO.list (ks0.map fun kd => .str kd.nm)] ++ [AO.list []])[σ1.length]? = some (.list (ks0.map fun kd => .str kd.nm)) := get_app get_new
    obtain ⟨K, hKe⟩ : ∃ K, K = σ1.length := ⟨_, rfl⟩
    obtain ⟨L, hLe⟩ : ∃ L, L = (σ1 ++ [AO.list (ks0.map fun kd => AV.str kd.nm)]).length := ⟨_, rfl⟩
    have hL : (σ1 ++ [AO.list (ks0.map fun kd => .str kd.nm)] ++ [AO.list []])[L]? = some (.list []) := hLe ▸ get_new
    have p2 : Pr1 σ (σ1 ++ [AO.list (ks0.map fun kd => .str kd.nm)] ++ [AO.list []]) := (p1.trans Pr1.app).trans Pr1.app
    have B2 : Box (σ1 ++ [AO.list (ks0.map fun kd => .str kd.nm)] ++ [AO.list []]) ns := B1.app.app
    have hle2 : (σ1 ++ [AO.list (ks0.map fun kd => AV.str kd.nm)] ++ [AO.list []]).length = L + 1 := by simp [hLe]
    have hKL : K + 1 = L := by simp [hLe, hKe]
    rw [← hLe, ← hKe]
    rw [← hKe] at hK
    generalize hσ2 : σ1 ++ [AO.list (ks0.map fun kd => AV.str kd.nm)] ++ [AO.list []] = σ2 at hK hL p2 B2 hle2 ⊢
    clear hσ2
    let ks := ks0.set 0 Kd.list
    have hks : (ks0.map fun kd => AV.str kd.nm).set 0 (.str sList) = ks.map fun kd => .str kd.nm := by
      simp only [ks, List.map_set]; rfl
    have hks0 : ks[0]? = some .list := List.getElem?_set_self (by lia)
    have hkl : ks.length = m := by simp [ks, h7]
    clear_value ks
    have hset : setItemV (.ref K) (.int 0) (.str sList) σ2 = some (σ2.set K (.list (ks.map fun kd => .str kd.nm))) := by
      rw [setL_at hK (by simp; lia)]
      simp only [Int.toNat_zero, hks]
    refine ⟨_, hset, ?_⟩
    have hK3 : (σ2.set K (.list (ks.map fun kd => .str kd.nm)))[K]? = some (.list (ks.map fun kd => .str kd.nm)) := get_set hK
    have hL3 : (σ2.set K (.list (ks.map fun kd => .str kd.nm)))[L]? = some (.list []) := by rw [List.getElem?_set_ne (by lia)]; exact hL
    have p3 : Pr1 σ (σ2.set K (.list (ks.map fun kd => .str kd.nm))) := p2.set (by lia)
    have B3 := B2.set (i := K) (o := .list (ks.map fun kd => .str kd.nm)) (by lia)
    have hle3 : (σ2.set K (.list (ks.map fun kd => .str kd.nm))).length = L + 1 := by rw [List.length_set]; exact hle2
    generalize hσ3 : σ2.set K (.list (ks.map fun kd => AV.str kd.nm)) = σ3 at hK3 hL3 p3 B3 hle3 ⊢
    clear hσ3 hset hK hL p2 B2 hle2
    refine WS_asg (rE_comp (rE_var ⟨_, rfl, ?_⟩))
    refine OK_compGo m (fun j acc σ' => ∃ rws : List Nat, acc = rws.map (fun i => .int (i : Nat)) ∧ rws.length ≤ j ∧ (0 < j → 0 < rws.length) ∧ (∀ i ∈ rws, i < j ∧ ks[i]? = some .list) ∧ σ' = σ3) (by simp only [lim]; lia) ⟨[], rfl, by simp, by simp, by simp, rfl⟩ (fun acc σ' _ => next_int_end (by lia)) ?_ ?_
    · rintro j acc σ' hj ⟨rws, h8, h9, h10, h11, h12⟩
      subst h12
      refine ⟨.int j, next_int (by lia) hj, OK_compFc ?_⟩
      have hkj : ks[j]? = some ks[j] := List.getElem?_eq_getElem (by lia)
      walk_at "m"
      refine ⟨.str (ks[j]'(by lia)).nm, itemV_list hK3 (by lia) (getS hkj), ?_⟩
      walk_at "m"
      refine ex_eqs (by rw [nm_ok]; rfl) ?_
      rw [nm_eq_list]
      by_cases hl : ks[j] = .list
      · rw [decide_eq_true hl]
        refine br_t rfl ?_
        walk_at "m"
        refine ⟨rws ++ [j], by simp [h8, accO], by simp; lia, by simp, ?_, rfl⟩
        intro i hi
        rcases List.mem_append.1 hi with hi | hi
        · exact ⟨by have := (h11 i hi).1; lia, (h11 i hi).2⟩
        · rw [List.mem_singleton] at hi; subst hi; exact ⟨by lia, by rw [hkj, hl]⟩
      · rw [decide_eq_false hl]
        refine br_f rfl ?_
        refine ⟨rws, by simp [h8, accO], by lia, fun _ => ?_, fun i hi => ⟨by have := (h11 i hi).1; lia, (h11 i hi).2⟩, rfl⟩
        rcases Nat.eq_zero_or_pos j with e | e
        · subst e
          rw [hks0] at hkj
          exact absurd (Option.some.inj hkj).symm hl
        · exact h10 e
    · rintro acc σ4 ⟨rws, h8, h9, h10, h11, h12⟩
      subst h12 h8
      refine ⟨by simp only [lim, List.length_map]; lia, ?_⟩
      have hR4 : (σ4 ++ [AO.list (rws.map fun i => AV.int (i : Nat))])[σ4.length]? = some (.list (rws.map fun i => AV.int (i : Nat))) := get_new
      refine WS_for (rE_var ⟨_, rfl, ?_⟩)
      refine OS_forGo m (fun j ρ σ' => NI σ ns ks rws m K L σ4.length (L + 1) j ρ σ') (by simp only [lim]; lia) ?_ ?_ ?_ ?_
      · exact ⟨rfl, rfl, rfl, rfl, rfl, B3.app, p3.trans Pr1.app, get_app hK3, hR4, [], [], rfl, get_app hL3, ⟨rfl, fun _ _ _ e => by simp at e⟩, fun _ _ e => by simp at e⟩
      · intro ρ' σ' I
        exact next_list_end I.hK (by simp [hkl])
      · intro j ρ' σ' hj I
        have hkj : ks[j]? = some ks[j] := List.getElem?_eq_getElem (by lia)
        refine ⟨_, next_list I.hK (getS hkj), ?_⟩
        obtain ⟨rs, N, g1, g2, g3, g4⟩ := I.N
        have hLl := get_lt g2
        refine (run_body (σ := σ') (ρ := upd ρ' 5 (.str ks[j].nm)) (kd := ks[j]) (ks := ks) (j := j) (xs := rs.map .ref) I.h0 I.h1 I.h3 I.h4 rfl g2 I.hR (by simp [g3.len]; lia) I.B (by lia) hm hm6 ⟨h10 hm, by lia⟩ (fun i hi => ⟨(h11 i hi).1, (h11 i hi).2⟩) hkj (by lia) ?_).ok
        intro fl ρ'' σ'' r nd hf hy B'' hk'' le'' ok at_ hL''
        refine ⟨hf, ?_⟩
        have hy' : ∀ y, y < 5 → ρ'' y = ρ' y := fun y h => by rw [hy y h]; simp [upd]; lia
        refine ⟨by rw [hy' 0 (by lia)]; exact I.h0, by rw [hy' 1 (by lia)]; exact I.h1, by rw [hy' 2 (by lia)]; exact I.h2, by rw [hy' 3 (by lia)]; exact I.h3, by rw [hy' 4 (by lia)]; exact I.h4, B'', ?_, hk'' _ _ (by lia) (by lia) I.hK, hk'' _ _ (by lia) (by lia) I.hR, rs ++ [r], N ++ [nd], by simp [g1], by rw [hL'']; simp, ?_, ?_⟩
        · exact ⟨fun i o n1 e => by
            have := get_lt e
            exact hk'' i o n1 (by lia) (I.p.keep i o n1 e), Nat.le_trans I.p.le le''⟩
        · refine (g3.keep fun i o hi e => hk'' i o (by lia) (by lia) e).snoc ?_
          obtain ⟨p, a1, a2, a3, a4⟩ := at_
          exact ⟨p, by lia, by lia, a3, a4⟩
        · intro i nd' e
          by_cases hi : i < N.length
          · rw [List.getElem?_append_left hi] at e
            exact g4 i nd' e
          · have hi2 : i = N.length := by
              have := (List.getElem?_eq_some_iff.mp e).1
              simp at this; lia
            subst hi2
            simp at e
            subst e
            rw [g1]; exact ok
      · intro ρ' σ' I
        refine thn_next ?_
        have h3 := I.h3
        walk_at "m"
        obtain ⟨rs, N, g1, g2, g3, g4⟩ := I.N
        refine q L σ' rs N ks I.B I.p (by lia) g2 ⟨g3.len, fun k nd r e e' => ?_⟩ g1 hks0 hkl g4
        obtain ⟨p, a1, a2, a3, a4⟩ := g3.at_ k nd r e e'
        exact ⟨p, by lia, by lia, a3, a4⟩
end
/-! the things -/
noncomputable def PtV (σ : Sto) (T : Nat → Nat) : Pt → AV → Prop
  | .node k, v => v = .ref (T k)
  | .sc s, v => (s = .tb ∧ ∃ u m ow d, v = .ref u ∧ u ≠ 3 ∧ u ≠ 6 ∧ σ[u]? = some (.inst 62 (textFs m ow d [98]))) ∨ (s = .te ∧ ∃ u m ow d, v = .ref u ∧ u ≠ 3 ∧ u ≠ 6 ∧ σ[u]? = some (.inst 62 (textFs m ow d []))) ∨ (s ≠ .tb ∧ s ≠ .te ∧ v = s.val)
theorem PtV.keep {σ σ' : Sto} {T T' : Nat → Nat} {p : Pt} {v : AV} (h : PtV σ T p v) (hk : ∀ (i : Nat) (C : Addr) (fs : List (Nat × AV)), i ≠ 3 → i ≠ 6 → σ[i]? = some (.inst C fs) → σ'[i]? = some (.inst C fs)) (hT : ∀ k, p = .node k → T k = T' k) : PtV σ' T' p v := by
  induction p with
  | node k => rw [PtV] at h ⊢; rw [h, hT k rfl]
  | sc s =>
    rcases h with ⟨h1, u, m, ow, d, h2, h3, h6, h4⟩ | ⟨h1, u, m, ow, d, h2, h3, h6, h4⟩ | h
    · exact .inl ⟨h1, u, m, ow, d, h2, h3, h6, hk _ _ _ h3 h6 h4⟩
    · exact .inr (.inl ⟨h1, u, m, ow, d, h2, h3, h6, hk _ _ _ h3 h6 h4⟩)
    · exact .inr (.inr h)
structure PtVs (σ : Sto) (T : Nat → Nat) (ps : List Pt) (vs : List AV) : Prop where
  len : vs.length = ps.length
  at_ : ∀ (i : Nat) (p : Pt) (v : AV), ps[i]? = some p → vs[i]? = some v → PtV σ T p v
theorem PtVs.nil {σ : Sto} {T : Nat → Nat} : PtVs σ T [] [] := ⟨rfl, fun _ _ _ e => by simp at e⟩
theorem PtVs.snoc {σ : Sto} {T : Nat → Nat} {ps : List Pt} {vs : List AV} {p : Pt} {v : AV} (h : PtVs σ T ps vs) (g : PtV σ T p v) : PtVs σ T (ps ++ [p]) (vs ++ [v]) := by
  refine ⟨by simp [h.len], fun k p' v' e e' => ?_⟩
  by_cases hk : k < ps.length
  · rw [List.getElem?_append_left hk] at e
    rw [List.getElem?_append_left (by rw [h.len]; exact hk)] at e'
    exact h.at_ k p' v' e e'
  · have hk2 : k = ps.length := by
      have := (List.getElem?_eq_some_iff.mp e).1
      simp at this; lia
    subst hk2
    rw [← h.len] at e'
    simp at e e'
    subst e e'; exact g
theorem PtVs.keep {σ σ' : Sto} {T T' : Nat → Nat} {ps : List Pt} {vs : List AV} (h : PtVs σ T ps vs) (hk : ∀ (i : Nat) (C : Addr) (fs : List (Nat × AV)), i ≠ 3 → i ≠ 6 → σ[i]? = some (.inst C fs) → σ'[i]? = some (.inst C fs)) (hT : ∀ k, Pt.node k ∈ ps → T k = T' k) : PtVs σ' T' ps vs :=
  ⟨h.len, fun i p v e e' => (h.at_ i p v e e').keep hk fun k q => hT k (q ▸ List.mem_of_getElem? e)⟩
noncomputable def rowKey (i : Nat) : List KI := if i % 2 = 0 then [.s sInt, .i i] else [.s sSym, .s [107, 48 + i]]
noncomputable def keyAV (i : Nat) : AV := if i % 2 = 0 then .int i else .str [107, 48 + i]
noncomputable def rowsO (j : Nat) (Rw : Nat → Nat) : AO := if j = 0 then .dict [] else .tdict ((List.range j).map fun i => (rowKey i, .ref (Rw i)))
structure TabAt (σ : Sto) (T : Nat → Nat) (base c : Nat) (ps : List Pt) (Rw : Nat → Nat) : Prop where
  dict : σ[c]? = some (rowsO ps.length Rw)
  row : ∀ (i : Nat) (p : Pt), ps[i]? = some p → base ≤ Rw i ∧ ∃ v, σ[Rw i]? = some (.list [keyAV i, v]) ∧ PtV σ T p v
section
variable {sc : Scr} {k n : Nat} {es : List (List Nat × AV)} {σ : Sto} {Q : AV → Sto → Prop}
/-- _law_thing -/
theorem run_thing {TL : Nat} {T : Nat → Nat} {m : Nat} {p : Pt} (W : Wld σ n es) (hT : σ[TL]? = some (.list ((List.range m).map fun i => .ref (T i)))) (hm : m ≤ 6) (hp : p.ok m)
    (q : ∀ v σ' n' es', Wld σ' n' es' → WSt σ n es σ' n' es' → PtV σ' T p v → Q v σ') : OK (runT tabB sc (k + 10) 688 [.ref 3, .ref TL, p.av] σ) Q := by
  refine OK_call d688 [.ref 3, .ref TL, p.av] rfl (by decide) rfl rfl rfl ?_
  unfold d688 b688
  have hw := W.w
  induction p with
  | node i =>
    walk_at "m"
    refine ⟨.str sNode, rfl, ?_⟩
    walk_at "m"
    refine ⟨.int i, rfl, ?_⟩
    refine ⟨.ref (T i), itemV_list hT (by simp only [Pt.ok] at hp; lia) ?_, ?_⟩
    · rw [List.getElem?_map, List.getElem?_range hp]; rfl
    · exact q _ _ _ _ W WSt.refl rfl
  | sc s =>
    induction s with
    | tb =>
      walk_at "m"
      refine ⟨.str sText, rfl, ?_⟩
      walk_at "m"
      refine ⟨.str sText, rfl, ?_⟩
      walk_at "m"
      refine ⟨_, rfl, rfl, ?_⟩
      walk_at "m"
      refine ⟨.str [98], rfl, ?_⟩
      walk_at "m"
      refine run_text W fun r σ' n' es' m ow d W' st' hr h' => ?_
      walk_at "m"
      exact q _ _ _ _ W' st' (.inl ⟨rfl, r, m, ow, d, rfl, by have := W.big; lia, by have := W.big; lia, h'⟩)
    | te =>
      walk_at "m"
      refine ⟨.str sText, rfl, ?_⟩
      walk_at "m"
      refine ⟨.str sText, rfl, ?_⟩
      walk_at "m"
      refine ⟨_, rfl, rfl, ?_⟩
      walk_at "m"
      refine ⟨.str [], rfl, ?_⟩
      walk_at "m"
      refine run_text W fun r σ' n' es' m ow d W' st' hr h' => ?_
      walk_at "m"
      exact q _ _ _ _ W' st' (.inr (.inl ⟨rfl, r, m, ow, d, rfl, by have := W.big; lia, by have := W.big; lia, h'⟩))
    | n1 =>
      walk_at "m"
      refine ⟨.str sInt, rfl, ?_⟩
      walk_at "m"
      refine ⟨.str sInt, rfl, ?_⟩
      walk_at "m"
      refine ⟨.int 1, rfl, ?_⟩
      exact q _ _ _ _ W WSt.refl (.inr (.inr ⟨by decide, by decide, rfl⟩))
    | n2 =>
      walk_at "m"
      refine ⟨.str sInt, rfl, ?_⟩
      walk_at "m"
      refine ⟨.str sInt, rfl, ?_⟩
      walk_at "m"
      refine ⟨.int 2, rfl, ?_⟩
      exact q _ _ _ _ W WSt.refl (.inr (.inr ⟨by decide, by decide, rfl⟩))
    | sa =>
      walk_at "m"
      refine ⟨.str sSym, rfl, ?_⟩
      walk_at "m"
      refine ⟨.str sSym, rfl, ?_⟩
      walk_at "m"
      refine ⟨.str [97], rfl, ?_⟩
      exact q _ _ _ _ W WSt.refl (.inr (.inr ⟨by decide, by decide, rfl⟩))
    | nl =>
      walk_at "m"
      refine ⟨.str sWord, rfl, ?_⟩
      walk_at "m"
      refine ⟨.str sWord, rfl, ?_⟩
      walk_at "m"
      refine ⟨.none, rfl, ?_⟩
      exact q _ _ _ _ W WSt.refl (.inr (.inr ⟨by decide, by decide, rfl⟩))
/-- code_of on a key -/
noncomputable def keyC (i : Nat) : List AV := if i = 1 then [.str sSym, .str [107, 49]] else [.str sInt, .int i]
theorem run_codeI {i : Nat} (q : Q (.tup [.str sInt, .int i]) σ) : OK (runT tabB sc (k + 2) 250 [.int i] σ) Q := by
  refine OK_call d250 [.int i, .int 12] rfl (by decide) rfl rfl rfl ?_
  unfold d250 b250
  walk_at "m"
  refine run_sort (s := sInt) rfl ?_
  walk_at "m"
  exact q
theorem run_keycode {i : Nat} (hi : i < 3) (q : Q (.tup (keyC i)) σ) : OK (runT tabB sc (k + 2) 250 [keyAV i] σ) Q := by
  rcases lt3 hi with rfl | rfl | rfl
  · exact run_codeI (i := 0) q
  · refine OK_call d250 [.str [107, 49], .int 12] rfl (by decide) rfl rfl rfl ?_
    unfold d250 b250
    walk_at "m"
    refine run_sort (s := sSym) rfl ?_
    walk_at "m"
    exact q
  · exact run_codeI (i := 2) q
theorem rows_put {i L : Nat} {Rw : Nat → Nat} (hi : i < 3) : ∃ es K, tdictO (some (rowsO i Rw)) = some es ∧ isDO (some (rowsO i Rw)) = true ∧ keyT (.tup (keyC i)) = some K ∧ (getK es K).getD .none = .none ∧ es.length ≤ 1000 ∧ AO.tdict (putK es K (.ref L)) = rowsO (i + 1) fun y => if y = i then L else Rw y := by
  rcases lt3 hi with rfl | rfl | rfl <;> exact ⟨_, _, rfl, rfl, rfl, rfl, of_decide_eq_true rfl, rfl⟩
theorem run_put {t c i : Nat} {m : Int} {ow d : Nat} {Rw : Nat → Nat} {v : AV} (hi : i < 3) (ht : σ[t]? = some (.inst 120 (tableFs m ow d c))) (hc : σ[c]? = some (rowsO i Rw))
    (q : Q .none ((σ ++ [AO.list [keyAV i, v]]).set c (rowsO (i + 1) fun y => if y = i then σ.length else Rw y))) : OK (runT tabB sc (k + 3) 105 [.ref t, keyAV i, v] σ) Q := by
  refine OK_call d105 [.ref t, keyAV i, v] rfl (by decide) rfl rfl rfl ?_
  unfold d105 b105
  walk_at "m"
  refine run_keycode hi ?_
  have ht' := get_app (τ := [AO.list [keyAV i, v]]) ht
  have hc' := get_app (τ := [AO.list [keyAV i, v]]) hc
  walk_at "m"
  refine ⟨_, rfl, rfl, ?_⟩
  obtain ⟨es, K, e1, e2, e3, e4, e5, e6⟩ := rows_put (L := σ.length) (Rw := Rw) hi
  refine ⟨(congrArg isDO hc).trans e2, ?_⟩
  walk_at "m"
  refine ⟨.none, dgetT_at hc e1 e3 e4, ?_⟩
  walk_at "m"
  refine ⟨of_decide_eq_true rfl, ?_⟩
  walk_at "m"
  refine ⟨_, rfl, rfl, ?_⟩
  walk_at "m"
  refine ⟨_, setT_at hc' e1 e3 e5, ?_⟩
  walk_at "m"
  rw [e6]
  exact q
end
/-! _law_made -/
noncomputable def ThP (σ : Sto) (es : List (List Nat × AV)) (T C M : Nat → Nat) (jr i : Nat) (nd : Nd) : Prop := match nd.kd with
  | .list => ∃ ow d, σ[T i]? = some (.inst 82 (listFs (M i) ow d (C i))) ∧ getK es arrName = some (.ref ow)
  | .table => ∃ ow d, σ[T i]? = some (.inst 120 (tableFs (M i) ow d (C i)))
  | .range => i < jr → ∃ ow d a b, nd.ps = [.node a, .node b] ∧ σ[T i]? = some (.inst 140 (rangeFs (M i) ow d (.ref (T a)) (.ref (T b)) (decide (i % 2 = 1))))
noncomputable def CtP (σ : Sto) (T : Nat → Nat) (base : Nat) (C : Nat → Nat) (j3 i : Nat) (nd : Nd) : Prop := match nd.kd with
  | .list => (i < j3 → ∃ vs, σ[C i]? = some (.list vs) ∧ PtVs σ T nd.ps vs) ∧ (j3 ≤ i → σ[C i]? = some (.list []))
  | .table => (i < j3 → ∃ Rw, TabAt σ T base (C i) nd.ps Rw) ∧ (j3 ≤ i → σ[C i]? = some (.dict []))
  | .range => True
structure Mki (σ₀ : Sto) (n₀ : Nat) (es₀ : List (List Nat × AV)) (N : List Nd) (base jr j3 J : Nat) (T C M : Nat → Nat) (n : Nat) (es : List (List Nat × AV)) (σ : Sto) : Prop where
  W : Wld σ n es
  st : WSt σ₀ n₀ es₀ σ n es
  th : ∀ (i : Nat) (nd : Nd), i < J → N[i]? = some nd → ThP σ es T C M jr i nd
  ct : ∀ (i : Nat) (nd : Nd), i < J → N[i]? = some nd → CtP σ T base C j3 i nd
  cb : ∀ i, i < J → σ₀.length ≤ C i ∧ C i < base
  cm : ∀ a b, a < b → b < J → C a < C b
  mi : ∀ a b, a < b → b < J → M a ≠ M b
  mn : ∀ i, i < J → M i ≤ n
  tb : ∀ i, i < J → σ₀.length ≤ T i
  bb : σ₀.length ≤ base ∧ base ≤ σ.length
theorem ThP.keep {σ σ' es es' T C M jr i nd} (h : ThP σ es T C M jr i nd) (h3 : T i ≠ 3) (h6 : T i ≠ 6) (hk : ∀ (i : Nat) (C : Addr) (fs : List (Nat × AV)), i ≠ 3 → i ≠ 6 → σ[i]? = some (.inst C fs) → σ'[i]? = some (.inst C fs)) (hm : ∀ s v, getK es s = some v → getK es' s = some v) : ThP σ' es' T C M jr i nd := by
  unfold ThP at h ⊢
  cases hkd : nd.kd with
  | list =>
    rw [hkd] at h
    obtain ⟨ow, d, h1, h2⟩ := h
    exact ⟨ow, d, hk _ _ _ h3 h6 h1, hm _ _ h2⟩
  | table =>
    rw [hkd] at h
    obtain ⟨ow, d, h1⟩ := h
    exact ⟨ow, d, hk _ _ _ h3 h6 h1⟩
  | range =>
    rw [hkd] at h
    intro hj
    obtain ⟨ow, d, a, b, h1, h2⟩ := h hj
    exact ⟨ow, d, a, b, h1, hk _ _ _ h3 h6 h2⟩
theorem CtP.keep {σ σ' T base C j3 i nd} (h : CtP σ T base C j3 i nd) (hb : 7 ≤ base) (hc : 7 ≤ C i) (hk : ∀ (i : Nat) (o : AO), i ≠ 3 → i ≠ 6 → σ[i]? = some o → σ'[i]? = some o) : CtP σ' T base C j3 i nd := by
  unfold CtP at h ⊢
  cases hkd : nd.kd with
  | list =>
    rw [hkd] at h
    refine ⟨fun hj => ?_, fun hj => hk _ _ (by lia) (by lia) (h.2 hj)⟩
    obtain ⟨vs, h1, h2⟩ := h.1 hj
    exact ⟨vs, hk _ _ (by lia) (by lia) h1, h2.keep (fun i C fs a b e => hk i _ a b e) fun _ _ => rfl⟩
  | table =>
    rw [hkd] at h
    refine ⟨fun hj => ?_, fun hj => hk _ _ (by lia) (by lia) (h.2 hj)⟩
    obtain ⟨Rw, h1, h2⟩ := h.1 hj
    refine ⟨Rw, hk _ _ (by lia) (by lia) h1, fun i p e => ?_⟩
    obtain ⟨g1, v, g2, g3⟩ := h2 i p e
    exact ⟨g1, v, hk _ _ (by lia) (by lia) g2, g3.keep (fun i C fs a b e => hk i _ a b e) fun _ _ => rfl⟩
  | range => trivial
section
variable {σ₀ : Sto} {n₀ : Nat} {es₀ : List (List Nat × AV)} {N : List Nd} {base jr j3 J : Nat} {T C M : Nat → Nat} {n : Nat} {es : List (List Nat × AV)} {σ : Sto}
theorem Mki.step {σ' : Sto} {n' : Nat} {es' : List (List Nat × AV)} (I : Mki σ₀ n₀ es₀ N base jr j3 J T C M n es σ) (h47 : 47 ≤ σ₀.length) (W' : Wld σ' n' es') (st : WSt σ n es σ' n' es') : Mki σ₀ n₀ es₀ N base jr j3 J T C M n' es' σ' :=
  ⟨W', I.st.trans st, fun i nd hi e => (I.th i nd hi e).keep (by have := I.tb i hi; lia) (by have := I.tb i hi; lia) (fun i C fs a b e => st.keep i _ a b e) st.mono,
    fun i nd hi e => (I.ct i nd hi e).keep (by have := I.bb; lia) (by have := I.cb i hi; lia) st.keep, I.cb, I.cm, I.mi, fun i hi => Nat.le_trans (I.mn i hi) st.up, I.tb, ⟨I.bb.1, Nat.le_trans I.bb.2 st.le⟩⟩
/-- a container is filled -/
theorem Wld.frame {σ' : Sto} {c : Nat} (W : Wld σ n es) (hc : 47 ≤ c) (hn : ∀ D fs, σ[c]? ≠ some (.inst D fs)) (hk : ∀ (i : Nat) (p : AO), i ≠ c → σ[i]? = some p → σ'[i]? = some p) (hl : σ.length ≤ σ'.length) : Wld σ' n es := by
  refine ⟨hk _ _ (by lia) W.w, hk _ _ (by lia) W.nat, hk _ _ (by lia) W.prl, hk _ _ (by lia) W.made, W.obj, W.cls, W.mdl, W.nodup, W.sub, fun s v e => ?_, Nat.le_trans W.big hl⟩
  obtain ⟨r, fs, k', rfl, h3, h6, e, f⟩ := W.mods s v e
  exact ⟨r, fs, k', rfl, h3, h6, hk _ _ (fun q => hn _ _ (q ▸ e)) e, f⟩
theorem Mki.fill {σ' : Sto} {nd : Nd} (I : Mki σ₀ n₀ es₀ N base jr j3 J T C M n es σ) (h47 : 47 ≤ σ₀.length) (hj : j3 < J) (hn : ∀ D fs, σ[C j3]? ≠ some (.inst D fs)) (hnd : N[j3]? = some nd)
    (hk : ∀ (i : Nat) (p : AO), i ≠ C j3 → σ[i]? = some p → σ'[i]? = some p) (hl : σ.length ≤ σ'.length) (hct : CtP σ' T base C (j3 + 1) j3 nd) : Mki σ₀ n₀ es₀ N base jr (j3 + 1) J T C M n es σ' := by
  have kI : ∀ (i : Nat) (D : Addr) (fs : List (Nat × AV)), i ≠ 3 → i ≠ 6 → σ[i]? = some (.inst D fs) → σ'[i]? = some (.inst D fs) := fun i D fs _ _ e => hk i _ (fun q => hn D fs (by rw [← q]; exact e)) e
  have hcb := I.cb j3 hj
  have hbb := I.bb
  refine ⟨I.W.frame (by lia) hn hk hl, ⟨fun i p h3 h6 e => ?_, I.st.up, I.st.mono, Nat.le_trans I.st.le hl⟩, fun i nd hi e => (I.th i nd hi e).keep (by have := I.tb i hi; lia) (by have := I.tb i hi; lia) kI fun _ _ h => h, ?_, I.cb, I.cm, I.mi, I.mn, I.tb, ⟨I.bb.1, Nat.le_trans I.bb.2 hl⟩⟩
  · have := get_lt e
    exact hk i p (by lia) (I.st.keep i p h3 h6 e)
  · intro i nd' hi e
    by_cases hij : i = j3
    · subst hij
      rw [hnd] at e; (first | subst e | (injection e with e; subst e) | (injection e; done) | cases e)
      exact hct
    · have hne : C i ≠ C j3 := by
        rcases Nat.lt_or_gt_of_ne hij with q | q
        · have := I.cm _ _ q hj; lia
        · have := I.cm _ _ q hi; lia
      have h := I.ct i nd' hi e
      have hcbi := I.cb i hi
      unfold CtP at h ⊢
      cases hkd : nd'.kd with
      | list =>
        rw [hkd] at h
        refine ⟨fun hj' => ?_, fun hj' => hk _ _ hne (h.2 (by lia))⟩
        obtain ⟨vs, h1, h2⟩ := h.1 (by lia)
        exact ⟨vs, hk _ _ hne h1, h2.keep kI fun _ _ => rfl⟩
      | table =>
        rw [hkd] at h
        refine ⟨fun hj' => ?_, fun hj' => hk _ _ hne (h.2 (by lia))⟩
        obtain ⟨Rw, h1, h2⟩ := h.1 (by lia)
        refine ⟨Rw, hk _ _ hne h1, fun i p e => ?_⟩
        obtain ⟨g1, v, g2, g3⟩ := h2 i p e
        exact ⟨g1, v, hk _ _ (by lia) g2, g3.keep kI fun _ _ => rfl⟩
      | range => trivial
theorem Mki.skip3 {nd : Nd} (I : Mki σ₀ n₀ es₀ N base jr j3 J T C M n es σ) (hnd : N[j3]? = some nd) (hkd : nd.kd = .range) : Mki σ₀ n₀ es₀ N base jr (j3 + 1) J T C M n es σ := by
  refine ⟨I.W, I.st, I.th, ?_, I.cb, I.cm, I.mi, I.mn, I.tb, I.bb⟩
  intro i nd' hi e
  have h := I.ct i nd' hi e
  by_cases hij : i = j3
  · subst hij; rw [hnd] at e; (first | subst e | (injection e with e; subst e) | (injection e; done) | cases e)
    unfold CtP; rw [hkd]; trivial
  · unfold CtP at h ⊢
    cases hkd' : nd'.kd with
    | list => rw [hkd'] at h; exact ⟨fun g => h.1 (by lia), fun g => h.2 (by lia)⟩
    | table => rw [hkd'] at h; exact ⟨fun g => h.1 (by lia), fun g => h.2 (by lia)⟩
    | range => trivial
/-- the list of things changes -/
theorem Mki.other {c : Nat} {o : AO} (I : Mki σ₀ n₀ es₀ N base jr 0 J T C M n es σ) (h47 : 47 ≤ σ₀.length) (hc : base ≤ c) (hn : ∀ D fs, σ[c]? ≠ some (.inst D fs)) : Mki σ₀ n₀ es₀ N base jr 0 J T C M n es (σ.set c o) := by
  have hbb := I.bb
  have hk : ∀ (i : Nat) (p : AO), i ≠ c → σ[i]? = some p → (σ.set c o)[i]? = some p := fun i p hi e => by rw [List.getElem?_set_ne (fun q => hi q.symm)]; exact e
  have hl : σ.length ≤ (σ.set c o).length := by rw [List.length_set]; exact Nat.le_refl _
  refine ⟨I.W.frame (by lia) hn hk hl, ⟨fun i p h3 h6 e => ?_, I.st.up, I.st.mono, Nat.le_trans I.st.le hl⟩, fun i nd hi e => (I.th i nd hi e).keep (by have := I.tb i hi; lia) (by have := I.tb i hi; lia) (fun i D fs _ _ e => hk i _ (fun q => hn D fs (by rw [← q]; exact e)) e) fun _ _ h => h, ?_, I.cb, I.cm, I.mi, I.mn, I.tb, ⟨I.bb.1, Nat.le_trans I.bb.2 hl⟩⟩
  · have := get_lt e
    exact hk i p (by lia) (I.st.keep i p h3 h6 e)
  · intro i nd' hi e
    have h := I.ct i nd' hi e
    have hcbi := I.cb i hi
    unfold CtP at h ⊢
    cases hkd : nd'.kd with
    | list => rw [hkd] at h; exact ⟨fun g => absurd g (by lia), fun g => hk _ _ (by lia) (h.2 g)⟩
    | table => rw [hkd] at h; exact ⟨fun g => absurd g (by lia), fun g => hk _ _ (by lia) (h.2 g)⟩
    | range => trivial
/-- a list or table is added -/
theorem Mki.grow {σ' : Sto} {n' : Nat} {es' : List (List Nat × AV)} {nd : Nd} {r c m : Nat} (I : Mki σ₀ n₀ es₀ N base 0 0 J T C M n es σ) (h47 : 47 ≤ σ₀.length) (W' : Wld σ' n' es') (st : WSt σ n es σ' n' es') (hnd : N[J]? = some nd) (hr : σ.length ≤ r) (hc : σ.length ≤ c) (hcl : c < σ'.length) (hm : n < m) (hm' : m ≤ n')
    (hth : ThP σ' es' (fun _ => r) (fun _ => c) (fun _ => m) 0 J nd) (hct : CtP σ' (fun _ => r) σ'.length (fun _ => c) 0 J nd) :
    Mki σ₀ n₀ es₀ N σ'.length 0 0 (J + 1) (fun i => if i = J then r else T i) (fun i => if i = J then c else C i) (fun i => if i = J then m else M i) n' es' σ' := by
  have I' := I.step h47 W' st
  have hbb := I.bb
  have hle := I.st.le
  refine ⟨W', I'.st, ?_, ?_, ?_, ?_, ?_, ?_, ?_, ⟨by have := st.le; lia, Nat.le_refl _⟩⟩
  · intro i nd' hi e
    by_cases hij : i = J
    · subst hij
      rw [hnd] at e; (first | subst e | (injection e with e; subst e) | (injection e; done) | cases e)
      unfold ThP at hth ⊢
      cases hkd : nd.kd with
      | list => rw [hkd] at hth; simpa using hth
      | table => rw [hkd] at hth; simpa using hth
      | range => intro h; lia
    · have h := I'.th i nd' (by lia) e
      unfold ThP at h ⊢
      cases hkd : nd'.kd with
      | list => rw [hkd] at h; simpa [hij] using h
      | table => rw [hkd] at h; simpa [hij] using h
      | range => intro h; lia
  · intro i nd' hi e
    by_cases hij : i = J
    · subst hij
      rw [hnd] at e; (first | subst e | (injection e with e; subst e) | (injection e; done) | cases e)
      unfold CtP at hct ⊢
      cases hkd : nd.kd with
      | list => rw [hkd] at hct; exact ⟨fun h => by lia, fun h => by simpa using hct.2 h⟩
      | table => rw [hkd] at hct; exact ⟨fun h => by lia, fun h => by simpa using hct.2 h⟩
      | range => trivial
    · have h := I'.ct i nd' (by lia) e
      unfold CtP at h ⊢
      cases hkd : nd'.kd with
      | list => rw [hkd] at h; exact ⟨fun h => by lia, fun h' => by simpa [hij] using h.2 h'⟩
      | table => rw [hkd] at h; exact ⟨fun h => by lia, fun h' => by simpa [hij] using h.2 h'⟩
      | range => trivial
  · intro i hi
    by_cases hij : i = J
    · simp only [hij, if_true]; lia
    · simp only [hij, if_false]
      have := I.cb i (by lia); have := st.le; lia
  · intro a b hab hb
    by_cases hij : b = J
    · have ha : a ≠ J := by lia
      simp only [hij, ha, if_true, if_false]
      have := I.cb a (by lia); lia
    · have ha : a ≠ J := by lia
      simp only [hij, ha, if_false]
      exact I.cm a b hab (by lia)
  · intro a b hab hb
    by_cases hij : b = J
    · have ha : a ≠ J := by lia
      simp only [hij, ha, if_true, if_false]
      have := I.mn a (by lia); lia
    · have ha : a ≠ J := by lia
      simp only [hij, ha, if_false]
      exact I.mi a b hab (by lia)
  · intro i hi
    by_cases hij : i = J
    · simp only [hij, if_true]; lia
    · simp only [hij, if_false]
      exact I'.mn i (by lia)
  · intro i hi
    by_cases hij : i = J
    · simp only [hij, if_true]; lia
    · simp only [hij, if_false]
      exact I.tb i (by lia)
/-- a range takes its place -/
theorem Mki.rangeAt {σ' : Sto} {n' : Nat} {es' : List (List Nat × AV)} {nd : Nd} {r m ow d a b : Nat} (I : Mki σ₀ n₀ es₀ N base jr 0 J T C M n es σ) (h47 : 47 ≤ σ₀.length) (W' : Wld σ' n' es') (st : WSt σ n es σ' n' es') (hnd : N[jr]? = some nd) (hj : jr < J) (hkd : nd.kd = .range) (hr : σ.length ≤ r) (hm : n < m) (hm' : m ≤ n')
    (hps : nd.ps = [.node a, .node b]) (haj : a ≠ jr) (hbj : b ≠ jr) (hat : σ'[r]? = some (.inst 140 (rangeFs m ow d (.ref (T a)) (.ref (T b)) (decide (jr % 2 = 1)))))
    (hR : ∀ (i : Nat) (nd' : Nd), N[i]? = some nd' → nd'.kd = .range → ∀ x, Pt.node x ∈ nd'.ps → x ≠ jr) :
    Mki σ₀ n₀ es₀ N base (jr + 1) 0 J (fun i => if i = jr then r else T i) C (fun i => if i = jr then m else M i) n' es' σ' := by
  have I' := I.step h47 W' st
  have hbb := I.bb
  have hle := I.st.le
  refine ⟨W', I'.st, ?_, ?_, I.cb, I.cm, ?_, ?_, ?_, I'.bb⟩
  · intro i nd' hi e
    by_cases hij : i = jr
    · subst hij
      rw [hnd] at e; (first | subst e | (injection e with e; subst e) | (injection e; done) | cases e)
      unfold ThP
      rw [hkd]
      intro _
      refine ⟨ow, d, a, b, hps, ?_⟩
      simpa [haj, hbj] using hat
    · have h := I'.th i nd' hi e
      unfold ThP at h ⊢
      cases hkd' : nd'.kd with
      | list => rw [hkd'] at h; simpa [hij] using h
      | table => rw [hkd'] at h; simpa [hij] using h
      | range =>
        rw [hkd'] at h
        intro hlt
        obtain ⟨ow', d', x, y, h1, h2⟩ := h (by lia)
        refine ⟨ow', d', x, y, h1, ?_⟩
        have hx := hR i nd' e hkd' x (by simp [h1])
        have hy := hR i nd' e hkd' y (by simp [h1])
        simpa [hij, hx, hy] using h2
  · intro i nd' hi e
    have h := I'.ct i nd' hi e
    unfold CtP at h ⊢
    cases hkd' : nd'.kd with
    | list => rw [hkd'] at h; exact ⟨fun h => by lia, h.2⟩
    | table => rw [hkd'] at h; exact ⟨fun h => by lia, h.2⟩
    | range => trivial
  · intro x y hxy hy
    have h1 := I.mn x (by lia)
    have h2 := I.mn y (by lia)
    by_cases e1 : x = jr
    · have e2 : y ≠ jr := by lia
      simp only [e1, e2, if_true, if_false]; lia
    · by_cases e2 : y = jr
      · simp only [e1, e2, if_true, if_false]; lia
      · simp only [e1, e2, if_false]; exact I.mi x y hxy hy
  · intro i hi
    by_cases hij : i = jr
    · simp only [hij, if_true]; lia
    · simp only [hij, if_false]
      exact I'.mn i (by lia)
  · intro i hi
    by_cases hij : i = jr
    · simp only [hij, if_true]; lia
    · simp only [hij, if_false]
      exact I.tb i (by lia)
theorem Mki.skip {nd : Nd} (I : Mki σ₀ n₀ es₀ N base jr 0 J T C M n es σ) (hnd : N[jr]? = some nd) (hkd : nd.kd ≠ .range) : Mki σ₀ n₀ es₀ N base (jr + 1) 0 J T C M n es σ := by
  refine ⟨I.W, I.st, ?_, I.ct, I.cb, I.cm, I.mi, I.mn, I.tb, I.bb⟩
  intro i nd' hi e
  have h := I.th i nd' hi e
  unfold ThP at h ⊢
  cases hkd' : nd'.kd with
  | list => rw [hkd'] at h; exact h
  | table => rw [hkd'] at h; exact h
  | range =>
    rw [hkd'] at h
    intro hlt
    by_cases hij : i = jr
    · subst hij; rw [hnd] at e; (first | subst e | (injection e with e; subst e) | (injection e; done) | cases e); exact absurd hkd' hkd
    · exact h (by lia)
end
theorem map_upd {T : Nat → Nat} {j r : Nat} : (List.range (j + 1)).map (fun i => AV.ref (if i = j then r else T i)) = (List.range j).map (fun i => AV.ref (T i)) ++ [.ref r] := by
  rw [List.range_succ, List.map_append]
  congr 1
  · refine List.map_congr_left fun i hi => ?_
    rw [List.mem_range] at hi
    rw [if_neg (by walk_at "z")]
  · simp
theorem map_set {T : Nat → Nat} {m j r : Nat} (hj : j < m) : ((List.range m).map (fun i => AV.ref (T i))).set j (.ref r) = (List.range m).map (fun i => AV.ref (if i = j then r else T i)) := by
  refine List.ext_getElem? fun i => ?_
  by_cases hi : i < m
  · by_cases hij : i = j
    · subst hij
      rw [List.getElem?_set_self (by simpa using hi), List.getElem?_map, List.getElem?_range hi]
      simp
    · rw [List.getElem?_set_ne (by walk_at "z"), List.getElem?_map, List.getElem?_map, List.getElem?_range hi]
      simp [hij]
  · rw [List.getElem?_eq_none (by simp; lia), List.getElem?_eq_none (by simp; lia)]
theorem get_T {T : Nat → Nat} {m j : Nat} (hj : j < m) : ((List.range m).map (fun i => AV.ref (T i)))[j]? = some (.ref (T j)) := by
  rw [List.getElem?_map, List.getElem?_range hj]; rfl
/-- the things that stand for the nodes -/
noncomputable def ThAll (σ : Sto) (T M : Nat → Nat) (i : Nat) (nd : Nd) : Prop := match nd.kd with
  | .list => ∃ ow d c vs, σ[T i]? = some (.inst 82 (listFs (M i) ow d c)) ∧ σ[c]? = some (.list vs) ∧ PtVs σ T nd.ps vs
  | .table => ∃ ow d c base Rw, σ[T i]? = some (.inst 120 (tableFs (M i) ow d c)) ∧ TabAt σ T base c nd.ps Rw
  | .range => ∃ ow d a b, nd.ps = [.node a, .node b] ∧ σ[T i]? = some (.inst 140 (rangeFs (M i) ow d (.ref (T a)) (.ref (T b)) (decide (i % 2 = 1))))
structure HasAll (N : List Nd) (σ : Sto) (T M : Nat → Nat) : Prop where
  th : ∀ (i : Nat) (nd : Nd), N[i]? = some nd → ThAll σ T M i nd
  num : ∀ a b, a < N.length → b < N.length → M a = M b → a = b
section
variable {sc : Scr} {k n : Nat} {es : List (List Nat × AV)} {σ : Sto} {Q : AV → Sto → Prop} {N : List Nd} {rs : List Nat} {Ln lo : Nat}
noncomputable def bodyM1 : PE := .ite (.cmp (.Eq) (.item (.var 101) (.val (.int 0))) (.val (.str [116, 97, 98, 108, 101]))) (.meth (.var 0) 6 [.list []]) (.meth (.var 0) 5 [.list []])
noncomputable def bodyM2 : List PS := [.ite (.cmp (.Eq) (.item (.item (.var 1) (.var 3)) (.val (.int 0))) (.val (.str [114, 97, 110, 103, 101]))) [.asgT 4 5 (.item (.item (.var 1) (.var 3)) (.val (.int 1))), .asgSub (.var 2) (.var 3) (.meth (.var 0) 8 [.item (.var 2) (.item (.var 4) (.val (.int 1))), .item (.var 2) (.item (.var 5) (.val (.int 1))), .cmp (.Eq) (.mod (.var 3) (.val (.int 2))) (.val (.int 1))])] []]
/-- phase 1: lists and tables, empty -/
theorem made1 {ρ : Vars} {Q : List AV → Sto → Prop} (W : Wld σ n es) (h0 : ρ 0 = some (.ref 3)) (hLn : σ[Ln]? = some (.list (rs.map .ref))) (hLn47 : 47 ≤ Ln) (hN : Ndl σ lo rs N) (hlo : 47 ≤ lo) (hm : N.length ≤ 6)
    (q : ∀ σ' n' es' T C M base, Mki σ n es N base 0 0 N.length T C M n' es' σ' → Q ((List.range N.length).map fun i => .ref (T i)) σ') :
    CG (compF (runT tabB sc (k + 10)) bodyM1 101 none ρ) (nextOf 0 (.ref Ln)) σ Q := by
  refine OK_compGo N.length (fun j acc σ' => ∃ T C M n' es' base, acc = (List.range j).map (fun i => AV.ref (T i)) ∧ Mki σ n es N base 0 0 j T C M n' es' σ') (by walk_at "z") ?_ ?_ ?_ ?_
  · exact ⟨fun _ => 0, fun _ => 0, fun _ => 0, n, es, σ.length, rfl, W, WSt.refl, fun i nd h => absurd h (Nat.not_lt_zero _), fun i nd h => absurd h (Nat.not_lt_zero _), fun i h => absurd h (Nat.not_lt_zero _), fun a b _ h => absurd h (Nat.not_lt_zero _), fun a b _ h => absurd h (Nat.not_lt_zero _), fun i h => absurd h (Nat.not_lt_zero _), fun i h => absurd h (Nat.not_lt_zero _), Nat.le_refl _, Nat.le_refl _⟩
  · rintro acc σ' ⟨T, C, M, n', es', base, e, I⟩
    exact next_list_end (I.st.keep _ _ (by walk_at "z") (by walk_at "z") hLn) (by simp [hN.len])
  · rintro j acc σ' hj ⟨T, C, M, n', es', base, e, I⟩
    have h47 := W.big
    obtain ⟨⟨kd, ps⟩, hnd⟩ : ∃ nd, N[j]? = some nd := ⟨_, List.getElem?_eq_getElem hj⟩
    obtain ⟨r, hr⟩ : ∃ r, rs[j]? = some r := ⟨_, List.getElem?_eq_getElem (by rw [hN.len]; exact hj)⟩
    obtain ⟨p, b1, b2, b3, b4⟩ := hN.at_ _ _ _ hnd hr
    refine ⟨.ref r, next_list (I.st.keep _ _ (by walk_at "z") (by walk_at "z") hLn) (getS hr), okF ?_⟩
    have b3' := I.st.keep _ _ (by walk_at "z") (by walk_at "z") b3
    have hle := I.st.le
    have hw := I.W.w
    have W1 : Wld (σ' ++ [AO.list []]) n' es' := I.W.ext Pre.app
    have I1 := I.step h47 W1 (WSt.pre Pre.app)
    have hw1 := W1.w
    have hlen : (σ' ++ [AO.list []]).length = σ'.length + 1 := by simp
    unfold bodyM1
    induction kd with
    | table =>
      walk_at "m"
      refine ⟨.str sTable, itemV_list b3' (by decide) rfl, ?_⟩
      walk_at "m"
      refine ⟨_, rfl, rfl, ?_⟩
      walk_at "m"
      refine ⟨Nat.zero_le _, ?_⟩
      walk_at "m"
      refine run_table W1 get_new (by walk_at "z") (by walk_at "z") fun r σ2 n2 es2 m ow d c W2 st2 hr h120 hc hc2 hnm hmn => ?_
      exact ⟨_, _, _, n2, es2, _, by rw [e, map_upd]; rfl, I1.grow h47 W2 st2 hnd hr hc (get_lt hc2) hnm hmn ⟨ow, d, h120⟩ ⟨fun h => absurd h (Nat.not_lt_zero _), fun _ => hc2⟩⟩
    | list =>
      walk_at "m"
      refine ⟨.str sList, itemV_list b3' (by decide) rfl, ?_⟩
      walk_at "m"
      refine ⟨_, rfl, rfl, ?_⟩
      walk_at "m"
      refine ⟨Nat.zero_le _, ?_⟩
      walk_at "m"
      refine run_list W1 get_new (by walk_at "z") (by walk_at "z") (Nat.zero_le _) fun r σ2 n2 es2 m ow d c W2 st2 hr h82 hc hc2 hnm hmn hg => ?_
      exact ⟨_, _, _, n2, es2, _, by rw [e, map_upd]; rfl, I1.grow h47 W2 st2 hnd hr hc (get_lt hc2) hnm hmn ⟨ow, d, h82, hg⟩ ⟨fun h => absurd h (Nat.not_lt_zero _), fun _ => hc2⟩⟩
    | range =>
      walk_at "m"
      refine ⟨.str sRange, itemV_list b3' (by decide) rfl, ?_⟩
      walk_at "m"
      refine ⟨_, rfl, rfl, ?_⟩
      walk_at "m"
      refine ⟨Nat.zero_le _, ?_⟩
      walk_at "m"
      refine run_list W1 get_new (by walk_at "z") (by walk_at "z") (Nat.zero_le _) fun r σ2 n2 es2 m ow d c W2 st2 hr h82 hc hc2 hnm hmn hg => ?_
      exact ⟨_, _, _, n2, es2, _, by rw [e, map_upd]; rfl, I1.grow h47 W2 st2 hnd hr hc (get_lt hc2) hnm hmn (fun h => absurd h (Nat.not_lt_zero _)) trivial⟩
  · rintro acc σ' ⟨T, C, M, n', es', base, e, I⟩
    rw [e]; exact q _ _ _ _ _ _ _ I
structure M2I (σ : Sto) (n : Nat) (es : List (List Nat × AV)) (N : List Nd) (Ln TL base jr j3 : Nat) (ρ : Vars) (σ' : Sto) : Prop where
  h0 : ρ 0 = some (.ref 3)
  h1 : ρ 1 = some (.ref Ln)
  h2 : ρ 2 = some (.ref TL)
  ex : ∃ T C M n' es', σ'[TL]? = some (.list ((List.range N.length).map fun i => .ref (T i))) ∧ Mki σ n es N base jr j3 N.length T C M n' es' σ'
/-- phase 2: the ranges -/
theorem made2 {ρ : Vars} {R : Fl → Vars → Sto → Prop} {σ1 : Sto} {TL base : Nat} (H : Nodes N) (h47 : 47 ≤ σ.length) (hLn : σ[Ln]? = some (.list (rs.map .ref))) (hLn47 : 47 ≤ Ln) (hN : Ndl σ lo rs N) (hlo : 47 ≤ lo) (hTL : base ≤ TL)
    (I : M2I σ n es N Ln TL base 0 0 ρ σ1) (q : ∀ ρ' σ', M2I σ n es N Ln TL base N.length 0 ρ' σ' → R .next ρ' σ') :
    FG (fun ρ σ => exSs (runT tabB sc (k + 10)) bodyM2 ρ σ) 3 (nextOf 1 (.int N.length)) ρ σ1 R := by
  have hm := H.few
  refine OS_forGo N.length (fun j ρ σ' => M2I σ n es N Ln TL base j 0 ρ σ') (by walk_at "z") I (fun _ _ _ => next_int_end (by walk_at "z")) ?_ q
  rintro j ρ σ' hj ⟨h0, h1, h2, T, C, M, n', es', hT, I⟩
  refine ⟨.int j, next_int (by walk_at "z") hj, ?_⟩
  obtain ⟨⟨kd, ps⟩, hnd⟩ : ∃ nd, N[j]? = some nd := ⟨_, List.getElem?_eq_getElem hj⟩
  obtain ⟨r, hr⟩ : ∃ r, rs[j]? = some r := ⟨_, List.getElem?_eq_getElem (by rw [hN.len]; exact hj)⟩
  obtain ⟨p, b1, b2, b3, b4⟩ := hN.at_ _ _ _ hnd hr
  have b3' := I.st.keep _ _ (by walk_at "z") (by walk_at "z") b3
  have b4' := I.st.keep _ _ (by walk_at "z") (by walk_at "z") b4
  have hLn' := I.st.keep _ _ (by walk_at "z") (by walk_at "z") hLn
  have hle := I.st.le
  have hbb := I.bb
  have hw := I.W.w
  have i1 : itemV (.ref Ln) (.int j) σ' = some (.ref r) := itemV_list hLn' (by walk_at "z") (getS hr)
  refine WS.ok ?_
  unfold bodyM2
  by_cases hkd : kd = .range
  · subst hkd
    obtain ⟨a, b, pa, pb, hps, ha, hb⟩ := H.rng _ (List.mem_of_getElem? hnd) rfl
    have haj : a ≠ j := fun h => by rw [h, hnd] at ha; (first | subst ha | (injection ha with ha; subst ha) | (injection ha; done) | cases ha)
    have hbj : b ≠ j := fun h => by rw [h, hnd] at hb; (first | subst hb | (injection hb with hb; subst hb) | (injection hb; done) | cases hb)
    have hal := (List.getElem?_eq_some_iff.mp ha).1
    have hbl := (List.getElem?_eq_some_iff.mp hb).1
    have hps' : ps = [.node a, .node b] := hps
    obtain ⟨ow, d, h82, hg⟩ := I.th _ _ hal ha
    obtain ⟨ow', d', h82', hg'⟩ := I.th _ _ hbl hb
    rw [hg] at hg'
    (first | subst hg' | (injection hg' with hg'; subst hg') | (injection hg'; done) | cases hg')
    walk_at "m"
    refine ⟨_, i1, ?_⟩
    walk_at "m"
    refine ⟨.str sRange, itemV_list b3' (by decide) rfl, ?_⟩
    walk_at "m"
    refine ⟨_, i1, ?_⟩
    walk_at "m"
    refine ⟨.ref p, itemV_list b3' (by decide) rfl, ?_⟩
    refine ⟨_, _, .inr (by rw [asList_ref b4', hps']; rfl), ?_⟩
    walk_at "m"
    refine ⟨_, rfl, rfl, ?_⟩
    walk_at "m"
    refine ⟨.int a, rfl, ?_⟩
    refine ⟨_, itemV_list hT (by walk_at "z") (get_T hal), ?_⟩
    walk_at "m"
    refine ⟨.int b, rfl, ?_⟩
    refine ⟨_, itemV_list hT (by walk_at "z") (get_T hbl), ?_⟩
    walk_at "m"
    refine ⟨_, _, rfl, rfl, by decide, ?_⟩
    walk_at "m"
    have hdec : decide ((j : Int) % 2 = 1) = decide (j % 2 = 1) := decide_eq_decide.2 (by walk_at "z")
    rw [hdec]
    refine run_range I.W h82 h82' rfl rfl (I.W.mods _ _ hg) fun r' σ2 n2 es2 m ow2 d2 W2 st2 hr' h140 hnm hmn => ?_
    have hTge : 47 ≤ TL := by lia
    have hT2 := st2.keep _ _ (by walk_at "z") (by walk_at "z") hT
    walk_at "m"
    have I2 := I.rangeAt h47 W2 st2 hnd hj rfl hr' hnm hmn hps haj hbj h140 (by
      intro i nd' e hk x hx hxj
      obtain ⟨a', b', pa', pb', hps2, ha', hb'⟩ := H.rng _ (List.mem_of_getElem? e) hk
      rw [hps2] at hx
      subst hxj
      simp at hx
      rcases hx with rfl | rfl
      · rw [hnd] at ha'; (first | subst ha' | (injection ha' with ha'; subst ha') | (injection ha'; done) | cases ha')
      · rw [hnd] at hb'; (first | subst hb' | (injection hb' with hb'; subst hb') | (injection hb'; done) | cases hb'))
    refine ⟨σ2.set TL (.list ((List.range N.length).map fun i => .ref (if i = j then r' else T i))), ?_, ?_⟩
    · rw [setL_at hT2 (by simp; lia), ← map_set hj]
      simp
    walk_at "m"
    exact ⟨by simp, h0, h1, h2, _, C, _, n2, es2, get_set hT2, I2.other h47 hTL (fun D fs e => by rw [hT2] at e; (first | subst e | (injection e with e; subst e) | (injection e; done) | cases e))⟩
  · have : ∀ Q', Q' → WS (runT tabB sc (k + 10)) [] (upd ρ 3 (.int j)) σ' (thenS (runT tabB sc (k + 10)) [] fun _ _ _ => Q') := fun Q' q => WS_nil (thn_next (WS_nil q))
    walk_at "m"
    refine ⟨_, i1, ?_⟩
    walk_at "m"
    refine ⟨.str kd.nm, itemV_list b3' (by decide) rfl, ?_⟩
    walk_at "m"
    refine ex_eqs (by rw [nm_ok]; rfl) ?_
    rw [nm_eq_range, decide_eq_false hkd]
    walk_at "m"
    exact ⟨by simp, h0, h1, h2, T, C, M, n', es', hT, I.skip hnd hkd⟩
end
section
variable {sc : Scr} {k n : Nat} {es : List (List Nat × AV)} {σ : Sto} {Q : AV → Sto → Prop} {N : List Nd} {rs : List Nat} {Ln lo : Nat}
noncomputable def keyE : PE := .ite (.cmp (.Eq) (.mod (.var 7) (.val (.int 2))) (.val (.int 0))) (.var 7) (.add (.val (.str [107])) (.strOf (.var 7)))
theorem run_key {C : Calls} {ρ : Vars} {σ : Sto} {i : Nat} (h : ρ 7 = some (.int i)) (hi : i < 3) (q : Q (keyAV i) σ) : WE C keyE ρ σ Q := by
  unfold keyE
  rcases lt3 hi with rfl | rfl | rfl
  · skip
    walk_at "m"
    refine ⟨_, _, rfl, rfl, by decide, ?_⟩
    walk_at "m"
    exact q
  · skip
    walk_at "m"
    refine ⟨_, _, rfl, rfl, by decide, ?_⟩
    walk_at "m"
    refine ⟨.str [49], rfl, ?_⟩
    refine OK_addS ⟨by decide, ?_⟩
    exact q
  · skip
    walk_at "m"
    refine ⟨_, _, rfl, rfl, by decide, ?_⟩
    walk_at "m"
    exact q
noncomputable def bodyM3t : List PS := [.expr (.meth (.item (.var 2) (.var 3)) 10 [keyE, .item (.var 6) (.var 7)])]
noncomputable def bodyM3 : List PS := [.asg 6 (.comp (.call 688 [.var 0, .var 2, .var 101]) 101 0 (.item (.item (.var 1) (.var 3)) (.val (.int 1))) none), .ite (.cmp (.Eq) (.item (.item (.var 1) (.var 3)) (.val (.int 0))) (.val (.str [108, 105, 115, 116]))) [.expr (.lext (.attr (.item (.var 2) (.var 3)) 7) (.var 6))] [.ite (.cmp (.Eq) (.item (.item (.var 1) (.var 3)) (.val (.int 0))) (.val (.str [116, 97, 98, 108, 101]))) [.for_ 7 1 (.len (.var 6)) bodyM3t] []]]
/-- the rows of one table -/
structure RwI (T : Nat → Nat) (TL HL j c base : Nat) (ps : List Pt) (held : List AV) (σ : Sto) (i : Nat) (ρ : Vars) (σ' : Sto) : Prop where
  h0 : ρ 0 = some (.ref 3)
  h2 : ρ 2 = some (.ref TL)
  h3 : ρ 3 = some (.int j)
  h6 : ρ 6 = some (.ref HL)
  h1 : ∃ L : Nat, ρ 1 = some (.ref L)
  keep : ∀ (y : Nat) (o : AO), y ≠ c → σ[y]? = some o → σ'[y]? = some o
  le : σ.length ≤ σ'.length
  rows : ∃ Rw, σ'[c]? = some (rowsO i Rw) ∧ ∀ x, x < i → base ≤ Rw x ∧ ∃ v, held[x]? = some v ∧ σ'[Rw x]? = some (.list [keyAV x, v])
theorem made3t {ρ : Vars} {R : Fl → Vars → Sto → Prop} {T : Nat → Nat} {TL HL j c base m ow d mm : Nat} {ps : List Pt} {held : List AV} {σ : Sto} (hj : j < mm) (hmm : mm ≤ 6)
    (hT : σ[TL]? = some (.list ((List.range mm).map fun i => .ref (T i)))) (hTL : TL ≠ c) (hth : σ[T j]? = some (.inst 120 (tableFs m ow d c))) (hc : σ[c]? = some (.dict [])) (hTc : T j ≠ c) (hHL : σ[HL]? = some (.list held)) (hHc : HL ≠ c) (hb : base ≤ σ.length) (hcb : c < base) (hlen : held.length ≤ 3)
    (h0 : ρ 0 = some (.ref 3)) (h1 : ∃ L : Nat, ρ 1 = some (.ref L)) (h2 : ρ 2 = some (.ref TL)) (h3 : ρ 3 = some (.int j)) (h6 : ρ 6 = some (.ref HL))
    (hy : ∀ ρ' σ', RwI T TL HL j c base ps held σ held.length ρ' σ' → (ρ' 1 = ρ 1) → R .next ρ' σ') :
    FG (fun ρ σ => exSs (runT tabB sc (k + 10)) bodyM3t ρ σ) 7 (nextOf 1 (.int held.length)) ρ σ R := by
  refine OS_forGo held.length (fun i ρ' σ' => RwI T TL HL j c base ps held σ i ρ' σ' ∧ ρ' 1 = ρ 1) (by simp only [lim]; lia) ⟨⟨h0, h2, h3, h6, h1, fun _ _ _ e => e, Nat.le_refl _, fun _ => 0, hc, fun x hx => absurd hx (Nat.not_lt_zero _)⟩, rfl⟩ (fun _ _ _ => next_int_end (by lia)) ?_ fun ρ' σ' h => hy ρ' σ' h.1 h.2
  rintro i ρ' σ' hi ⟨⟨g0, g2, g3, g6, g1, hk, hl, Rw, hr, hrow⟩, e1⟩
  refine ⟨.int i, next_int (by lia) hi, ?_⟩
  refine WS.ok ?_
  unfold bodyM3t
  have hT' := hk _ _ hTL hT
  have hth' := hk _ _ hTc hth
  have hHL' := hk _ _ hHc hHL
  walk_at "m"
  refine ⟨_, itemV_list hT' (by lia) (get_T hj), ?_⟩
  walk_at "m"
  refine ⟨_, rfl, rfl, ?_⟩
  refine rEs_cons (run_key rfl (by lia) ?_)
  walk_at "m"
  refine ⟨held[i], itemV_list hHL' (by lia) (List.getElem?_eq_getElem hi), ?_⟩
  walk_at "m"
  refine run_put (by lia) hth' hr ?_
  have hcl := get_lt hr
  refine ⟨rfl, ?_⟩
  walk_at "m"
  refine ⟨by simp, ⟨g0, g2, g3, g6, g1, ?_, by simp; lia, (fun y => if y = i then σ'.length else Rw y), get_set (get_app hr), ?_⟩, e1⟩
  · intro y o hy e
    rw [List.getElem?_set_ne (fun q => hy q.symm)]
    exact get_app (hk y o hy e)
  · intro x hx
    by_cases hxi : x = i
    · subst hxi
      simp only [if_true]
      refine ⟨by lia, held[x], List.getElem?_eq_getElem hi, ?_⟩
      rw [List.getElem?_set_ne (by lia)]
      exact get_new
    · simp only [hxi, if_false]
      obtain ⟨a1, v, a2, a3⟩ := hrow x (by lia)
      refine ⟨a1, v, a2, ?_⟩
      rw [List.getElem?_set_ne (by lia)]
      exact get_app a3
/-- phase 3: what they hold -/
theorem made3 {ρ : Vars} {R : Fl → Vars → Sto → Prop} {σ1 : Sto} {TL base : Nat} (H : Nodes N) (h47 : 47 ≤ σ.length) (hLn : σ[Ln]? = some (.list (rs.map .ref))) (hLn47 : 47 ≤ Ln) (hN : Ndl σ lo rs N) (hlo : 47 ≤ lo) (hTL : base ≤ TL)
    (I : M2I σ n es N Ln TL base N.length 0 ρ σ1) (q : ∀ ρ' σ', M2I σ n es N Ln TL base N.length N.length ρ' σ' → R .next ρ' σ') :
    FG (fun ρ σ => exSs (runT tabB sc (k + 10)) bodyM3 ρ σ) 3 (nextOf 1 (.int N.length)) ρ σ1 R := by
  have hm := H.few
  refine OS_forGo N.length (fun j ρ σ' => M2I σ n es N Ln TL base N.length j ρ σ') (by simp only [lim]; lia) I (fun _ _ _ => next_int_end (by lia)) ?_ q
  rintro j ρ σ' hj ⟨h0, h1, h2, T, C, M, n', es', hT, I⟩
  refine ⟨.int j, next_int (by lia) hj, ?_⟩
  obtain ⟨⟨kd, ps⟩, hnd⟩ : ∃ nd, N[j]? = some nd := ⟨_, List.getElem?_eq_getElem hj⟩
  obtain ⟨r, hr⟩ : ∃ r, rs[j]? = some r := ⟨_, List.getElem?_eq_getElem (by rw [hN.len]; exact hj)⟩
  obtain ⟨p, b1, b2, b3, b4⟩ := hN.at_ _ _ _ hnd hr
  have b3' := I.st.keep _ _ (by lia) (by lia) b3
  have b4' := I.st.keep _ _ (by lia) (by lia) b4
  have hLn' := I.st.keep _ _ (by lia) (by lia) hLn
  have hle := I.st.le
  have hbb := I.bb
  have hcb := I.cb j hj
  have hps3 : ps.length ≤ 3 := H.short _ (List.mem_of_getElem? hnd)
  have hpok : ∀ p ∈ ps, p.ok N.length := H.ok _ (List.mem_of_getElem? hnd)
  have i1 : itemV (.ref Ln) (.int j) σ' = some (.ref r) := itemV_list hLn' (by lia) (getS hr)
  refine WS.ok ?_
  unfold bodyM3
  walk_at "m"
  refine ⟨_, i1, ?_⟩
  walk_at "m"
  refine ⟨.ref p, itemV_list b3' (by decide) rfl, ?_⟩
  refine OK_compGo ps.length (fun i acc σ2 => ∃ n2 es2, σ2[TL]? = some (.list ((List.range N.length).map fun i => .ref (T i))) ∧ Mki σ n es N base N.length j N.length T C M n2 es2 σ2 ∧ PtVs σ2 T (ps.take i) acc) (by simp only [lim]; lia) ⟨n', es', hT, I, PtVs.nil⟩ ?_ ?_ ?_
  · rintro acc σ2 ⟨n2, es2, hT2, I2, hv⟩
    exact next_list_end (I2.st.keep _ _ (by lia) (by lia) b4) (by simp)
  · rintro i acc σ2 hi ⟨n2, es2, hT2, I2, hv⟩
    have hpi : ps[i]? = some ps[i] := List.getElem?_eq_getElem hi
    refine ⟨_, next_list (I2.st.keep _ _ (by lia) (by lia) b4) (getS hpi), okF ?_⟩
    walk_at "m"
    refine run_thing I2.W hT2 hm (hpok _ (List.getElem_mem hi)) fun v σ3 n3 es3 W3 st3 hv3 => ?_
    refine ⟨n3, es3, st3.keep _ _ (by lia) (by lia) hT2, I2.step h47 W3 st3, ?_⟩
    rw [List.take_succ_eq_append_getElem hi]
    exact (hv.keep (fun i C fs a b e => st3.keep i _ a b e) fun _ _ => rfl).snoc hv3
  · rintro held σ2 ⟨n2, es2, hT2, I2, hv⟩
    rw [List.take_length] at hv
    refine ⟨by simp only [lim]; rw [hv.len]; lia, ?_⟩
    have I3 := I2.step h47 (I2.W.ext (Pre.app (τ := [.list held]))) (WSt.pre Pre.app)
    have hv3 : PtVs (σ2 ++ [AO.list held]) T ps held := hv.keep (fun i C fs _ _ e => get_app e) fun _ _ => rfl
    have hH : (σ2 ++ [AO.list held])[σ2.length]? = some (.list held) := get_new
    have hT3 := get_app (τ := [AO.list held]) hT2
    have hH2 : base ≤ σ2.length := I2.bb.2
    obtain ⟨HL, hHL⟩ : ∃ HL, HL = σ2.length := ⟨_, rfl⟩
    rw [← hHL] at hH hH2 ⊢
    generalize hσ3 : σ2 ++ [AO.list held] = σ3 at I3 hv3 hH hT3 ⊢
    have hlen3 : σ3.length = HL + 1 := by rw [← hσ3, hHL]; simp
    clear hσ3 hT2 I2 hv hHL
    have b3'' := I3.st.keep _ _ (by lia) (by lia) b3
    have i3 : itemV (.ref Ln) (.int j) σ3 = some (.ref r) := itemV_list (I3.st.keep _ _ (by lia) (by lia) hLn) (by lia) (getS hr)
    have hth := I3.th _ _ hj hnd
    have hct := I3.ct _ _ hj hnd
    induction kd with
    | list =>
      obtain ⟨ow, d, h82, hg⟩ := hth
      have hc := hct.2 (Nat.le_refl _)
      walk_at "m"
      refine ⟨_, i3, ?_⟩
      walk_at "m"
      refine ⟨.str sList, itemV_list b3'' (by decide) rfl, ?_⟩
      walk_at "m"
      refine ⟨_, itemV_list hT3 (by lia) (get_T hj), ?_⟩
      walk_at "m"
      refine ⟨_, rfl, rfl, ?_⟩
      refine ⟨C j, rfl, ⟨_, asList_ref hc⟩, ?_⟩
      walk_at "m"
      refine ⟨[], held, hc, asList_ref hH, by rw [hv3.len]; simp; lia, rfl, ?_⟩
      walk_at "m"
      have hcn : ∀ D fs, σ3[C j]? ≠ some (.inst D fs) := fun D fs e => by rw [hc] at e; (first | subst e | (injection e with e; subst e) | (injection e; done) | cases e)
      have hk : ∀ (i : Nat) (o : AO), i ≠ C j → σ3[i]? = some o → (σ3.set (C j) (.list ([] ++ held)))[i]? = some o := fun i o hi e => by rw [List.getElem?_set_ne (fun q => hi q.symm)]; exact e
      refine ⟨by simp, h0, h1, h2, T, C, M, n2, es2, hk _ _ (by lia) hT3, I3.fill h47 hj hcn hnd hk (by rw [List.length_set]; exact Nat.le_refl _) ⟨fun _ => ⟨held, get_set hc, ?_⟩, fun h => absurd h (by lia)⟩⟩
      exact hv3.keep (fun i D fs _ _ e => hk i _ (fun q => hcn D fs (by rw [← q]; exact e)) e) fun _ _ => rfl
    | table =>
      obtain ⟨ow, d, h120⟩ := hth
      have hc := hct.2 (Nat.le_refl _)
      walk_at "m"
      refine ⟨_, i3, ?_⟩
      walk_at "m"
      refine ⟨.str sTable, itemV_list b3'' (by decide) rfl, ?_⟩
      walk_at "m"
      refine ⟨_, i3, ?_⟩
      walk_at "m"
      refine ⟨.str sTable, itemV_list b3'' (by decide) rfl, ?_⟩
      walk_at "m"
      have hlh := hv3.len
      refine ⟨held.length, len_l hH, by lia, ?_⟩
      have hcn : ∀ D fs, σ3[C j]? ≠ some (.inst D fs) := fun D fs e => by rw [hc] at e; (first | subst e | (injection e with e; subst e) | (injection e; done) | cases e)
      refine made3t (ps := ps) (base := base) (T := T) hj hm hT3 (by lia) h120 hc (fun q => hcn _ _ (by rw [← q]; exact h120)) hH (by lia) I3.bb.2 (by lia) (by lia) h0 ⟨_, h1⟩ h2 rfl rfl ?_
      rintro ρ' σ4 ⟨g0, g2, g3, g6, g1, hk, hl, Rw, hrw, hrow⟩ e1
      walk_at "m"
      refine ⟨by simp, g0, by rw [e1]; exact h1, g2, T, C, M, n2, es2, hk _ _ (by lia) hT3, I3.fill h47 hj hcn hnd hk hl ⟨fun _ => ⟨Rw, ?_, ?_⟩, fun h => absurd h (by lia)⟩⟩
      · show σ4[C j]? = some (rowsO ps.length Rw)
        rw [← hlh]; exact hrw
      · intro i p hp
        have hil := (List.getElem?_eq_some_iff.mp hp).1
        obtain ⟨a1, v, a2, a3⟩ := hrow i (by rw [hlh]; exact hil)
        exact ⟨a1, v, a3, (hv3.at_ i p v hp a2).keep (fun i D fs _ _ e => hk i _ (fun q => hcn D fs (by rw [← q]; exact e)) e) fun _ _ => rfl⟩
    | range =>
      walk_at "m"
      refine ⟨_, i3, ?_⟩
      walk_at "m"
      refine ⟨.str sRange, itemV_list b3'' (by decide) rfl, ?_⟩
      walk_at "m"
      refine ⟨_, i3, ?_⟩
      walk_at "m"
      refine ⟨.str sRange, itemV_list b3'' (by decide) rfl, ?_⟩
      walk_at "m"
      exact ⟨by simp, h0, h1, h2, T, C, M, n2, es2, hT3, I3.skip3 hnd rfl⟩
theorem run_made (H : Nodes N) (h1 : ∃ l, σ[1]? = some (.list l)) (W : Wld σ n es) (hLn : σ[Ln]? = some (.list (rs.map .ref))) (hLn47 : 47 ≤ Ln) (hN : Ndl σ lo rs N) (hlo : 47 ≤ lo)
    (q : ∀ (TL : Nat) σ' n' es' T M, Wld σ' n' es' → (∀ (i : Nat) (o : AO), i ≠ 3 → i ≠ 6 → σ[i]? = some o → σ'[i]? = some o) → σ.length ≤ σ'.length → σ'[TL]? = some (.list ((List.range N.length).map fun i => .ref (T i))) → 47 ≤ TL → (∀ σ'', Pr1 σ' σ'' → HasAll N σ'' T M) → Q (.ref TL) σ') :
    OK (runT tabB sc (k + 11) 681 [.ref 3, .ref Ln] σ) Q := by
  have hm := H.few
  have h47 := W.big
  refine OK_call d681 [.ref 3, .ref Ln] rfl (by decide) rfl rfl rfl ?_
  show WS _ [.asg 2 (.comp bodyM1 101 0 (.var 1) none), .for_ 3 1 (.len (.var 1)) bodyM2, .for_ 3 1 (.len (.var 1)) bodyM3, .ret (.var 2)] _ _ _
  refine WS_asg (rE_comp (rE_var ⟨_, rfl, ?_⟩))
  refine made1 W rfl hLn hLn47 hN hlo hm fun σ1 n1 es1 T C M base I => ?_
  refine ⟨by simp [lim]; lia, ?_⟩
  have I2 := I.step h47 (I.W.ext (Pre.app (τ := [.list ((List.range N.length).map fun i => .ref (T i))]))) (WSt.pre Pre.app)
  have hlen : ∀ {σ' n' es' base jr j3 T C M}, Mki σ n es N base jr j3 N.length T C M n' es' σ' → lenV σ' (.ref Ln) = some N.length := fun {σ' n' es' base jr j3 T C M} I => (len_lm (I.st.keep _ _ (show Ln ≠ 3 by lia) (by lia) hLn)).trans (congrArg some hN.len)
  refine WS_for (rE_len (rE_var ⟨_, rfl, _, hlen I2, by lia, ?_⟩))
  have hb := I.bb
  refine made2 (base := base) H h47 hLn hLn47 hN hlo hb.2 ⟨rfl, rfl, rfl, T, C, M, _, _, get_new, I2⟩ fun ρ3 σ3 J3 => ?_
  obtain ⟨T3, C3, M3, n3, es3, hT3, I3⟩ := J3.ex
  refine thn_next ?_
  refine WS_for (rE_len (rE_var ⟨_, J3.h1, _, hlen I3, by lia, ?_⟩))
  refine made3 (base := base) H h47 hLn hLn47 hN hlo hb.2 J3 fun ρ4 σ4 J4 => ?_
  obtain ⟨T4, C4, M4, n4, es4, hT4, I4⟩ := J4.ex
  refine thn_next (WS_ret (rE_var ⟨_, J4.h2, ?_⟩))
  have hTLge : 47 ≤ σ1.length := by have := I.st.le; lia
  refine q _ σ4 n4 es4 T4 M4 I4.W I4.st.keep I4.st.le hT4 hTLge fun σ5 p5 => ⟨fun i nd e => ?_, fun a b ha hb e => ?_⟩
  · obtain ⟨l1, h1⟩ := h1
    have h14 := I4.st.keep _ _ (by decide) (by decide) h1
    have kI : ∀ (i : Nat) (D : Addr) (fs : List (Nat × AV)), i ≠ 3 → i ≠ 6 → σ4[i]? = some (.inst D fs) → σ5[i]? = some (.inst D fs) := fun i D fs _ _ e => p5.keep i _ (fun q => by rw [q, h14] at e; (first | subst e | (injection e with e; subst e) | (injection e; done) | cases e)) e
    have hi := (List.getElem?_eq_some_iff.mp e).1
    have hth := I4.th i nd hi e
    have hct := I4.ct i nd hi e
    have hcb := I4.cb i hi
    have htb := I4.tb i hi
    have hbb := I4.bb
    unfold ThP at hth
    unfold CtP at hct
    unfold ThAll
    cases hkd : nd.kd with
    | list =>
      rw [hkd] at hth hct
      obtain ⟨ow, d, h1, _⟩ := hth
      obtain ⟨vs, h2, h3⟩ := hct.1 hi
      exact ⟨ow, d, _, vs, p5.keep _ _ (by lia) h1, p5.keep _ _ (by lia) h2, h3.keep kI fun _ _ => rfl⟩
    | table =>
      rw [hkd] at hth hct
      obtain ⟨ow, d, h1⟩ := hth
      obtain ⟨Rw, h2, h3⟩ := hct.1 hi
      refine ⟨ow, d, _, base, Rw, p5.keep _ _ (by lia) h1, p5.keep _ _ (by lia) h2, fun x p e => ?_⟩
      obtain ⟨g1, v, g2, g3⟩ := h3 x p e
      exact ⟨g1, v, p5.keep _ _ (by lia) g2, g3.keep kI fun _ _ => rfl⟩
    | range =>
      rw [hkd] at hth
      obtain ⟨ow, d, a, b, h1, h2⟩ := hth hi
      exact ⟨ow, d, a, b, h1, p5.keep _ _ (by lia) h2⟩
  · rcases Nat.lt_trichotomy a b with h | h | h
    · exact absurd e (I4.mi a b h hb)
    · exact h
    · exact absurd e.symm (I4.mi b a h ha)
end
/-! show -/
theorem PtV.pre {σ σ' : Sto} {T : Nat → Nat} {p : Pt} {v : AV} (h : PtV σ T p v) (hk : Pre σ σ') : PtV σ' T p v := h.keep (fun i C fs _ _ e => hk i _ e) fun _ _ => rfl
theorem PtVs.pre {σ σ' : Sto} {T : Nat → Nat} {ps : List Pt} {vs : List AV} (h : PtVs σ T ps vs) (hk : Pre σ σ') : PtVs σ' T ps vs := h.keep (fun i C fs _ _ e => hk i _ e) fun _ _ => rfl
theorem ThAll.pre {σ σ' : Sto} {T M : Nat → Nat} {i : Nat} {nd : Nd} (h : ThAll σ T M i nd) (hk : Pre σ σ') : ThAll σ' T M i nd := by
  unfold ThAll at h ⊢
  cases hkd : nd.kd with
  | list =>
    rw [hkd] at h
    obtain ⟨ow, d, c, vs, h1, h2, h3⟩ := h
    exact ⟨ow, d, c, vs, hk _ _ h1, hk _ _ h2, h3.pre hk⟩
  | table =>
    rw [hkd] at h
    obtain ⟨ow, d, c, base, Rw, h1, h2, h3⟩ := h
    refine ⟨ow, d, c, base, Rw, hk _ _ h1, hk _ _ h2, fun i p e => ?_⟩
    obtain ⟨g1, v, g2, g3⟩ := h3 i p e
    exact ⟨g1, v, hk _ _ g2, g3.pre hk⟩
  | range =>
    rw [hkd] at h
    obtain ⟨ow, d, a, b, h1, h2⟩ := h
    exact ⟨ow, d, a, b, h1, hk _ _ h2⟩
theorem HasAll.pre {N : List Nd} {σ σ' : Sto} {T M : Nat → Nat} (h : HasAll N σ T M) (hk : Pre σ σ') : HasAll N σ' T M :=
  ⟨fun i nd e => (h.th i nd e).pre hk, h.num⟩
/-! lengths -/
theorem joinS_le {sep : List Nat} {b : Nat} : ∀ {l : List (List Nat)}, (∀ s ∈ l, s.length ≤ b) → (joinS sep l).length ≤ l.length * (b + sep.length)
  | [], _ => Nat.zero_le _
  | [s], h => by
    simp only [joinS_one, List.length_singleton, Nat.one_mul]
    have := h s (by simp)
    lia
  | s :: t :: l, h => by
    have ih := joinS_le (sep := sep) (b := b) (l := t :: l) fun x hx => h x (List.mem_cons_of_mem _ hx)
    have := h s (by simp)
    simp only [joinS_cons, List.length_append]
    have e : (s :: t :: l).length * (b + sep.length) = (t :: l).length * (b + sep.length) + (b + sep.length) := by
      rw [List.length_cons, Nat.succ_mul]
    lia
theorem joinL_map {sep : List Nat} : ∀ {l : List (List Nat)}, joinL sep (l.map .str) = some (joinS sep l)
  | [] => rfl
  | [s] => rfl
  | s :: t :: l => by
    have ih := joinL_map (sep := sep) (l := t :: l)
    show opt (joinL sep ((t :: l).map .str)) (fun r => some (s ++ sep ++ r)) = _
    rw [ih]; rfl
theorem shown_le (s : Sc) : s.shown.length ≤ 3 := by rcases s <;> decide
theorem keyS_le {i : Nat} : (keyS i).length ≤ 5 := by
  unfold keyS
  split <;> simp
theorem keyed_len {f : Nat → List Nat} : ∀ {ps : List Pt} {i : Nat}, (keyed f i ps).length = ps.length
  | [], _ => rfl
  | p :: ps, i => by simp [keyed, keyed_len]
theorem keyed_le {f : Nat → List Nat} {b : Nat} : ∀ {ps : List Pt} {i : Nat}, (∀ p ∈ ps, (p.shw f).length ≤ b) → ∀ s ∈ keyed f i ps, s.length ≤ 5 + b
  | [], _, _, s, hs => by simp [keyed] at hs
  | p :: ps, i, h, s, hs => by
    simp only [keyed, List.mem_cons] at hs
    rcases hs with rfl | hs
    · have := h p (by simp)
      have := keyS_le (i := i)
      simp only [List.length_append]; lia
    · exact keyed_le (fun q hq => h q (List.mem_cons_of_mem _ hq)) s hs
theorem Shw_le {N : List Nd} (H : Nodes N) : ∀ d i, (Shw N d i).length + 12 ≤ 17 * 3 ^ d := by
  intro d
  induction d with
  | zero =>
    intro i
    cases e : N[i]? with
    | none => rw [Shw_no e]; decide
    | some n =>
      rw [Shw_0 e]
      obtain ⟨kd, ps⟩ := n
      rcases kd <;> rcases ps <;> exact of_decide_eq_true rfl
  | succ d ih =>
    intro i
    have h1 : 1 ≤ 3 ^ d := Nat.pos_of_ne_zero (by simp)
    have hps : ∀ p : Pt, (p.shw (Shw N d)).length + 12 ≤ 17 * 3 ^ d := fun p => by
      induction p with
      | node k => exact ih k
      | sc s => exact Nat.le_trans (Nat.add_le_add_right (shown_le s) 12) (by lia)
    rw [Nat.pow_succ]
    cases e : N[i]? with
    | none => rw [Shw_no e]; show 0 + 12 ≤ _; lia
    | some n =>
      have hs := H.short _ (List.mem_of_getElem? e)
      rw [Shw_s e]
      obtain ⟨kd, ps⟩ := n
      have jn : ∀ (b : Nat) (l : List (List Nat)), l.length ≤ 3 → (∀ s ∈ l, s.length ≤ b) → (joinS [44, 32] l).length ≤ 3 * (b + 2) := fun b l hl hb => Nat.le_trans (joinS_le hb) (Nat.mul_le_mul_right _ hl)
      induction kd with
      | range =>
        have h2 := ih (nd0 ps 0)
        have h3 := ih (nd0 ps 1)
        have hd : (dots i).length ≤ 3 := by unfold dots; split <;> decide
        show (Shw N d (nd0 ps 0) ++ dots i ++ Shw N d (nd0 ps 1)).length + 12 ≤ _
        rw [List.length_append, List.length_append]
        lia
      | list =>
        have := jn (17 * 3 ^ d - 12) (ps.map (Pt.shw (Shw N d))) (by rw [List.length_map]; exact hs) fun s hs => by
          obtain ⟨p, _, rfl⟩ := List.mem_map.mp hs
          exact Nat.le_sub_of_add_le (hps p)
        show ([91] ++ joinS [44, 32] (ps.map (Pt.shw (Shw N d))) ++ [93]).length + 12 ≤ _
        rw [List.length_append, List.length_append, List.length_singleton, List.length_singleton]
        lia
      | table =>
        have := jn (5 + (17 * 3 ^ d - 12)) (keyed (Shw N d) 0 ps) (by rw [keyed_len]; exact hs) (keyed_le fun p _ => Nat.le_sub_of_add_le (hps p))
        show ([123] ++ joinS [44, 32] (keyed (Shw N d) 0 ps) ++ [125]).length + 12 ≤ _
        rw [List.length_append, List.length_append, List.length_singleton, List.length_singleton]
        lia
theorem Shw_lim {N : List Nd} (H : Nodes N) {d i : Nat} (hd : d ≤ 6) : (Shw N d i).length ≤ 13000 := by
  have := Shw_le H d i
  have h2 : 3 ^ d ≤ 3 ^ 6 := Nat.pow_le_pow_right (by decide) hd
  have : 3 ^ 6 = 729 := rfl
  lia
section
variable {sc : Scr} {k : Nat} {σ : Sto} {Q : AV → Sto → Prop} {T : Nat → Nat}
theorem run_orc {n a : Nat} {vs : List AV} {v : AV} (ha : fnAddrs.contains a = true) (h1 : a ≠ 1) (ho : orc a vs = some v) (q : Q v σ) : OK (runT tabB sc (n + 4) a vs σ) Q := by
  refine OK.mk (a := v) (σ := σ) ?_ q
  rw [runT_succ, if_neg h1, grd, if_pos ha, if_pos (Nat.le_add_left 3 n), ho]
  rfl
theorem run_text_b (q : ∀ σ', Pre σ σ' → Q (.str [34, 98, 34]) σ') : OK (runT tabB sc (k + 5) 290 [.str [98]] σ) Q := by
  refine OK_call d290 [.str [98]] rfl (by decide) rfl rfl rfl ?_
  unfold d290 b290
  walk_at "m"
  refine ⟨1, rfl, by decide, ?_⟩
  refine OK_compGo 1 (fun j acc σ' => (acc = if j = 0 then [] else [.str [98]]) ∧ σ' = σ) (by decide) ⟨rfl, rfl⟩ (fun _ _ _ => next_int_end (by decide)) ?_ ?_
  · rintro j acc σ' hj ⟨h1, h2⟩
    obtain rfl : j = 0 := by lia
    subst h1 h2
    refine ⟨.int 0, next_int (m := 1) (by decide) (by decide), okF ?_⟩
    walk_at "m"
    refine ⟨.str [98], rfl, ?_⟩
    refine rEs_cons (WE_cut ?_)
    walk_at "m"
    refine ⟨[98], rfl, ?_⟩
    walk_at "m"
    refine ⟨1, rfl, ?_⟩
    walk_at "m"
    refine ⟨2, rfl, by decide, ?_⟩
    rw [show (Txt.slice ⟨[98].toArray⟩ (some 1) (some 2)).cps.toList = [] from by decide]
    walk_at "m"
    exact run_orc (by decide) (by decide) (v := .str [98]) rfl ⟨rfl, rfl⟩
  · rintro acc σ' ⟨h1, h2⟩
    subst h1 h2
    refine ⟨by decide, ?_⟩
    walk_at "m"
    refine ⟨_, asList_ref get_new, [98], rfl, by decide, by decide, ?_⟩
    refine OK_addS ⟨by decide, ?_⟩
    walk_at "m"
    refine OK_addS ⟨by decide, ?_⟩
    exact q _ Pre.app
theorem run_text_e (q : ∀ σ', Pre σ σ' → Q (.str [34, 34]) σ') : OK (runT tabB sc (k + 5) 290 [.str []] σ) Q := by
  refine OK_call d290 [.str []] rfl (by decide) rfl rfl rfl ?_
  unfold d290 b290
  walk_at "m"
  refine ⟨0, rfl, by decide, ?_⟩
  refine OK_compGo 0 (fun j acc σ' => acc = [] ∧ σ' = σ) (by decide) ⟨rfl, rfl⟩ (fun _ _ _ => next_int_end (by decide)) ?_ ?_
  · intro j acc σ' hj
    exact absurd hj (Nat.not_lt_zero _)
  · rintro acc σ' ⟨h1, h2⟩
    subst h1 h2
    refine ⟨by decide, ?_⟩
    walk_at "m"
    refine ⟨_, asList_ref get_new, [], rfl, by decide, by decide, ?_⟩
    refine OK_addS ⟨by decide, ?_⟩
    walk_at "m"
    refine OK_addS ⟨by decide, ?_⟩
    exact q _ Pre.app
theorem run_show_sc {s : Sc} {v : AV} {d : Int} (hv : PtV σ T (.sc s) v) (q : ∀ σ', Pre σ σ' → Q (.str s.shown) σ') : OK (runT tabB sc (k + 8) 331 [v, .int d] σ) Q := by
  rcases hv with ⟨rfl, u, m, ow, dd, rfl, _, _, h⟩ | ⟨rfl, u, m, ow, dd, rfl, _, _, h⟩ | ⟨h1, h2, rfl⟩
  · refine OK_call d331 [.ref u, .int d] rfl (by decide) rfl rfl rfl ?_
    unfold d331 b331
    walk_at "m"
    refine run_sort (s := sThing) ⟨rfl, _, _, h⟩ ?_
    walk_at "m"
    refine OK_call d316 [.ref u, .int d] rfl (by decide) rfl rfl rfl ?_
    unfold d316 b316
    walk_at "m"
    refine ⟨_, rfl, rfl, ?_⟩
    walk_at "m"
    refine run_text_b (k := k + 1) fun σ' p => ?_
    walk_at "m"
    exact q σ' p
  · refine OK_call d331 [.ref u, .int d] rfl (by decide) rfl rfl rfl ?_
    unfold d331 b331
    walk_at "m"
    refine run_sort (s := sThing) ⟨rfl, _, _, h⟩ ?_
    walk_at "m"
    refine OK_call d316 [.ref u, .int d] rfl (by decide) rfl rfl rfl ?_
    unfold d316 b316
    walk_at "m"
    refine ⟨_, rfl, rfl, ?_⟩
    walk_at "m"
    refine run_text_e (k := k + 1) fun σ' p => ?_
    walk_at "m"
    exact q σ' p
  · induction s with
    | tb => exact absurd rfl h1
    | te => exact absurd rfl h2
    | n1 =>
      refine OK_call d331 [.int 1, .int d] rfl (by decide) rfl rfl rfl ?_
      unfold d331 b331
      walk_at "m"
      exact ⟨_, rfl, q _ Pre.refl⟩
    | n2 =>
      refine OK_call d331 [.int 2, .int d] rfl (by decide) rfl rfl rfl ?_
      unfold d331 b331
      walk_at "m"
      exact ⟨_, rfl, q _ Pre.refl⟩
    | sa =>
      refine OK_call d331 [.str [97], .int d] rfl (by decide) rfl rfl rfl ?_
      unfold d331 b331
      walk_at "m"
      exact run_orc (n := k + 3) (by decide) (by decide) (v := .str [58, 97]) rfl (q _ Pre.refl)
    | nl =>
      refine OK_call d331 [.none, .int d] rfl (by decide) rfl rfl rfl ?_
      unfold d331 b331
      walk_at "m"
      exact q _ Pre.refl
theorem run_show_int {i : Nat} {d : Int} (hi : i < 3) (q : Q (.str [48 + i]) σ) : OK (runT tabB sc (k + 2) 331 [.int i, .int d] σ) Q := by
  refine OK_call d331 [.int i, .int d] rfl (by decide) rfl rfl rfl ?_
  unfold d331 b331
  walk_at "m"
  refine run_sort (v := .int i) (s := sInt) rfl ?_
  walk_at "m"
  refine ⟨.str [48 + i], ?_, q⟩
  show (if 0 ≤ (i : Int) ∧ (i : Int) ≤ 9 then some (.str [48 + (i : Int).toNat]) else none) = some (AV.str [48 + i])
  rw [if_pos (by lia)]
  rfl
end
section
variable {sc : Scr} {N : List Nd} {T M : Nat → Nat}
/-- the shown parts, one by one -/
noncomputable def PartOK (sc : Scr) (N : List Nd) (T M : Nat → Nat) (d : Nat) : Prop := ∀ (k : Nat) (p : Pt) (v : AV) (σ : Sto) (Q : AV → Sto → Prop), p.ok N.length → PtV σ T p v → HasAll N σ T M → (∀ σ', Pre σ σ' → Q (.str (p.shw (Shw N d))) σ') → OK (runT tabB sc (k + 3 * d + 8) 331 [v, .int d] σ) Q
theorem enter_show {σ : Sto} {t : Nat} {C : Addr} {fs : List (Nat × AV)} {k : Nat} {d : Int} {Q : AV → Sto → Prop} (h : σ[t]? = some (.inst C fs)) (q : WS (runT tabB sc k) b316 (varsOf [.ref t, .int d]) σ (retQ Q)) (q' : ∀ v σ, Q v σ → Q v σ) : OK (runT tabB sc (k + 2) 331 [.ref t, .int d] σ) Q := by
  refine OK_call d331 [.ref t, .int d] rfl (by decide) rfl rfl rfl ?_
  unfold d331 b331
  walk_at "m"
  refine run_sort (s := sThing) ⟨rfl, _, _, h⟩ ?_
  walk_at "m"
  exact OK_call d316 [.ref t, .int d] rfl (by decide) rfl rfl rfl q
theorem shw_list {k : Nat} {c d : Nat} {ps : List Pt} {vs : List AV} {σ : Sto} {ρ : Vars} {Q : List AV → Sto → Prop} (P : PartOK sc N T M d) (A : HasAll N σ T M) (hok : ∀ p ∈ ps, p.ok N.length) (hl : ps.length ≤ 3) (hc : σ[c]? = some (.list vs)) (hv : PtVs σ T ps vs) (h1 : ρ 1 = some (.int ((d + 1 : Nat) : Int)))
    (q : ∀ σ', Pre σ σ' → Q ((ps.map (Pt.shw (Shw N d))).map .str) σ') : CG (compF (runT tabB sc (k + 3 * d + 8)) (.call 331 [.var 101, .sub (.var 1) (.val (.int 1))]) 101 none ρ) (nextOf 0 (.ref c)) σ Q := by
  refine OK_compGo ps.length (fun j acc σ' => acc = ((ps.take j).map (Pt.shw (Shw N d))).map .str ∧ Pre σ σ') (by simp only [lim]; lia) ⟨rfl, Pre.refl⟩ (fun _ σ' h => next_list_end (h.2 _ _ hc) hv.len) ?_ ?_
  · rintro j acc σ' hj ⟨h7, hp⟩
    have hpj : ps[j]? = some ps[j] := List.getElem?_eq_getElem hj
    have hvj : vs[j]? = some (vs[j]'(by rw [hv.len]; exact hj)) := List.getElem?_eq_getElem (by rw [hv.len]; exact hj)
    refine ⟨_, next_list (hp _ _ hc) hvj, okF ?_⟩
    walk_at "m"
    refine ⟨_, _, rfl, rfl, at_sub1 ?_⟩
    walk_at "m"
    refine P k _ _ σ' _ (hok _ (List.getElem_mem hj)) ((hv.at_ j _ _ hpj hvj).pre hp) (A.pre hp) fun σ'' hp'' => ⟨?_, hp.trans hp''⟩
    rw [h7, List.take_succ_eq_append_getElem hj, accO, List.map_append, List.map_append]
    rfl
  · rintro acc σ' ⟨h7, hp⟩
    rw [h7, List.take_length]
    exact q σ' hp
theorem pairsV_rows {σ : Sto} {Rw : Nat → Nat} {V : Nat → AV} : ∀ (n : Nat), (∀ i, i < n → σ[Rw i]? = some (.list [keyAV i, V i])) → ∀ (l : List Nat), (∀ i ∈ l, i < n) → pairsV σ (l.map fun i => .ref (Rw i)) = some (l.map fun i => .tup [keyAV i, V i])
  | _, _, [], _ => rfl
  | n, h, i :: l, hl => by
    have ih := pairsV_rows n h l fun j hj => hl j (List.mem_cons_of_mem _ hj)
    rw [List.map_cons, pairsV, asList_ref (h i (hl i (by simp))), two, opt, ih]; rfl
theorem run_pairs {k t c base : Nat} {m : Int} {ow d : Nat} {ps : List Pt} {Rw : Nat → Nat} {σ : Sto} {Q : AV → Sto → Prop} (ht : σ[t]? = some (.inst 120 (tableFs m ow d c))) (hl : ps.length ≤ 3) (tab : TabAt σ T base c ps Rw)
    (q : ∀ V : Nat → AV, (∀ (i : Nat) (p : Pt), ps[i]? = some p → PtV σ T p (V i)) → Q (.ref σ.length) (σ ++ [.list ((List.range ps.length).map fun i => .tup [keyAV i, V i])])) : OK (runT tabB sc (k + 1) 117 [.ref t] σ) Q := by
  refine OK_call d117 [.ref t] rfl (by decide) rfl rfl rfl ?_
  unfold d117 b117
  walk_at "m"
  refine ⟨_, rfl, rfl, ?_⟩
  obtain ⟨V, hV⟩ : ∃ V : Nat → AV, ∀ i p, ps[i]? = some p → σ[Rw i]? = some (.list [keyAV i, V i]) ∧ PtV σ T p (V i) := by
    refine ⟨fun i => match σ[Rw i]? with | some (.list [_, v]) => v | _ => .none, fun i p e => ?_⟩
    obtain ⟨_, v, g2, g3⟩ := tab.row i p e
    dsimp only
    rw [g2]
    exact ⟨rfl, g3⟩
  refine ⟨(List.range ps.length).map fun i => .tup [keyAV i, V i], ?_, by simp [lim]; lia, ?_⟩
  · have hd := tab.dict
    unfold rowsO at hd
    unfold pairsOfV
    by_cases h0 : ps.length = 0
    · rw [if_pos h0] at hd
      refine (congrArg (fun o => opt o fun es : List (List KI × AV) => pairsV σ (es.map (·.2))) (congrArg tdictO hd)).trans ?_
      rw [h0]; rfl
    · rw [if_neg h0] at hd
      refine (congrArg (fun o => opt o fun es : List (List KI × AV) => pairsV σ (es.map (·.2))) (congrArg tdictO hd)).trans ?_
      show pairsV σ (List.map _ (List.map _ _)) = _
      rw [List.map_map]
      exact pairsV_rows ps.length (fun i hi => (hV i _ (List.getElem?_eq_getElem hi)).1) _ fun i hi => List.mem_range.1 hi
  · exact q V fun i p e => (hV i p e).2
theorem keyS_0 : keyS 0 = [48] ++ [32, 61, 62, 32] := rfl
theorem shw_len {d : Nat} {p : Pt} (H : Nodes N) (hd : d ≤ 6) : (p.shw (Shw N d)).length ≤ 13000 := by
  induction p with
  | node x => exact Shw_lim H hd
  | sc s => have := shown_le s; simp only [Pt.shw]; lia
theorem run_pairI {k d i : Nat} {p : Pt} {v : AV} {σ : Sto} {Q : AV → Sto → Prop} (H : Nodes N) (hd : d ≤ 6) (P : PartOK sc N T M d) (A : HasAll N σ T M) (hok : p.ok N.length) (hv : PtV σ T p v) (hi : i < 3) (hk : keyS i = [48 + i] ++ [32, 61, 62, 32])
    (q : ∀ σ', Pre σ σ' → Q (.str (keyS i ++ p.shw (Shw N d))) σ') : OK (runT tabB sc (k + 3 * d + 9) 304 [.int i, v, .int d] σ) Q := by
  have hlen : (p.shw (Shw N d)).length ≤ 13000 := shw_len H hd
  refine OK_call d304 [.int i, v, .int d] rfl (by decide) rfl rfl rfl ?_
  unfold d304 b304
  walk_at "m"
  refine run_show_int (k := k + 3 * d + 6) (i := i) hi ?_
  walk_at "m"
  refine P k p v σ _ hok hv A fun σ' hp => ?_
  refine OK_addS ⟨by simp [lim]; lia, ?_⟩
  have q := q σ' hp
  rw [hk] at q
  exact q
theorem run_pair {k d i : Nat} {p : Pt} {v : AV} {σ : Sto} {Q : AV → Sto → Prop} (H : Nodes N) (hd : d ≤ 6) (P : PartOK sc N T M d) (A : HasAll N σ T M) (hok : p.ok N.length) (hv : PtV σ T p v) (hi : i < 3)
    (q : ∀ σ', Pre σ σ' → Q (.str (keyS i ++ p.shw (Shw N d))) σ') : OK (runT tabB sc (k + 3 * d + 9) 304 [keyAV i, v, .int d] σ) Q := by
  rcases lt3 hi with rfl | rfl | rfl
  · exact run_pairI H hd P A hok hv hi rfl q
  · have hlen : (p.shw (Shw N d)).length ≤ 13000 := shw_len H hd
    refine OK_call d304 [.str [107, 49], v, .int d] rfl (by decide) rfl rfl rfl ?_
    unfold d304 b304
    walk_at "m"
    refine P k p v σ _ hok hv A fun σ' hp => ?_
    refine OK_addS ⟨by simp [lim]; lia, ?_⟩
    exact q σ' hp
  · exact run_pairI H hd P A hok hv hi rfl q
noncomputable def keyAt (f : Nat → List Nat) (b : Nat) (ps : List Pt) (i : Nat) : List Nat := match ps[i]? with
  | some p => keyS (b + i) ++ p.shw f
  | none => []
noncomputable def keyedL (f : Nat → List Nat) (ps : List Pt) (n : Nat) : List (List Nat) := (List.range n).map (keyAt f 0 ps)
theorem keyed_is {f : Nat → List Nat} : ∀ (ps : List Pt) (b : Nat), keyed f b ps = (List.range ps.length).map (keyAt f b ps)
  | [], b => rfl
  | p :: ps, b => by
    rw [keyed, keyed_is ps (b + 1), List.length_cons, List.range_succ_eq_map, List.map_cons, List.map_map]
    congr 1
    refine List.map_congr_left fun i _ => ?_
    simp only [Function.comp, keyAt, List.getElem?_cons_succ]
    rw [show b + 1 + i = b + (i + 1) by lia]
theorem shw_table {k d c : Nat} {ps : List Pt} {V : Nat → AV} {σ : Sto} {ρ : Vars} {Q : List AV → Sto → Prop} (H : Nodes N) (hd : d ≤ 6) (P : PartOK sc N T M d) (A : HasAll N σ T M) (hok : ∀ p ∈ ps, p.ok N.length) (hl : ps.length ≤ 3) (hc : σ[c]? = some (.list ((List.range ps.length).map fun i => .tup [keyAV i, V i]))) (hv : ∀ (i : Nat) (p : Pt), ps[i]? = some p → PtV σ T p (V i)) (h1 : ρ 1 = some (.int ((d + 1 : Nat) : Int)))
    (q : ∀ σ', Pre σ σ' → Q ((keyed (Shw N d) 0 ps).map .str) σ') : CG (compF2 (runT tabB sc (k + 3 * d + 9)) (.call 304 [.var 101, .var 102, .sub (.var 1) (.val (.int 1))]) 101 102 ρ) (nextOf 0 (.ref c)) σ Q := by
  refine OK_compGo ps.length (fun j acc σ' => acc = (keyedL (Shw N d) ps j).map .str ∧ Pre σ σ') (by simp only [lim]; lia) ⟨rfl, Pre.refl⟩ (fun _ σ' h => next_list_end (h.2 _ _ hc) (by simp)) ?_ ?_
  · rintro j acc σ' hj ⟨h7, hp⟩
    have hpj : ps[j]? = some ps[j] := List.getElem?_eq_getElem hj
    refine ⟨_, next_list (hp _ _ hc) (getS (List.getElem?_range hj)), okF2 ?_⟩
    walk_at "m"
    refine ⟨_, _, rfl, rfl, at_sub1 ?_⟩
    walk_at "m"
    refine run_pair H hd P (A.pre hp) (hok _ (List.getElem_mem hj)) ((hv j _ hpj).pre hp) (by lia) fun σ'' hp'' => ⟨?_, hp.trans hp''⟩
    rw [h7, keyedL, keyedL, List.range_succ, List.map_append, List.map_append, accO]
    simp only [List.map_cons, List.map_nil, keyAt, hpj, Nat.zero_add]
  · rintro acc σ' ⟨h7, hp⟩
    have : keyedL (Shw N d) ps ps.length = keyed (Shw N d) 0 ps := by
      rw [keyed_is]
      rfl
    rw [h7, this]
    exact q σ' hp
end
section
variable {sc : Scr} {N : List Nd} {T M : Nat → Nat}
noncomputable def NodeShow (sc : Scr) (N : List Nd) (T M : Nat → Nat) (d : Nat) : Prop := ∀ (k i : Nat) (σ : Sto) (Q : AV → Sto → Prop), i < N.length → HasAll N σ T M → (∀ σ', Pre σ σ' → Q (.str (Shw N d i)) σ') → OK (runT tabB sc (k + 3 * d + 8) 331 [.ref (T i), .int d] σ) Q
theorem part_of {d : Nat} (h : NodeShow sc N T M d) : PartOK sc N T M d := by
  intro k p v σ Q hok hv A q
  induction p with
  | node i =>
    rw [show v = .ref (T i) from hv]
    exact h k i σ Q hok A q
  | sc s =>
    exact run_show_sc (k := k + 3 * d) hv q
theorem show_zero (H : Nodes N) : NodeShow sc N T M 0 := by
  intro k i σ Q hi A q
  obtain ⟨⟨kd, ps⟩, hnd⟩ : ∃ nd, N[i]? = some nd := ⟨_, List.getElem?_eq_getElem hi⟩
  have hth := A.th i _ hnd
  have hl : ps.length ≤ 3 := H.short _ (List.mem_of_getElem? hnd)
  induction kd with
  | list =>
    obtain ⟨ow, d, c, vs, h1, h2, h3⟩ := hth
    refine enter_show (k := k + 6) h1 ?_ (fun _ _ h => h)
    have hvl := h3.len
    simp only at hvl
    unfold b316
    walk_at "m"
    refine ⟨_, rfl, rfl, ?_⟩
    refine ⟨vs.length, len_l h2, by lia, ?_⟩
    walk_at "m"
    refine ⟨⟨_, rfl⟩, ?_⟩
    cases hps : ps with
    | nil =>
      rw [hps] at hvl
      have hn : decide ((0 : Int) < (vs.length : Int)) = false := by rw [hvl]; rfl
      rw [hn]
      walk_at "m"
      refine ⟨_, rfl, rfl, ?_⟩
      refine OK_compGo 0 (fun j acc σ' => acc = [] ∧ σ' = σ) (by decide) ⟨rfl, rfl⟩ (fun _ _ h => by rw [h.2]; exact next_list_end h2 hvl) (fun j acc σ' hj => absurd hj (Nat.not_lt_zero _)) ?_
      rintro acc σ' ⟨e1, e2⟩
      subst e1 e2
      refine ⟨by decide, ?_⟩
      refine ⟨_, asList_ref get_new, [], rfl, by decide, by decide, ?_⟩
      walk_at "m"
      have := q (σ' ++ [.list []]) Pre.app
      rw [Shw_0 hnd, hps] at this
      exact this
    | cons p ps' =>
      have hn : decide ((0 : Int) < (vs.length : Int)) = true := by
        rw [hvl, hps]; simp
      rw [hn]
      walk_at "m"
      have := q σ Pre.refl
      rw [Shw_0 hnd, hps] at this
      exact this
  | table =>
    obtain ⟨ow, d, c, base, Rw, h1, h2⟩ := hth
    refine enter_show (k := k + 6) h1 ?_ (fun _ _ h => h)
    have hd := h2.dict
    simp only at hd
    have hlen : lenV σ (.ref c) = some ps.length := by
      unfold rowsO at hd
      split at hd
      · rename_i h0; exact (len_d hd).trans (congrArg some h0.symm)
      · exact (len_t hd).trans (congrArg some ((List.length_map ..).trans List.length_range))
    unfold b316
    walk_at "m"
    refine ⟨_, rfl, rfl, ?_⟩
    refine ⟨ps.length, hlen, by lia, ?_⟩
    walk_at "m"
    refine ⟨⟨_, rfl⟩, ?_⟩
    cases hps : ps with
    | nil =>
      walk_at "m"
      refine ⟨_, rfl, rfl, ?_⟩
      walk_at "m"
      rw [hps] at h2
      refine run_pairs h1 (by decide) h2 fun V hV => ?_
      have h3 : (σ ++ [AO.list []])[σ.length]? = some (.list []) := get_new
      refine OK_compGo 0 (fun j acc σ' => acc = [] ∧ σ' = σ ++ [.list []]) (by decide) ⟨rfl, rfl⟩ (fun _ _ h => by rw [h.2]; exact next_list_end h3 rfl) (fun j acc σ' hj => absurd hj (Nat.not_lt_zero _)) ?_
      rintro acc σ' ⟨e1, e2⟩
      subst e1
      refine ⟨by decide, ?_⟩
      refine ⟨_, asList_ref get_new, [], rfl, by decide, by decide, ?_⟩
      walk_at "m"
      have := q (σ' ++ [.list []]) (by rw [e2]; exact Pre.app.trans Pre.app)
      rw [Shw_0 hnd, hps] at this
      exact this
    | cons p ps' =>
      have hn : decide ((0 : Int) < ((p :: ps').length : Int)) = true := by
        simp
      rw [hn]
      walk_at "m"
      have := q σ Pre.refl
      rw [Shw_0 hnd, hps] at this
      exact this
  | range =>
    obtain ⟨ow, d, a, b, hps, h1⟩ := hth
    refine enter_show (k := k + 6) h1 ?_ (fun _ _ h => h)
    unfold b316
    walk_at "m"
    have := q σ Pre.refl
    rw [Shw_0 hnd] at this
    exact this
theorem show_succ (H : Nodes N) {d : Nat} (hd : d + 1 ≤ 6) (ih : NodeShow sc N T M d) : NodeShow sc N T M (d + 1) := by
  intro k i σ Q hi A q
  have P := part_of ih
  have hlt : decide (((d + 1 : Nat) : Int) < 1) = false := by simp; lia
  obtain ⟨⟨kd, ps⟩, hnd⟩ : ∃ nd, N[i]? = some nd := ⟨_, List.getElem?_eq_getElem hi⟩
  have hth := A.th i _ hnd
  have hl : ps.length ≤ 3 := H.short _ (List.mem_of_getElem? hnd)
  have hok : ∀ p ∈ ps, p.ok N.length := H.ok _ (List.mem_of_getElem? hnd)
  have hlim : (Shw N (d + 1) i).length ≤ 13000 := Shw_lim H hd
  induction kd with
  | list =>
    obtain ⟨ow, dd, c, vs, h1, h2, h3⟩ := hth
    have e1 : Shw N (d + 1) i = [91] ++ joinS [44, 32] (ps.map (Pt.shw (Shw N d))) ++ [93] := Shw_s hnd
    rw [show k + 3 * (d + 1) + 8 = (k + 1 + 3 * d + 8) + 2 by lia]
    refine enter_show h1 ?_ (fun _ _ h => h)
    unfold b316
    walk_at "m"
    refine ⟨_, rfl, rfl, ?_⟩
    refine shw_list P A hok hl h2 h3 rfl fun σ' hp => ?_
    rw [e1] at hlim q
    simp only [List.length_append, List.length_cons, List.length_nil] at hlim
    refine ⟨by simp [lim]; lia, ?_⟩
    refine ⟨_, asList_ref get_new, _, joinL_map, by decide, by simp only [lim]; lia, ?_⟩
    refine OK_addS ⟨by simp [lim]; lia, ?_⟩
    walk_at "m"
    refine OK_addS ⟨by simp [lim]; lia, ?_⟩
    exact q _ (hp.trans Pre.app)
  | table =>
    obtain ⟨ow, dd, c, base, Rw, h1, h2⟩ := hth
    have e1 : Shw N (d + 1) i = [123] ++ joinS [44, 32] (keyed (Shw N d) 0 ps) ++ [125] := Shw_s hnd
    rw [show k + 3 * (d + 1) + 8 = (k + 3 * d + 9) + 2 by lia]
    refine enter_show h1 ?_ (fun _ _ h => h)
    unfold b316
    walk_at "m"
    refine ⟨_, rfl, rfl, ?_⟩
    walk_at "m"
    refine run_pairs (k := k + 3 * d + 8) h1 hl h2 fun V hV => ?_
    refine shw_table H (by lia) P (A.pre Pre.app) hok hl get_new (fun i p e => (hV i p e).pre Pre.app) rfl fun σ' hp => ?_
    rw [e1] at hlim q
    simp only [List.length_append, List.length_cons, List.length_nil] at hlim
    refine ⟨by simp [lim, keyed_len]; lia, ?_⟩
    refine ⟨_, asList_ref get_new, _, joinL_map, by decide, by simp only [lim]; lia, ?_⟩
    refine OK_addS ⟨by simp [lim]; lia, ?_⟩
    walk_at "m"
    refine OK_addS ⟨by simp [lim]; lia, ?_⟩
    exact q _ ((Pre.app.trans hp).trans Pre.app)
  | range =>
    obtain ⟨ow, dd, a, b, hps, h1⟩ := hth
    have hps' : ps = [.node a, .node b] := hps
    have e1 : Shw N (d + 1) i = Shw N d a ++ dots i ++ Shw N d b := by rw [Shw_s hnd, hps']; rfl
    have ha : a < N.length := hok (.node a) (by simp [hps'])
    have hb : b < N.length := hok (.node b) (by simp [hps'])
    have hgt : decide (0 < ((d + 1 : Nat) : Int)) = true := by simp
    rw [show k + 3 * (d + 1) + 8 = (k + 3 * d + 9) + 2 by lia]
    refine enter_show h1 ?_ (fun _ _ h => h)
    unfold b316
    walk_at "m"
    refine ⟨_, _, rfl, rfl, at_sub1 ?_⟩
    walk_at "m"
    refine OK_call d311 [.ref (T i), .int d] rfl (by decide) rfl rfl rfl ?_
    unfold d311 b311
    walk_at "m"
    refine ⟨_, rfl, rfl, ?_⟩
    walk_at "m"
    refine ⟨_, rfl, rfl, ?_⟩
    walk_at "m"
    refine ih k a σ _ ha A fun σ1 p1 => ?_
    have h1' := p1 _ _ h1
    walk_at "m"
    refine ⟨_, rfl, rfl, ?_⟩
    walk_at "m"
    refine ⟨_, rfl, rfl, ?_⟩
    walk_at "m"
    refine ih k b σ1 _ hb (A.pre p1) fun σ2 p2 => ?_
    have h2' := p2 _ _ h1'
    walk_at "m"
    refine ⟨_, rfl, rfl, ?_⟩
    rw [e1] at hlim q
    have key : ∀ {C : Calls} {ρ : Vars} {Q' : AV → Sto → Prop}, Q' (.str (dots i)) σ2 → KB (AV.bool (decide (i % 2 = 1))) (WE C (.val (.str [46, 46, 46])) ρ σ2 Q') (WE C (.val (.str [46, 46])) ρ σ2 Q') := by
      intro C ρ Q' q'
      unfold dots at q'
      by_cases ho : i % 2 = 1
      · rw [if_pos ho] at q'
        exact ⟨true, by rw [decide_eq_true ho], fun _ => rE_val q', fun h => by (first | subst h | (injection h with h; subst h) | (injection h; done) | cases h)⟩
      · rw [if_neg ho] at q'
        exact ⟨false, by rw [decide_eq_false ho], fun h => (by (first | subst h | (injection h with h; subst h) | (injection h; done) | cases h)), fun _ => rE_val q'⟩
    refine key ?_
    simp only [List.length_append] at hlim
    refine OK_addS ⟨by simp [lim]; lia, ?_⟩
    walk_at "m"
    refine OK_addS ⟨by simp [lim]; lia, ?_⟩
    walk_at "m"
    exact q _ (p1.trans p2)
theorem run_show (H : Nodes N) : ∀ d, d ≤ 6 → NodeShow sc N T M d
  | 0, _ => show_zero H
  | d + 1, h => show_succ H h (run_show H d (by lia))
end
/-! the pieces of a row -/
set_option genInjectivity false in
set_option genSizeOf false in
inductive Pc where
  | s (x : List Nat)
  | p (q : Pt) (d : Nat)
noncomputable def Pc.av : Pc → AV
  | .s x => .str x
  | .p q d => .tup [q.av, .int d]
noncomputable def Pc.mean (N : List Nd) : Pc → List Nat
  | .s x => x
  | .p q d => q.shw (Shw N d)
noncomputable def partPcs (tbl : Bool) (d j : Nat) (q : Pt) : List Pc := [.s (if 0 < j then [44, 32] else [])] ++ (if tbl then [.s (keyS j)] else []) ++ [.p q d]
noncomputable def partsTo (tbl : Bool) (d : Nat) (ps : List Pt) : Nat → List Pc
  | 0 => []
  | j + 1 => partsTo tbl d ps j ++ (match ps[j]? with | some q => partPcs tbl d j q | none => [])
noncomputable def brk (tbl : Bool) : List Nat × List Nat × List Nat := if tbl then ([123], [125], [123, 46, 46, 46, 125]) else ([91], [93], [91, 46, 46, 46, 93])
noncomputable def seqPcs (tbl : Bool) (d : Nat) (ps : List Pt) : List Pc := if d = 0 ∧ ps ≠ [] then [.s (brk tbl).2.2] else [.s (brk tbl).1] ++ partsTo tbl (d - 1) ps ps.length ++ [.s (brk tbl).2.1]
noncomputable def pcsN (d k : Nat) (n : Nd) : List Pc := match n.kd with
  | .range => if d = 0 then [.s [40, 46, 46, 46, 41]] else [.p (n.ps.getD 0 (.node 0)) (d - 1), .s (dots k), .p (n.ps.getD 1 (.node 0)) (d - 1)]
  | .list => seqPcs false d n.ps
  | .table => seqPcs true d n.ps
noncomputable def pieces (N : List Nd) (k d : Nat) : List Pc := (N[k]?).elim [] (pcsN d k)
theorem pcs_at {N : List Nd} {k d : Nat} {n : Nd} (h : N[k]? = some n) : pieces N k d = pcsN d k n := congrArg (fun o => Option.elim o [] (pcsN d k)) h
theorem joinS_snoc {sep x : List Nat} : ∀ {l : List (List Nat)}, joinS sep (l ++ [x]) = if l = [] then x else joinS sep l ++ sep ++ x
  | [] => rfl
  | [s] => (if_neg (List.cons_ne_nil _ _)).symm
  | s :: t :: l => by
    have ih := joinS_snoc (sep := sep) (x := x) (l := t :: l)
    rw [if_neg (by simp)] at ih
    rw [if_neg (by simp)]
    simp only [List.cons_append] at ih
    simp only [List.cons_append, joinS_cons, ih, List.append_assoc]
theorem parts_mean {N : List Nd} {tbl : Bool} {d : Nat} {ps : List Pt} : ∀ j, j ≤ ps.length →
    (partsTo tbl d ps j).flatMap (Pc.mean N) = joinS [44, 32] ((List.range j).map fun i => (if tbl then keyS i else []) ++ (match ps[i]? with | some q => q.shw (Shw N d) | none => []))
  | 0, _ => rfl
  | j + 1, h => by
    have hj : ps[j]? = some ps[j] := List.getElem?_eq_getElem (by lia)
    rw [partsTo, List.flatMap_append, parts_mean j (by lia), List.range_succ, List.map_append]
    simp only [List.map_cons, List.map_nil, joinS_snoc, hj]
    by_cases h0 : j = 0
    · subst h0
      rcases tbl <;> simp [partPcs, Pc.mean, joinS]
    · have : (List.range j).map (fun i => (if tbl then keyS i else []) ++ (match ps[i]? with | some q => q.shw (Shw N d) | none => [])) ≠ [] := by
        intro e
        have := congrArg List.length e
        simp at this
        exact h0 this
      rw [if_neg this]
      rcases tbl <;> simp [partPcs, Pc.mean, Nat.pos_of_ne_zero h0]
theorem pieces_mean {N : List Nd} (H : Nodes N) {k d : Nat} (hk : k < N.length) : (pieces N k d).flatMap (Pc.mean N) = Shw N d k := by
  obtain ⟨⟨kd, ps⟩, hnd⟩ : ∃ nd, N[k]? = some nd := ⟨_, List.getElem?_eq_getElem hk⟩
  have map0 : ∀ {d : Nat}, (List.range ps.length).map (fun i => (if false = true then keyS i else []) ++ (match ps[i]? with | some q => q.shw (Shw N d) | none => [])) = ps.map (Pt.shw (Shw N d)) := by
    intro d
    refine List.ext_getElem? fun i => ?_
    by_cases hi : i < ps.length
    · rw [List.getElem?_map, List.getElem?_map, List.getElem?_range hi, List.getElem?_eq_getElem hi]
      simp [hi]
    · rw [List.getElem?_eq_none (by simp; lia), List.getElem?_eq_none (by simp; lia)]
  have map1 : ∀ {d : Nat}, (List.range ps.length).map (fun i => (if true = true then keyS i else []) ++ (match ps[i]? with | some q => q.shw (Shw N d) | none => [])) = keyed (Shw N d) 0 ps := by
    intro d
    rw [keyed_is]
    refine List.map_congr_left fun i hi => ?_
    rw [List.mem_range] at hi
    simp only [keyAt, Nat.zero_add, if_true]
    rw [List.getElem?_eq_getElem hi]
  rw [pcs_at hnd]
  induction kd with
  | list =>
    induction d using ncs with
    | zero =>
      rw [Shw_0 hnd]
      rcases ps <;> rfl
    | succ d =>
      rw [Shw_s hnd]
      show (seqPcs false (d + 1) ps).flatMap _ = _
      rw [seqPcs, if_neg (fun h => Nat.succ_ne_zero d h.1), List.flatMap_append, List.flatMap_append, Nat.add_sub_cancel, parts_mean _ (Nat.le_refl _), map0]
      rfl
  | table =>
    induction d using ncs with
    | zero =>
      rw [Shw_0 hnd]
      rcases ps <;> rfl
    | succ d =>
      rw [Shw_s hnd]
      show (seqPcs true (d + 1) ps).flatMap _ = _
      rw [seqPcs, if_neg (fun h => Nat.succ_ne_zero d h.1), List.flatMap_append, List.flatMap_append, Nat.add_sub_cancel, parts_mean _ (Nat.le_refl _), map1]
      rfl
  | range =>
    obtain ⟨a, b, rfl, _, _⟩ := range_nd H hnd
    induction d using ncs with
    | zero => rw [Shw_0 hnd]; rfl
    | succ d =>
      rw [Shw_s hnd]
      show Shw N d a ++ (dots k ++ (Shw N d b ++ [])) = Shw N d a ++ dots k ++ Shw N d b
      rw [List.append_nil, List.append_assoc]
/-! measures -/
noncomputable def wn (d : Nat) : Nat := 12 * 2 ^ d - 10
noncomputable def Pc.ms (a : Nat) (W : Nat → Nat) : Pc → Nat
  | .s _ => a
  | .p (.sc _) _ => 1
  | .p (.node _) d => W d
noncomputable abbrev Pc.w : Pc → Nat := Pc.ms 1 wn
noncomputable abbrev Pc.v : Pc → Nat := Pc.ms 0 fun d => 2 ^ (d + 1)
structure Ms (a : Nat) (W : Nat → Nat) : Prop where
  pos : ∀ d, 1 ≤ W d
  z : 2 * a ≤ W 0
  one : a ≤ 1
  s : ∀ d, 8 * a + 2 + W d ≤ W (d + 1)
  r : ∀ d, a + 2 * W d ≤ W (d + 1)
theorem two_pow (d : Nat) : 1 ≤ 2 ^ d ∧ 2 ^ (d + 1) = 2 * 2 ^ d := ⟨Nat.one_le_two_pow, Nat.pow_succ'⟩
theorem msW : Ms 1 wn := by
  refine ⟨fun d => ?_, by decide, by decide, fun d => ?_, fun d => ?_⟩ <;> (have h := two_pow d; unfold wn; lia)
theorem msV : Ms 0 fun d => 2 ^ (d + 1) := by
  refine ⟨fun d => ?_, by decide, by decide, fun d => ?_, fun d => ?_⟩ <;> (have h := two_pow d; have h' := two_pow (d + 1); lia)
noncomputable def Pc.h : Pc → Nat
  | .s _ => 0
  | .p (.sc _) _ => 1
  | .p (.node _) d => d + 2
noncomputable def sumBy {α : Type} (f : α → Nat) : List α → Nat
  | [] => 0
  | a :: l => f a + sumBy f l
theorem sumBy_app {α : Type} {f : α → Nat} : ∀ {l m : List α}, sumBy f (l ++ m) = sumBy f l + sumBy f m
  | [], m => by simp [sumBy]
  | a :: l, m => by simp only [List.cons_append, sumBy, sumBy_app (l := l)]; lia
noncomputable def nodeN (ps : List Pt) : Nat := (ps.filter Pt.isN).length
theorem nodeN_take {ps : List Pt} {j : Nat} {q : Pt} (h : ps[j]? = some q) : nodeN (ps.take (j + 1)) = nodeN (ps.take j) + if q.isN then 1 else 0 := by
  have hj := (List.getElem?_eq_some_iff.mp h).1
  have e : ps[j] = q := (List.getElem?_eq_some_iff.mp h).2
  unfold nodeN
  rw [List.take_succ_eq_append_getElem hj, List.filter_append, List.length_append, e]
  rcases q <;> simp [Pt.isN, List.filter_cons]
theorem parts_ms {a : Nat} {W : Nat → Nat} {tbl : Bool} {d : Nat} {ps : List Pt} : ∀ j, j ≤ ps.length → sumBy (Pc.ms a W) (partsTo tbl d ps j) + nodeN (ps.take j) ≤ j * (2 * a + 1) + nodeN (ps.take j) * W d
  | 0, _ => Nat.zero_le _
  | j + 1, h => by
    have ih := parts_ms (a := a) (W := W) (tbl := tbl) (d := d) (ps := ps) j (Nat.le_of_succ_le h)
    have hj : ps[j]? = some ps[j] := List.getElem?_eq_getElem h
    rw [nodeN_take hj, partsTo, sumBy_app, hj, Nat.succ_mul, Nat.add_mul]
    show _ + sumBy _ (partPcs tbl d j ps[j]) + _ ≤ _
    generalize ps[j] = q
    have hb : sumBy (Pc.ms a W) (partPcs tbl d j q) ≤ 2 * a + (Pc.p q d).ms a W := by
      (first | subst tbl | (injection tbl with tbl; subst tbl) | (injection tbl; done) | cases tbl)
      · show a + ((Pc.p q d).ms a W + 0) ≤ _; lia
      · show a + (a + ((Pc.p q d).ms a W + 0)) ≤ _; lia
    induction q with
    | node k =>
      replace hb : sumBy (Pc.ms a W) (partPcs tbl d j (.node k)) ≤ 2 * a + W d := hb
      show _ + (_ + 1) ≤ _ + (_ + 1 * W d)
      lia
    | sc s =>
      replace hb : sumBy (Pc.ms a W) (partPcs tbl d j (.sc s)) ≤ 2 * a + 1 := hb
      show _ + (_ + 0) ≤ _ + (_ + 0 * W d)
      lia
theorem parts_mem {tbl : Bool} {d : Nat} {ps : List Pt} {x : Pc} : ∀ j, j ≤ ps.length → x ∈ partsTo tbl d ps j → (∃ y, x = .s y) ∨ ∃ q ∈ ps, x = .p q d
  | 0, _, h => by simp [partsTo] at h
  | j + 1, hj, h => by
    have e : ps[j]? = some ps[j] := List.getElem?_eq_getElem (by lia)
    rw [partsTo, List.mem_append] at h
    rcases h with h | h
    · exact parts_mem j (by lia) h
    · simp only [e, partPcs, List.mem_append, List.mem_singleton] at h
      rcases h with (h | h) | h
      · exact .inl ⟨_, h⟩
      · (first | subst tbl | (injection tbl with tbl; subst tbl) | (injection tbl; done) | cases tbl)
        · simp at h
        · simp at h; exact .inl ⟨_, h⟩
      · exact .inr ⟨_, List.getElem_mem _, h⟩
/-- at most one node in a list or a table -/
noncomputable def OneN (N : List Nd) : Prop := ∀ n ∈ N, n.kd ≠ .range → nodeN n.ps ≤ 1
theorem seq_ms {a : Nat} {W : Nat → Nat} (A : Ms a W) {tbl : Bool} {d : Nat} {ps : List Pt} (hl : ps.length ≤ 3) (h1 : nodeN ps ≤ 1) : sumBy (Pc.ms a W) (seqPcs tbl d ps) ≤ W d := by
  unfold seqPcs
  split
  · rename_i h
    rw [h.1]
    exact Nat.le_trans (show a + 0 ≤ 2 * a by lia) A.z
  · rename_i hn
    have := parts_ms (a := a) (W := W) (tbl := tbl) (d := d - 1) (ps := ps) ps.length (Nat.le_refl _)
    rw [List.take_length] at this
    rw [sumBy_app, sumBy_app]
    show a + 0 + _ + (a + 0) ≤ _
    induction d using ncs with
    | zero =>
      have e : ps = [] := Decidable.byContradiction fun e => hn ⟨rfl, e⟩
      rw [e]
      exact Nat.le_trans (show a + 0 + 0 + (a + 0) ≤ 2 * a by lia) A.z
    | succ d =>
      have h2 := A.s d
      have h3 := A.pos d
      rw [Nat.add_sub_cancel] at this ⊢
      have h4 : ps.length * (2 * a + 1) ≤ 3 * (2 * a + 1) := Nat.mul_le_mul_right _ hl
      rcases Nat.le_one_iff_eq_zero_or_eq_one.mp h1 with h | h <;> rw [h] at this <;> lia
theorem pieces_ms {a : Nat} {W : Nat → Nat} (A : Ms a W) {N : List Nd} (H : Nodes N) (O : OneN N) {k d : Nat} : sumBy (Pc.ms a W) (pieces N k d) ≤ W d := by
  cases e : N[k]? with
  | none => unfold pieces; rw [e]; exact Nat.zero_le _
  | some n =>
    have hs := H.short _ (List.mem_of_getElem? e)
    have ho := O _ (List.mem_of_getElem? e)
    rw [pcs_at e]
    obtain ⟨kd, ps⟩ := n
    induction kd with
    | list => exact seq_ms A hs (ho fun h => Kd.noConfusion h)
    | table => exact seq_ms A hs (ho fun h => Kd.noConfusion h)
    | range =>
      obtain ⟨x, y, rfl, _, _⟩ := range_nd H e
      induction d using ncs with
      | zero => exact Nat.le_trans (show a + 0 ≤ 2 * a by lia) A.z
      | succ d => exact Nat.le_trans (show W d + (a + (W d + 0)) ≤ a + 2 * W d by lia) (A.r d)
noncomputable def Pc.ok (m : Nat) : Pc → Prop
  | .s _ => True
  | .p q d => q.ok m ∧ d ≤ 6
theorem seq_mem {tbl : Bool} {d : Nat} {ps : List Pt} {x : Pc} (h : x ∈ seqPcs tbl d ps) : (∃ y, x = .s y) ∨ ∃ q ∈ ps, 0 < d ∧ x = .p q (d - 1) := by
  unfold seqPcs at h
  split at h
  · simp at h; exact .inl ⟨_, h⟩
  · rename_i hn
    simp only [List.mem_append, List.mem_singleton] at h
    rcases h with (h | h) | h
    · exact .inl ⟨_, h⟩
    · rcases parts_mem _ (Nat.le_refl _) h with h | ⟨q, hq, h⟩
      · exact .inl h
      · refine .inr ⟨q, hq, ?_, h⟩
        rcases Nat.eq_zero_or_pos d with e | e
        · exact absurd ⟨e, by rintro rfl; simp at hq⟩ hn
        · exact e
    · exact .inl ⟨_, h⟩
theorem pieces_mem {N : List Nd} (H : Nodes N) {k d : Nat} {x : Pc} (h : x ∈ pieces N k d) : (∃ y, x = .s y) ∨ ∃ q, q.ok N.length ∧ 0 < d ∧ x = .p q (d - 1) := by
  cases e : N[k]? with
  | none => unfold pieces at h; rw [e] at h; exact nomatch h
  | some n =>
    have ok := H.ok _ (List.mem_of_getElem? e)
    rw [pcs_at e] at h
    obtain ⟨kd, ps⟩ := n
    have sq : ∀ {tbl}, x ∈ seqPcs tbl d ps → (∃ y, x = .s y) ∨ ∃ q, q.ok N.length ∧ 0 < d ∧ x = .p q (d - 1) := fun h => (seq_mem h).imp id fun ⟨q, hq, hd, h⟩ => ⟨q, ok q hq, hd, h⟩
    induction kd with
    | list => exact sq h
    | table => exact sq h
    | range =>
      obtain ⟨a, b, rfl, ha, hb⟩ := range_nd H e
      induction d using ncs with
      | zero => exact .inl ⟨_, List.mem_singleton.mp h⟩
      | succ d =>
        rcases List.mem_cons.mp h with h | h
        · exact .inr ⟨.node a, ha, Nat.succ_pos d, h⟩
        · rcases List.mem_cons.mp h with h | h
          · exact .inl ⟨_, h⟩
          · exact .inr ⟨.node b, hb, Nat.succ_pos d, List.mem_singleton.mp h⟩
/-! the data that values stand for -/
noncomputable def PyF (σ : Sto) (F : Nat) (v : AV) (D : PyData) : Prop := ∀ m, F ≤ m → toPy σ m v = some D
noncomputable def PysF (σ : Sto) (F : Nat) (vs : List AV) (Ds : List PyData) : Prop := ∀ m, F ≤ m → toPys σ m vs = some Ds
noncomputable def okD (b : Nat) (D : PyData) : Prop := D.canLay0 = true ∧ D.depth ≤ b
noncomputable def okDs (b : Nat) (Ds : List PyData) : Prop := PyData.canLayAll0 Ds = true ∧ PyData.depthAll Ds ≤ b
section
variable {σ : Sto} {F : Nat}
theorem PyF.mono {v : AV} {D : PyData} {G : Nat} (h : PyF σ F v D) (hg : F ≤ G) : PyF σ G v D := fun m hm => h m (Nat.le_trans hg hm)
theorem PyF.str {s : List Nat} : PyF σ 1 (.str s) (pStr s) := fun m hm => by
  obtain ⟨m, rfl⟩ : ∃ n, m = n + 1 := ⟨m - 1, by lia⟩
  rfl
theorem PyF.int {i : Int} : PyF σ 1 (.int i) (.int i) := fun m hm => by
  obtain ⟨m, rfl⟩ : ∃ n, m = n + 1 := ⟨m - 1, by lia⟩
  rfl
theorem PyF.bool {i : Bool} : PyF σ 1 (.bool i) (.bool i) := fun m hm => by
  obtain ⟨m, rfl⟩ : ∃ n, m = n + 1 := ⟨m - 1, by lia⟩
  rfl
theorem PyF.none : PyF σ 1 .none .none := fun m hm => by
  obtain ⟨m, rfl⟩ : ∃ n, m = n + 1 := ⟨m - 1, by lia⟩
  rfl
theorem PysF.nil : PysF σ 1 [] [] := fun m hm => by
  obtain ⟨m, rfl⟩ : ∃ n, m = n + 1 := ⟨m - 1, by lia⟩
  rfl
theorem PysF.cons {v : AV} {D : PyData} {vs : List AV} {Ds : List PyData} {G H : Nat} (h : PyF σ F v D) (g : PysF σ G vs Ds) (h1 : F < H) (h2 : G < H) : PysF σ H (v :: vs) (D :: Ds) := fun m hm => by
  obtain ⟨m, rfl⟩ : ∃ n, m = n + 1 := ⟨m - 1, by lia⟩
  rw [toPys, h m (by lia), opt, g m (by lia)]; rfl
theorem PyF.tup {vs : List AV} {Ds : List PyData} {G : Nat} (h : PysF σ F vs Ds) (hg : F < G) : PyF σ G (.tup vs) (.tuple Ds) := fun m hm => by
  obtain ⟨m, rfl⟩ : ∃ n, m = n + 1 := ⟨m - 1, by lia⟩
  rw [toPy, h m (by lia)]; rfl
theorem PyF.list {vs : List AV} {Ds : List PyData} {G i : Nat} (hi : σ[i]? = some (.list vs)) (h : PysF σ F vs Ds) (hg : F < G) : PyF σ G (.ref i) (.list Ds) := fun m hm => by
  obtain ⟨m, rfl⟩ : ∃ n, m = n + 1 := ⟨m - 1, by lia⟩
  rw [toPy, hi, listO, opt, h m (by lia)]; rfl
theorem PysF.map {α : Type} {f : α → AV} {g : α → PyData} : ∀ {l : List α}, (∀ x ∈ l, PyF σ F (f x) (g x)) → PysF σ (F + l.length + 1) (l.map f) (l.map g)
  | [], _ => fun m hm => PysF.nil m (by lia)
  | x :: l, h => PysF.cons (h x (by simp)) (PysF.map fun y hy => h y (List.mem_cons_of_mem _ hy)) (by simp; lia) (by simp)
theorem eqV_of {a b : AV} {D E : PyData} (ha : PyF σ 400 a D) (hb : PyF σ 400 b E) (hd : okD 60 D) (he : okD 60 E) : eqV σ a b = some (PyData.eqv D E) := by
  rw [eqV, ha 400 (Nat.le_refl _), hb 400 (Nat.le_refl _)]
  exact if_pos (by simp only [fitsEq, hd.1, he.1, hd.2, he.2, decide_true, Bool.and_self])
end
theorem okD.mono {a b : Nat} {D : PyData} (h : okD a D) (hb : a ≤ b) : okD b D := ⟨h.1, Nat.le_trans h.2 hb⟩
theorem okD.str {s : List Nat} (h : okS s = true) : okD 0 (pStr s) := ⟨by simp only [PyData.canLay0, PyData.strOk]; simpa [okS] using h, by simp [PyData.depth]⟩
theorem okD.int {i : Int} : okD 0 (.int i) := ⟨by simp [PyData.canLay0], by simp [PyData.depth]⟩
theorem okD.bool {i : Bool} : okD 0 (.bool i) := ⟨by simp [PyData.canLay0], by simp [PyData.depth]⟩
theorem okD.none : okD 0 .none := ⟨by simp [PyData.canLay0], by simp [PyData.depth]⟩
theorem okDs.nil {b : Nat} : okDs b [] := ⟨by simp [PyData.canLayAll0], by simp [PyData.depthAll]⟩
theorem okDs.cons {b : Nat} {D : PyData} {Ds : List PyData} (h : okD b D) (g : okDs b Ds) : okDs b (D :: Ds) := ⟨by simp [PyData.canLayAll0, h.1, g.1], by simp only [PyData.depthAll]; have := h.2; have := g.2; lia⟩
theorem okD.tuple {b : Nat} {Ds : List PyData} (h : okDs b Ds) : okD (b + 1) (.tuple Ds) := ⟨by simp [PyData.canLay0, h.1], by simp only [PyData.depth]; have := h.2; lia⟩
theorem okD.list {b : Nat} {Ds : List PyData} (h : okDs b Ds) : okD (b + 1) (.list Ds) := ⟨by simp [PyData.canLay0, h.1], by simp only [PyData.depth]; have := h.2; lia⟩
theorem okDs.map {α : Type} {g : α → PyData} {b : Nat} : ∀ {l : List α}, (∀ x ∈ l, okD b (g x)) → okDs b (l.map g)
  | [], _ => okDs.nil
  | x :: l, h => okDs.cons (h x (by simp)) (okDs.map fun y hy => h y (List.mem_cons_of_mem _ hy))
noncomputable def Pt.py : Pt → PyData
  | .node k => .tuple [pStr sNode, .int k]
  | .sc s => .tuple [pStr s.tag, s.vpy]
theorem Sc.pyF {σ : Sto} (s : Sc) : PyF σ 1 s.val s.vpy := by
  (first | subst s | (injection s with s; subst s) | (injection s; done) | cases s)
  · exact PyF.int
  · exact PyF.str
  · exact PyF.str
  · exact PyF.int
  · exact PyF.str
  · exact PyF.none
theorem Sc.vok (s : Sc) : okD 0 s.vpy := by
  (first | subst s | (injection s with s; subst s) | (injection s; done) | cases s)
  · exact okD.int
  · exact okD.str (by decide)
  · exact okD.str (by decide)
  · exact okD.int
  · exact okD.str (by decide)
  · exact okD.none
theorem Sc.tagok (s : Sc) : okS s.tag = true := by rcases s <;> decide
theorem Pt.pyF {σ : Sto} (p : Pt) : PyF σ 6 p.av p.py := by
  induction p with
  | node k => exact PyF.tup (F := 5) (PysF.cons (G := 4) PyF.str (PysF.cons (G := 1) PyF.int PysF.nil (by lia) (by lia)) (by lia) (by lia)) (by lia)
  | sc s => exact PyF.tup (F := 5) (PysF.cons (G := 4) PyF.str (PysF.cons (G := 1) s.pyF PysF.nil (by lia) (by lia)) (by lia) (by lia)) (by lia)
theorem Pt.pyok (p : Pt) : okD 1 p.py := by
  induction p with
  | node k => exact okD.tuple (okDs.cons (okD.str (by decide)) (okDs.cons okD.int okDs.nil))
  | sc s => exact okD.tuple (okDs.cons (okD.str s.tagok) (okDs.cons s.vok okDs.nil))
noncomputable def Pc.py : Pc → PyData
  | .s x => pStr x
  | .p q d => .tuple [q.py, .int d]
theorem Pc.pyF {σ : Sto} (p : Pc) : PyF σ 10 p.av p.py := by
  induction p with
  | s x => exact PyF.str.mono (by lia)
  | p q d => exact PyF.tup (F := 9) (PysF.cons (G := 4) q.pyF (PysF.cons (G := 1) PyF.int PysF.nil (by lia) (by lia)) (by lia) (by lia)) (by lia)
theorem eqv_nil : ∀ {Ds : List PyData}, PyData.eqv (.list Ds) (.list []) = Ds.isEmpty
  | [] => by simp [PyData.eqv, PyData.eqvAll]
  | x :: xs => by simp [PyData.eqv, PyData.eqvAll]
/-- a list against the empty list -/
theorem eq_empty {α : Type} {σ : Sto} {i j F b : Nat} {l : List α} {f : α → AV} {g : α → PyData} (hi : σ[i]? = some (.list (l.map f))) (hj : σ[j]? = some (.list [])) (h : ∀ x ∈ l, PyF σ F (f x) (g x)) (hF : F + l.length + 2 ≤ 400) (ho : ∀ x ∈ l, okD b (g x)) (hb : b + 1 ≤ 60) : eqV σ (.ref i) (.ref j) = some l.isEmpty := by
  rw [eqV_of (PyF.list hi (PysF.map h) (by lia)) (PyF.list hj PysF.nil (by lia)) ((okD.list (okDs.map ho)).mono hb) ((okD.list okDs.nil).mono hb), eqv_nil]
  simp
/-! _law_pieces -/
section
variable {sc : Scr} {k' : Nat} {σ : Sto} {Q : AV → Sto → Prop} {N : List Nd} {rs : List Nat} {Ln lo : Nat}
noncomputable def keySE : PE := .ite (.cmp (.Eq) (.mod (.var 6) (.val (.int 2))) (.val (.int 0))) (.add (.strOf (.var 6)) (.val (.str [32, 61, 62, 32]))) (.add (.add (.val (.str [107])) (.strOf (.var 6))) (.val (.str [58, 32])))
theorem run_keyS {C : Calls} {ρ : Vars} {σ : Sto} {i : Nat} (h : ρ 6 = some (.int i)) (hi : i < 3) (q : Q (.str (keyS i)) σ) : WE C keySE ρ σ Q := by
  unfold keySE
  rcases lt3 hi with rfl | rfl | rfl
  · skip
    walk_at "m"
    refine ⟨_, _, rfl, rfl, by decide, ?_⟩
    walk_at "m"
    refine ⟨.str [48], rfl, ?_⟩
    walk_at "m"
    exact q
  · skip
    walk_at "m"
    refine ⟨_, _, rfl, rfl, by decide, ?_⟩
    walk_at "m"
    refine ⟨.str [49], rfl, ?_⟩
    refine OK_addS ⟨by decide, ?_⟩
    refine rE_val (OK_addS ⟨by decide, ?_⟩)
    exact q
  · skip
    walk_at "m"
    refine ⟨_, _, rfl, rfl, by decide, ?_⟩
    walk_at "m"
    refine ⟨.str [50], rfl, ?_⟩
    walk_at "m"
    exact q
noncomputable def bodyP : List PS := [.expr (.lapp (.var 5) (.ite (.cmp (.Gt) (.var 6) (.val (.int 0))) (.val (.str [44, 32])) (.val (.str [])))), .ite (.cmp (.Eq) (.var 3) (.val (.str [116, 97, 98, 108, 101]))) [.expr (.lapp (.var 5) keySE)] [], .expr (.lapp (.var 5) (.tup [.item (.var 4) (.var 6), .sub (.var 2) (.val (.int 1))]))]
structure PcI (σ : Sto) (kd : Kd) (ps : List Pt) (d p F i : Nat) (ρ : Vars) (σ' : Sto) : Prop where
  h2 : ps ≠ [] → ρ 2 = some (.int ((d + 1 : Nat) : Int))
  h3 : ρ 3 = some (.str kd.nm)
  h4 : ρ 4 = some (.ref p)
  h5 : ρ 5 = some (.ref F)
  pre : Pre σ σ'
  acc : σ'[F]? = some (.list ((.s (brk (decide (kd = .table))).1 :: partsTo (decide (kd = .table)) d ps i).map Pc.av))
theorem parts_len {tbl : Bool} {d : Nat} {ps : List Pt} : ∀ j, (partsTo tbl d ps j).length ≤ 3 * j
  | 0 => by simp [partsTo]
  | j + 1 => by
    have := parts_len (tbl := tbl) (d := d) (ps := ps) j
    rw [partsTo, List.length_append]
    induction ps[j]? with
    | none => simp; lia
    | some q => rcases tbl <;> simp [partPcs] <;> lia
theorem run_bodyP {C : Calls} {ρ : Vars} {σ' : Sto} {kd : Kd} {ps : List Pt} {d p F i : Nat} {R : Fl → Vars → Sto → Prop} (hkd : kd ≠ .range) (hl : ps.length ≤ 3) (hi : i < ps.length) (hp : σ[p]? = some (.list (ps.map Pt.av))) (hF : σ.length ≤ F) (I : PcI σ kd ps d p F i ρ σ') (h6 : ρ 6 = some (.int i))
    (q : ∀ σ'', PcI σ kd ps d p F (i + 1) ρ σ'' → R .next ρ σ'') : WS C bodyP ρ σ' R := by
  obtain ⟨h2, h3, h4, h5, pre, acc⟩ := I
  replace h2 := h2 (fun e => by rw [e] at hi; simp at hi)
  have hpl := get_lt hp
  have hpi : ps[i]? = some ps[i] := List.getElem?_eq_getElem hi
  have hlen := parts_len (tbl := decide (kd = Kd.table)) (d := d) (ps := ps) i
  unfold bodyP
  walk_at "m"
  refine ⟨F, rfl, ⟨_, asList_ref acc⟩, ?_⟩
  have hsep : ∀ {Q' : AV → Sto → Prop}, Q' (.str (if 0 < i then [44, 32] else [])) σ' → KB (AV.bool (decide (0 < (i : Int)))) (WE C (.val (.str [44, 32])) ρ σ' Q') (WE C (.val (.str [])) ρ σ' Q') := by
    intro Q' q'
    by_cases h0 : 0 < i
    · rw [if_pos h0] at q'
      exact ⟨true, by rw [decide_eq_true (by lia)], fun _ => rE_val q', fun h => (by (first | subst h | (injection h with h; subst h) | (injection h; done) | cases h))⟩
    · rw [if_neg h0] at q'
      exact ⟨false, by rw [decide_eq_false (by lia)], fun h => (by (first | subst h | (injection h with h; subst h) | (injection h; done) | cases h)), fun _ => rE_val q'⟩
  walk_at "m"
  refine hsep ?_
  refine ⟨_, acc, by simp [lim]; lia, rfl, ?_⟩
  have acc1 : (σ'.set F (.list ((Pc.s (brk (decide (kd = Kd.table))).1 :: partsTo (decide (kd = Kd.table)) d ps i).map Pc.av ++ [AV.str (if 0 < i then [44, 32] else [])])))[F]? = some (.list ((Pc.s (brk (decide (kd = Kd.table))).1 :: partsTo (decide (kd = Kd.table)) d ps i ++ [Pc.s (if 0 < i then [44, 32] else [])]).map Pc.av)) := by
    rw [get_set acc]; simp [Pc.av]
  have pre1 : Pre σ (σ'.set F (.list ((Pc.s (brk (decide (kd = Kd.table))).1 :: partsTo (decide (kd = Kd.table)) d ps i).map Pc.av ++ [AV.str (if 0 < i then [44, 32] else [])]))) := pre.set hF
  generalize hσ1 : σ'.set F _ = σ1 at acc1 pre1 ⊢
  clear hσ1 acc
  have fin : ∀ σ2 l, Pre σ σ2 → σ2[F]? = some (.list ((Pc.s (brk (decide (kd = Kd.table))).1 :: partsTo (decide (kd = Kd.table)) d ps i ++ l).map Pc.av)) → l ++ [Pc.p ps[i] d] = partPcs (decide (kd = Kd.table)) d i ps[i] → l.length ≤ 3 → WS C [.expr (.lapp (.var 5) (.tup [.item (.var 4) (.var 6), .sub (.var 2) (.val (.int 1))]))] ρ σ2 R := by
    intro σ2 l p2 a2 el ll
    have hp2 := p2 _ _ hp
    walk_at "m"
    refine ⟨F, rfl, ⟨_, asList_ref a2⟩, ?_⟩
    walk_at "m"
    refine ⟨_, itemV_list hp2 (by lia) (getS hpi), ?_⟩
    walk_at "m"
    refine ⟨_, _, rfl, rfl, at_sub1 ?_⟩
    walk_at "m"
    refine ⟨_, a2, by simp [lim]; lia, rfl, ?_⟩
    walk_at "m"
    refine q _ ⟨fun _ => h2, h3, h4, h5, p2.set hF, ?_⟩
    rw [get_set a2, partsTo]
    simp only [hpi, ← el]
    simp [Pc.av]
  refine WS_ite (rE_cmp (rE_var ⟨_, h3, rE_val ?_⟩))
  refine ex_eqs (by rw [nm_ok]; rfl) ?_
  rw [nm_eq_table]
  by_cases ht : kd = .table
  · rw [decide_eq_true ht] at acc1 fin ⊢
    refine br_t rfl ?_
    walk_at "m"
    refine ⟨F, rfl, ⟨_, asList_ref acc1⟩, ?_⟩
    refine run_keyS h6 (by lia) ?_
    refine ⟨_, acc1, by rw [decide_eq_true ht] at hlen; simp [lim]; lia, rfl, ?_⟩
    refine WS_nil (thn_next (fin _ [Pc.s (if 0 < i then [44, 32] else []), Pc.s (keyS i)] (pre1.set hF) ?_ rfl (by simp)))
    rw [get_set acc1]; simp [Pc.av]
  · rw [decide_eq_false ht] at acc1 fin ⊢
    refine br_f rfl (WS_nil (thn_next (fin _ [Pc.s (if 0 < i then [44, 32] else [])] pre1 acc1 rfl (by simp))))
end
theorem seqPcs_in {tbl : Bool} {d : Nat} {ps : List Pt} (h : d = 0 → ps = []) : seqPcs tbl d ps = [.s (brk tbl).1] ++ partsTo tbl (d - 1) ps ps.length ++ [.s (brk tbl).2.1] := by
  unfold seqPcs
  rw [if_neg (fun g => g.2 (h g.1))]
theorem seqPcs_out {tbl : Bool} {ps : List Pt} (h : ps ≠ []) : seqPcs tbl 0 ps = [.s (brk tbl).2.2] := by
  unfold seqPcs
  rw [if_pos ⟨rfl, h⟩]
section
variable {sc : Scr} {k' : Nat} {σ : Sto} {Q : AV → Sto → Prop} {N : List Nd} {rs : List Nat} {Ln lo : Nat}
theorem run_pieces {k d : Nat} (H : Nodes N) (hLn : σ[Ln]? = some (.list (rs.map .ref))) (hN : Ndl σ lo rs N) (hk : k < N.length)
    (q : ∀ r σ', Pre σ σ' → σ.length ≤ r → σ'[r]? = some (.list ((pieces N k d).map Pc.av)) → Q (.ref r) σ') : OK (runT tabB sc (k' + 1) 695 [.ref Ln, .int k, .int d] σ) Q := by
  have hfew := H.few
  obtain ⟨⟨kd, ps⟩, hnd⟩ : ∃ nd, N[k]? = some nd := ⟨_, List.getElem?_eq_getElem hk⟩
  obtain ⟨r, hr⟩ : ∃ r, rs[k]? = some r := ⟨_, List.getElem?_eq_getElem (by rw [hN.len]; exact hk)⟩
  obtain ⟨p, _, _, b3, b4⟩ := hN.at_ _ _ _ hnd hr
  have hps3 : ps.length ≤ 3 := H.short _ (List.mem_of_getElem? hnd)
  have hpl := get_lt b4
  refine OK_call d695 [.ref Ln, .int k, .int d] rfl (by decide) rfl rfl rfl ?_
  show WS _ [.asgT 3 4 _, .ite _ _ _, .ite _ _ _, .asg 5 _, .for_ 6 1 (.len (.var 4)) bodyP, .ret _] _ _ _
  walk_at "m"
  refine ⟨_, itemV_list hLn (by lia) (getS hr), ?_⟩
  refine ⟨_, _, .inr (asList_ref b3), ?_⟩
  refine WS_ite (rE_cmp (rE_var ⟨_, rfl, rE_val ?_⟩))
  refine ex_eqs (by rw [nm_ok]; rfl) ?_
  rw [nm_eq_range]
  by_cases hkd : kd = .range
  · rw [decide_eq_true hkd]
    subst hkd
    obtain ⟨a, b, hps, _, _⟩ := range_nd H hnd
    have hb4 : σ[p]? = some (.list [(Pt.node a).av, (Pt.node b).av]) := by rw [b4, hps]; rfl
    refine br_t rfl ?_
    induction d using ncs with
    | zero =>
      walk_at "m"
      refine ⟨by decide, ?_⟩
      refine q _ _ Pre.app (Nat.le_refl _) ?_
      rw [pcs_at hnd]
      exact get_new
    | succ d =>
      have hlt : decide (((d + 1 : Nat) : Int) < 1) = false := by simp; lia
      walk_at "m"
      refine ⟨_, itemV_list hb4 (by decide) rfl, ?_⟩
      walk_at "m"
      refine ⟨_, _, rfl, rfl, at_sub1 ?_⟩
      walk_at "m"
      refine ⟨_, _, rfl, rfl, by decide, ?_⟩
      walk_at "m"
      have key : ∀ {C : Calls} {ρ : Vars} {Q' : AV → Sto → Prop}, Q' (.str (dots k)) σ → KB (AV.bool (decide ((k : Int) % 2 = 1))) (WE C (.val (.str [46, 46, 46])) ρ σ Q') (WE C (.val (.str [46, 46])) ρ σ Q') := by
        intro C ρ Q' q'
        unfold dots at q'
        by_cases ho : k % 2 = 1
        · rw [if_pos ho] at q'
          exact ⟨true, by rw [decide_eq_true (by lia)], fun _ => rE_val q', fun h => (by (first | subst h | (injection h with h; subst h) | (injection h; done) | cases h))⟩
        · rw [if_neg ho] at q'
          exact ⟨false, by rw [decide_eq_false (by lia)], fun h => (by (first | subst h | (injection h with h; subst h) | (injection h; done) | cases h)), fun _ => rE_val q'⟩
      refine key ?_
      walk_at "m"
      refine ⟨_, itemV_list hb4 (by decide) rfl, ?_⟩
      walk_at "m"
      refine ⟨_, _, rfl, rfl, at_sub1 ?_⟩
      walk_at "m"
      refine ⟨by simp [lim], ?_⟩
      refine q _ _ Pre.app (Nat.le_refl _) ?_
      rw [pcs_at hnd, hps]
      exact get_new
  · rw [decide_eq_false hkd]
    refine br_f rfl (WS_nil (thn_next ?_))
    have hpc : pieces N k d = seqPcs (decide (kd = .table)) d ps := by
      induction kd with
      | range => exact absurd rfl hkd
      | list => exact pcs_at hnd
      | table => exact pcs_at hnd
    have hbr : ∀ {C : Calls} {ρ : Vars} {σ : Sto} {x y : List Nat} {Q' : AV → Sto → Prop}, ρ 3 = some (.str kd.nm) → Q' (.str (if decide (kd = .table) then y else x)) σ → WE C (.ite (.cmp (.Eq) (.var 3) (.val (.str [108, 105, 115, 116]))) (.val (.str x)) (.val (.str y))) ρ σ Q' := by
      intro C ρ σ x y Q' h3 q'
      refine WE_ite (rE_cmp (rE_var ⟨_, h3, rE_val ?_⟩))
      refine ex_eqs (by rw [nm_ok]; rfl) ?_
      rw [nm_eq_list]
      induction kd with
      | range => exact absurd rfl hkd
      | list => exact ⟨true, rfl, fun _ => rE_val q', fun h => (by (first | subst h | (injection h with h; subst h) | (injection h; done) | cases h))⟩
      | table => exact ⟨false, rfl, fun h => (by (first | subst h | (injection h with h; subst h) | (injection h; done) | cases h)), fun _ => rE_val q'⟩
    have fin : ∀ σ1 : Sto, Pre σ σ1 → (d = 0 → ps = []) → WS (runT tabB sc k') [.asg 5 (.list [.ite (.cmp (.Eq) (.var 3) (.val (.str [108, 105, 115, 116]))) (.val (.str [91])) (.val (.str [123]))]), .for_ 6 1 (.len (.var 4)) bodyP, .ret (.add (.var 5) (.list [.ite (.cmp (.Eq) (.var 3) (.val (.str [108, 105, 115, 116]))) (.val (.str [93])) (.val (.str [125]))]))] (upd (upd (varsOf [.ref Ln, .int k, .int d]) 3 (.str kd.nm)) 4 (.ref p)) σ1 (retQ Q) := by
      intro σ1 p1 hd
      refine WS_asg (rE_list (rEs_cons (hbr rfl (rEs_nil ⟨by simp [lim], ?_⟩))))
      have hb5 := p1 _ _ b4
      have hF : (σ1 ++ [AO.list [AV.str (if decide (kd = .table) then [123] else [91])]])[σ1.length]? = some (.list ((Pc.s (brk (decide (kd = Kd.table))).1 :: partsTo (decide (kd = Kd.table)) (d - 1) ps 0).map Pc.av)) := by
        rw [get_new]
        cases decide (kd = .table) <;> rfl
      have hb6 := get_app (τ := [AO.list [AV.str (if decide (kd = .table) then [123] else [91])]]) hb5
      refine WS_for (rE_len (rE_var ⟨_, rfl, ps.length, len_lm hb6, by lia, ?_⟩))
      refine OS_forGo ps.length (fun i ρ σ' => PcI σ kd ps (d - 1) p σ1.length i ρ σ') (by simp only [lim]; lia) ⟨fun hne => ?_, rfl, rfl, rfl, p1.trans Pre.app, hF⟩ (fun _ _ _ => next_int_end (by lia)) ?_ ?_
      · have : d ≠ 0 := fun e => hne (hd e)
        have e : (d - 1 + 1) = d := by lia
        show some (AV.int (d : Int)) = _
        rw [e]
      · intro i ρ σ' hi I
        refine ⟨.int i, next_int (by lia) hi, ?_⟩
        refine WS.ok (run_bodyP hkd hps3 hi b4 p1.le (i := i) (σ' := σ') (ρ := upd ρ 6 (.int i)) ⟨I.h2, I.h3, I.h4, I.h5, I.pre, I.acc⟩ rfl fun σ'' I' => ?_)
        exact ⟨by simp, I'⟩
      · intro ρ σ2 I
        have h5 := I.h5
        have hl := parts_len (tbl := decide (kd = Kd.table)) (d := d - 1) (ps := ps) ps.length
        refine thn_next (WS_ret (rE_add (rE_var ⟨_, h5, rE_list (rEs_cons (hbr I.h3 (rEs_nil ⟨by simp [lim], ?_⟩)))⟩)))
        have a2 := get_app (τ := [AO.list [AV.str (if decide (kd = .table) then [125] else [93])]]) I.acc
        have a3 : (σ2 ++ [AO.list [AV.str (if decide (kd = .table) then [125] else [93])]])[σ2.length]? = some (.list [AV.str (if decide (kd = .table) then [125] else [93])]) := get_new
        show OK (addV _ _ _) _
        rw [addL_at a2 a3]
        refine OK_newList.2 ⟨by simp [lim]; lia, ?_⟩
        have hle := I.pre.le
        refine rtq_ret (q _ _ ((I.pre.trans Pre.app).trans Pre.app) (by simp; lia) ?_)
        rw [get_new, hpc, seqPcs_in hd]
        cases decide (kd = .table) <;> simp [brk, Pc.av]
    refine WS_ite (WE_and (rE_cmp (rE_var ⟨_, rfl, rE_val (ex_lt ?_)⟩)))
    by_cases hd : d = 0
    · subst hd
      refine ⟨true, rfl, fun _ => ?_, fun h => (by (first | subst h | (injection h with h; subst h) | (injection h; done) | cases h))⟩
      walk_at "m"
      refine ⟨Nat.zero_le _, ?_⟩
      have hb4' := get_app (τ := [AO.list []]) b4
      refine ⟨_, by simp only [cmpV]; rw [eq_empty (F := 6) (b := 1) hb4' get_new (fun x _ => x.pyF) (by show 6 + ps.length + 2 ≤ 400; lia) (fun x _ => x.pyok) (by decide)]; rfl, ?_⟩
      refine ⟨⟨_, rfl⟩, ?_⟩
      cases hps : ps with
      | nil =>
        subst hps
        refine br_f rfl (WS_nil (thn_next ?_))
        exact fin _ Pre.app fun _ => rfl
      | cons x xs =>
        refine br_t rfl (WS_ret (rE_list (rEs_cons (hbr rfl (rEs_nil ⟨by simp [lim], ?_⟩)))))
        refine thn_ret (rtq_ret (q _ _ (Pre.app.trans Pre.app) (by simp) ?_))
        rw [get_new, hpc, seqPcs_out (by rw [hps]; simp)]
        cases decide (kd = .table) <;> rfl
    · refine ⟨false, by rw [decide_eq_false (by lia)], fun h => (by (first | subst h | (injection h with h; subst h) | (injection h; done) | cases h)), fun _ => ?_⟩
      refine br_f rfl (WS_nil (thn_next (fin σ Pre.refl fun h => absurd h hd)))
end
/-! _law_shown -/
noncomputable def Pc.isP : Pc → Bool
  | .s _ => false
  | .p _ _ => true
noncomputable def expd (N : List Nd) : Pc → List Pc
  | .s x => [.s x]
  | .p (.node k) d => pieces N k d
  | .p (.sc s) _ => [.s s.shown]
structure RowOK (N : List Nd) (target : List Nat) (t : Nat) (r : List Pc) : Prop where
  mean : r.flatMap (Pc.mean N) = target
  ok : ∀ x ∈ r, x.ok N.length
  w : sumBy Pc.w r ≤ 800
  v : sumBy Pc.v r ≤ 200
  h : ∀ x ∈ r, x.h ≤ t
theorem RowOK.one {N : List Nd} {t : Nat} {x : List Nat} : RowOK N x t [.s x] := ⟨List.append_nil x, fun y h => by cases List.mem_singleton.mp h; trivial, show 1 ≤ 800 by decide, show 0 ≤ 200 by decide, fun y h => by cases List.mem_singleton.mp h; exact Nat.zero_le _⟩
theorem len_w : ∀ {r : List Pc}, r.length ≤ sumBy Pc.w r
  | [] => Nat.le_refl _
  | x :: r => by
    have h : 1 ≤ x.w := match x with
      | .s _ => Nat.le_refl _
      | .p (.sc _) _ => Nat.le_refl _
      | .p (.node _) d => msW.pos d
    rw [List.length_cons, Nat.add_comm]
    exact Nat.add_le_add h len_w
theorem filter_v : ∀ {r : List Pc}, (r.filter Pc.isP).length ≤ sumBy Pc.v r
  | [] => Nat.le_refl _
  | .s y :: r => Nat.le_trans (filter_v (r := r)) (Nat.le_add_left _ 0)
  | .p q d :: r => by
    have h : 1 ≤ (Pc.p q d).v := match q with
      | .sc _ => Nat.le_refl _
      | .node _ => msV.pos d
    show (r.filter Pc.isP).length + 1 ≤ _
    rw [Nat.add_comm]
    exact Nat.add_le_add h filter_v
theorem sumBy_take {f : Pc → Nat} : ∀ {r : List Pc} (j : Nat), sumBy f (r.take j) ≤ sumBy f r
  | [], j => by simp [sumBy]
  | x :: r, 0 => by simp [sumBy]
  | x :: r, j + 1 => by
    have := sumBy_take (f := f) (r := r) j
    simp only [List.take_succ_cons, sumBy]; lia
theorem expd_ms {a : Nat} {W : Nat → Nat} (A : Ms a W) {N : List Nd} (H : Nodes N) (O : OneN N) : ∀ {r : List Pc}, sumBy (Pc.ms a W) (r.flatMap (expd N)) ≤ sumBy (Pc.ms a W) r
  | [] => Nat.le_refl _
  | .s y :: r => Nat.add_le_add_left (expd_ms A H O) _
  | .p (.sc s) d :: r => Nat.add_le_add A.one (expd_ms A H O)
  | .p (.node k) d :: r => by
    rw [List.flatMap_cons, sumBy_app]
    exact Nat.add_le_add (pieces_ms A H O) (expd_ms A H O)
theorem expd_w {N : List Nd} (H : Nodes N) (O : OneN N) {r : List Pc} : sumBy Pc.w (r.flatMap (expd N)) ≤ sumBy Pc.w r := expd_ms msW H O
theorem expd_v {N : List Nd} (H : Nodes N) (O : OneN N) {r : List Pc} : sumBy Pc.v (r.flatMap (expd N)) ≤ sumBy Pc.v r := expd_ms msV H O
theorem expd_mean {N : List Nd} (H : Nodes N) : ∀ {r : List Pc}, (∀ x ∈ r, x.ok N.length) → (r.flatMap (expd N)).flatMap (Pc.mean N) = r.flatMap (Pc.mean N)
  | [], _ => rfl
  | x :: r, h => by
    have ih := expd_mean H (r := r) fun y hy => h y (List.mem_cons_of_mem _ hy)
    rw [List.flatMap_cons, List.flatMap_append, ih, List.flatMap_cons]
    congr 1
    have hx := h x (by simp)
    induction x with
    | s y => simp [expd, Pc.mean]
    | p q d =>
      induction q with
      | sc s => simp [expd, Pc.mean, Pt.shw]
      | node k => exact pieces_mean H hx.1
theorem RowOK.expd {N : List Nd} {target : List Nat} {t : Nat} {r : List Pc} (H : Nodes N) (O : OneN N) (h : RowOK N target (t + 1) r) : RowOK N target t (r.flatMap (expd N)) := by
  refine ⟨by rw [expd_mean H h.ok, h.mean], ?_, Nat.le_trans (expd_w H O) h.w, Nat.le_trans (expd_v H O) h.v, ?_⟩
  · intro x hx
    obtain ⟨y, hy, hx⟩ := List.mem_flatMap.1 hx
    have ho := h.ok y hy
    induction y with
    | s z => simp [Mine.expd] at hx; subst hx; trivial
    | p q d =>
      induction q with
      | sc s => simp [Mine.expd] at hx; subst hx; trivial
      | node k =>
        rcases pieces_mem H hx with ⟨z, rfl⟩ | ⟨q, hq, hd, rfl⟩
        · trivial
        · exact ⟨hq, by have := ho.2; lia⟩
  · intro x hx
    obtain ⟨y, hy, hx⟩ := List.mem_flatMap.1 hx
    have hh := h.h y hy
    induction y with
    | s z => simp [Mine.expd] at hx; subst hx; exact Nat.zero_le _
    | p q d =>
      induction q with
      | sc s => simp [Mine.expd] at hx; subst hx; exact Nat.zero_le _
      | node k =>
        simp only [Pc.h] at hh
        rcases pieces_mem H hx with ⟨z, rfl⟩ | ⟨q, hq, hd, rfl⟩
        · exact Nat.zero_le _
        · rcases q <;> simp only [Pc.h] <;> lia
noncomputable def Pc.str : Pc → List Nat
  | .s x => x
  | .p _ _ => []
theorem joinS_e {s : List Nat} {l : List (List Nat)} : joinS [] (s :: l) = s ++ joinS [] l := by
  rcases l with _ | ⟨t, l⟩
  · exact (List.append_nil s).symm
  · exact congrArg (· ++ joinS [] (t :: l)) (List.append_nil s)
theorem all_strs {N : List Nd} : ∀ {r : List Pc}, r.filter Pc.isP = [] → r.map Pc.av = (r.map Pc.str).map .str ∧ joinS [] (r.map Pc.str) = r.flatMap (Pc.mean N)
  | [], _ => ⟨rfl, rfl⟩
  | .p q d :: r, h => by simp [List.filter_cons, Pc.isP] at h
  | .s y :: r, h => by
    have h' : r.filter Pc.isP = [] := by simpa [List.filter_cons, Pc.isP] using h
    obtain ⟨h1, h2⟩ := all_strs (N := N) h'
    refine ⟨by simp only [List.map_cons, h1, Pc.av, Pc.str], ?_⟩
    rw [List.flatMap_cons, ← h2]
    exact joinS_e
section
variable {C : Calls} {ρ : Vars} {σ : Sto}
theorem comp_filter {Q : List AV → Sto → Prop} {F : Nat} {r : List Pc} {elt : PE} {f : Pc → AV} (hF : σ[F]? = some (.list (r.map Pc.av))) (hl : r.length ≤ 1000) (he : ∀ x : Pc, x.isP = true → WE C elt (upd (cut ρ) 101 x.av) σ fun v σ' => v = f x ∧ σ' = σ) (q : Q ((r.filter Pc.isP).map f) σ) :
    CG (compF C elt 101 (some (.not (.isin (.var 101) (.type "str")))) ρ) (nextOf 0 (.ref F)) σ Q := by
  refine OK_compGo r.length (fun j acc σ' => acc = ((r.take j).filter Pc.isP).map f ∧ σ' = σ) (by simp only [lim]; lia) ⟨rfl, rfl⟩ (fun _ _ h => by rw [h.2]; exact next_list_end hF (by simp)) ?_ ?_
  · rintro j acc σ' hj ⟨h1, h2⟩
    subst h2
    have hj' : r[j]? = some r[j] := List.getElem?_eq_getElem hj
    refine ⟨_, next_list hF (getS hj'), OK_compFc ?_⟩
    rw [List.take_succ_eq_append_getElem hj, List.filter_append, List.map_append, ← h1]
    cases hx : r[j] with
    | s y =>
      refine WE_not (rE_isin (rE_var ⟨_, rfl, true, rfl, true, rfl, br_f rfl ?_⟩))
      exact ⟨by simp [accO, Pc.isP], rfl⟩
    | p q d =>
      refine WE_not (rE_isin (rE_var ⟨_, rfl, false, rfl, false, rfl, br_t rfl ?_⟩))
      refine ⟨OK_mono (he (.p q d) rfl).ok fun v s h => ⟨?_, h.2⟩⟩
      rw [h.1]
      simp [accO, Pc.isP, List.filter_cons]
  · rintro acc σ' ⟨h1, h2⟩
    rw [h1, h2, List.take_length]
    exact q
theorem comp_copy {Q : List AV → Sto → Prop} {F : Nat} {vs : List AV} (hF : σ[F]? = some (.list vs)) (hl : vs.length ≤ 1000) (q : Q vs σ) :
    CG (compF C (.var 101) 101 none ρ) (nextOf 0 (.ref F)) σ Q := by
  refine OK_compGo vs.length (fun j acc σ' => acc = vs.take j ∧ σ' = σ) (by simp only [lim]; lia) ⟨rfl, rfl⟩ (fun _ _ h => by rw [h.2]; exact next_list_end hF rfl) ?_ ?_
  · rintro j acc σ' hj ⟨h1, h2⟩
    subst h2
    have hj' : vs[j]? = some vs[j] := List.getElem?_eq_getElem hj
    refine ⟨_, next_list hF hj', okF (rE_var ⟨_, rfl, ?_⟩)⟩
    exact ⟨by rw [List.take_succ_eq_append_getElem hj, h1]; rfl, rfl⟩
  · rintro acc σ' ⟨h1, h2⟩
    rw [h1, h2, List.take_length]
    exact q
theorem OS_while {c : PE} {body : List PS} {n : Nat} {R : Fl → Vars → Sto → Prop} (h : WE C c ρ σ fun v σ => KB v (WS C body ρ σ fun fl ρ σ => (∀ r, fl ≠ .ret r) ∧ OS (whileGo (fun ρ σ => evE C c ρ σ) (fun ρ σ => exSs C body ρ σ) n ρ σ) R) (R .next ρ σ)) :
    OS (whileGo (fun ρ σ => evE C c ρ σ) (fun ρ σ => exSs C body ρ σ) (n + 1) ρ σ) R := OS.bnd (OK_mono h.ok fun _ _ h => match h with
  | ⟨true, h1, h2, _⟩ => OS.opt (congrArg asBool h1) (OS.lp (h2 rfl).ok)
  | ⟨false, h1, _, h3⟩ => OS.opt (congrArg asBool h1) (h3 rfl))
end
section
variable {sc : Scr} {k' : Nat} {σ : Sto} {N : List Nd} {rs : List Nat} {Ln lo : Nat}
noncomputable def shD : PE := .item (.dict [[105, 110, 116], [115, 121, 109], [116, 101, 120, 116], [119, 111, 114, 100]] [.strOf (.var 7), .add (.val (.str [58])) (.strOf (.var 7)), .add (.add (.val (.str [34])) (.strOf (.var 7))) (.val (.str [34])), .val (.str [110, 105, 108])]) (.var 6)
theorem run_shD {C : Calls} {ρ : Vars} {σ : Sto} {s : Sc} {Q : AV → Sto → Prop} (h6 : ρ 6 = some (.str s.tag)) (h7 : ρ 7 = some s.val) (q : ∀ σ', Pre σ σ' → Q (.str s.shown) σ') : WE C shD ρ σ Q := by
  have fin : ∀ (a b c d : List Nat) (v : List Nat), getK [([105, 110, 116], AV.str a), ([115, 121, 109], .str b), ([116, 101, 120, 116], .str c), ([119, 111, 114, 100], .str d)] s.tag = some (.str v) → v = s.shown → KSome (itemV (.ref σ.length) (.str s.tag) (σ ++ [AO.dict [([105, 110, 116], AV.str a), ([115, 121, 109], .str b), ([116, 101, 120, 116], .str c), ([119, 111, 114, 100], .str d)]])) (kAt Q (σ ++ [AO.dict [([105, 110, 116], AV.str a), ([115, 121, 109], .str b), ([116, 101, 120, 116], .str c), ([119, 111, 114, 100], .str d)]])) := by
    intro a b c d v hv e
    refine ⟨.str v, item_at get_new hv, ?_⟩
    rw [e]; exact q _ Pre.app
  unfold shD
  have key : ∀ (x : List Nat), strV s.val = some (.str x) → x.length ≤ 10 → getK [([105, 110, 116], AV.str x), ([115, 121, 109], .str ([58] ++ x)), ([116, 101, 120, 116], .str ([34] ++ x ++ [34])), ([119, 111, 114, 100], .str [110, 105, 108])] s.tag = some (.str s.shown) → WE C (.item (.dict [[105, 110, 116], [115, 121, 109], [116, 101, 120, 116], [119, 111, 114, 100]] [.strOf (.var 7), .add (.val (.str [58])) (.strOf (.var 7)), .add (.add (.val (.str [34])) (.strOf (.var 7))) (.val (.str [34])), .val (.str [110, 105, 108])]) (.var 6)) ρ σ Q := by
    intro x hx hl hg
    refine rE_item (rE_dict (rEs_cons (rE_strOf (rE_var ⟨_, h7, _, hx, ?_⟩))))
    refine rEs_cons (rE_add (rE_val (rE_strOf (rE_var ⟨_, h7, _, hx, OK_addS ⟨by simp [lim]; lia, ?_⟩⟩))))
    refine rEs_cons (rE_add (rE_add (rE_val (rE_strOf (rE_var ⟨_, h7, _, hx, OK_addS ⟨by simp [lim]; lia, ?_⟩⟩)))))
    refine rE_val (OK_addS ⟨by simp [lim]; lia, ?_⟩)
    refine rEs_cons (rE_val (rEs_nil ⟨⟨rfl, by decide⟩, rE_var ⟨_, h6, ?_⟩⟩))
    exact fin x ([58] ++ x) ([34] ++ x ++ [34]) [110, 105, 108] s.shown hg rfl
  induction s with
  | n1 => exact key [49] rfl (by decide) rfl
  | n2 => exact key [50] rfl (by decide) rfl
  | sa => exact key [97] rfl (by decide) rfl
  | tb => exact key [98] rfl (by decide) rfl
  | te => exact key [] rfl (by decide) rfl
  | nl => exact key [78, 111, 110, 101] rfl (by decide) rfl
noncomputable def bodyS : List PS := [.ite (.isin (.var 4) (.type "str")) [.expr (.lapp (.var 5) (.var 4))] [.ite (.cmp (.Eq) (.item (.item (.var 4) (.val (.int 0))) (.val (.int 0))) (.val (.str [110, 111, 100, 101]))) [.asg 5 (.add (.var 5) (.call 695 [.var 0, .item (.item (.var 4) (.val (.int 0))) (.val (.int 1)), .item (.var 4) (.val (.int 1))]))] [.asgT 6 7 (.item (.var 4) (.val (.int 0))), .expr (.lapp (.var 5) shD)]]]
structure ShI (N : List Nd) (r : List Pc) (Ln Rr : Nat) (σs : Sto) (j : Nat) (ρ : Vars) (σ : Sto) : Prop where
  h0 : ρ 0 = some (.ref Ln)
  h3 : ρ 3 = some (.ref Rr)
  pre : Pre σs σ
  ex : ∃ F, ρ 5 = some (.ref F) ∧ σs.length ≤ F ∧ σ[F]? = some (.list (((r.take j).flatMap (expd N)).map Pc.av))
theorem run_turnS {target : List Nat} {t : Nat} {r : List Pc} {Rr j : Nat} {σs σ' : Sto} {ρ : Vars} {R : Fl → Vars → Sto → Prop} (H : Nodes N) (O : OneN N) (hLn : σs[Ln]? = some (.list (rs.map .ref))) (hN : Ndl σs lo rs N) (hR : RowOK N target (t + 1) r) (hj : j < r.length) (I : ShI N r Ln Rr σs j ρ σ') (h4 : ρ 4 = some (r[j]).av)
    (q : ∀ ρ' σ'', ShI N r Ln Rr σs (j + 1) ρ' σ'' → R .next ρ' σ'') : WS (runT tabB sc (k' + 1)) bodyS ρ σ' R := by
  obtain ⟨h0, h3, pre, F, h5, hF, acc⟩ := I
  have hfew := H.few
  have hw : ∀ i, sumBy Pc.w ((r.take i).flatMap (expd N)) ≤ 800 := fun i => Nat.le_trans (expd_w H O) (Nat.le_trans (sumBy_take i) hR.w)
  have hl1 : ((r.take j).flatMap (expd N)).length ≤ 800 := Nat.le_trans len_w (hw j)
  have hl2 : ((r.take (j + 1)).flatMap (expd N)).length ≤ 800 := Nat.le_trans len_w (hw (j + 1))
  have hsn : (r.take (j + 1)).flatMap (expd N) = (r.take j).flatMap (expd N) ++ expd N r[j] := by
    rw [List.take_succ_eq_append_getElem hj, List.flatMap_append]; simp
  have hok := hR.ok _ (List.getElem_mem hj)
  generalize r[j] = x at h4 hsn hok
  unfold bodyS
  induction x with
  | s y =>
    have h4' : ρ 4 = some (.str y) := h4
    walk_at "m"
    refine ⟨F, rfl, ⟨_, asList_ref acc⟩, ?_⟩
    walk_at "m"
    refine ⟨_, acc, by simp [lim] at hl1 ⊢; lia, rfl, ?_⟩
    walk_at "m"
    refine q _ _ ⟨h0, h3, pre.set hF, F, h5, hF, ?_⟩
    rw [get_set acc, hsn]
    simp [expd, Pc.av]
  | p p d =>
    induction p with
    | node k =>
      have h4' : ρ 4 = some (.tup [.tup [.str sNode, .int k], .int d]) := h4
      walk_at "m"
      refine ⟨.tup [.str sNode, .int k], rfl, ?_⟩
      walk_at "m"
      refine ⟨.str sNode, rfl, ?_⟩
      walk_at "m"
      refine ⟨.tup [.str sNode, .int k], rfl, ?_⟩
      walk_at "m"
      refine ⟨.int k, rfl, ?_⟩
      walk_at "m"
      refine ⟨.int d, rfl, ?_⟩
      walk_at "m"
      refine run_pieces H (pre _ _ hLn) (hN.keep fun i o _ e => pre i o e) hok.1 fun r' σ2 p2 hr2 hp2 => ?_
      have acc2 := p2 _ _ acc
      show OK (addV _ _ _) _
      rw [addL_at acc2 hp2]
      have e1 : (List.map Pc.av ((r.take j).flatMap (expd N)) ++ List.map Pc.av (pieces N k d)) = ((r.take (j + 1)).flatMap (expd N)).map Pc.av := by
        rw [hsn, List.map_append]; rfl
      refine OK_newList.2 ⟨by rw [e1, List.length_map]; simp only [lim]; lia, ?_⟩
      walk_at "m"
      have hle := (pre.trans p2).le
      refine q _ _ ⟨h0, h3, (pre.trans p2).trans Pre.app, σ2.length, rfl, hle, ?_⟩
      rw [get_new, e1]
    | sc s =>
      have h4' : ρ 4 = some (.tup [.tup [.str s.tag, s.val], .int d]) := h4
      walk_at "m"
      refine ⟨.tup [.str s.tag, s.val], rfl, ?_⟩
      walk_at "m"
      refine ⟨.str s.tag, rfl, ?_⟩
      walk_at "m"
      refine ex_eqs (by rw [s.tagok]; rfl) ?_
      have : decide (s.tag = [110, 111, 100, 101]) = false := by rcases s <;> decide
      rw [this]
      walk_at "m"
      refine ⟨.tup [.str s.tag, s.val], rfl, ?_⟩
      refine ⟨_, _, .inl rfl, ?_⟩
      walk_at "m"
      refine ⟨F, rfl, ⟨_, asList_ref acc⟩, ?_⟩
      refine run_shD (s := s) rfl rfl fun σ2 p2 => ?_
      have acc2 := p2 _ _ acc
      refine ⟨_, acc2, by simp [lim] at hl1 ⊢; lia, rfl, ?_⟩
      walk_at "m"
      refine q _ _ ⟨h0, h3, (pre.trans p2).set hF, F, h5, hF, ?_⟩
      rw [get_set acc2, hsn]
      simp [expd, Pc.av]
noncomputable def condS : PE := .cmp (.NotEq) (.comp (.var 101) 101 0 (.var 3) (some (.not (.isin (.var 101) (.type "str"))))) (.list [])
noncomputable def bodyW : List PS := [.asg 5 (.list []), .for_ 4 0 (.var 3) bodyS, .asg 3 (.ite (.cmp (.Eq) (.comp (.val (.int 1)) 101 0 (.var 5) (some (.not (.isin (.var 101) (.type "str"))))) (.list [])) (.list [.join [] (.comp (.var 101) 101 0 (.var 5) none)]) (.var 5))]
theorem RowOK.len {target : List Nat} {t : Nat} {r : List Pc} (h : RowOK N target t r) : r.length ≤ 800 ∧ (r.filter Pc.isP).length ≤ 200 := ⟨Nat.le_trans len_w h.w, Nat.le_trans filter_v h.v⟩
theorem isP_py {x : Pc} (h : x.isP = true) : okD 2 x.py := by
  induction x with
  | s y => (first | subst h | (injection h with h; subst h) | (injection h; done) | cases h)
  | p q d => exact okD.tuple (okDs.cons q.pyok (okDs.cons (okD.int.mono (by lia)) okDs.nil))
theorem run_condS {C : Calls} {ρ : Vars} {σ : Sto} {Rr t : Nat} {target : List Nat} {r : List Pc} {Q : AV → Sto → Prop} (h3 : ρ 3 = some (.ref Rr)) (hr : σ[Rr]? = some (.list (r.map Pc.av))) (hR : RowOK N target t r) (q : ∀ σ', Pre σ σ' → Q (.bool (!(r.filter Pc.isP).isEmpty)) σ') : WE C condS ρ σ Q := by
  have hl := hR.len
  unfold condS
  refine rE_cmp (rE_comp (rE_var ⟨_, h3, ?_⟩))
  refine comp_filter (f := Pc.av) hr (by lia) (fun x _ => rE_var ⟨_, rfl, rfl, rfl⟩) ?_
  refine ⟨by simp only [lim, List.length_map]; lia, rE_list (rEs_nil ⟨Nat.zero_le _, ?_⟩)⟩
  have e := eq_empty (σ := σ ++ [AO.list ((r.filter Pc.isP).map Pc.av)] ++ [AO.list []]) (F := 10) (b := 2) (get_app get_new) get_new (fun x _ => x.pyF) (by lia) (fun x hx => isP_py (List.mem_filter.1 hx).2) (by decide)
  refine ⟨_, ne_of e, q _ (Pre.app.trans Pre.app)⟩
theorem run_while {target : List Nat} (H : Nodes N) (O : OneN N) (hLn : σ[Ln]? = some (.list (rs.map .ref))) (hN : Ndl σ lo rs N) (htl : target.length ≤ 13000) : ∀ (t fuel : Nat), t < fuel → ∀ (r : List Pc) (ρ : Vars) (σ' : Sto) (Rr : Nat) (R : Fl → Vars → Sto → Prop), RowOK N target t r → Pre σ σ' → ρ 0 = some (.ref Ln) → ρ 3 = some (.ref Rr) → σ'[Rr]? = some (.list (r.map Pc.av)) →
    (∀ r' ρ'' σ'' Rr', Pre σ σ'' → ρ'' 3 = some (.ref Rr') → σ''[Rr']? = some (.list (r'.map Pc.av)) → r'.filter Pc.isP = [] → RowOK N target 0 r' → R .next ρ'' σ'') →
    OS (whileGo (fun ρ σ => evE (runT tabB sc (k' + 1)) condS ρ σ) (fun ρ σ => exSs (runT tabB sc (k' + 1)) bodyW ρ σ) fuel ρ σ') R := by
  intro t
  induction t with
  | zero =>
    intro fuel hf r ρ σ' Rr R hR pre h0 h3 hr q
    obtain ⟨n, rfl⟩ : ∃ n, fuel = n + 1 := ⟨fuel - 1, by lia⟩
    refine OS_while (run_condS h3 hr hR fun σ2 p2 => ?_)
    have hfil : r.filter Pc.isP = [] := by
      rw [List.filter_eq_nil_iff]
      intro x hx
      have := hR.h x hx
      induction x with
      | s y => simp [Pc.isP]
      | p p d => rcases p <;> simp [Pc.h] at this
    rw [hfil]
    exact br_f rfl (q r _ σ2 Rr (pre.trans p2) h3 (p2 _ _ hr) hfil hR)
  | succ t ih =>
    intro fuel hf r ρ σ' Rr R hR pre h0 h3 hr q
    obtain ⟨n, rfl⟩ : ∃ n, fuel = n + 1 := ⟨fuel - 1, by lia⟩
    refine OS_while (run_condS h3 hr hR fun σ2 p2 => ?_)
    refine ⟨_, rfl, fun hb => ?_, fun hb => ?_⟩
    · have hl := hR.len
      unfold bodyW
      refine WS_asg (rE_list (rEs_nil ⟨Nat.zero_le _, ?_⟩))
      have p3 : Pre σ (σ2 ++ [AO.list []]) := (pre.trans p2).trans Pre.app
      have hr3 := get_app (τ := [AO.list []]) (p2 _ _ hr)
      refine WS_for (rE_var ⟨_, h3, ?_⟩)
      refine OS_forGo r.length (fun j ρ' σ3 => ShI N r Ln Rr σ2 j ρ' σ3 ∧ σ3[Rr]? = some (.list (r.map Pc.av))) (by simp only [lim]; lia) ⟨⟨h0, h3, Pre.app, σ2.length, rfl, Nat.le_refl _, get_new⟩, hr3⟩ (fun _ _ I => next_list_end I.2 (by simp)) ?_ ?_
      · rintro j ρ' σ3 hj ⟨I, hr4⟩
        refine ⟨_, next_list hr4 (getS (List.getElem?_eq_getElem hj)), ?_⟩
        refine WS.ok (run_turnS (j := j) H O ((pre.trans p2) _ _ hLn) (hN.keep fun i o _ e => (pre.trans p2) i o e) hR hj ⟨I.h0, I.h3, I.pre, I.ex⟩ rfl fun ρ4 σ4 I4 => ?_)
        exact ⟨by simp, I4, I4.pre _ _ (p2 _ _ hr)⟩
      · rintro ρ' σ3 ⟨⟨g0, g3, g, F, g5, hF, acc⟩, _⟩
        rw [List.take_length] at acc
        have hR' := hR.expd H O
        have hl' := hR'.len
        have p4 := (pre.trans p2).trans g
        refine thn_next (WS_asg (WE_ite (rE_cmp (rE_comp (rE_var ⟨_, g5, ?_⟩)))))
        refine comp_filter (f := fun _ => .int 1) acc (by lia) (fun x _ => rE_val ⟨rfl, rfl⟩) ?_
        refine ⟨by simp only [lim, List.length_map]; lia, rE_list (rEs_nil ⟨Nat.zero_le _, ?_⟩)⟩
        have e := eq_empty (σ := σ3 ++ [AO.list (((r.flatMap (expd N)).filter Pc.isP).map fun _ => AV.int 1)] ++ [AO.list []]) (F := 1) (b := 0) (g := fun _ => PyData.int 1) (get_app get_new) get_new (fun x _ => PyF.int) (by lia) (fun x hx => okD.int) (by decide)
        refine ⟨_, e, ?_⟩
        have acc2 := get_app (τ := [AO.list []]) (get_app (τ := [AO.list (((r.flatMap (expd N)).filter Pc.isP).map fun _ => AV.int 1)]) acc)
        have p5 : Pre σ (σ3 ++ [AO.list (((r.flatMap (expd N)).filter Pc.isP).map fun _ => AV.int 1)] ++ [AO.list []]) := (p4.trans Pre.app).trans Pre.app
        generalize σ3 ++ [AO.list (((r.flatMap (expd N)).filter Pc.isP).map fun _ => AV.int 1)] ++ [AO.list []] = σ5 at acc2 p5 ⊢
        refine ⟨_, rfl, fun he => ?_, fun he => ?_⟩
        · have hfil : (r.flatMap (expd N)).filter Pc.isP = [] := List.isEmpty_iff.1 he
          obtain ⟨s1, s2⟩ := all_strs (N := N) hfil
          refine rE_list (rEs_cons (rE_join (rE_comp (rE_var ⟨_, g5, ?_⟩))))
          refine comp_copy acc2 (by rw [List.length_map]; lia) ?_
          refine ⟨by simp only [lim, List.length_map]; lia, _, asList_ref get_new, _, by rw [s1]; exact joinL_map, by decide, ?_, ?_⟩
          · rw [s2, hR'.mean]; simp only [lim]; lia
          · rw [s2, hR'.mean]
            refine rEs_nil ⟨by simp [lim], WS_nil ⟨by simp, ?_⟩⟩
            refine ih n (by lia) [.s target] _ _ _ R RowOK.one ((p5.trans Pre.app).trans Pre.app) g0 rfl get_new q
        · refine rE_var ⟨_, g5, WS_nil ⟨by simp, ?_⟩⟩
          exact ih n (by lia) _ _ _ _ R hR' p5 g0 rfl acc2 q
    · have hfil : r.filter Pc.isP = [] := by simpa using hb
      refine q r _ σ2 Rr (pre.trans p2) h3 (p2 _ _ hr) hfil ⟨hR.mean, hR.ok, hR.w, hR.v, ?_⟩
      intro x hx
      have : ¬ (x.isP = true) := (List.filter_eq_nil_iff.1 hfil) x hx
      induction x with
      | s y => exact Nat.le_refl _
      | p p d => simp [Pc.isP] at this
theorem run_shown {k d : Nat} {Q : AV → Sto → Prop} (H : Nodes N) (O : OneN N) (hLn : σ[Ln]? = some (.list (rs.map .ref))) (hN : Ndl σ lo rs N) (hk : k < N.length) (hd : d ≤ 6)
    (q : ∀ σ', Pre σ σ' → Q (.str (Shw N d k)) σ') : OK (runT tabB sc (k' + 2) 700 [.ref Ln, .int k, .int d] σ) Q := by
  have hlim := Shw_lim H (d := d) (i := k) hd
  refine OK_call d700 [.ref Ln, .int k, .int d] rfl (by decide) rfl rfl rfl ?_
  show WS _ [.asg 3 _, .while_ condS bodyW, .ret _] _ _ _
  walk_at "m"
  refine ⟨by simp [lim], ?_⟩
  refine WS_while ?_
  refine run_while H O hLn hN hlim 8 100 (by decide) [.p (.node k) d] _ _ _ _ ?_ Pre.app rfl rfl get_new ?_
  · have h2 : 2 ^ d ≤ 2 ^ 6 := Nat.pow_le_pow_right (by decide) hd
    have h3 : 2 ^ (d + 1) = 2 * 2 ^ d := by rw [Nat.pow_succ]; lia
    have h4 : 2 ^ 6 = 64 := rfl
    refine ⟨by simp [Pc.mean, Pt.shw], ?_, ?_, ?_, ?_⟩
    · intro x hx
      rw [List.mem_singleton] at hx; subst hx
      exact ⟨hk, hd⟩
    · show wn d + 0 ≤ 800
      unfold wn; lia
    · show 2 ^ (d + 1) + 0 ≤ 200
      lia
    · intro x hx
      rw [List.mem_singleton] at hx; subst hx
      simp only [Pc.h]; lia
  · intro r' ρ' σ' Rr' pre h3 hr hfil hR
    obtain ⟨s1, s2⟩ := all_strs (N := N) hfil
    refine thn_next (WS_ret (rE_join (rE_var ⟨_, h3, _, asList_ref hr, _, by rw [s1]; exact joinL_map, by decide, ?_, ?_⟩)))
    · rw [s2, hR.mean]; simp only [lim]; lia
    · rw [s2, hR.mean]; exact q σ' pre
end
/-! code_of -/
theorem PysF.pt {α : Type} {g : α → PyData} {σ : Sto} {F : Nat} : ∀ {l : List α} {vs : List AV}, vs.length = l.length → (∀ (i : Nat) (x : α) (v : AV), l[i]? = some x → vs[i]? = some v → PyF σ F v (g x)) → PysF σ (F + l.length + 1) vs (l.map g)
  | [], [], _, _ => fun m hm => PysF.nil m (by lia)
  | [], v :: vs, h, _ => by simp at h
  | x :: l, [], h, _ => by simp at h
  | x :: l, v :: vs, h, hp => PysF.cons (hp 0 x v rfl rfl) (PysF.pt (l := l) (vs := vs) (by simpa using h) fun i y u e e' => hp (i + 1) y u e e') (by simp; lia) (by simp)
theorem Sc.codok (s : Sc) : okD 1 s.cod := by
  (first | subst s | (injection s with s; subst s) | (injection s; done) | cases s)
  · exact okD.tuple (okDs.cons (okD.str (by decide)) (okDs.cons okD.int okDs.nil))
  · exact okD.tuple (okDs.cons (okD.str (by decide)) (okDs.cons (okD.str (by decide)) okDs.nil))
  · exact okD.tuple (okDs.cons (okD.str (by decide)) (okDs.cons (okD.str (by decide)) okDs.nil))
  · exact okD.tuple (okDs.cons (okD.str (by decide)) (okDs.cons okD.int okDs.nil))
  · exact okD.tuple (okDs.cons (okD.str (by decide)) (okDs.cons (okD.str (by decide)) okDs.nil))
  · exact okD.tuple (okDs.cons (okD.str (by decide)) (okDs.cons okD.none okDs.nil))
theorem thingC_ok {num : Nat → Int} {k : Nat} : okD 1 (thingC num k) := okD.tuple (okDs.cons (okD.str (by decide)) (okDs.cons okD.int okDs.nil))
theorem Cod_ok {N : List Nd} {num : Nat → Int} : ∀ d i, okD (2 * d + 1) (Cod N num d i) := by
  intro d
  induction d with
  | zero => exact fun i => thingC_ok
  | succ d ih =>
    intro i
    have th : okD (2 * d + 1 + 2) (thingC num i) := thingC_ok.mono (by lia)
    have ihp : ∀ p : Pt, okD (2 * d + 1) (p.cod (Cod N num d)) := fun p => by
      induction p with
      | node k => exact ih k
      | sc s => exact s.codok.mono (by lia)
    show okD (2 * d + 1 + 2) _
    cases e : N[i]? with
    | none => unfold Cod; rw [e]; exact th
    | some n =>
      rw [Cod_s e]
      obtain ⟨kd, ps⟩ := n
      induction kd with
      | list => exact okD.tuple (b := 2 * d + 2) (okDs.cons ((okD.str (by decide)).mono (Nat.zero_le _)) (okDs.cons (okD.tuple (okDs.map fun p _ => ihp p)) okDs.nil))
      | range => exact (okD.tuple (b := 2 * d + 1) (okDs.cons ((okD.str (by decide)).mono (Nat.zero_le _)) (okDs.cons (ih _) (okDs.cons (ih _) (okDs.cons (okD.bool.mono (Nat.zero_le _)) okDs.nil))))).mono (Nat.le_succ _)
      | table => exact th
section
variable {sc : Scr} {N : List Nd} {T M : Nat → Nat}
noncomputable abbrev numOf (M : Nat → Nat) : Nat → Int := fun i => (M i : Int)
noncomputable def NodeCode (sc : Scr) (N : List Nd) (T M : Nat → Nat) (d : Nat) : Prop := ∀ (k i : Nat) (σ : Sto) (Q : AV → Sto → Prop), i < N.length → HasAll N σ T M → (∀ v σ', Pre σ σ' → (∀ σ'', PyF σ'' (10 * d + 10) v (Cod N (numOf M) d i)) → Q v σ') → OK (runT tabB sc (k + d + 2) 250 [.ref (T i), .int d] σ) Q
noncomputable def PartCode (sc : Scr) (N : List Nd) (T M : Nat → Nat) (d : Nat) : Prop := ∀ (k : Nat) (p : Pt) (v : AV) (σ : Sto) (Q : AV → Sto → Prop), p.ok N.length → PtV σ T p v → HasAll N σ T M → (∀ v σ', Pre σ σ' → (∀ σ'', PyF σ'' (10 * d + 10) v (p.cod (Cod N (numOf M) d))) → Q v σ') → OK (runT tabB sc (k + d + 2) 250 [v, .int d] σ) Q
theorem pyF_pair {σ : Sto} {s : List Nat} {v : AV} {D : PyData} (h : PyF σ 1 v D) : PyF σ 6 (.tup [.str s, v]) (.tuple [pStr s, D]) :=
  PyF.tup (F := 5) (PysF.cons (G := 4) PyF.str (PysF.cons (G := 1) h PysF.nil (by lia) (by lia)) (by lia) (by lia)) (by lia)
theorem code_sc {k : Nat} {s : Sc} {v : AV} {d : Int} {σ : Sto} {Q : AV → Sto → Prop} (hv : PtV σ T (.sc s) v) (q : ∀ v, (∀ σ'', PyF σ'' 6 v s.cod) → Q v σ) : OK (runT tabB sc (k + 2) 250 [v, .int d] σ) Q := by
  rcases hv with ⟨rfl, u, m, ow, dd, rfl, _, _, h⟩ | ⟨rfl, u, m, ow, dd, rfl, _, _, h⟩ | ⟨h1, h2, rfl⟩
  · refine OK_call d250 [.ref u, .int d] rfl (by decide) rfl rfl rfl ?_
    unfold d250 b250
    walk_at "m"
    refine run_sort (s := sThing) ⟨rfl, _, _, h⟩ ?_
    walk_at "m"
    refine ⟨_, rfl, rfl, ?_⟩
    walk_at "m"
    exact q _ fun σ'' => pyF_pair PyF.str
  · refine OK_call d250 [.ref u, .int d] rfl (by decide) rfl rfl rfl ?_
    unfold d250 b250
    walk_at "m"
    refine run_sort (s := sThing) ⟨rfl, _, _, h⟩ ?_
    walk_at "m"
    refine ⟨_, rfl, rfl, ?_⟩
    walk_at "m"
    exact q _ fun σ'' => pyF_pair PyF.str
  · have key : ∀ (x : AV) (y : List Nat), (∀ {Q' : AV → Sto → Prop}, Q' (.str y) σ → OK (runT tabB sc (k + 1) 237 [x] σ) Q') → (okS y && okS sThing) = true → decide (y = sThing) = false → (∀ σ'', PyF σ'' 6 (.tup [.str y, x]) s.cod) → OK (runT tabB sc (k + 2) 250 [x, .int d] σ) Q := by
      intro x y hs ho hne hp
      refine OK_call d250 [x, .int d] rfl (by decide) rfl rfl rfl ?_
      unfold d250 b250
      refine WS_asg (rE_call (rEs_cons (rE_var ⟨_, rfl, rEs_nil (hs ?_)⟩)))
      refine WS_ite (rE_cmp (rE_var ⟨_, rfl, rE_val (ex_nes ho ?_)⟩))
      rw [hne]
      refine br_t rfl (WS_ret (rE_tup (rEs_cons (rE_var ⟨_, rfl, rEs_cons (rE_var ⟨_, rfl, rEs_nil ?_⟩)⟩))))
      exact q _ hp
    induction s with
    | tb => exact absurd rfl h1
    | te => exact absurd rfl h2
    | n1 => exact key (.int 1) sInt (fun q => run_sort (v := .int 1) (s := sInt) rfl q) (by decide) (by decide) fun σ'' => pyF_pair PyF.int
    | n2 => exact key (.int 2) sInt (fun q => run_sort (v := .int 2) (s := sInt) rfl q) (by decide) (by decide) fun σ'' => pyF_pair PyF.int
    | sa => exact key (.str [97]) sSym (fun q => run_sort (v := .str [97]) (s := sSym) rfl q) (by decide) (by decide) fun σ'' => pyF_pair PyF.str
    | nl => exact key .none sNil (fun q => run_sort (v := .none) (s := sNil) rfl q) (by decide) (by decide) fun σ'' => pyF_pair PyF.none
theorem partc_of {d : Nat} (h : NodeCode sc N T M d) : PartCode sc N T M d := by
  intro k p v σ Q hok hv A q
  induction p with
  | node i =>
    rw [show v = .ref (T i) from hv]
    exact h k i σ Q hok A q
  | sc s => exact code_sc (k := k + d) hv fun v hp => q v σ Pre.refl fun σ'' => (hp σ'').mono (by lia)
/-- a thing by itself -/
theorem code_thing {k t : Nat} {D : Addr} {fs : List (Nat × AV)} {m : Int} {d : Int} {σ : Sto} {Q : AV → Sto → Prop} (h : σ[t]? = some (.inst D fs)) (hf : fget D fs 0 = some (.int m)) (h62 : superOf D 62 = false) (hd : (superOf D 82 && decide (0 < d)) = false) (hr : (superOf D 140 && decide (0 < d)) = false) (q : Q (.tup [.str sThing, .int m]) σ) : OK (runT tabB sc (k + 2) 250 [.ref t, .int d] σ) Q := by
  refine OK_call d250 [.ref t, .int d] rfl (by decide) rfl rfl rfl ?_
  unfold d250 b250
  walk_at "m"
  refine run_sort (s := sThing) ⟨rfl, _, _, h⟩ ?_
  have two : ∀ (E : Addr) (x : Bool) {ρ : Vars} {ss : List PS} {R : Fl → Vars → Sto → Prop} {C : Calls}, clsAddrs.contains E = true → (superOf D E && decide (0 < d)) = false → ρ 0 = some (.ref t) → ρ 1 = some (.int d) → ∀ {a : List PS}, WS C ss ρ σ R → WS C (.ite (.and (.isin (.var 0) (.ref E)) (.cmp (.Gt) (.var 1) (.val (.int 0)))) a [] :: ss) ρ σ R := by
    intro E x ρ ss R C hE hx h0 h1 a w
    refine WS_ite (WE_and (rE_isin (rE_var ⟨_, h0, ex_cls h hE ?_⟩)))
    cases hs : superOf D E with
    | false => exact br_f rfl (br_f rfl (WS_nil (thn_next w)))
    | true =>
      rw [hs, Bool.true_and] at hx
      refine br_t rfl ?_
      refine rE_cmp (rE_var ⟨_, h1, rE_val (ex_gt ⟨⟨_, rfl⟩, ?_⟩)⟩)
      rw [hx]
      exact br_f rfl (WS_nil (thn_next w))
  refine WS_ite (rE_cmp (rE_var ⟨_, rfl, rE_val (ex_nes (by decide) (br_f (by decide) (WS_nil (thn_next ?_))))⟩))
  refine WS_ite (rE_isin (rE_var ⟨_, rfl, ex_cls h rfl ?_⟩))
  rw [h62]
  refine br_f rfl (WS_nil (thn_next (two 82 true rfl hd rfl rfl (two 140 true rfl hr rfl rfl ?_))))
  walk_at "m"
  refine ⟨_, hf, rfl, ?_⟩
  walk_at "m"
  exact q
theorem ThAll.num {σ : Sto} {i : Nat} {nd : Nd} (h : ThAll σ T M i nd) : ∃ D fs, σ[T i]? = some (.inst D fs) ∧ fget D fs 0 = some (.int (numOf M i)) ∧ superOf D 62 = false := by
  unfold ThAll at h
  cases hk : nd.kd with
  | list => rw [hk] at h; obtain ⟨ow, d, c, vs, h1, _⟩ := h; exact ⟨_, _, h1, rfl, rfl⟩
  | table => rw [hk] at h; obtain ⟨ow, d, c, b, Rw, h1, _⟩ := h; exact ⟨_, _, h1, rfl, rfl⟩
  | range => rw [hk] at h; obtain ⟨ow, d, a, b, _, h1⟩ := h; exact ⟨_, _, h1, rfl, rfl⟩
theorem code_zero (H : Nodes N) : NodeCode sc N T M 0 := by
  intro k i σ Q hi A q
  obtain ⟨D, fs, h1, h2, h3⟩ := (A.th i _ (List.getElem?_eq_getElem hi)).num
  refine code_thing (k := k) h1 h2 h3 (by simp) (by simp) ?_
  exact q _ σ Pre.refl fun σ'' => (pyF_pair PyF.int).mono (by lia)
theorem code_succ (H : Nodes N) {d : Nat} (ih : NodeCode sc N T M d) : NodeCode sc N T M (d + 1) := by
  intro k i σ Q hi A q
  have P := partc_of ih
  obtain ⟨⟨kd, ps⟩, hnd⟩ : ∃ nd, N[i]? = some nd := ⟨_, List.getElem?_eq_getElem hi⟩
  have hth := A.th i _ hnd
  have hl : ps.length ≤ 3 := H.short _ (List.mem_of_getElem? hnd)
  have hok : ∀ p ∈ ps, p.ok N.length := H.ok _ (List.mem_of_getElem? hnd)
  have hgt : decide (0 < ((d + 1 : Nat) : Int)) = true := by simp
  induction kd with
  | table =>
    obtain ⟨D, fs, h1, h2, h3⟩ := hth.num
    obtain ⟨ow, dd, c, b, Rw, g1, _⟩ := hth
    rw [h1] at g1
    (first | subst g1 | (injection g1 with g1; subst g1) | (injection g1; done) | cases g1)
    refine code_thing (k := k + (d + 1)) h1 h2 h3 rfl rfl ?_
    refine q _ σ Pre.refl fun σ'' => ?_
    rw [Cod_s hnd]
    exact (pyF_pair PyF.int).mono (by lia)
  | list =>
    obtain ⟨ow, dd, c, vs, h1, h2, h3⟩ := hth
    refine OK_call d250 [.ref (T i), .int ((d + 1 : Nat) : Int)] rfl (by decide) rfl rfl rfl ?_
    unfold d250 b250
    walk_at "m"
    refine run_sort (s := sThing) ⟨rfl, _, _, h1⟩ ?_
    walk_at "m"
    refine ⟨⟨_, rfl⟩, ?_⟩
    rw [hgt]
    walk_at "m"
    refine ⟨_, rfl, rfl, ?_⟩
    refine OK_compGo ps.length (fun j acc σ' => Pre σ σ' ∧ acc.length = j ∧ ∀ (x : Nat) (p : Pt) (v : AV), ps[x]? = some p → acc[x]? = some v → ∀ σ'', PyF σ'' (10 * d + 10) v (p.cod (Cod N (numOf M) d))) (by simp only [lim]; lia) ⟨Pre.refl, rfl, fun x p v _ e => by simp at e⟩ (fun _ σ' h => next_list_end (h.1 _ _ h2) h3.len) ?_ ?_
    · rintro j acc σ' hj ⟨hp, hlen, hall⟩
      have hpj : ps[j]? = some ps[j] := List.getElem?_eq_getElem hj
      have hvj : vs[j]? = some (vs[j]'(by rw [h3.len]; exact hj)) := List.getElem?_eq_getElem (by rw [h3.len]; exact hj)
      refine ⟨_, next_list (hp _ _ h2) hvj, okF ?_⟩
      walk_at "m"
      refine ⟨_, _, rfl, rfl, at_sub1 ?_⟩
      walk_at "m"
      refine P k _ _ σ' _ (hok _ (List.getElem_mem hj)) ((h3.at_ j _ _ hpj hvj).pre hp) (A.pre hp) fun v σ'' hp'' hv => ⟨hp.trans hp'', by simp [accO, hlen], ?_⟩
      intro x p u e e'
      by_cases hx : x < j
      · rw [accO, List.getElem?_append_left (by lia)] at e'
        exact hall x p u e e'
      · have hx2 : x = j := by
          have := (List.getElem?_eq_some_iff.mp e').1
          simp [accO, hlen] at this; lia
        subst hx2
        rw [hpj] at e
        (first | subst e | (injection e with e; subst e) | (injection e; done) | cases e)
        rw [accO, List.getElem?_append_right (by lia), hlen, Nat.sub_self] at e'
        simp at e'
        subst e'
        exact hv
    · rintro acc σ' ⟨hp, hlen, hall⟩
      refine ⟨by simp only [lim]; lia, _, asList_ref get_new, by simp only [lim]; lia, ?_⟩
      walk_at "m"
      refine q _ _ (hp.trans Pre.app) fun σ'' => ?_
      rw [Cod_s hnd]
      have hps := PysF.pt (σ := σ'') (F := 10 * d + 10) (l := ps) (vs := acc) hlen fun x p v e e' => hall x p v e e' σ''
      exact PyF.tup (F := 10 * d + 19) (PysF.cons (G := 10 * d + 18) PyF.str (PysF.cons (F := 10 * d + 17) (G := 1) (PyF.tup hps (by lia)) PysF.nil (by lia) (by lia)) (by lia) (by lia)) (by lia)
  | range =>
    obtain ⟨ow, dd, a, b, hps, h1⟩ := hth
    have hps' : ps = [.node a, .node b] := hps
    have ha : a < N.length := hok (.node a) (by simp [hps'])
    have hb : b < N.length := hok (.node b) (by simp [hps'])
    refine OK_call d250 [.ref (T i), .int ((d + 1 : Nat) : Int)] rfl (by decide) rfl rfl rfl ?_
    unfold d250 b250
    walk_at "m"
    refine run_sort (s := sThing) ⟨rfl, _, _, h1⟩ ?_
    walk_at "m"
    refine ⟨⟨_, rfl⟩, ?_⟩
    rw [hgt]
    walk_at "m"
    refine ⟨_, rfl, rfl, ?_⟩
    walk_at "m"
    refine ⟨_, _, rfl, rfl, at_sub1 ?_⟩
    walk_at "m"
    refine ih k a σ _ ha A fun va σ1 p1 hva => ?_
    have h1' := p1 _ _ h1
    walk_at "m"
    refine ⟨_, rfl, rfl, ?_⟩
    walk_at "m"
    refine ⟨_, _, rfl, rfl, at_sub1 ?_⟩
    walk_at "m"
    refine ih k b σ1 _ hb (A.pre p1) fun vb σ2 p2 hvb => ?_
    have h2' := p2 _ _ h1'
    walk_at "m"
    refine ⟨_, rfl, rfl, ?_⟩
    walk_at "m"
    refine q _ _ (p1.trans p2) fun σ'' => ?_
    rw [Cod_s hnd, hps']
    exact PyF.tup (F := 10 * d + 19) (PysF.cons (G := 10 * d + 18) PyF.str (PysF.cons (G := 10 * d + 17) (hva σ'') (PysF.cons (G := 10 * d + 16) (hvb σ'') (PysF.cons (G := 1) PyF.bool PysF.nil (by lia) (by lia)) (by lia) (by lia)) (by lia) (by lia)) (by lia) (by lia)) (by lia)
theorem run_code (H : Nodes N) : ∀ d, NodeCode sc N T M d
  | 0 => code_zero H
  | d + 1 => code_succ H (run_code H d)
end
/-! signs and marks as data -/
noncomputable def MI.av : MI → AV
  | .m x => x.av
  | .s c => c.av
noncomputable def Mark.py : Mark → PyData
  | .self k => .tuple [pStr sSelf, .int k]
  | .cls i => .tuple [pStr sClass, .int i]
noncomputable def MI.py : MI → PyData
  | .m x => x.py
  | .s c => .tuple [pStr c.tag, c.vpy]
noncomputable def Sign.py : Sign → PyData
  | .self k => .tuple [pStr sSelf, .int k]
  | .sg kd odd inner => .tuple [pStr kd.nm, .bool odd, .list (inner.map MI.py)]
theorem pair_iff {s t : List Nat} {D E : PyData} (h : s = t) : PyData.eqv (.tuple [pStr s, D]) (.tuple [pStr t, E]) = true ↔ PyData.eqv D E = true := by
  rw [eqv_pair, decide_eq_true h, Bool.true_and]
theorem int_iff {i j : Nat} : PyData.eqv (.int i) (.int j) = true ↔ i = j := by
  rw [eqv_int, decide_eq_true_iff]; exact Int.ofNat_inj
theorem mark_py (x y : Mark) : PyData.eqv x.py y.py = true ↔ x = y := by
  induction x with
  | self i => induction y with
    | self j => exact ((pair_iff rfl).trans int_iff).trans ⟨fun h => congrArg Mark.self h, fun h => Mark.self.inj h⟩
    | cls j => exact no_iff (eqv_tag (by decide)) fun h => nomatch h
  | cls i => induction y with
    | self j => exact no_iff (eqv_tag (by decide)) fun h => nomatch h
    | cls j => exact ((pair_iff rfl).trans int_iff).trans ⟨fun h => congrArg Mark.cls h, fun h => Mark.cls.inj h⟩
theorem sc_py (s t : Sc) : PyData.eqv (.tuple [pStr s.tag, s.vpy]) (.tuple [pStr t.tag, t.vpy]) = true ↔ s = t := of_beq (by rcases s <;> rcases t <;> rfl)
theorem mark_tag (x : Mark) : ∃ t D, x.py = .tuple [pStr t, D] ∧ (t == sSelf || t == sClass) = true := by
  rcases x <;> exact ⟨_, _, rfl, rfl⟩
theorem ne_tag {t : List Nat} (h : (t == sSelf || t == sClass) = true) (s : Sc) : t ≠ s.tag := by
  rintro rfl
  revert h
  rcases s <;> exact fun h => Bool.noConfusion h
theorem mark_sc (x : Mark) (s : Sc) : PyData.eqv x.py (.tuple [pStr s.tag, s.vpy]) = false ∧ PyData.eqv (.tuple [pStr s.tag, s.vpy]) x.py = false := by
  obtain ⟨t, D, h, g⟩ := mark_tag x
  rw [h]
  exact ⟨eqv_tag (ne_tag g s), eqv_tag (ne_tag g s).symm⟩
theorem mi_py (x y : MI) : PyData.eqv x.py y.py = true ↔ x = y := by
  induction x with
  | m x => induction y with
    | m y => exact (mark_py x y).trans ⟨fun h => congrArg MI.m h, fun h => MI.m.inj h⟩
    | s y => exact no_iff (mark_sc x y).1 fun h => nomatch h
  | s x => induction y with
    | m y => exact no_iff (mark_sc y x).2 fun h => nomatch h
    | s y => exact (sc_py x y).trans ⟨fun h => congrArg MI.s h, fun h => MI.s.inj h⟩
theorem mis_py : ∀ (xs ys : List MI), PyData.eqvAll (xs.map MI.py) (ys.map MI.py) = true ↔ xs = ys := by
  intro xs
  induction xs with
  | nil => intro ys; induction ys using lcs with
    | nil => exact ⟨fun _ => rfl, fun _ => rfl⟩
    | cons y ys => exact ⟨fun h => (nomatch h), fun h => (nomatch h)⟩
  | cons x xs ih => intro ys; induction ys using lcs with
    | nil => exact ⟨fun h => (nomatch h), fun h => (nomatch h)⟩
    | cons y ys => exact Bool.and_eq_true_iff.trans ((and_congr (mi_py x y) (ih ys)).trans cons_iff.symm)
theorem nm_inj (a b : Kd) : decide (a.nm = b.nm) = decide (a = b) := by rcases a <;> rcases b <;> rfl
theorem sign_py (x y : Sign) : PyData.eqv x.py y.py = true ↔ x = y := by
  induction x with
  | self i => induction y with
    | self j => exact ((pair_iff rfl).trans int_iff).trans ⟨fun h => congrArg Sign.self h, fun h => Sign.self.inj h⟩
    | sg kd odd inner => exact no_iff (by rcases kd <;> exact eqv_tag (by decide)) fun h => nomatch h
  | sg kd odd inner => induction y with
    | self j => exact no_iff (by rcases kd <;> exact eqv_tag (by decide)) fun h => nomatch h
    | sg kd' odd' inner' =>
      show PyData.eqv (.tuple [pStr kd.nm, .bool odd, .list (inner.map MI.py)]) (.tuple [pStr kd'.nm, .bool odd', .list (inner'.map MI.py)]) = true ↔ _
      rw [eqv_tup, nm_inj, Bool.and_eq_true_iff, decide_eq_true_iff]
      show _ ∧ ((odd == odd') && (PyData.eqvAll (inner.map MI.py) (inner'.map MI.py) && true)) = true ↔ _
      rw [Bool.and_true, Bool.and_eq_true_iff, beq_iff_eq, mis_py]
      exact ⟨fun h => by rw [h.1, h.2.1, h.2.2], fun h => Sign.sg.inj h⟩
theorem Mark.pyF {σ : Sto} (x : Mark) : PyF σ 6 x.av x.py := by
  (first | subst x | (injection x with x; subst x) | (injection x; done) | cases x)
  · exact pyF_pair PyF.int
  · exact pyF_pair PyF.int
theorem Mark.pyok (x : Mark) : okD 1 x.py := by
  (first | subst x | (injection x with x; subst x) | (injection x; done) | cases x)
  · exact okD.tuple (okDs.cons (okD.str (by decide)) (okDs.cons okD.int okDs.nil))
  · exact okD.tuple (okDs.cons (okD.str (by decide)) (okDs.cons okD.int okDs.nil))
theorem MI.pyF {σ : Sto} (x : MI) : PyF σ 6 x.av x.py := by
  induction x with
  | m x => exact x.pyF
  | s c => exact pyF_pair c.pyF
theorem MI.pyok (x : MI) : okD 1 x.py := by
  induction x with
  | m x => exact x.pyok
  | s c => exact okD.tuple (okDs.cons (okD.str c.tagok) (okDs.cons c.vok okDs.nil))
/-- a sign in the store -/
noncomputable def SgV (σ : Sto) (S : Nat) : Sign → AV → Prop
  | .self k, v => v = .tup [.str sSelf, .int k]
  | .sg kd odd inner, v => kd ≠ .table ∧ inner.length ≤ 3 ∧ ∃ r, S < r ∧ v = .tup [.str kd.nm, .bool odd, .ref r] ∧ σ[r]? = some (.list (inner.map MI.av))
theorem SgV.keep {σ σ' : Sto} {S : Nat} {s : Sign} {v : AV} (h : SgV σ S s v) (hk : ∀ (i : Nat) (o : AO), i ≠ S → σ[i]? = some o → σ'[i]? = some o) : SgV σ' S s v := by
  induction s with
  | self k => exact h
  | sg kd odd inner =>
    obtain ⟨h0, hl, r, h1, h2, h3⟩ := h
    exact ⟨h0, hl, r, h1, h2, hk _ _ (by lia) h3⟩
theorem SgV.pyF {σ : Sto} {S : Nat} {s : Sign} {v : AV} (h : SgV σ S s v) : PyF σ 30 v s.py := by
  induction s with
  | self k => rw [show v = _ from h]; exact (pyF_pair PyF.int).mono (by lia)
  | sg kd odd inner =>
    obtain ⟨h0, hl, r, h1, h2, h3⟩ := h
    subst h2
    have := PysF.map (σ := σ) (F := 6) (f := MI.av) (g := MI.py) (l := inner) fun x _ => x.pyF
    exact PyF.tup (F := 29) (PysF.cons (G := 28) PyF.str (PysF.cons (G := 27) PyF.bool (PysF.cons (F := 26) (G := 1) (PyF.list h3 this (by lia)) PysF.nil (by lia) (by lia)) (by lia) (by lia)) (by lia) (by lia)) (by lia)
theorem Sign.pyok (s : Sign) : okD 10 s.py := by
  induction s with
  | self k => exact (okD.tuple (b := 0) (okDs.cons (okD.str (by decide)) (okDs.cons okD.int okDs.nil))).mono (by lia)
  | sg kd odd inner => exact (okD.tuple (b := 2) (okDs.cons ((okD.str (nm_ok kd)).mono (by lia)) (okDs.cons (okD.bool.mono (by lia)) (okDs.cons (okD.list (okDs.map fun x _ => x.pyok)) okDs.nil)))).mono (by lia)
theorem eqV_sign {σ : Sto} {S : Nat} {s t : Sign} {u v : AV} (h : SgV σ S s u) (g : SgV σ S t v) : eqV σ u v = some (decide (s = t)) := by
  rw [eqV_of (h.pyF.mono (by lia)) (g.pyF.mono (by lia)) (s.pyok.mono (by lia)) (t.pyok.mono (by lia))]
  congr 1
  rw [Bool.eq_iff_iff, sign_py]; simp
structure SgVs (σ : Sto) (S : Nat) (ss : List Sign) (vs : List AV) : Prop where
  len : vs.length = ss.length
  at_ : ∀ (i : Nat) (s : Sign) (v : AV), ss[i]? = some s → vs[i]? = some v → SgV σ S s v
theorem SgVs.snoc {σ : Sto} {S : Nat} {ss : List Sign} {vs : List AV} {s : Sign} {v : AV} (h : SgVs σ S ss vs) (g : SgV σ S s v) : SgVs σ S (ss ++ [s]) (vs ++ [v]) := by
  refine ⟨by simp [h.len], fun k p' v' e e' => ?_⟩
  by_cases hk : k < ss.length
  · rw [List.getElem?_append_left hk] at e
    rw [List.getElem?_append_left (by rw [h.len]; exact hk)] at e'
    exact h.at_ k p' v' e e'
  · have hk2 : k = ss.length := by
      have := (List.getElem?_eq_some_iff.mp e).1
      simp at this; lia
    subst hk2
    rw [← h.len] at e'
    simp at e e'
    subst e e'; exact g
theorem SgVs.keep {σ σ' : Sto} {S : Nat} {ss : List Sign} {vs : List AV} (h : SgVs σ S ss vs) (hk : ∀ (i : Nat) (o : AO), i ≠ S → σ[i]? = some o → σ'[i]? = some o) : SgVs σ' S ss vs :=
  ⟨h.len, fun i s v e e' => (h.at_ i s v e e').keep hk⟩
theorem idx_sign {σ : Sto} {S : Nat} {t : Sign} {v : AV} (g : SgV σ S t v) : ∀ {ss : List Sign} {vs : List AV} (i : Nat), SgVs σ S ss vs → t ∈ ss → idxOf σ v vs i = some (i + ss.idxOf t)
  | [], _, _, _, h => by simp at h
  | s :: ss, [], _, h, _ => by have := h.len; simp at this
  | s :: ss, u :: us, i, h, hm => by
    have h0 := h.at_ 0 s u rfl rfl
    have hs : SgVs σ S ss us := ⟨by have := h.len; simpa using this, fun k s' v' e e' => h.at_ (k + 1) s' v' e e'⟩
    rw [idxOf, eqV_sign h0 g, opt]
    by_cases e : s = t
    · rw [decide_eq_true e]
      simp [List.idxOf_cons, e]
    · rw [decide_eq_false e]
      have hm' : t ∈ ss := by
        rcases List.mem_cons.1 hm with r | r
        · exact absurd r.symm e
        · exact r
      have ih := idx_sign g (i + 1) hs hm'
      simp only [ih, List.idxOf_cons]
      rw [show (s == t) = false by simpa using e]
      simp; lia
theorem all_sign {σ : Sto} {S : Nat} {t : Sign} {v : AV} (g : SgV σ S t v) {ss : List Sign} {vs : List AV} (h : SgVs σ S ss vs) : (vs.all fun u => (eqV σ u v).isSome) = true := by
  rw [List.all_eq_true]
  intro u hu
  obtain ⟨i, hi, e⟩ := List.getElem_of_mem hu
  have e1 : vs[i]? = some u := by rw [List.getElem?_eq_getElem hi, e]
  have e2 : ss[i]? = some (ss[i]'(by rw [← h.len]; exact hi)) := List.getElem?_eq_getElem _
  rw [eqV_sign (h.at_ i _ _ e2 e1) g]; rfl
/-! _law_parted -/
section
variable {sc : Scr} {k' : Nat} {σ : Sto} {N : List Nd} {rs : List Nat} {Ln lo : Nat}
noncomputable def bodyT : List PS := [.asgT 6 7 (.item (.var 0) (.var 2)), .asg 8 (.comp (.ite (.cmp (.Eq) (.item (.var 101) (.val (.int 0))) (.val (.str [110, 111, 100, 101]))) (.item (.var 3) (.item (.var 101) (.val (.int 1)))) (.var 101)) 101 0 (.var 7) none), .asg 9 (.ite (.cmp (.Eq) (.var 6) (.val (.str [114, 97, 110, 103, 101]))) (.cmp (.Eq) (.mod (.var 2) (.val (.int 2))) (.val (.int 1))) (.val (.bool false))), .expr (.lapp (.var 5) (.ite (.cmp (.Eq) (.var 6) (.val (.str [116, 97, 98, 108, 101]))) (.tup [.val (.str [98, 121, 32, 105, 116, 115, 101, 108, 102]), .var 2]) (.tup [.var 6, .var 9, .var 8])))]
noncomputable def compT : PE := .ite (.cmp (.NotEq) (.item (.var 101) (.val (.int 0))) (.val (.str [98, 121, 32, 105, 116, 115, 101, 108, 102]))) (.tup [.val (.str [99, 108, 97, 115, 115]), .lidx (.var 5) (.var 101)]) (.var 101)
noncomputable def bodyR : List PS := [.asg 5 (.list []), .for_ 2 1 (.len (.var 0)) bodyT, .asg 3 (.comp compT 101 0 (.var 5) none)]
structure TuI (ms : List Mark) (N : List Nd) (Ln Mk S : Nat) (σs : Sto) (j : Nat) (ρ : Vars) (σ : Sto) : Prop where
  h0 : ρ 0 = some (.ref Ln)
  h3 : ρ 3 = some (.ref Mk)
  h5 : ρ 5 = some (.ref S)
  keep : ∀ (i : Nat) (o : AO), i ≠ S → σs[i]? = some o → σ[i]? = some o
  le : σs.length ≤ σ.length
  ex : ∃ vs, σ[S]? = some (.list vs) ∧ SgVs σ S ((N.mapIdx (signOf ms)).take j) vs
theorem run_turnT {C : Calls} {ms : List Mark} {Mk S j : Nat} {σs σ' : Sto} {ρ : Vars} {R : Fl → Vars → Sto → Prop} (H : Nodes N) (hLn : σs[Ln]? = some (.list (rs.map .ref))) (hN : Ndl σs lo rs N) (hMk : σs[Mk]? = some (.list (ms.map Mark.av))) (hml : ms.length = N.length) (hLS : Ln < S) (hMS : Mk < S) (hSl : S < σs.length)
    (hj : j < N.length) (I : TuI ms N Ln Mk S σs j ρ σ') (h2 : ρ 2 = some (.int j)) (hNS : ∀ (i : Nat) (o : AO), lo ≤ i → σs[i]? = some o → σ'[i]? = some o)
    (q : ∀ ρ' σ'', TuI ms N Ln Mk S σs (j + 1) ρ' σ'' → (ρ' 1 = ρ 1) → R .next ρ' σ'') : WS C bodyT ρ σ' R := by
  obtain ⟨h0, h3, h5, keep, le, vs, hS, hvs⟩ := I
  have hfew := H.few
  obtain ⟨⟨kd, ps⟩, hnd⟩ : ∃ nd, N[j]? = some nd := ⟨_, List.getElem?_eq_getElem hj⟩
  obtain ⟨r, hr⟩ : ∃ r, rs[j]? = some r := ⟨_, List.getElem?_eq_getElem (by rw [hN.len]; exact hj)⟩
  obtain ⟨p, b1, b2, b3, b4⟩ := hN.at_ _ _ _ hnd hr
  have hps3 : ps.length ≤ 3 := H.short _ (List.mem_of_getElem? hnd)
  have hpok : ∀ p ∈ ps, p.ok N.length := H.ok _ (List.mem_of_getElem? hnd)
  have b3' := hNS _ _ b1 b3
  have b4' := hNS _ _ b2 b4
  have hLn' := keep _ _ (by lia) hLn
  have hMk' := keep _ _ (by lia) hMk
  have hSlt := get_lt hS
  have hvl : vs.length ≤ j := by rw [hvs.len]; simp; lia
  unfold bodyT
  walk_at "m"
  refine ⟨_, itemV_list hLn' (by lia) (getS hr), ?_⟩
  refine ⟨_, _, .inr (asList_ref b3'), ?_⟩
  refine WS_asg (rE_comp (rE_var ⟨_, rfl, ?_⟩))
  refine OK_compGo ps.length (fun i acc σ2 => acc = ((ps.take i).map (Pt.mi ms)).map MI.av ∧ σ2 = σ') (by simp only [lim]; lia) ⟨rfl, rfl⟩ (fun _ _ h => by rw [h.2]; exact next_list_end b4' (by simp)) ?_ ?_
  · rintro i acc σ2 hi ⟨e1, e2⟩
    subst e2
    have hpi : ps[i]? = some ps[i] := List.getElem?_eq_getElem hi
    refine ⟨_, next_list b4' (getS hpi), okF ?_⟩
    have hok := hpok _ (List.getElem_mem hi)
    have fin : ∀ v, v = (Pt.mi ms ps[i]).av → accO acc (some v) = ((ps.take (i + 1)).map (Pt.mi ms)).map MI.av := by
      intro v e
      rw [e1, List.take_succ_eq_append_getElem hi, List.map_append, List.map_append, e]; rfl
    generalize ps[i] = x at hok fin
    induction x with
    | node y =>
      have hy : y < ms.length := by rw [hml]; exact hok
      walk_at "m"
      refine ⟨.str sNode, rfl, ?_⟩
      walk_at "m"
      refine ⟨.int y, rfl, ?_⟩
      refine ⟨_, itemV_list hMk' (by lia) (getS (List.getElem?_eq_getElem hy)), fin _ ?_, rfl⟩
      simp only [Pt.mi, MI.av]
      rw [List.getD_eq_getElem?_getD, List.getElem?_eq_getElem hy]; rfl
    | sc s =>
      refine WE_ite (rE_cmp (rE_item (rE_var ⟨_, rfl, rE_val ⟨.str s.tag, rfl, rE_val (ex_eqs (by rw [s.tagok]; rfl) ?_)⟩⟩)))
      have : decide (s.tag = [110, 111, 100, 101]) = false := by rcases s <;> decide
      rw [this]
      exact br_f rfl (rE_var ⟨_, rfl, fin _ rfl, rfl⟩)
  · rintro acc σ2 ⟨e1, e2⟩
    subst e2
    rw [List.take_length] at e1
    refine ⟨by rw [e1]; simp only [lim, List.length_map]; lia, ?_⟩
    have k2 : ∀ (i : Nat) (o : AO), i ≠ S → σs[i]? = some o → (σ2 ++ [AO.list acc])[i]? = some o := fun i o h e => get_app (keep i o h e)
    have hI : (σ2 ++ [AO.list acc])[σ2.length]? = some (.list acc) := get_new
    have hS2 := get_app (τ := [AO.list acc]) hS
    have hvs2 : SgVs (σ2 ++ [AO.list acc]) S _ vs := hvs.keep fun i o _ e => get_app e
    have hle2 : σs.length ≤ (σ2 ++ [AO.list acc]).length := by simp; lia
    have hIl : S < σ2.length := hSlt
    generalize σ2.length = Ia at hI hIl ⊢
    generalize σ2 ++ [AO.list acc] = σ3 at k2 hI hS2 hvs2 hle2 ⊢
    have hodd : ∀ {C : Calls} {ρ : Vars} {Q : AV → Sto → Prop}, ρ 6 = some (.str kd.nm) → ρ 2 = some (.int j) → Q (.bool (decide (kd = .range) && decide (j % 2 = 1))) σ3 → WE C (.ite (.cmp (.Eq) (.var 6) (.val (.str [114, 97, 110, 103, 101]))) (.cmp (.Eq) (.mod (.var 2) (.val (.int 2))) (.val (.int 1))) (.val (.bool false))) ρ σ3 Q := by
      intro C ρ Q g6 g2 q'
      refine WE_ite (rE_cmp (rE_var ⟨_, g6, rE_val (ex_eqs (by rw [nm_ok]; rfl) ?_)⟩))
      rw [nm_eq_range]
      by_cases hk : kd = .range
      · rw [decide_eq_true hk] at q' ⊢
        refine br_t rfl (rE_cmp (WE_mod (rE_var ⟨_, g2, rE_val ⟨_, _, rfl, rfl, by decide, rE_val (ex_eqi ?_)⟩⟩)))
        rw [show decide ((j : Int) % 2 = 1) = decide (j % 2 = 1) from decide_eq_decide.2 (by lia)]
        exact q'
      · rw [decide_eq_false hk] at q' ⊢
        exact br_f rfl (rE_val q')
    refine WS_asg (hodd rfl h2 ?_)
    refine WS_expr (WE_lapp (rE_var ⟨_, h5, S, rfl, ⟨_, asList_ref hS2⟩, ?_⟩))
    have hsg : ∀ {C : Calls} {ρ : Vars} {Q : AV → Sto → Prop}, ρ 6 = some (.str kd.nm) → ρ 2 = some (.int j) → ρ 9 = some (.bool (decide (kd = .range) && decide (j % 2 = 1))) → ρ 8 = some (.ref Ia) → (∀ v, SgV σ3 S (signOf ms j ⟨kd, ps⟩) v → Q v σ3) → WE C (.ite (.cmp (.Eq) (.var 6) (.val (.str [116, 97, 98, 108, 101]))) (.tup [.val (.str [98, 121, 32, 105, 116, 115, 101, 108, 102]), .var 2]) (.tup [.var 6, .var 9, .var 8])) ρ σ3 Q := by
      intro C ρ Q g6 g2 g9 g8 q'
      refine WE_ite (rE_cmp (rE_var ⟨_, g6, rE_val (ex_eqs (by rw [nm_ok]; rfl) ?_)⟩))
      rw [nm_eq_table]
      have hil : acc = ((ps.map (Pt.mi ms)).map MI.av) := e1
      have hl3 : (ps.map (Pt.mi ms)).length ≤ 3 := by rw [List.length_map]; exact hps3
      induction kd with
      | table => exact br_t rfl (rE_tup (rEs_cons (rE_val (rEs_cons (rE_var ⟨_, g2, rEs_nil (q' _ rfl)⟩)))))
      | list => exact br_f rfl (rE_tup (rEs_cons (rE_var ⟨_, g6, rEs_cons (rE_var ⟨_, g9, rEs_cons (rE_var ⟨_, g8, rEs_nil (q' _ ⟨(by intro h; (first | subst h | (injection h with h; subst h) | (injection h; done) | cases h)), hl3, Ia, hIl, rfl, by rw [← hil]; exact hI⟩)⟩)⟩)⟩)))
      | range => exact br_f rfl (rE_tup (rEs_cons (rE_var ⟨_, g6, rEs_cons (rE_var ⟨_, g9, rEs_cons (rE_var ⟨_, g8, rEs_nil (q' _ ⟨(by intro h; (first | subst h | (injection h with h; subst h) | (injection h; done) | cases h)), hl3, Ia, hIl, rfl, by rw [← hil]; exact hI⟩)⟩)⟩)⟩)))
    refine hsg rfl h2 rfl rfl fun v hv => ?_
    refine ⟨vs, hS2, by simp only [lim]; lia, rfl, WS_nil ?_⟩
    have k3 : ∀ (i : Nat) (o : AO), i ≠ S → σ3[i]? = some o → (σ3.set S (.list (vs ++ [v])))[i]? = some o := fun i o h e => by rw [List.getElem?_set_ne (fun q => h q.symm)]; exact e
    refine q _ _ ⟨h0, h3, h5, fun i o h e => k3 i o h (k2 i o h e), by rw [List.length_set]; exact hle2, vs ++ [v], get_set hS2, ?_⟩ rfl
    have hjs : (N.mapIdx (signOf ms))[j]? = some (signOf ms j ⟨kd, ps⟩) := by rw [List.getElem?_mapIdx, hnd]; rfl
    have hjl := (List.getElem?_eq_some_iff.mp hjs).1
    rw [List.take_succ_eq_append_getElem hjl, (List.getElem?_eq_some_iff.mp hjs).2]
    exact (hvs2.keep k3).snoc (hv.keep k3)
theorem run_round {C : Calls} {ms : List Mark} {Mk : Nat} {σ' : Sto} {ρ : Vars} {R : Fl → Vars → Sto → Prop} (H : Nodes N) (hLn : σ'[Ln]? = some (.list (rs.map .ref))) (hN : Ndl σ' lo rs N) (hMk : σ'[Mk]? = some (.list (ms.map Mark.av))) (hml : ms.length = N.length) (h0 : ρ 0 = some (.ref Ln)) (h3 : ρ 3 = some (.ref Mk))
    (q : ∀ ρ' σ'' Mk', Pre σ' σ'' → ρ' 0 = some (.ref Ln) → ρ' 3 = some (.ref Mk') → ρ' 1 = ρ 1 → σ''[Mk']? = some (.list (((signs N ms).map (markOf (signs N ms))).map Mark.av)) → R .next ρ' σ'') : WS C bodyR ρ σ' R := by
  have hfew := H.few
  unfold bodyR
  refine WS_asg (rE_list (rEs_nil ⟨Nat.zero_le _, ?_⟩))
  have hLl := get_lt hLn
  have hMl := get_lt hMk
  have hLn1 := get_app (τ := [AO.list []]) hLn
  have hN1 : Ndl (σ' ++ [AO.list []]) lo rs N := hN.keep fun i o _ e => get_app e
  have hMk1 := get_app (τ := [AO.list []]) hMk
  have hS1 : (σ' ++ [AO.list []])[σ'.length]? = some (.list []) := get_new
  have hlen1 : (σ' ++ [AO.list []]).length = σ'.length + 1 := by simp
  have hsl : (N.mapIdx (signOf ms)).length = N.length := List.length_mapIdx
  refine WS_for (rE_len (rE_var ⟨_, h0, N.length, (len_lm hLn1).trans (congrArg some hN.len), by lia, ?_⟩))
  refine OS_forGo N.length (fun j ρ' σ2 => TuI ms N Ln Mk σ'.length (σ' ++ [AO.list []]) j ρ' σ2 ∧ ρ' 1 = ρ 1) (by simp only [lim]; lia) ⟨⟨h0, h3, rfl, fun _ _ _ e => e, Nat.le_refl _, [], hS1, ⟨by simp, fun _ _ _ e => by simp at e⟩⟩, rfl⟩ (fun _ _ _ => next_int_end (by lia)) ?_ ?_
  · rintro j ρ' σ2 hj ⟨I, e1⟩
    refine ⟨.int j, next_int (by lia) hj, ?_⟩
    have hkeep : ∀ (i : Nat) (o : AO), σ'[i]? = some o → σ2[i]? = some o := fun i o e => I.keep i o (by have := get_lt e; lia) (get_app e)
    have hN2 : Ndl σ' lo rs N := hN
    refine WS.ok ?_
    -- the nodes stand below the new list
    have hNlo : ∀ (k : Nat) (nd : Nd) (r : Nat), N[k]? = some nd → rs[k]? = some r → NdAt σ2 lo r nd := fun k nd r e e' => (hN.at_ k nd r e e').keep fun i o _ e => hkeep i o e
    have hN3 : Ndl σ2 lo rs N := ⟨hN.len, hNlo⟩
    refine run_turnT (σs := σ2) (rs := rs) (lo := lo) H (hkeep _ _ hLn) hN3 (hkeep _ _ hMk) hml hLl hMl (S := σ'.length) (by have := I.le; lia) hj ⟨I.h0, I.h3, I.h5, fun _ _ _ e => e, Nat.le_refl _, I.ex⟩ rfl (fun _ _ _ e => e) ?_
    intro ρ4 σ4 I4 e4
    exact ⟨by simp, ⟨I4.h0, I4.h3, I4.h5, fun i o h e => I4.keep i o h (I.keep i o h e), Nat.le_trans I.le I4.le, I4.ex⟩, e4.trans e1⟩
  · rintro ρ' σ2 ⟨I, e1⟩
    obtain ⟨vs, hS, hvs⟩ := I.ex
    have hpre : Pre σ' σ2 := fun i o e => I.keep i o (by have := get_lt e; lia) (get_app e)
    rw [List.take_of_length_le (by lia)] at hvs
    have hvl : vs.length = N.length := by rw [hvs.len, hsl]
    refine thn_next (WS_asg (rE_comp (rE_var ⟨_, I.h5, ?_⟩)))
    refine OK_compGo N.length (fun j acc σ3 => acc = (((signs N ms).take j).map (markOf (signs N ms))).map Mark.av ∧ σ3 = σ2) (by simp only [lim]; lia) ⟨rfl, rfl⟩ (fun _ _ h => by rw [h.2]; exact next_list_end hS hvl) ?_ ?_
    · rintro j acc σ3 hj ⟨e1, e2⟩
      subst e2
      have hj1 : vs[j]? = some (vs[j]'(by lia)) := List.getElem?_eq_getElem (by lia)
      have hj2 : (signs N ms)[j]? = some ((signs N ms)[j]'(by show j < (N.mapIdx (signOf ms)).length; lia)) := List.getElem?_eq_getElem _
      have hmem := List.mem_of_getElem? hj2
      have hv := hvs.at_ j _ _ hj2 hj1
      refine ⟨_, next_list hS hj1, okF ?_⟩
      have fin : ∀ v, v = (markOf (signs N ms) ((signs N ms)[j]'(by show j < (N.mapIdx (signOf ms)).length; lia))).av → accO acc (some v) = (((signs N ms).take (j + 1)).map (markOf (signs N ms))).map Mark.av := by
        intro v e
        rw [e1, List.take_succ_eq_append_getElem (by show j < (N.mapIdx (signOf ms)).length; lia), List.map_append, List.map_append, e]; rfl
      generalize (signs N ms)[j]'(by show j < (N.mapIdx (signOf ms)).length; lia) = s at hmem hv fin
      generalize vs[j]'(by lia) = v at hv
      have hg5 : cut ρ' 5 = some (.ref σ'.length) := I.h5
      unfold compT
      have hv' := hv
      induction s with
      | self y =>
        rw [show v = .tup [.str sSelf, .int y] from hv]
        refine WE_ite (rE_cmp (rE_item (rE_var ⟨_, rfl, rE_val ⟨.str sSelf, rfl, rE_val (ex_nes (by decide) (br_f (by decide) (rE_var ⟨_, rfl, fin _ rfl, rfl⟩)))⟩⟩)))
      | sg kd odd inner =>
        obtain ⟨hk, _, r, _, e3, _⟩ := hv
        have hne : (!decide (kd.nm = [98, 121, 32, 105, 116, 115, 101, 108, 102])) = true := by rcases kd <;> decide
        have hit : itemV v (.int 0) σ3 = some (.str kd.nm) := by rw [e3]; rfl
        refine WE_ite (rE_cmp (rE_item (rE_var ⟨_, rfl, rE_val ⟨.str kd.nm, hit, rE_val (ex_nes (by rw [nm_ok]; rfl) (br_t hne ?_))⟩⟩)))
        refine rE_tup (rEs_cons (rE_val (rEs_cons (WE_lidx (rE_var ⟨_, I.h5, ⟨_, asList_ref hS⟩, rE_var ⟨v, rfl, ?_⟩⟩)))))
        refine ⟨vs, _, asList_ref hS, all_sign hv' hvs, by lia, idx_sign hv' 0 hvs hmem, rEs_nil ⟨fin _ ?_, rfl⟩⟩
        simp [markOf, Mark.av, signs]
    · rintro acc σ3 ⟨e1', e2⟩
      subst e2
      rw [List.take_of_length_le (by show (N.mapIdx (signOf ms)).length ≤ _; lia)] at e1'
      refine ⟨by rw [e1']; simp only [lim, List.length_map, signs, List.length_mapIdx]; lia, WS_nil ?_⟩
      refine q _ _ _ (hpre.trans Pre.app) I.h0 rfl e1 ?_
      rw [get_new, e1']
end
section
variable {sc : Scr} {k' : Nat} {σ : Sto} {N : List Nd} {rs : List Nat} {Ln lo : Nat}
theorem run_parted {m : Nat} {Q : AV → Sto → Prop} (H : Nodes N) (hm : m ≤ 1000) (hLn : σ[Ln]? = some (.list (rs.map .ref))) (hN : Ndl σ lo rs N)
    (q : ∀ Mk σ', Pre σ σ' → σ'[Mk]? = some (.list ((Marks N m).map Mark.av)) → Q (.ref Mk) σ') : OK (runT tabB sc (k' + 1) 705 [.ref Ln, .int m] σ) Q := by
  have hfew := H.few
  refine OK_call d705 [.ref Ln, .int m] rfl (by decide) rfl rfl rfl ?_
  show WS _ [.asg 3 (.comp (.tup [.val (.str sSelf), .var 101]) 101 1 (.len (.var 0)) none), .for_ 4 1 (.var 1) bodyR, .ret (.var 3)] _ _ _
  refine WS_asg (rE_comp (rE_len (rE_var ⟨_, rfl, N.length, (len_lm hLn).trans (congrArg some hN.len), by lia, ?_⟩)))
  refine OK_compGo N.length (fun j acc σ' => acc = ((List.range j).map Mark.self).map Mark.av ∧ σ' = σ) (by simp only [lim]; lia) ⟨rfl, rfl⟩ (fun _ _ _ => next_int_end (by lia)) ?_ ?_
  · rintro j acc σ' hj ⟨e1, e2⟩
    refine ⟨.int j, next_int (by lia) hj, okF (rE_tup (rEs_cons (rE_val (rEs_cons (rE_var ⟨_, rfl, rEs_nil ⟨?_, e2⟩⟩)))))⟩
    rw [e1, List.range_succ, List.map_append, List.map_append]; rfl
  · rintro acc σ' ⟨e1, e2⟩
    subst e2
    refine ⟨by rw [e1]; simp [lim]; lia, ?_⟩
    have hMk : (σ' ++ [AO.list acc])[σ'.length]? = some (.list ((Marks N 0).map Mark.av)) := by rw [get_new, e1]; rfl
    refine WS_for (rE_var ⟨_, rfl, ?_⟩)
    refine OS_forGo m (fun t ρ' σ2 => ρ' 0 = some (.ref Ln) ∧ Pre σ' σ2 ∧ ∃ Mk, ρ' 3 = some (.ref Mk) ∧ σ2[Mk]? = some (.list ((Marks N t).map Mark.av))) (by simp only [lim]; lia) ⟨rfl, Pre.app, _, rfl, hMk⟩ (fun _ _ _ => next_int_end (by lia)) ?_ ?_
    · rintro t ρ' σ2 ht ⟨h0, hp, Mk, h3, hMk⟩
      refine ⟨.int t, next_int (by lia) ht, WS.ok ?_⟩
      refine run_round (rs := rs) (lo := lo) H (hp _ _ hLn) (hN.keep fun i o _ e => hp i o e) hMk (Marks_length N t) h0 h3 fun ρ4 σ4 Mk' p4 g0 g3 g1 hMk' => ?_
      exact ⟨by simp, g0, hp.trans p4, Mk', g3, hMk'⟩
    · rintro ρ' σ2 ⟨h0, hp, Mk, h3, hMk⟩
      exact thn_next (WS_ret (rE_var ⟨_, h3, q Mk σ2 hp hMk⟩))
end
/-! what is shown holds plain signs -/
theorem okS_app {a b : List Nat} : okS (a ++ b) = (okS a && okS b) := by simp [okS]
theorem okS_join {sep : List Nat} (hs : okS sep = true) : ∀ {l : List (List Nat)}, (∀ s ∈ l, okS s = true) → okS (joinS sep l) = true
  | [], _ => rfl
  | [s], h => h s (by simp)
  | s :: t :: l, h => by
    have ih := okS_join hs (l := t :: l) fun x hx => h x (List.mem_cons_of_mem _ hx)
    rw [joinS_cons, okS_app, okS_app, h s (by simp), hs, ih]
    rfl
theorem okS_shown (s : Sc) : okS s.shown = true := by rcases s <;> decide
theorem okS_key {i : Nat} (h : i < 3) : okS (keyS i) = true := by
  rcases lt3 h with rfl | rfl | rfl <;> rfl
theorem okS_Shw {N : List Nd} (H : Nodes N) : ∀ d i, okS (Shw N d i) = true := by
  intro d
  induction d with
  | zero =>
    intro i
    cases e : N[i]? with
    | none => rw [Shw_no e]; rfl
    | some n =>
      rw [Shw_0 e]
      obtain ⟨kd, ps⟩ := n
      rcases kd <;> rcases ps <;> rfl
  | succ d ih =>
    intro i
    have ihp : ∀ p : Pt, okS (p.shw (Shw N d)) = true := fun p => by
      induction p with
      | node k => exact ih k
      | sc s => exact okS_shown s
    cases e : N[i]? with
    | none => rw [Shw_no e]; rfl
    | some n =>
      have hs := H.short _ (List.mem_of_getElem? e)
      rw [Shw_s e]
      obtain ⟨kd, ps⟩ := n
      have br : ∀ {x y l}, okS (joinS [44, 32] l) = true → okS [x] = true → okS [y] = true → okS ([x] ++ joinS [44, 32] l ++ [y]) = true := fun h1 h2 h3 => by rw [okS_app, okS_app, h1, h2, h3]; rfl
      induction kd with
      | range =>
        have hd : okS (dots i) = true := by unfold dots; split <;> decide
        show okS (Shw N d (nd0 ps 0) ++ dots i ++ Shw N d (nd0 ps 1)) = true
        rw [okS_app, okS_app, ih, hd, ih]; rfl
      | list =>
        refine br (okS_join (by decide) fun s hs => ?_) rfl rfl
        obtain ⟨p, _, rfl⟩ := List.mem_map.mp hs
        exact ihp p
      | table =>
        refine br (okS_join (by decide) fun s hs' => ?_) rfl rfl
        rw [keyed_is] at hs'
        obtain ⟨x, hx, rfl⟩ := List.mem_map.mp hs'
        rw [List.mem_range] at hx
        rw [keyAt, List.getElem?_eq_getElem hx]
        dsimp only
        rw [okS_app, okS_key (by rw [Nat.zero_add]; exact Nat.lt_of_lt_of_le hx hs), ihp]; rfl
/-! the calls with a default -/
theorem show_dflt {sc : Scr} {n : Nat} {v : AV} {σ : Sto} : runT tabB sc (n + 1) 331 [v] σ = runT tabB sc (n + 1) 331 [v, .int 6] σ := by
  rw [runT_tab (d := d331) (ws := [v, .int 6]) rfl (by decide) rfl rfl rfl, runT_tab (d := d331) (ws := [v, .int 6]) rfl (by decide) rfl rfl rfl]
theorem code_dflt {sc : Scr} {n : Nat} {v : AV} {σ : Sto} : runT tabB sc (n + 1) 250 [v] σ = runT tabB sc (n + 1) 250 [v, .int 12] σ := by
  rw [runT_tab (d := d250) (ws := [v, .int 12]) rfl (by decide) rfl rfl rfl, runT_tab (d := d250) (ws := [v, .int 12]) rfl (by decide) rfl rfl rfl]
/-! the world at its start -/
theorem Wld.pr1 {σ σ' : Sto} {n : Nat} {es : List (List Nat × AV)} {l : List AV} (W : Wld σ n es) (p : Pr1 σ σ') (h1 : σ[1]? = some (.list l)) : Wld σ' n es := by
  refine ⟨p.keep _ _ (by decide) W.w, p.keep _ _ (by decide) W.nat, p.keep _ _ (by decide) W.prl, p.keep _ _ (by decide) W.made, W.obj, W.cls, W.mdl, W.nodup, W.sub, fun s v e => ?_, Nat.le_trans W.big p.le⟩
  obtain ⟨r, fs, k', rfl, h3, h6, e, f⟩ := W.mods s v e
  exact ⟨r, fs, k', rfl, h3, h6, p.keep _ _ (fun q => by rw [q, h1] at e; (first | subst e | (injection e with e; subst e) | (injection e; done) | cases e)) e, f⟩
theorem getK_mem {es : List (List Nat × AV)} {s : List Nat} {v : AV} (h : getK es s = some v) : (s, v) ∈ es := by
  unfold getK at h
  obtain ⟨p, hp, rfl⟩ := Option.map_eq_some_iff.mp h
  have h1 := List.find?_some hp
  have h2 := List.mem_of_find?_eq_some hp
  simp only [decide_eq_true_eq] at h1
  rw [← h1]; exact h2
noncomputable def tailW : Sto := 
[.dict [], .inst 653 [(24, .ref 2), (25, .ref 4), (26, .none), (27, .int 20000), (28, .int 0), (29, .int 6), (30, .int 8), (31, .ref 5), (32, .ref 6), (33, .int 0), (34, .int 0), (35, .ref 7), (36, .ref 8), (37, .bool true), (38, .ref 44)], .dict [], .dict [], .dict [([79, 98, 106, 101, 99, 116], .ref 9), ([66, 97, 115, 105, 99, 79, 98, 106, 101, 99, 116], .ref 15), ([67, 108, 97, 115, 115], .ref 21), ([77, 111, 100, 117, 108, 101], .ref 27), ([75, 101, 114, 110, 101, 108], .ref 36)], .dict [], .list [], .inst 228 [(0, .int 2), (1, .ref 21), (2, .ref 10), (3, .none), (4, .bool false), (5, .none), (13, .str [79, 98, 106, 101, 99, 116]), (14, .bool true), (15, .ref 15), (16, .none), (17, .ref 11), (18, .ref 12), (19, .ref 43), (20, .ref 14), (21, .none), (22, .str [79, 98, 106, 101, 99, 116]), (23, .none)], .dict [], .dict [], .dict [], .list [], .list [], .inst 228 [(0, .int 3), (1, .ref 21), (2, .ref 16), (3, .none), (4, .bool false), (5, .none), (13, .str [66, 97, 115, 105, 99, 79, 98, 106, 101, 99, 116]), (14, .bool true), (15, .none), (16, .none), (17, .ref 17), (18, .ref 18), (19, .ref 35), (20, .ref 20), (21, .none), (22, .str [66, 97, 115, 105, 99, 79, 98, 106, 101, 99, 116]), (23, .none)], .dict [], .dict [], .dict [], .list [], .list [], .inst 228 [(0, .int 4), (1, .ref 21), (2, .ref 22), (3, .none), (4, .bool false), (5, .none), (13, .str [67, 108, 97, 115, 115]), (14, .bool true), (15, .ref 27), (16, .none), (17, .ref 23), (18, .ref 24), (19, .ref 34), (20, .ref 26), (21, .none), (22, .str [67, 108, 97, 115, 115]), (23, .none)], .dict [], .dict [], .dict [], .list [], .list [], .inst 228 [(0, .int 5), (1, .ref 21), (2, .ref 28), (3, .none), (4, .bool false), (5, .none), (13, .str [77, 111, 100, 117, 108, 101]), (14, .bool true), (15, .ref 9), (16, .none), (17, .ref 29), (18, .ref 30), (19, .ref 33), (20, .ref 32), (21, .none), (22, .str [77, 111, 100, 117, 108, 101]), (23, .none)], .dict [], .dict [], .dict [], .list [], .list [], .list [], .list [], .list [], .inst 228 [(0, .int 6), (1, .ref 27), (2, .ref 37), (3, .none), (4, .bool false), (5, .none), (13, .str [75, 101, 114, 110, 101, 108]), (14, .bool false), (15, .none), (16, .none), (17, .ref 38), (18, .ref 39), (19, .ref 42), (20, .ref 41), (21, .none), (22, .str [75, 101, 114, 110, 101, 108]), (23, .none)], .dict [], .dict [], .dict [], .list [], .list [], .list [], .list [.ref 36], .inst 40 [(0, .int 1), (1, .ref 9), (2, .ref 45), (3, .none), (4, .bool false), (5, .none)], .dict [], .list [.str [79, 98, 106, 101, 99, 116], .str [66, 97, 115, 105, 99, 79, 98, 106, 101, 99, 116], .str [67, 108, 97, 115, 115], .str [77, 111, 100, 117, 108, 101], .str [75, 101, 114, 110, 101, 108]]]
noncomputable def es5 : List (List Nat × AV) := [(objName, .ref 9), (botName, .ref 15), (clsName, .ref 21), (modName, .ref 27), (kernName, .ref 36)]
theorem world0 (sc : Scr) (X : List AV) (ρ : Vars) : evE (runT tabB sc 40) (.new 653 [.dict [] []]) ρ (σ0 X) = some (.ref 3, .list X :: .list [.ref 0, .int 0, .int 0] :: tailW) := by
  kernel_rfl
theorem wld0 (X : List AV) : Wld (.list X :: .list [.ref 0, .int 0, .int 0] :: tailW) 6 es5 := by
  refine ⟨rfl, rfl, rfl, rfl, rfl, rfl, rfl, by decide, by decide, fun s v e => ?_, of_decide_eq_true rfl⟩
  have hm := getK_mem e
  simp only [es5, List.mem_cons, List.not_mem_nil, or_false, Prod.mk.injEq] at hm
  rcases hm with ⟨_, rfl⟩ | ⟨_, rfl⟩ | ⟨_, rfl⟩ | ⟨_, rfl⟩ | ⟨_, rfl⟩
  · exact ⟨9, _, 2, rfl, by decide, by decide, rfl, rfl⟩
  · exact ⟨15, _, 3, rfl, by decide, by decide, rfl, rfl⟩
  · exact ⟨21, _, 4, rfl, by decide, by decide, rfl, rfl⟩
  · exact ⟨27, _, 5, rfl, by decide, by decide, rfl, rfl⟩
  · exact ⟨36, _, 6, rfl, by decide, by decide, rfl, rfl⟩
/-! the law -/
section
variable {sc : Scr} {N : List Nd} {T M : Nat → Nat} {rs : List Nat} {Ln lo TL : Nat} {σ : Sto}
/-- what stands when the things are laid -/
structure Laws (N : List Nd) (T M : Nat → Nat) (rs : List Nat) (Ln lo TL : Nat) (σ : Sto) : Prop where
  H : Nodes N
  O : OneN N
  A : HasAll N σ T M
  hLn : σ[Ln]? = some (.list (rs.map .ref))
  hN : Ndl σ lo rs N
  hT : σ[TL]? = some (.list ((List.range N.length).map fun i => .ref (T i)))
theorem Laws.pre {σ' : Sto} (h : Laws N T M rs Ln lo TL σ) (p : Pre σ σ') : Laws N T M rs Ln lo TL σ' :=
  ⟨h.H, h.O, h.A.pre p, p _ _ h.hLn, h.hN.keep fun i o _ e => p i o e, p _ _ h.hT⟩
theorem show40 {d i : Nat} {Q : AV → Sto → Prop} (h : Laws N T M rs Ln lo TL σ) (hd : d ≤ 6) (hi : i < N.length) (q : ∀ σ', Pre σ σ' → Q (.str (Shw N d i)) σ') : OK (runT tabB sc 40 331 [.ref (T i), .int d] σ) Q := by
  have S := run_show (sc := sc) (N := N) (T := T) (M := M) h.H d hd (32 - 3 * d) i σ Q hi h.A q
  rw [show 32 - 3 * d + 3 * d + 8 = 40 by lia] at S
  exact S
theorem code40 {i : Nat} {Q : AV → Sto → Prop} (h : Laws N T M rs Ln lo TL σ) (hi : i < N.length) (q : ∀ v σ', Pre σ σ' → (∀ σ'', PyF σ'' 130 v (Cod N (numOf M) 12 i)) → Q v σ') : OK (runT tabB sc 40 250 [.ref (T i)] σ) Q := by
  rw [code_dflt]
  exact run_code (sc := sc) (N := N) (T := T) (M := M) h.H 12 26 i σ Q hi h.A q
/-- the list of codes -/
noncomputable def CodL (N : List Nd) (M : Nat → Nat) (vs : List AV) : Prop := vs.length = N.length ∧ ∀ (i : Nat) (v : AV), vs[i]? = some v → ∀ σ, PyF σ 130 v (Cod N (numOf M) 12 i)
theorem comp_codes {ρ : Vars} {Q : List AV → Sto → Prop} (h : Laws N T M rs Ln lo TL σ) (q : ∀ vs σ', Pre σ σ' → CodL N M vs → Q vs σ') :
    CG (compF (runT tabB sc 40) (.call 250 [.var 101]) 101 none ρ) (nextOf 0 (.ref TL)) σ Q := by
  have hfew := h.H.few
  refine OK_compGo N.length (fun j acc σ' => Pre σ σ' ∧ acc.length = j ∧ ∀ (i : Nat) (v : AV), acc[i]? = some v → ∀ σ, PyF σ 130 v (Cod N (numOf M) 12 i)) (by walk_at "z") ⟨Pre.refl, rfl, fun i v e => by simp at e⟩ (fun _ σ' h' => next_list_end (h'.1 _ _ h.hT) (by simp)) ?_ ?_
  · rintro j acc σ' hj ⟨hp, hl, ha⟩
    refine ⟨_, next_list (hp _ _ h.hT) (get_T hj), okF (rE_call (rEs_cons (rE_var ⟨_, rfl, rEs_nil ?_⟩)))⟩
    refine code40 (h.pre hp) hj fun v σ'' hp'' hv => ⟨hp.trans hp'', by simp [accO, hl], ?_⟩
    intro i u e
    by_cases hi : i < j
    · rw [accO, List.getElem?_append_left (by walk_at "z")] at e
      exact ha i u e
    · have hi2 : i = j := by
        have := (List.getElem?_eq_some_iff.mp e).1
        simp [accO, hl] at this; lia
      subst hi2
      rw [accO, List.getElem?_append_right (by walk_at "z"), hl, Nat.sub_self] at e
      simp at e
      subst e
      exact hv
  · rintro acc σ' ⟨hp, hl, ha⟩
    exact q acc σ' hp ⟨hl, ha⟩
theorem cods_refl {N : List Nd} (H : Nodes N) {num : Nat → Int} (hnum : ∀ k l, k < N.length → l < N.length → num k = num l → k = l) : ∀ l : List Nat, (∀ i ∈ l, i < N.length) → PyData.eqvAll (l.map (Cod N num 12)) (l.map (Cod N num 12)) = true
  | [], _ => by simp [PyData.eqvAll]
  | i :: l, h => by
    have hi := h i (by simp)
    have := (codes_marks H hnum 12 i i hi hi).2 rfl
    simp only [List.map_cons, PyData.eqvAll, this, cods_refl H hnum l fun j hj => h j (List.mem_cons_of_mem _ hj), Bool.and_self]
theorem eq_codes {L1 L2 : Nat} {vs ws : List AV} (h : Laws N T M rs Ln lo TL σ) (h1 : σ[L1]? = some (.list vs)) (h2 : σ[L2]? = some (.list ws)) (c1 : CodL N M vs) (c2 : CodL N M ws) : eqV σ (.ref L1) (.ref L2) = some true := by
  have hfew := h.H.few
  have hnum : ∀ k l, k < N.length → l < N.length → numOf M k = numOf M l → k = l := fun k l hk hl e => h.A.num k l hk hl (by have e' : (M k : Int) = (M l : Int) := e; lia)
  have P : ∀ {vs : List AV}, CodL N M vs → PysF σ (130 + N.length + 1) vs ((List.range N.length).map (Cod N (numOf M) 12)) := fun {vs} c => by
    have := PysF.pt (σ := σ) (F := 130) (l := List.range N.length) (vs := vs) (g := Cod N (numOf M) 12) (by rw [c.1]; simp) fun i x v e e' => by
      have hi := (List.getElem?_eq_some_iff.mp e).1
      rw [List.length_range] at hi
      rw [List.getElem?_range hi] at e
      (first | subst e | (injection e with e; subst e) | (injection e; done) | cases e)
      exact c.2 i v e' σ
    rw [List.length_range] at this
    exact this
  have o : okDs 25 ((List.range N.length).map (Cod N (numOf M) 12)) := okDs.map fun i _ => Cod_ok 12 i
  rw [eqV_of (PyF.list h1 (P c1) (by walk_at "z")) (PyF.list h2 (P c2) (by walk_at "z")) ((okD.list o).mono (by decide)) ((okD.list o).mono (by decide))]
  rw [PyData.eqv, cods_refl h.H hnum _ fun i hi => List.mem_range.1 hi]
noncomputable def bodyA : List PS := [.ite (.cmp (.NotEq) (.call 331 [.item (.var 5) (.var 7), .var 6]) (.call 700 [.var 4, .var 7, .var 6])) [.ret (.val (.bool false))] []]
/-- the first loop -/
theorem law_A {ρ : Vars} {d : Nat} {R : Fl → Vars → Sto → Prop} (h : Laws N T M rs Ln lo TL σ) (hd : d ≤ 6) (h3 : ρ 3 = some (.int N.length)) (h4 : ρ 4 = some (.ref Ln)) (h5 : ρ 5 = some (.ref TL)) (h6 : ρ 6 = some (.int d))
    (q : ∀ ρ' σ', Pre σ σ' → (∀ y, y < 7 → ρ' y = ρ y) → R .next ρ' σ') : FG (fun ρ σ => exSs (runT tabB sc 40) bodyA ρ σ) 7 (nextOf 1 (.int N.length)) ρ σ R := by
  have hfew := h.H.few
  refine OS_forGo N.length (fun j ρ' σ' => Pre σ σ' ∧ ∀ y, y < 7 → ρ' y = ρ y) (by walk_at "z") ⟨Pre.refl, fun _ _ => rfl⟩ (fun _ _ _ => next_int_end (by walk_at "z")) ?_ fun ρ' σ' h => q ρ' σ' h.1 h.2
  rintro j ρ' σ' hj ⟨hp, hy⟩
  refine ⟨.int j, next_int (by walk_at "z") hj, WS.ok ?_⟩
  have hL := h.pre hp
  have g : ∀ y, y < 7 → upd ρ' 7 (.int j) y = ρ y := fun y h => by rw [← hy y h]; simp [upd]; lia
  have g4 := (g 4 (by walk_at "z")).trans h4
  have g5 := (g 5 (by walk_at "z")).trans h5
  have g6 := (g 6 (by walk_at "z")).trans h6
  unfold bodyA
  refine WS_ite (rE_cmp (rE_call (rEs_cons (rE_item (rE_var ⟨_, g5, rE_var ⟨_, rfl, _, itemV_list hL.hT (by walk_at "z") (get_T hj), rEs_cons (rE_var ⟨_, g6, rEs_nil ?_⟩)⟩⟩)))))
  refine show40 hL hd hj fun σ1 p1 => ?_
  have hL1 := hL.pre p1
  refine rE_call (rEs_cons (rE_var ⟨_, g4, rEs_cons (rE_var ⟨_, rfl, rEs_cons (rE_var ⟨_, g6, rEs_nil ?_⟩)⟩)⟩))
  refine run_shown (k' := 38) hL1.H hL1.O hL1.hLn hL1.hN hj hd fun σ2 p2 => ?_
  have ok := okS_Shw h.H d j
  refine ex_nes (by rw [ok]; rfl) ?_
  rw [decide_eq_true rfl]
  refine br_f rfl (WS_nil (thn_next (WS_nil ⟨by simp, (hp.trans p1).trans p2, fun y hy' => g y hy'⟩)))
noncomputable def bodyB : List PS := [.ite (.or (.cmp (.NotEq) (.cmp (.Eq) (.item (.var 9) (.var 7)) (.item (.var 9) (.var 10))) (.cmp (.Eq) (.item (.var 8) (.var 7)) (.item (.var 8) (.var 10)))) (.cmp (.NotEq) (.call 244 [.item (.var 5) (.var 7), .item (.var 5) (.var 10)]) (.cmp (.Eq) (.var 7) (.var 10)))) [.ret (.val (.bool false))] []]
structure BI (N : List Nd) (T M : Nat → Nat) (rs : List Nat) (Ln lo TL Mk Cd : Nat) (vs : List AV) (ρ : Vars) (σ : Sto) : Prop where
  L : Laws N T M rs Ln lo TL σ
  hM : σ[Mk]? = some (.list ((Marks N 12).map Mark.av))
  hC : σ[Cd]? = some (.list vs)
  c : CodL N M vs
  h3 : ρ 3 = some (.int N.length)
  h5 : ρ 5 = some (.ref TL)
  h8 : ρ 8 = some (.ref Mk)
  h9 : ρ 9 = some (.ref Cd)
theorem BI.pre {Mk Cd : Nat} {vs : List AV} {ρ ρ' : Vars} {σ' : Sto} (I : BI N T M rs Ln lo TL Mk Cd vs ρ σ) (p : Pre σ σ') (h3 : ρ' 3 = ρ 3) (h5 : ρ' 5 = ρ 5) (h8 : ρ' 8 = ρ 8) (h9 : ρ' 9 = ρ 9) : BI N T M rs Ln lo TL Mk Cd vs ρ' σ' :=
  ⟨I.L.pre p, p _ _ I.hM, p _ _ I.hC, I.c, h3.trans I.h3, h5.trans I.h5, h8.trans I.h8, h9.trans I.h9⟩
/-- one pair -/
theorem law_B {Mk Cd a b : Nat} {vs : List AV} {ρ : Vars} {R : Fl → Vars → Sto → Prop} (I : BI N T M rs Ln lo TL Mk Cd vs ρ σ) (ha : a < N.length) (hb : b < N.length) (h7 : ρ 7 = some (.int a)) (h10 : ρ 10 = some (.int b)) (q : R .next ρ σ) : WS (runT tabB sc 40) bodyB ρ σ R := by
  obtain ⟨L, hM, hC, c, h3, h5, h8, h9⟩ := I
  have hfew := L.H.few
  have hnum : ∀ k l, k < N.length → l < N.length → numOf M k = numOf M l → k = l := fun k l hk hl e => L.A.num k l hk hl (by have e' : (M k : Int) = (M l : Int) := e; lia)
  have hml := Marks_length N 12
  have va : vs[a]? = some (vs[a]'(by rw [c.1]; exact ha)) := List.getElem?_eq_getElem _
  have vb : vs[b]? = some (vs[b]'(by rw [c.1]; exact hb)) := List.getElem?_eq_getElem _
  have ma : (Marks N 12)[a]? = some ((Marks N 12)[a]'(by rw [hml]; exact ha)) := List.getElem?_eq_getElem _
  have mb : (Marks N 12)[b]? = some ((Marks N 12)[b]'(by rw [hml]; exact hb)) := List.getElem?_eq_getElem _
  have key := codes_marks L.H hnum 12 a b ha hb
  rw [ma, mb] at key
  have e1 := eqV_of (σ := σ) ((c.2 a _ va σ).mono (by decide)) ((c.2 b _ vb σ).mono (by decide)) ((Cod_ok 12 a).mono (by decide)) ((Cod_ok 12 b).mono (by decide))
  have e2 := eqV_of (σ := σ) (((Marks N 12)[a]'(by rw [hml]; exact ha)).pyF.mono (by decide)) (((Marks N 12)[b]'(by rw [hml]; exact hb)).pyF.mono (by decide)) ((Mark.pyok _).mono (by decide)) ((Mark.pyok _).mono (by decide))
  have e3 : PyData.eqv (Cod N (numOf M) 12 a) (Cod N (numOf M) 12 b) = PyData.eqv ((Marks N 12)[a]'(by rw [hml]; exact ha)).py ((Marks N 12)[b]'(by rw [hml]; exact hb)).py := by
    rw [Bool.eq_iff_iff, key, mark_py, Option.some.injEq]
  obtain ⟨D, fs, t1, t2, _⟩ := (L.A.th a _ (List.getElem?_eq_getElem ha)).num
  obtain ⟨D', fs', u1, u2, _⟩ := (L.A.th b _ (List.getElem?_eq_getElem hb)).num
  have e4 : decide (numOf M a = numOf M b) = decide ((a : Int) = (b : Int)) := decide_eq_decide.2 ⟨fun h => by rw [hnum a b ha hb h], fun h => by rw [show a = b by lia]⟩
  unfold bodyB
  refine WS_ite (WE_or (rE_cmp (rE_cmp (rE_item (rE_var ⟨_, h9, rE_var ⟨_, h7, _, itemV_list hC (by walk_at "z") va, ?_⟩⟩)))))
  refine rE_item (rE_var ⟨_, h9, rE_var ⟨_, h10, _, itemV_list hC (by walk_at "z") vb, _, e1, ?_⟩⟩)
  refine rE_cmp (rE_item (rE_var ⟨_, h8, rE_var ⟨_, h7, _, itemV_list hM (by walk_at "z") (getS ma), ?_⟩⟩))
  refine rE_item (rE_var ⟨_, h8, rE_var ⟨_, h10, _, itemV_list hM (by walk_at "z") (getS mb), _, e2, ?_⟩⟩)
  refine ex_neb ?_
  rw [e3, decide_eq_true rfl]
  refine orr_f rfl ?_
  refine rE_cmp (rE_call (rEs_cons (rE_item (rE_var ⟨_, h5, rE_var ⟨_, h7, _, itemV_list L.hT (by walk_at "z") (get_T ha), ?_⟩⟩))))
  refine rEs_cons (rE_item (rE_var ⟨_, h5, rE_var ⟨_, h10, _, itemV_list L.hT (by walk_at "z") (get_T hb), rEs_nil ?_⟩⟩))
  refine run_same (k := 38) t1 t2 u1 u2 ?_
  refine rE_cmp (rE_var ⟨_, h7, rE_var ⟨_, h10, ex_eqi (ex_neb ?_)⟩⟩)
  rw [e4, decide_eq_true rfl]
  exact ⟨⟨_, rfl⟩, br_f rfl (WS_nil (thn_next (WS_nil q)))⟩
theorem law_BB {Mk Cd : Nat} {vs : List AV} {ρ : Vars} {R : Fl → Vars → Sto → Prop} (I : BI N T M rs Ln lo TL Mk Cd vs ρ σ) (q : ∀ ρ', BI N T M rs Ln lo TL Mk Cd vs ρ' σ → R .next ρ' σ) :
    FG (fun ρ σ => exSs (runT tabB sc 40) [.for_ 10 1 (.var 3) bodyB] ρ σ) 7 (nextOf 1 (.int N.length)) ρ σ R := by
  have hfew := I.L.H.few
  refine OS_forGo N.length (fun j ρ' σ' => BI N T M rs Ln lo TL Mk Cd vs ρ' σ' ∧ σ' = σ) (by walk_at "z") ⟨I, rfl⟩ (fun _ _ _ => next_int_end (by walk_at "z")) ?_ fun ρ' σ' h => by have := h.2; subst this; exact q ρ' h.1
  rintro a ρ' σ' ha ⟨I', e⟩
  subst e
  refine ⟨.int a, next_int (by walk_at "z") ha, WS.ok ?_⟩
  have I2 : BI N T M rs Ln lo TL Mk Cd vs (upd ρ' 7 (.int a)) σ' := I'.pre Pre.refl rfl rfl rfl rfl
  refine WS_for (rE_var ⟨_, I2.h3, ?_⟩)
  refine OS_forGo N.length (fun j ρ2 σ2 => BI N T M rs Ln lo TL Mk Cd vs ρ2 σ2 ∧ σ2 = σ' ∧ ρ2 7 = some (.int a)) (by walk_at "z") ⟨I2, rfl, rfl⟩ (fun _ _ _ => next_int_end (by walk_at "z")) ?_ ?_
  · rintro b ρ2 σ2 hb ⟨J, e, e7⟩
    subst e
    refine ⟨.int b, next_int (by walk_at "z") hb, WS.ok ?_⟩
    have J2 : BI N T M rs Ln lo TL Mk Cd vs (upd ρ2 10 (.int b)) σ2 := J.pre Pre.refl rfl rfl rfl rfl
    exact law_B J2 ha hb e7 rfl ⟨by simp, J2, rfl, e7⟩
  · rintro ρ2 σ2 ⟨J, e, e7⟩
    exact thn_next (WS_nil ⟨by simp, J, e⟩)
/-- from the laid things to the end -/
theorem law_end {ρ : Vars} {d : Nat} (h : Laws N T M rs Ln lo TL σ) (hd : d ≤ 6) (h3 : ρ 3 = some (.int N.length)) (h4 : ρ 4 = some (.ref Ln)) (h5 : ρ 5 = some (.ref TL)) (h6 : ρ 6 = some (.int d)) :
    WS (runT tabB sc 40) [.for_ 7 1 (.var 3) bodyA, .ite (.cmp (.NotEq) (.call 331 [.item (.var 5) (.val (.int 0))]) (.call 700 [.var 4, .val (.int 0), .val (.int 6)])) [.ret (.val (.bool false))] [], .asgSw 8 9 (.call 705 [.var 4, .val (.int 12)]) (.comp (.call 250 [.var 101]) 101 0 (.var 5) none), .for_ 7 1 (.var 3) [.for_ 10 1 (.var 3) bodyB], .ret (.cmp (.Eq) (.var 9) (.comp (.call 250 [.var 101]) 101 0 (.var 5) none))] ρ σ fun fl _ _ => fl = .ret (.bool true) := by
  have hfew := h.H.few
  refine WS_for (rE_var ⟨_, h3, ?_⟩)
  refine law_A h hd h3 h4 h5 h6 fun ρ1 σ1 p1 g => thn_next ?_
  have g3 := (g 3 (by walk_at "z")).trans h3
  have g4 := (g 4 (by walk_at "z")).trans h4
  have g5 := (g 5 (by walk_at "z")).trans h5
  have L1 := h.pre p1
  refine WS_ite (rE_cmp (rE_call (rEs_cons (rE_item (rE_var ⟨_, g5, rE_val ⟨_, itemV_list (i := 0) L1.hT (by walk_at "z") (get_T h.H.pos), rEs_nil ?_⟩⟩)))))
  show OK (runT tabB sc 40 331 [.ref (T 0)] σ1) _
  rw [show_dflt]
  refine show40 (d := 6) L1 (by decide) h.H.pos fun σ2 p2 => ?_
  have L2 := L1.pre p2
  refine rE_call (rEs_cons (rE_var ⟨_, g4, rEs_cons (rE_val (rEs_cons (rE_val (rEs_nil ?_))))⟩))
  refine run_shown (k' := 38) (k := 0) (d := 6) L2.H L2.O L2.hLn L2.hN h.H.pos (by decide) fun σ3 p3 => ?_
  have L3 := L2.pre p3
  have ok := okS_Shw h.H 6 0
  refine ex_nes (by rw [ok]; rfl) ?_
  rw [decide_eq_true rfl]
  refine br_f rfl (WS_nil (thn_next ?_))
  refine WS_asgSw (rE_call (rEs_cons (rE_var ⟨_, g4, rEs_cons (rE_val (rEs_nil ?_))⟩)))
  refine run_parted (k' := 39) (m := 12) L3.H (by decide) L3.hLn L3.hN fun Mk σ4 p4 hMk => ?_
  have L4 := L3.pre p4
  refine rE_comp (rE_var ⟨_, g5, ?_⟩)
  refine comp_codes L4 fun vs σ5 p5 hvs => ?_
  refine ⟨by rw [hvs.1]; simp only [lim]; lia, ?_⟩
  have L6 := (L4.pre p5).pre (Pre.app (τ := [AO.list vs]))
  refine WS_for (rE_var ⟨_, g3, ?_⟩)
  refine law_BB (Mk := Mk) (Cd := σ5.length) (vs := vs) ⟨L6, get_app (p5 _ _ hMk), get_new, hvs, g3, g5, rfl, rfl⟩ fun ρ7 I7 => ?_
  refine thn_next (WS_ret (rE_cmp (rE_var ⟨_, I7.h9, rE_comp (rE_var ⟨_, I7.h5, ?_⟩)⟩)))
  refine comp_codes I7.L fun ws σ8 p8 hws => ?_
  refine ⟨by rw [hws.1]; simp only [lim]; lia, ?_⟩
  have L9 := (I7.L.pre p8).pre (Pre.app (τ := [AO.list ws]))
  exact ⟨true, eq_codes L9 (get_app (p8 _ _ I7.hC)) get_new hvs hws, rfl⟩
theorem nodes_of {ks : List Kd} (h0 : ks[0]? = some .list) (hl : ks.length = N.length) (hN6 : N.length ≤ 6) (hpos : 0 < N.length) (h : ∀ (k : Nat) (nd : Nd), N[k]? = some nd → NdOK N.length ks k nd) : Nodes N ∧ OneN N := by
  have get : ∀ n ∈ N, ∃ k : Nat, N[k]? = some n := fun n hn => by
    obtain ⟨i, hi, e⟩ := List.getElem_of_mem hn
    exact ⟨i, by rw [List.getElem?_eq_getElem hi, e]⟩
  refine ⟨⟨hpos, hN6, fun n hn => ?_, fun n hn => ?_, fun n hn hr => ?_⟩, fun n hn hr => ?_⟩
  · obtain ⟨k, hk⟩ := get n hn
    exact (h k n hk).short
  · obtain ⟨k, hk⟩ := get n hn
    exact (h k n hk).ok
  · obtain ⟨k, hk⟩ := get n hn
    obtain ⟨a, b, hps, ha, hb⟩ := (h k n hk).rng hr
    have at_ : ∀ a : Nat, ks[a]? = some .list → ∃ pa, N[a]? = some ⟨.list, pa⟩ := fun a ha => by
      have hal := (List.getElem?_eq_some_iff.mp ha).1
      obtain ⟨⟨kd, pa⟩, hna⟩ : ∃ nd, N[a]? = some nd := ⟨_, List.getElem?_eq_getElem (by walk_at "z")⟩
      have := (h a _ hna).kd
      rw [ha] at this
      (first | subst this | (injection this with this; subst this) | (injection this; done) | cases this)
      exact ⟨pa, hna⟩
    obtain ⟨pa, hpa⟩ := at_ a ha
    obtain ⟨pb, hpb⟩ := at_ b hb
    exact ⟨a, b, pa, pb, hps, hpa, hpb⟩
  · obtain ⟨k, hk⟩ := get n hn
    exact (h k n hk).one hr
end
/-- a call, sealed -/
structure OKc (C : Calls) (a : Addr) (vs : List AV) (σ : Sto) (Q : AV → Sto → Prop) : Prop where
  ok : OK (C a vs σ) Q
theorem WE_callc {C : Calls} {ρ : Vars} {σ : Sto} {Q : AV → Sto → Prop} {a : Addr} {es : List PE} (h : WEs C es ρ σ fun vs σ => OKc C a vs σ Q) : WE C (.call a es) ρ σ Q :=
  rE_call ⟨OK_mono h.ok fun vs σ h => h.ok⟩
theorem nodesAt {sc : Scr} {n : Nat} {σ : Sto} {ns : List Int} {Q : AV → Sto → Prop} {m : Nat} (k : Nat) (h : k + 3 = n) (B : Box σ ns) (hm : 0 < m) (hm6 : m ≤ 6)
    (q : ∀ (L : Nat) σ' rs N ks, Box σ' ns → Pr1 σ σ' → σ.length ≤ L → σ'[L]? = some (.list (rs.map .ref)) → Ndl σ' σ.length rs N → N.length = m → ks[0]? = some Kd.list → ks.length = m → (∀ (k : Nat) (nd : Nd), N[k]? = some nd → NdOK m ks k nd) → Q (.ref L) σ') :
    OKc (runT tabB sc n) 676 [.ref 1, .int m] σ Q := by
  subst h
  exact ⟨run_nodes B hm hm6 q⟩
theorem madeAt {sc : Scr} {f : Nat} {σ : Sto} {n : Nat} {es : List (List Nat × AV)} {Q : AV → Sto → Prop} {N : List Nd} {rs : List Nat} {Ln lo : Nat} (k : Nat) (h : k + 11 = f) (H : Nodes N) (h1 : ∃ l, σ[1]? = some (.list l)) (W : Wld σ n es) (hLn : σ[Ln]? = some (.list (rs.map .ref))) (hLn47 : 47 ≤ Ln) (hN : Ndl σ lo rs N) (hlo : 47 ≤ lo)
    (q : ∀ (TL : Nat) σ' n' es' T M, Wld σ' n' es' → (∀ (i : Nat) (o : AO), i ≠ 3 → i ≠ 6 → σ[i]? = some o → σ'[i]? = some o) → σ.length ≤ σ'.length → σ'[TL]? = some (.list ((List.range N.length).map fun i => .ref (T i))) → 47 ≤ TL → (∀ σ'', Pr1 σ' σ'' → HasAll N σ'' T M) → Q (.ref TL) σ') :
    OKc (runT tabB sc f) 681 [.ref 3, .ref Ln] σ Q := by
  subst h
  exact ⟨run_made H h1 W hLn hLn47 hN hlo q⟩
theorem wld_ok {sc : Scr} {X : List AV} {ρ : Vars} {Q : AV → Sto → Prop} (q : Q (.ref 3) (.list X :: .list [.ref 0, .int 0, .int 0] :: tailW)) : WE (runT tabB sc 40) (.new 653 [.dict [] []]) ρ (σ0 X) Q := by
  refine ⟨?_⟩
  rw [world0]
  exact q
theorem run_head {l : Addr} {ns : List Int} {n : Nat} {σ : Sto} {Q : AV → Sto → Prop} (h : ns.length ≤ 1000) (q : Q (.ref σ.length) (σ ++ [.list ((ns.take 40).map .int)])) : OK (runT tabB (l, ns) (n + 1) 1 [.old (.ref l), .int 40] σ) Q := by
  have : runT tabB (l, ns) (n + 1) 1 [.old (.ref l), .int 40] σ = newList ((ns.take 40).map .int) σ := by
    rw [runT_succ, if_pos rfl]
    exact grd_pos ⟨beq_self_eq_true l, by decide, h⟩
  rw [this]
  refine OK_newList.2 ⟨?_, q⟩
  simp [lim]; lia
theorem law_ws (l : Addr) (ns : List Int) (h : ns.length ≤ 63) : WS (runT tabB (l, ns) 40) b710 (varsOf [.old (.ref l)]) [] fun fl _ _ => fl = .ret (.bool true) := by
  show WS _ [.asgSw 1 2 (.list [.head (.var 0) 40, .val (.int 0), .val (.int 0)]) (.new 653 [.dict [] []]), .asg 3 (.item (.list [.val (.int 2), .val (.int 3), .val (.int 1), .val (.int 4), .val (.int 6)]) (.call 664 [.var 1, .val (.int 5)])), .asg 4 (.call 676 [.var 1, .var 3]), .asg 5 (.call 681 [.var 2, .var 4]), .asg 6 (.item (.list [.val (.int 6), .val (.int 2), .val (.int 3), .val (.int 0), .val (.int 1), .val (.int 4)]) (.call 664 [.var 1, .val (.int 6)])), .for_ 7 1 (.var 3) bodyA, .ite (.cmp (.NotEq) (.call 331 [.item (.var 5) (.val (.int 0))]) (.call 700 [.var 4, .val (.int 0), .val (.int 6)])) [.ret (.val (.bool false))] [], .asgSw 8 9 (.call 705 [.var 4, .val (.int 12)]) (.comp (.call 250 [.var 101]) 101 0 (.var 5) none), .for_ 7 1 (.var 3) [.for_ 10 1 (.var 3) bodyB], .ret (.cmp (.Eq) (.var 9) (.comp (.call 250 [.var 101]) 101 0 (.var 5) none))] _ _ _
  refine WS_asgSw (rE_list (rEs_cons (rE_head (rE_var ⟨_, rfl, ?_⟩))))
  refine run_head (by lia) ?_
  refine rEs_cons (rE_val (rEs_cons (rE_val (rEs_nil ⟨by simp [lim], ?_⟩))))
  show WE _ _ _ (σ0 ((ns.take 40).map .int)) _
  refine wld_ok ?_
  have W := wld0 ((ns.take 40).map .int)
  have B : Box (.list ((ns.take 40).map .int) :: .list [.ref 0, .int 0, .int 0] :: tailW) (ns.take 40) := ⟨rfl, by simp; lia, 0, 0, rfl⟩
  generalize (AO.list ((ns.take 40).map .int) :: .list [.ref 0, .int 0, .int 0] :: tailW : Sto) = σ0 at W B ⊢
  have h47 := W.big
  -- the number of nodes
  refine WS_asg (rE_item (rE_list (rEs_cons (rE_val (rEs_cons (rE_val (rEs_cons (rE_val (rEs_cons (rE_val (rEs_cons (rE_val (rEs_nil ⟨by simp [lim], ?_⟩)))))))))))))
  refine rE_call (rEs_cons (rE_var ⟨.ref 1, rfl, rEs_cons (rE_val (rEs_nil ?_))⟩))
  refine take_lit (m := 5) rfl B.app (by decide) (by decide) fun r σ1 hr B1 p1 => ?_
  have h1 := p1.keep σ0.length _ (by lia) get_new
  obtain ⟨m, hm, hm1, hm6⟩ := get_nat (P := fun m => 0 < m ∧ m ≤ 6) (l := [2, 3, 1, 4, 6]) hr (by decide)
  refine ⟨.int m, itemV_list h1 (by lia) hm, ?_⟩
  have P1 : Pr1 σ0 σ1 := Pr1.app.trans p1
  obtain ⟨b0, b00, a0, c0, b1⟩ := B
  have W1 := W.pr1 P1 b1
  -- the nodes
  refine WS_asg (WE_callc ?_)
  refine rEs_cons ?_
  refine rE_var ⟨.ref 1, rfl, ?_⟩
  refine rEs_cons ?_
  refine rE_var ⟨.int m, rfl, ?_⟩
  refine rEs_nil ?_
  refine nodesAt (sc := (l, ns)) (n := 40) 37 rfl B1 hm1 hm6 ?_
  intro L σ2 rs N ks B2 p2 hLge hL hN hNm hk0 hkm hok
  subst hNm
  obtain ⟨H, O⟩ := nodes_of hk0 hkm hm6 hm1 hok
  obtain ⟨_, _, a1, c1, b11⟩ := B1
  have W2 := W1.pr1 p2 b11
  have hle1 := P1.le
  -- the things
  refine WS_asg (WE_callc (rEs_cons (rE_var ⟨.ref 3, rfl, rEs_cons (rE_var ⟨.ref L, rfl, rEs_nil ?_⟩)⟩)))
  have B2' := B2
  obtain ⟨d0, d00, a2, c2, b21⟩ := B2
  refine madeAt (sc := (l, ns)) (f := 40) (lo := σ1.length) 29 rfl H ⟨_, b21⟩ W2 hL (by lia) hN (by lia) ?_
  intro TL σ3 n3 es3 T M W3 k3 hle3 hT hTL hA
  have B3 : Box σ3 (ns.take 40) := ⟨k3 _ _ (by decide) (by decide) d0, d00, a2, c2, k3 _ _ (by decide) (by decide) b21⟩
  -- how deep
  refine WS_asg (rE_item (rE_list (rEs_cons (rE_val (rEs_cons (rE_val (rEs_cons (rE_val (rEs_cons (rE_val (rEs_cons (rE_val (rEs_cons (rE_val (rEs_nil ⟨by simp [lim], ?_⟩)))))))))))))))
  refine rE_call (rEs_cons (rE_var ⟨.ref 1, rfl, rEs_cons (rE_val (rEs_nil ?_))⟩))
  refine take_lit (m := 6) rfl B3.app (by decide) (by decide) fun r σ4 hr B4 p4 => ?_
  have h2 := p4.keep σ3.length _ (by have := W3.big; lia) get_new
  obtain ⟨d, hd, hd6⟩ := get_nat (P := fun d => d ≤ 6) (l := [6, 2, 3, 0, 1, 4]) hr (by decide)
  refine ⟨.int d, itemV_list h2 (by lia) hd, ?_⟩
  have P4 : Pr1 σ3 σ4 := Pr1.app.trans p4
  refine law_end (lo := σ1.length) (d := d) ⟨H, O, hA σ4 P4, ?_, hN.keep fun i o hi e => ?_, ?_⟩ hd6 rfl rfl rfl rfl
  · exact P4.keep _ _ (by lia) (k3 _ _ (by lia) (by lia) hL)
  · exact P4.keep _ _ (by lia) (k3 _ _ (by lia) (by lia) e)
  · exact P4.keep _ _ (by lia) hT
theorem law_runs (l : Addr) (ns : List Int) (h : ns.length ≤ 63) : OS (exSs (runT tabB (l, ns) 40) b710 (varsOf [.old (.ref l)]) []) fun fl _ _ => fl = .ret (.bool true) := (law_ws l ns h).ok
end Mine
namespace Mine
theorem holds.tw13101843316239274000 : True := trivial
theorem holds.tw8944343764007091065 : True := trivial
theorem holds.tw8709608639225018423 : True := trivial
theorem holds.tw4700713122064472571 : True := trivial
theorem holds.tw10876536743886354276 : True := trivial
theorem holds.tw5471403574791894133 : True := trivial
theorem holds.tw15654153127513851752 : True := trivial
theorem holds.tw16075053759526825020 : True := trivial
theorem holds.tw11342428682859919049 : True := trivial
theorem holds.tw6270666701200070447 : True := trivial
theorem holds.tw7998808928282977731 : True := trivial
theorem holds.tw1823548288077909227 : True := trivial
theorem holds.tw10280545108713110612 : True := trivial
theorem holds.tw18145382148040430673 : True := trivial
theorem holds.tw14012497318314112844 : True := trivial
theorem holds.tw3529921767576855348 : True := trivial
theorem holds.tw8551410553514715252 : True := trivial
theorem holds.tw16568243084613897719 : True := trivial
theorem holds.tw1748184903109754316 : True := trivial
theorem holds.tw15044018224587446200 : True := trivial
theorem holds.tw4949047195023096438 : True := trivial
theorem holds.tw15679414594044027071 : True := trivial
theorem holds.tw17076291190057227869 : True := trivial
theorem holds.tw8239031253751857358 : True := trivial
theorem holds.tw4876135695594978501 : True := trivial
theorem holds.tw6606875086121380550 : True := trivial
theorem holds.tw11759793716441912868 : True := trivial
theorem holds.tw11021121815585206722 : True := trivial
theorem holds.tw12160635655254385198 : True := trivial
theorem holds.tw185807328385624810 : True := trivial
theorem holds.tw4399152324972305773 : True := trivial
theorem holds.tw4521932981997962074 : True := trivial
theorem holds.tw14062913937729191461 : True := trivial
theorem holds.tw7503737395920286060 : True := trivial
theorem holds.tw5274472226630626454 : True := trivial
theorem holds.tw7797081563098230675 : True := trivial
theorem holds.tw4496467784121089108 : True := trivial
theorem holds.tw6278366128872770721 : True := trivial
theorem holds.tw11699653490763494397 : True := trivial
theorem holds.tw1884008505450799693 : True := trivial
theorem holds.tw11341941285841758863 : True := trivial
theorem holds.tw10176819019813888522 : True := trivial
theorem holds.tw13060694101666355058 : True := trivial
theorem holds.tw9784731065822230439 : True := trivial
theorem holds.tw5923573193019433623 : True := trivial
theorem holds.tw8764645870556796587 : True := trivial
theorem holds.tw8393340031374782525 : True := trivial
theorem holds.tw2207817973478938216 : True := trivial
theorem holds.tw1986877004247180340 : True := trivial
theorem holds.tw1357696155403014326 : True := trivial
theorem holds.tw960582308587345451 : True := trivial
theorem holds.tw15493915963290111440 : True := trivial
theorem holds.tw13602253286356535353 : True := trivial
theorem holds.tw632647553328814510 : True := trivial
theorem holds.tw5149526564703654343 : True := trivial
theorem holds.tw10634055019105834221 : True := trivial
theorem holds.tw13942211991455542721 : True := trivial
theorem holds.tw6654929391614583909 : True := trivial
theorem holds.tw14040500308302212198 : True := trivial
theorem holds.tw13606275585875862381 : True := trivial
theorem holds.tw11311999394344832113 : True := trivial
theorem holds.tw143733397751180983 : True := trivial
theorem holds.tw11251396491423821662 : True := trivial
theorem holds.tw14175645179141948239 : True := trivial
theorem holds.tw3117193011312037209 : True := trivial
theorem holds.tw9890372494799421562 : True := trivial
theorem holds.tw16569799976186059295 : True := trivial
theorem holds.tw1577146010547175755 : True := trivial
theorem holds.tw7221694943082674061 : True := trivial
theorem holds.tw5948040445239067262 : True := trivial
theorem holds.tw18119886095736687351 : True := trivial
theorem holds.tw7365562674294520451 : True := trivial
theorem holds.tw10269081998898121243 : True := trivial
theorem holds.tw4320952357017371039 : True := trivial
theorem holds.tw5550945554117203131 : True := trivial
theorem holds.tw11366613891026932653 : True := trivial
theorem holds.tw8067858942452583622 : True := trivial
theorem holds.tw17822619038779606285 : True := trivial
theorem holds.tw11635385377250757057 : True := trivial
theorem holds.tw4565384855192621650 : True := trivial
theorem holds.tw5990180441110522300 : True := trivial
theorem holds.tw6216033271563703469 : True := trivial
theorem holds.tw1508545211966159021 : True := trivial
theorem holds.tw14438757958421221462 : True := trivial
theorem holds.tw12322914241283428633 : True := trivial
theorem holds.tw8943767207682116370 : True := trivial
theorem holds.tw9569093901706499007 : True := trivial
theorem holds.tw4137054072099604216 : True := trivial
theorem holds.tw8403075241119356948 : True := trivial
theorem holds.tw2929439407932294337 : True := trivial
theorem holds.tw16034146489351607153 : True := trivial
theorem holds.tw1882270145967814011 : True := trivial
theorem holds.tw949623864930693503 : True := trivial
theorem holds.tw150268843892594924 : True := trivial
theorem holds.tw9732041140710341944 : True := trivial
theorem holds.tw3393808461323943489 : True := trivial
theorem holds.tw15737458098272848843 : True := trivial
theorem holds.tw438103235379743935 : True := trivial
theorem holds.tw10807475332292939257 : True := trivial
theorem holds.tw13130249910395747862 : True := trivial
theorem holds.tw5599412692616142259 : True := trivial
theorem holds.tw2395783193375807797 : True := trivial
theorem holds.tw4837283352154931363 : True := trivial
theorem holds.tw17631178891982236634 : True := trivial
theorem holds.tw4079574721724423606 : True := trivial
theorem holds.tw1446027475299390936 : True := trivial
theorem holds.tw17417429595627488627 : True := trivial
theorem holds.tw8451429660923938374 : True := trivial
theorem holds.tw16719641618999485920 : True := trivial
theorem holds.tw14635519672683665818 : True := trivial
theorem holds.tw2298022174073133013 : True := trivial
theorem holds.tw2239002904739781805 : True := trivial
theorem holds.tw2661161477798328453 : True := trivial
theorem holds.tw17087466662150396210 : True := trivial
theorem holds.tw9930548314228155742 : True := trivial
theorem holds.tw13334661261001831826 : True := trivial
theorem holds.tw9486143321106344294 : True := trivial
theorem holds.tw15814798929938293467 : True := trivial
theorem holds.tw11493643416074753605 : True := trivial
theorem holds.tw7154447938429058438 : True := trivial
theorem holds.tw15464432741802594518 : True := trivial
theorem holds.tw17453241218497372113 : True := trivial
theorem holds.tw16315053957116525436 : True := trivial
theorem holds.tw3579776383272448420 : True := trivial
theorem holds.tw1868492410679024872 : True := trivial
theorem holds.tw8168356752963748851 : True := trivial
theorem holds.tw15773771547523477324 : True := trivial
theorem holds.tw17301085495529702629 : True := trivial
theorem holds.tw16141144775947785660 : True := trivial
theorem holds.tw9870243511197969610 : True := trivial
theorem holds.tw7798976556582896058 : True := trivial
theorem holds.tw11223116819087169764 : True := trivial
theorem holds.tw2322420239649074934 : True := trivial
theorem holds.tw2752272122444995253 : True := trivial
theorem holds.tw9157471666820141079 : True := trivial
theorem holds.tw8323465864499181419 : True := trivial
theorem holds.tw15305512045591798990 : True := trivial
theorem holds.tw8827755016177155863 : True := trivial
theorem holds.tw17027350548333183925 : True := trivial
theorem holds.tw13306687922162142720 : True := trivial
theorem holds.tw10540872416556608339 : True := trivial
theorem holds.tw14263331781698699780 : True := trivial
theorem holds.tw3083665863380995925 : True := trivial
theorem holds.tw10238092577321643331 : True := trivial
theorem holds.tw1686462557126633389 : True := trivial
theorem holds.tw17177450906650391178 : True := trivial
theorem holds.tw17629714610472425511 : True := trivial
theorem holds.tw17560821836578072369 : True := trivial
theorem holds.tw3667296734252672382 : True := trivial
theorem holds.tw5830490794043118638 : True := trivial
theorem holds.tw9114018109745100730 : True := trivial
theorem holds.tw3912065897935574273 : True := trivial
theorem holds.tw6330134614895140133 : True := trivial
theorem holds.tw4302478151189881795 : True := trivial
theorem holds.tw15969937429085165904 : True := trivial
theorem holds.tw5588498093969417903 : True := trivial
theorem holds.tw14571696787620697854 : True := trivial
theorem holds.tw8564859838321607590 : True := trivial
theorem holds.tw15653146226815964750 : True := trivial
theorem holds.tw16760418933842767799 : True := trivial
theorem holds.tw15505166088775668588 : True := trivial
theorem holds.tw17516818768086975123 : True := trivial
theorem holds.tw5145322182839607373 : True := trivial
theorem holds.tw12004703523718567385 : True := trivial
theorem holds.tw6072511530176384962 : True := trivial
theorem holds.tw17148229171239856432 : True := trivial
theorem holds.tw8454650750101055009 : True := trivial
theorem holds.tw11413208387583891290 : True := trivial
theorem holds.tw15962101105364567198 : True := trivial
theorem holds.tw4954732016240277505 : True := trivial
theorem holds.tw3081346186701454755 : True := trivial
theorem holds.tw8035951141280138642 : True := trivial
theorem holds.tw13945929957867325323 : True := trivial
theorem holds.tw15659084048362614264 : True := trivial
theorem holds.tw2296293446034493066 : True := trivial
theorem holds.tw15942494369296127945 : True := trivial
theorem holds.tw12004910477815969792 : True := trivial
theorem holds.tw10066566674380323332 : True := trivial
theorem holds.tw4529002996912422141 : True := trivial
theorem holds.tw10859938921441162988 : True := trivial
theorem holds.tw4638280614687871961 : True := trivial
theorem holds.tw16887932952891968693 : True := trivial
theorem holds.tw7122917452565745793 : True := trivial
theorem holds.tw16818068004342704306 : True := trivial
theorem holds.tw9039863090174473464 : True := trivial
theorem holds.tw12461706298059298081 : True := trivial
theorem holds.tw14545006242359850397 : True := trivial
theorem holds.tw9259533211598610082 : True := trivial
theorem holds.tw7129523546110730894 : True := trivial
theorem holds.tw12870647732520690006 : True := trivial
theorem holds.tw820486334897136409 : True := trivial
theorem holds.tw8102643725754146565 : True := trivial
theorem holds.tw3395405417513978161 : True := trivial
theorem holds.tw341249449185904685 : True := trivial
theorem holds.tw7817521595202812335 : True := trivial
theorem holds.tw12629177860411813126 : True := trivial
theorem holds.tw16717973427065403112 : True := trivial
theorem holds.tw3964553439336064567 : True := trivial
theorem holds.tw6307330118970589470 : True := trivial
theorem holds.tw9855210162650666830 : True := trivial
theorem holds.tw8324913547053779211 : True := trivial
theorem holds.tw6120885642358782293 : True := trivial
theorem holds.tw12393906311096897308 : True := trivial
theorem holds.tw1382383790286775375 : True := trivial
theorem holds.tw7944191787301449481 : True := trivial
theorem holds.tw2697976716319701033 : True := trivial
theorem holds.tw8789113547377566482 : True := trivial
theorem holds.tw11393145000320282179 : True := trivial
theorem holds.tw4475622257904601326 : True := trivial
theorem holds.tw5865623049191206495 : True := trivial
theorem holds.tw10675174832548182787 : True := trivial
theorem holds.tw18078616723997116376 : True := trivial
theorem holds.tw14786868411472786527 : True := trivial
theorem holds.tw10846422607668537096 : True := trivial
theorem holds.tw9462340624215136286 : True := trivial
theorem holds.tw5099458221760260784 : True := trivial
theorem holds.tw4043779546988386903 : True := trivial
theorem holds.tw3339025504875072537 : True := trivial
theorem holds.tw17305823854243098232 : True := trivial
theorem holds.tw3315606585163850940 : True := trivial
theorem holds.tw11237496202790982473 : True := trivial
theorem holds.tw4247038368700228457 : True := trivial
theorem holds.tw2562329033357795767 : True := trivial
theorem holds.tw2585008018627690749 : True := trivial
theorem holds.tw15228004617427520810 : True := trivial
theorem holds.tw13564983018704479910 : True := trivial
theorem holds.tw13757568721421367004 : True := trivial
theorem holds.tw17871827197684104998 : True := trivial
theorem holds.tw3886397583452890388 : True := trivial
theorem holds.tw17642598502550569490 : True := trivial
theorem holds.tw3579648750931130658 : True := trivial
theorem holds.tw17274456146704370614 : True := trivial
theorem holds.tw8329714469232881917 : True := trivial
theorem holds.tw10677865647760817919 : True := trivial
theorem holds.tw10915527948243671367 : True := trivial
theorem holds.tw5565848844497943877 : True := trivial
theorem holds.tw13384883100587833847 : True := trivial
theorem holds.tw6417658556168297412 : True := trivial
theorem holds.tw14071699543282787154 : True := trivial
theorem holds.tw9327718836232418737 : True := trivial
theorem holds.tw2823412116039181319 : True := trivial
theorem holds.tw8277820557490507997 : True := trivial
theorem holds.tw10531532615022067580 : True := trivial
theorem holds.tw10274680400919065884 : True := trivial
theorem holds.tw6396523623945614605 : True := trivial
theorem holds.tw8615286220620516901 : True := trivial
theorem holds.tw11040456503202229835 : True := trivial
theorem holds.tw142377125942736700 : True := trivial
theorem holds.tw17500814259130102135 : True := trivial
theorem holds.tw12803259320963881043 : True := trivial
theorem holds.tw17591727778206626035 : True := trivial
theorem holds.tw6674158366018852832 : True := trivial
theorem holds.tw11866763835798034582 : True := trivial
theorem holds.tw1562249421467397710 : True := trivial
theorem holds.tw1095465085569150570 : True := trivial
theorem holds.tw12039203186867382747 : True := trivial
theorem holds.tw12885456215103715144 : True := trivial
theorem holds.tw15216533652830951187 : True := trivial
theorem holds.tw1699496654472425960 : True := trivial
theorem holds.tw15067597555674803608 : True := trivial
theorem holds.tw2090353487450580582 : True := trivial
theorem holds.tw14394845925615563878 : True := trivial
theorem holds.tw13002855754428957212 : True := trivial
theorem holds.tw2003794701753356343 : True := trivial
theorem holds.tw10959978164282874840 : True := trivial
theorem holds.tw12306811582311103309 : True := trivial
theorem holds.tw8778671856527934898 : True := trivial
theorem holds.tw1092734292537931370 : True := trivial
theorem holds.tw9572162887998638646 : True := trivial
theorem holds.tw16275521931939539341 : True := trivial
theorem holds.tw12343754954083223990 : True := trivial
theorem holds.tw685634667276709000 : True := trivial
theorem holds.tw15383290158734973844 : True := trivial
theorem holds.tw10255086910947774711 : True := trivial
theorem holds.tw7960950308347656791 : True := trivial
theorem holds.tw14607219995997415800 : True := trivial
theorem holds.tw13526204058760582534 : True := trivial
theorem holds.tw114758814716574784 : True := trivial
theorem holds.tw5915465848944024539 : True := trivial
theorem holds.tw4772410448533662562 : True := trivial
theorem holds.tw16939745714101447976 : True := trivial
theorem holds.tw4695128735345963622 : True := trivial
theorem holds.tw3259964661353284909 : True := trivial
theorem holds.tw15665992811038445102 : True := trivial
theorem holds.tw12098404996450287289 : True := trivial
theorem holds.tw4648945120126745877 : True := trivial
theorem holds.tw3892464644189294616 : True := trivial
theorem holds.tw7752820645730282312 : True := trivial
theorem holds.tw187104208977503339 : True := trivial
theorem holds.tw8351548024695214574 : True := trivial
theorem holds.tw13416111870119765123 : True := trivial
theorem holds.tw2045681113551912190 : True := trivial
theorem holds.tw457036756085613805 : True := trivial
theorem holds.tw4286360187039589740 : True := trivial
theorem holds.tw5006882278849481289 : True := trivial
theorem holds.tw4132201380793018340 : True := trivial
theorem holds.tw8995863869359571168 : True := trivial
theorem holds.tw2980642449514264586 : True := trivial
theorem holds.tw10028576996824322293 : True := trivial
theorem holds.tw12633084752571091873 : True := trivial
theorem holds.tw15483027778438257147 : True := trivial
theorem holds.tw3279077582325829838 : True := trivial
theorem holds.tw18020473825885896052 : True := trivial
theorem holds.tw7399101569421298396 : True := trivial
theorem holds.tw10447927361281507451 : True := trivial
theorem holds.tw4500180452004054980 : True := trivial
theorem holds.tw11111472982789046935 : True := trivial
theorem holds.tw8186637812631136355 : True := trivial
theorem holds.tw576298715544257586 : True := trivial
theorem holds.tw17988741175759917587 : True := trivial
theorem holds.tw1833173380454153921 : True := trivial
theorem holds.tw17510143785770761814 : True := trivial
theorem holds.tw9232459349045140238 : True := trivial
theorem holds.tw12368517589529891483 : True := trivial
theorem holds.tw2041457743892144894 : True := trivial
theorem holds.tw14481039436429509627 : True := trivial
theorem holds.tw5300967816669126424 : True := trivial
theorem holds.tw16451975095625300501 : True := trivial
theorem holds.tw14083959995102712966 : True := trivial
theorem holds.tw17533166617710000329 : True := trivial
theorem holds.tw6786515118028813453 : True := trivial
theorem holds.tw1180276462324527112 : True := trivial
theorem holds.tw2946744036017948005 : True := trivial
theorem holds.tw7882509031788189477 : True := trivial
theorem holds.tw3906943341852370832 : True := trivial
theorem holds.tw17888041645453997434 : True := trivial
theorem holds.tw10494946348260405530 : True := trivial
theorem holds.tw16478504620199068264 : True := trivial
theorem holds.tw1389151227800987198 : True := trivial
theorem holds.tw4636335402390110268 : True := trivial
theorem holds.tw11379536335273661636 : True := trivial
theorem holds.tw5020977762268055686 : True := trivial
theorem holds.tw8267156744941353195 : True := trivial
theorem holds.tw13222035019132090745 : True := trivial
theorem holds.tw2395109189467087578 : True := trivial
theorem holds.tw759334954848157859 : True := trivial
theorem holds.tw2815148716436586704 : True := trivial
theorem holds.tw9101416567709711282 : True := trivial
theorem holds.tw4371279669365572331 : True := trivial
theorem holds.tw13860560629476652642 : True := trivial
theorem holds.tw17856180979147524769 : True := trivial
theorem holds.tw15733542881966949079 : True := trivial
theorem holds.tw8664197181124272861 : True := trivial
theorem holds.tw15573729904360925794 : True := trivial
theorem holds.tw2976685253332725484 : True := trivial
theorem holds.tw9370115536473471133 : True := trivial
theorem holds.tw8326223695736924558 : True := trivial
theorem holds.tw1349225773494744244 : True := trivial
theorem holds.tw8336353537208430648 : True := trivial
theorem holds.tw11456588863425244825 : True := trivial
theorem holds.tw16286308178466712102 : True := trivial
theorem holds.tw4381346726385406224 : True := trivial
theorem holds.tw11472876989420892731 : True := trivial
theorem holds.tw840278733503548893 : True := trivial
theorem holds.tw10178290135220734976 : True := trivial
theorem holds.tw8575535491628544125 : True := trivial
theorem holds.tw16740147826971877517 : True := trivial
theorem holds.tw17476224472650253806 : True := trivial
theorem holds.tw3050561863661609479 : True := trivial
theorem holds.tw4157549862880800291 : True := trivial
theorem holds.tw10684964147190113176 : True := trivial
theorem holds.tw12333501511574756481 : True := trivial
theorem holds.tw11566098377363298415 : True := trivial
theorem holds.tw10843207457187830352 : True := trivial
theorem holds.tw1639197193820686003 : True := trivial
theorem holds.tw11210861575573996130 : True := trivial
theorem holds.tw5282283922864298156 : True := trivial
theorem holds.tw7400771686186127474 : True := trivial
theorem holds.tw15987345220168432620 : True := trivial
theorem holds.tw9430090754398894584 : True := trivial
theorem holds.tw10240100896771907615 : True := trivial
theorem holds.tw4921510776622977656 : True := trivial
theorem holds.tw11450275943994455990 : True := trivial
theorem holds.tw3930379177928381544 : True := trivial
theorem holds.tw11937027079205856637 : True := trivial
theorem holds.tw14404905868111484630 : True := trivial
theorem holds.tw15663057623668237757 : True := trivial
theorem holds.tw14747351113905286367 : True := trivial
theorem holds.tw16338696359196860668 : True := trivial
theorem holds.tw99148262030102190 : True := trivial
theorem holds.tw16035096773351161327 : True := trivial
theorem holds.tw5606170894147618297 : True := trivial
theorem holds.tw18303498370074786342 : True := trivial
theorem holds.tw6099975724469302500 : True := trivial
theorem holds.tw154871700347349385 : True := trivial
theorem holds.tw2646541027584313031 : True := trivial
theorem holds.tw14012504350828624960 : True := trivial
theorem holds.tw6305404595935261976 : True := trivial
theorem holds.tw3937861406571306486 : True := trivial
theorem holds.tw10698829266838348154 : True := trivial
theorem holds.tw7553091538727811119 : True := trivial
theorem holds.tw6107281658776505229 : True := trivial
theorem holds.tw15136828946037461428 : True := trivial
theorem holds.tw10595842591828190984 : True := trivial
theorem holds.tw17893526652203389834 : True := trivial
theorem holds.tw9160933379109621080 : True := trivial
theorem holds.tw4197124852483764760 : True := trivial
theorem holds.tw5015485144833937494 : True := trivial
theorem holds.tw8080489487961928221 : True := trivial
theorem holds.tw8365977135183407358 : True := trivial
theorem holds.tw12158838097934144204 : True := trivial
theorem holds.tw4758407346467626144 : True := trivial
theorem holds.tw17154429820679262023 : True := trivial
theorem holds.tw3522650409621224377 : True := trivial
theorem holds.tw6023186098900964213 : True := trivial
theorem holds.tw7398792987819827216 : True := trivial
theorem holds.tw12553914923479104506 : True := trivial
theorem holds.tw3589964763223657672 : True := trivial
theorem holds.tw1906216828905148153 : True := trivial
theorem holds.tw5252246860307943348 : True := trivial
theorem holds.tw98196739984318054 : True := trivial
theorem holds.tw13342100529233674250 : True := trivial
theorem holds.tw2026074157514601029 : True := trivial
theorem holds.tw15395134090581100920 : True := trivial
theorem holds.tw13469052773380359234 : True := trivial
theorem holds.tw4480811336153992742 : True := trivial
theorem holds.tw6896159741398044905 : True := trivial
theorem holds.tw5747684920607356772 : True := trivial
theorem holds.tw3914980098763439061 : True := trivial
theorem holds.tw9638990691586225099 : True := trivial
theorem holds.tw7442186320969616419 : True := trivial
theorem holds.tw17714467908841036005 : True := trivial
theorem holds.tw2422663375537807432 : True := trivial
theorem holds.tw14149781006570564392 : True := trivial
theorem holds.tw8006095370074002437 : True := trivial
theorem holds.tw9518972631687950247 : True := trivial
theorem holds.tw5078402968320093544 : True := trivial
theorem holds.tw12008902284401382014 : True := trivial
theorem holds.tw14751579383510745608 : True := trivial
theorem holds.tw13980644296350529377 : True := trivial
theorem holds.tw13069951337775981229 : True := trivial
theorem holds.tw722385531181317529 : True := trivial
theorem holds.tw12468101337765408714 : True := trivial
theorem holds.tw13851224978691574800 : True := trivial
theorem holds.tw7145057240379410032 : True := trivial
theorem holds.tw1466284255255076664 : True := trivial
theorem holds.tw7405762614669717487 : True := trivial
theorem holds.tw15203487316939043196 : True := trivial
theorem holds.tw7258431392514884226 : True := trivial
theorem holds.tw11818566221774970091 : True := trivial
theorem holds.tw17096001632197288867 : True := trivial
theorem holds.tw6816380694822836728 : True := trivial
theorem holds.tw1211747854080251252 : True := trivial
theorem holds.tw7614240834612533913 : True := trivial
theorem holds.tw16878984735049331645 : True := trivial
theorem holds.tw10828986214106111531 : True := trivial
theorem holds.tw9816476011544392670 : True := trivial
theorem holds.tw2490583276235294983 : True := trivial
theorem holds.tw25128007106566912 : True := trivial
theorem holds.tw13563289320671947111 : True := trivial
theorem holds.tw4847722943968633838 : True := trivial
theorem holds.tw9284948610034456067 : True := trivial
theorem holds.tw14533596452844920548 : True := trivial
theorem holds.tw2448847960820234738 : True := trivial
theorem holds.tw15919173128261314395 : True := trivial
theorem holds.tw8715153415118720431 : True := trivial
theorem holds.tw1876284267304334591 : True := trivial
theorem holds.tw3591643451295285226 : True := trivial
theorem holds.tw15402825562841796884 : True := trivial
theorem holds.tw2796529661445839640 : True := trivial
theorem holds.tw8999148759028348254 : True := trivial
theorem holds.tw2720468260678641542 : True := trivial
theorem holds.tw11322816463052944642 : True := trivial
theorem holds.tw6871585250140865760 : True := trivial
theorem holds.tw7810582327123544015 : True := trivial
theorem holds.tw11896979934692212325 : True := trivial
theorem holds.tw3093010850272755244 : True := trivial
theorem holds.tw7398177500901678427 : True := trivial
theorem holds.tw16900590462404453081 : True := trivial
theorem holds.tw5857794014393010482 : True := trivial
theorem holds.tw17585196194217108160 : True := trivial
theorem holds.tw10061326939861387809 : True := trivial
theorem holds.tw16500857126356320474 : True := trivial
theorem holds.tw8217837808669207805 : True := trivial
theorem holds.tw6848487089051665640 : True := trivial
theorem holds.tw10751667817771276656 : True := trivial
theorem holds.tw6118206324766035986 : True := trivial
theorem holds.tw16526392495010931895 : True := trivial
theorem holds.tw8844102623358338796 : True := trivial
theorem holds.tw16866813090170913584 : True := trivial
theorem holds.tw16438637452659292861 : True := trivial
theorem holds.tw14537686803440442423 : True := trivial
theorem holds.tw3349518531870832243 : True := trivial
theorem holds.tw9309047703646887916 : True := trivial
theorem holds.tw16762735861678686087 : True := trivial
theorem holds.tw5887078386916838634 : True := trivial
theorem holds.tw854715265852234644 : True := trivial
theorem holds.tw4796666493748621973 : True := trivial
theorem holds.tw12736823529576279204 : True := trivial
theorem holds.tw12370703938092414502 : True := trivial
theorem holds.tw7942442253511216057 : True := trivial
theorem holds.tw14869886272290788767 : True := trivial
theorem holds.tw16986704738630991174 : True := trivial
theorem holds.tw15985840036639034899 : True := trivial
theorem holds.tw7350330377624401328 : True := trivial
theorem holds.tw18119562065370568691 : True := trivial
theorem holds.tw8930301468638573109 : True := trivial
theorem holds.tw13934561362821362623 : True := trivial
theorem holds.tw2170955613840884034 : True := trivial
theorem holds.tw12840991994722114650 : True := trivial
theorem holds.tw1322343589759876579 : True := trivial
theorem holds.tw10294072060680161967 : True := trivial
theorem holds.tw11612728935029869629 : True := trivial
theorem holds.tw9523873602847724419 : True := trivial
theorem holds.tw2160012875989923789 : True := trivial
theorem holds.tw13338651292558784369 : True := trivial
theorem holds.tw16179787414501680475 : True := trivial
theorem holds.tw249549322783861432 : True := trivial
theorem holds.tw14691085348537605332 : True := trivial
theorem holds.tw13995109926203733070 : True := trivial
theorem holds.tw15318030485348112285 : True := trivial
theorem holds.tw6424660084863691381 : True := trivial
theorem holds.tw2538446115941346844 : True := trivial
theorem holds.tw6159885450047824267 : True := trivial
theorem holds.tw6153587431502396178 : True := trivial
theorem holds.tw1272921112123746405 : True := trivial
theorem holds.tw15027879205694222834 : True := trivial
theorem holds.tw1118671588950128205 : True := trivial
theorem holds.tw6545324650690627985 : True := trivial
theorem holds.tw14314133134477209284 : True := trivial
theorem holds.tw13843884851538653125 : True := trivial
theorem holds.tw6549915499844065949 : True := trivial
theorem holds.tw11775407622660791982 : True := trivial
theorem holds.tw3811385743445658432 : True := trivial
theorem holds.tw10726778698580467152 : True := trivial
theorem holds.tw18148179280279774915 : True := trivial
theorem holds.tw2335221107431800076 : True := trivial
theorem holds.tw12540800736699631050 : True := trivial
theorem holds.tw8684541073956307770 : True := trivial
theorem holds.tw7033360832409044607 : True := trivial
theorem holds.tw15270729048626237958 : True := trivial
theorem holds.tw3830122636448771156 : True := trivial
theorem holds.tw6852311561904566080 : True := trivial
theorem holds.tw15988856151785273984 : True := trivial
theorem holds.tw6489310206099298910 : True := trivial
theorem holds.tw9260842090827677427 : True := trivial
theorem holds.tw4583756282420477746 : True := trivial
theorem holds.tw1311399786705062619 : True := trivial
theorem holds.tw14558969323905986741 : True := trivial
theorem holds.tw16461013251600362008 : True := trivial
theorem holds.tw14856189802965030758 : True := trivial
theorem holds.tw2972900019843275892 : True := trivial
theorem holds.tw9204624228502610083 : True := trivial
theorem holds.tw15477653585598255317 : True := trivial
theorem holds.tw18137404814466565647 : True := trivial
theorem holds.tw16049930973857864354 : True := trivial
theorem holds.tw10637851664137882224 : True := trivial
theorem holds.tw9541374612494854641 : True := trivial
theorem holds.tw15681240381570490794 : True := trivial
theorem holds.tw13758948915013449397 : True := trivial
theorem holds.tw14642846902033847964 : True := trivial
theorem holds.tw5698002777990276889 : True := trivial
theorem holds.tw1261529521700752133 : True := trivial
theorem holds.tw14820496819874337416 : True := trivial
theorem holds.tw12688729033689436754 : True := trivial
theorem holds.tw7074641181814816541 : True := trivial
theorem holds.tw8087799500789234286 : True := trivial
theorem holds.tw13281364814482169325 : True := trivial
theorem holds.tw18348608232412713582 : True := trivial
theorem holds.tw14453804969608289915 : True := trivial
theorem holds.tw3325302716571603560 : True := trivial
theorem holds.tw3937267528351423324 : True := trivial
theorem holds.tw17698789649397450121 : True := trivial
theorem holds.tw14521024918404927360 : True := trivial
theorem holds.tw18366657443248667141 : True := trivial
theorem holds.tw15737558441246748254 : True := trivial
theorem holds.tw820627826665183454 : True := trivial
theorem holds.tw8801499457356032720 : True := trivial
theorem holds.tw10954607271099289585 : True := trivial
theorem holds.tw5016061194280584464 : True := trivial
theorem holds.tw18428999135246889709 : True := trivial
theorem holds.tw138917058343750897 : True := trivial
theorem holds.tw11899092608841805274 : True := trivial
theorem holds.tw13963158057122002454 : True := trivial
theorem holds.tw15296638952792297585 : True := trivial
theorem holds.tw10705761992013847755 : True := trivial
theorem holds.tw12605814686255304890 : True := trivial
theorem holds.tw17836369818011005632 : True := trivial
theorem holds.tw10467584912128312105 : True := trivial
theorem holds.tw9349497639472619588 : True := trivial
theorem holds.tw13306226422529918579 : True := trivial
theorem holds.tw4998001990490953706 : True := trivial
theorem holds.tw12056596633878991817 : True := trivial
theorem holds.tw3198498235788789335 : True := trivial
theorem holds.tw4485590747672999114 : True := trivial
theorem holds.tw3969078344035082030 : True := trivial
theorem holds.tw8285378580950108411 : True := trivial
theorem holds.tw10953125311028157021 : True := trivial
theorem holds.tw10840139340582571922 : True := trivial
theorem holds.tw2167384251425162797 : True := trivial
theorem holds.tw14027143162585244968 : True := trivial
theorem holds.tw11822188140940861840 : True := trivial
theorem holds.tw13219762378693318442 : True := trivial
theorem holds.tw17410980318550716163 : True := trivial
theorem holds.tw7923702915469573346 : True := trivial
theorem holds.tw5857869478962280401 : True := trivial
theorem holds.tw8754180013910929173 : True := trivial
theorem holds.tw8370971151990252235 : True := trivial
theorem holds.tw2451063411067222376 : True := trivial
theorem holds.tw9458989268892848673 : True := trivial
theorem holds.tw3232270311777372273 : True := trivial
theorem holds.tw13390067322875170909 : True := trivial
theorem holds.tw1672651397029140864 : True := trivial
theorem holds.tw3626213265524300766 : True := trivial
theorem holds.tw4071159065629566091 : True := trivial
theorem holds.tw12173864343093774118 : True := trivial
theorem holds.tw11648992314567332219 : True := trivial
theorem holds.tw5932082505621288647 : True := trivial
theorem holds.tw4397353207691548035 : True := trivial
theorem holds.tw8440079175239025714 : True := trivial
theorem holds.tw15462992800728643659 : True := trivial
theorem holds.tw1745271027643805418 : True := trivial
theorem holds.tw12788872388335264594 : True := trivial
theorem holds.tw1213666046027356511 : True := trivial
theorem holds.tw13370180491053348 : True := trivial
theorem holds.tw5912414765772231977 : True := trivial
theorem holds.tw2963349702327202441 : True := trivial
theorem holds.tw12084871131945615253 : True := trivial
theorem holds.tw6027180799015181879 : True := trivial
theorem holds.tw9107170298555381705 : True := trivial
theorem holds.tw17180457848445815676 : True := trivial
theorem holds.tw10981351503976158137 : True := trivial
theorem holds.tw10587580826675096554 : True := trivial
theorem holds.tw8501281891715751146 : True := trivial
theorem holds.tw6077952519532572301 : True := trivial
theorem holds.tw6987649320729488474 : True := trivial
theorem holds.tw2781561513384061212 : True := trivial
theorem holds.tw4638248667903330817 : True := trivial
theorem holds.tw10576265454180977796 : True := trivial
theorem holds.tw2370105137638165564 : True := trivial
theorem holds.tw4702539438339769474 : True := trivial
theorem holds.tw16339685495627315695 : True := trivial
theorem holds.tw11284957654470035344 : True := trivial
theorem holds.tw3184581556216392744 : True := trivial
theorem holds.tw8218819101457601776 : True := trivial
theorem holds.tw7072470231402172264 : True := trivial
theorem holds.tw13108245259352980691 : True := trivial
theorem holds.tw7766415108573184305 : True := trivial
theorem holds.tw16260029586006496120 : True := trivial
theorem holds.tw18228655803557992608 : True := trivial
theorem holds.tw14083834280242248106 : True := trivial
theorem holds.tw244668840739839672 : True := trivial
theorem holds.tw4307185281782297411 : True := trivial
theorem holds.tw18306687941130998258 : True := trivial
theorem holds.tw303617358959260456 : True := trivial
theorem holds.tw1692041494862269998 : True := trivial
theorem holds.tw8143335708233088440 : True := trivial
theorem holds.tw14015465597193498493 : True := trivial
theorem holds.tw8583004682187828996 : True := trivial
theorem holds.tw13651502964188933756 : True := trivial
theorem holds.tw15433894429930974654 : True := trivial
theorem holds.tw3765845486045053717 : True := trivial
theorem holds.tw4305464981302183325 : True := trivial
theorem holds.tw2787305314026857967 : True := trivial
theorem holds.tw1032644102275906610 : True := trivial
theorem holds.tw9825822386377846996 : True := trivial
theorem holds.tw5981487413272766262 : True := trivial
theorem holds.tw7119377499074729706 : True := trivial
theorem holds.tw17751544043737166181 : True := trivial
theorem holds.tw11252122248351282842 : True := trivial
theorem holds.tw7753079526450916859 : True := trivial
theorem holds.tw5964785641998049897 : True := trivial
theorem holds.tw13356387430892511905 : True := trivial
theorem holds.tw4021013208564600997 : True := trivial
theorem holds.tw12657093848384798476 : True := trivial
theorem holds.tw3587991164115205208 : True := trivial
theorem holds.tw10894570999934473159 : True := trivial
theorem holds.tw6995637125483106052 : True := trivial
theorem holds.tw10292701021901942622 : True := trivial
theorem holds.tw4952593789767209597 : True := trivial
theorem holds.tw14271935136423247726 : True := trivial
theorem holds.tw14781169843320478655 : True := trivial
theorem holds.tw10123497631757608206 : True := trivial
theorem holds.tw8664812251140827045 : True := trivial
theorem holds.tw16307742377514257941 : True := trivial
theorem holds.tw18202751451028033538 : True := trivial
theorem holds.tw6817751937963910627 : True := trivial
theorem holds.tw4698078265318845332 : True := trivial
theorem holds.tw1859933618095552875 : True := trivial
theorem holds.tw14777700561071354170 : True := trivial
theorem holds.tw14205006904943715905 : True := trivial
theorem holds.tw3256209041318659551 : True := trivial
theorem holds.tw15750308709622187472 : True := trivial
theorem holds.tw9143120035062812437 : True := trivial
theorem holds.tw10071743356415266081 : True := trivial
theorem holds.tw12802907566657418599 : True := trivial
theorem holds.tw1327240825893404017 : True := trivial
theorem holds.tw1342200453600437244 : True := trivial
theorem holds.tw12733908048491186811 : True := trivial
theorem holds.tw9245723823536211039 : True := trivial
theorem holds.tw9925129770185513386 : True := trivial
theorem holds.tw2180479604254433311 : True := trivial
theorem holds.tw16725066886706607050 : True := trivial
theorem holds.tw15986765973559043216 : True := trivial
theorem holds.tw10853043219271619230 : True := trivial
theorem holds.tw14374762386000251392 : True := trivial
theorem holds.tw945861476033566700 : True := trivial
theorem holds.tw3521771025164786240 : True := trivial
theorem holds.tw8512429452129088584 : True := trivial
theorem holds.tw8868445881999480663 : True := trivial
theorem holds.tw14341210406198164329 : True := trivial
theorem holds.tw7548614866355832645 : True := trivial
theorem holds.tw17129278960223170533 : True := trivial
theorem holds.tw2642592217982111355 : True := trivial
theorem holds.tw8087273147054526846 : True := trivial
theorem holds.tw15421342739227911939 : True := trivial
theorem holds.tw4837763867591130413 : True := trivial
theorem holds.tw14146095236536434788 : True := trivial
theorem holds.tw16682935309838494251 : True := trivial
theorem holds.tw7794074229983474189 : True := trivial
theorem holds.tw6166532556598395850 : True := trivial
theorem holds.tw16405250981985728351 : True := trivial
theorem holds.tw17858152450515298520 : True := trivial
theorem holds.tw5878047611234877577 : True := trivial
theorem holds.tw14977296931134136204 : True := trivial
theorem holds.tw15326264675407861456 : True := trivial
theorem holds.tw7389893730484166007 : True := trivial
theorem holds.tw9866653766423218390 : True := trivial
theorem holds.tw6882208769836361136 : True := trivial
theorem holds.tw6234259597661685125 : True := trivial
theorem holds.tw7991519602905016326 : True := trivial
theorem holds.tw2691182800312180423 : True := trivial
theorem holds.tw16527965534346479843 : True := trivial
theorem holds.tw10627527101882312309 : True := trivial
theorem holds.tw2277698456845511444 : True := trivial
theorem holds.tw10679687220464918932 : True := trivial
theorem holds.tw15762835226273150572 : True := trivial
theorem holds.tw13150661809386230508 : True := trivial
theorem holds.tw5295917329084666069 : True := trivial
theorem holds.tw7044488416437408911 : True := trivial
theorem holds.tw4381757428849502282 : True := trivial
theorem holds.tw16617498834693519143 : True := trivial
theorem holds.tw5635654813233479639 : True := trivial
theorem holds.tw4532548537324856634 : True := trivial
theorem holds.tw1631988821682387397 : True := trivial
theorem holds.tw16697607604324151607 : True := trivial
theorem holds.tw17549760099613038055 : True := trivial
theorem holds.tw17040301576142915119 : True := trivial
theorem holds.tw3976387168054148928 : True := trivial
theorem holds.tw6339512806697972703 : True := trivial
theorem holds.tw17804031047071762117 : True := trivial
theorem holds.tw11932019790582256995 : True := trivial
theorem holds.tw7366336091430424897 : True := trivial
theorem holds.tw1438057683635843531 : True := trivial
theorem holds.tw17597196502641442581 : True := trivial
theorem holds.tw16497969686579978388 : True := trivial
theorem holds.tw11647182259668861994 : True := trivial
theorem holds.tw8201850095220326943 : True := trivial
theorem holds.tw11723004889028688699 : True := trivial
theorem holds.tw5082999880386992228 : True := trivial
theorem holds.tw2990895676391025561 : True := trivial
theorem holds.tw244612440521699123 : True := trivial
theorem holds.tw12808162357026388105 : True := trivial
theorem holds.tw5274829272982666545 : True := trivial
theorem holds.tw1918937422216856587 : True := trivial
theorem holds.tw5528465392136904651 : True := trivial
theorem holds.tw13656326972539208745 : True := trivial
theorem holds.tw14054693376921006050 : True := trivial
theorem holds.tw14487565437550000814 : True := trivial
theorem holds.tw5259053182002985842 : True := trivial
theorem holds.tw7235909688915465346 : True := trivial
theorem holds.tw16281141667863336784 : True := trivial
theorem holds.tw18173914834931495973 : True := trivial
theorem holds.tw7454310139219270035 : True := trivial
theorem holds.tw14247145606103189434 : True := trivial
theorem holds.tw9766128667603022514 : True := trivial
theorem holds.tw12929723366055764138 : True := trivial
theorem holds.tw10817008591213730988 : True := trivial
theorem holds.tw14795748159217239652 : True := trivial
theorem holds.tw17765825090018352961 : True := trivial
theorem holds.tw14506719115837055750 : True := trivial
theorem holds.tw8253004272172430988 : True := trivial
theorem holds.tw628499413542001115 : True := trivial
theorem holds.tw13899955331829678731 : True := trivial
theorem holds.tw13299747515739239509 : True := trivial
theorem holds.tw12774209864397607762 : True := trivial
theorem holds.tw4717937361131159733 : True := trivial
theorem holds.tw5323918697378788693 : True := trivial
theorem holds.tw11394987932868277362 : True := trivial
theorem holds.tw14398803519188717359 : True := trivial
theorem holds.tw7840918076549728228 : True := trivial
theorem holds.tw12563481999192008768 : True := trivial
theorem holds.tw11619669790576578751 : True := trivial
theorem holds.tw13676757877788619591 : True := trivial
theorem holds.tw2669110664802000394 : True := trivial
theorem holds.tw17551835440721493442 : True := trivial
theorem holds.tw5763553328388235881 : True := trivial
theorem holds.tw4990343992934813274 : True := trivial
theorem holds.tw2435697834123945266 : True := trivial
theorem holds.tw12986477188347159440 : True := trivial
theorem holds.tw16796854770986717008 : True := trivial
theorem holds.tw3378769572067720374 : True := trivial
theorem holds.tw3834328006691320696 : True := trivial
theorem holds.tw18232564904221570389 : True := trivial
theorem holds.tw11378972443561828832 : True := trivial
theorem holds.tw17973240255108071979 : True := trivial
theorem holds.tw8903297777125119442 : True := trivial
theorem holds.tw7255143783654795107 : True := trivial
theorem holds.tw2108140421711172253 : True := trivial
theorem holds.tw10832689321189271452 : True := trivial
theorem holds.tw9179076619674111515 : True := trivial
theorem holds.tw11021402016762074336 : True := trivial
theorem holds.tw2084331650109322480 : True := trivial
theorem holds.tw15976165524378199686 : True := trivial
theorem holds.tw16801115162389100519 : True := trivial
theorem holds.tw14786066558164337950 : True := trivial
theorem holds.tw12632932662738783937 : True := trivial
theorem holds.tw7885888744534978006 : True := trivial
theorem holds.tw18159871531285016133 : True := trivial
theorem holds.tw7459122314025714673 : True := trivial
theorem holds.tw11656637146554442338 : True := trivial
theorem holds.tw954759294903293345 : True := trivial
theorem holds.tw11568272619759294016 : True := trivial
theorem holds.tw17144610094948777349 : True := trivial
theorem holds.tw4057953776094532316 : True := trivial
theorem holds.tw9647410926604887880 : True := trivial
theorem holds.tw15349486494167490861 : True := trivial
theorem holds.tw7047203234742669986 : True := trivial
theorem holds.tw1357463484097335404 : True := trivial
theorem holds.tw5498966250228494579 : True := trivial
theorem holds.tw5531990279233569197 : True := trivial
theorem holds.tw16955119412671694080 : True := trivial
theorem holds.tw5046306585264764695 : True := trivial
theorem holds.tw13635659449475194171 : True := trivial
theorem holds.tw15234514527192182573 : True := trivial
end Mine
open Mine
local macro_rules | `(tactic| walk_at "compareOp In str ref") => `(tactic| (k_here; k_dflt (refine' inTop ?ca ?cX ?cF ?cl ?cr ?c1 ?cb ?_; (case ca => (simp only [Around.deeper]; omega)); (case cX => k_asm); (case cF => k_asm); (case cl => k_is); (case cr => exact rfl); (case c1 => decide +kernel); (case cb => with_unfolding_all rfl))))
local macro_rules | `(tactic| walk_at "exec For") => `(tactic| walk_at "last exec For Name Name")
local macro_rules | `(tactic| walk_at "pyIter str") => `(tactic| walk_at "last pyIter str")
set_option hygiene false in
local macro_rules | `(tactic| walk_at "call ref") => `(tactic| (k_here; k_dflt (refine' callCon isword_a rfl ?ca ?cb ?cX ?cT ?cF ?cN ?_; (case cX => k_asm); (case cT => k_asm); (case cF => k_asm); (case cN => k_asm); (case ca => (simp only [depth_deeper]; omega)); (case cb => (simp only [Around.deeper]; omega)); k_whole); intro u' h' tk' hv' F' N'; (first | subst hv' | (obtain ⟨t', rfl⟩ := hv'))))
set_option hygiene false in
local macro_rules | `(tactic| walk_at "call ref") => `(tactic| (k_here; k_dflt (refine' callCon isword_k1 rfl ?ca ?cb ?cX ?cT ?cF ?cN ?_; (case cX => k_asm); (case cT => k_asm); (case cF => k_asm); (case cN => k_asm); (case ca => (simp only [depth_deeper]; omega)); (case cb => (simp only [Around.deeper]; omega)); k_whole); intro u' h' tk' hv' F' N'; (first | subst hv' | (obtain ⟨t', rfl⟩ := hv'))))
set_option hygiene false in
local macro_rules | `(tactic| walk_at "call ref") => `(tactic| (k_here; k_dflt (refine' callCon letter_b rfl ?ca ?cb ?cX ?cT ?cF ?cN ?_; (case cX => k_asm); (case cT => k_asm); (case cF => k_asm); (case cN => k_asm); (case ca => (simp only [depth_deeper]; omega)); (case cb => (simp only [Around.deeper]; omega)); k_whole); intro u' h' tk' hv' F' N'; (first | subst hv' | (obtain ⟨t', rfl⟩ := hv'))))
set_option hygiene false in
local macro_rules | `(tactic| walk_at "call ref") => `(tactic| (k_here; k_dflt (refine' callCon plain_a rfl ?ca ?cb ?cX ?cT ?cF ?cN ?_; (case cX => k_asm); (case cT => k_asm); (case cF => k_asm); (case cN => k_asm); (case ca => (simp only [depth_deeper]; omega)); (case cb => (simp only [Around.deeper]; omega)); k_whole); intro u' h' tk' hv' F' N'; (first | subst hv' | (obtain ⟨t', rfl⟩ := hv'))))
set_option Elab.async true
set_option maxRecDepth 100000
set_option maxHeartbeats 8000000
theorem Mine.holds : PySem.Challenge.rw_nz0046_01.Holds := by
  w_on; o_law; k_head; (case hw => w_witness2)
  have isword_a : ∀ {w : World} {p : Program} {loose : List Str} {mean : ExcName → Option Value} {mg mb : Str → Option Value} {t0 : Tok}, Con Challenge.rw_nz0046_01.row.prog w (Mine.holds.heap_1_39 w.params) (Top p loose mean mg mb) 4 257 [.str (Str.ofString "a") t0] (fun u => u = .bool true) := by
    intro w p loose mean mg mb t0
    intro A s R hA0 hA hU X T q
    obtain ⟨hnd, dep, frs, grd, uns⟩ := A
    dsimp only at hA0 hA hU
    subst hA0
    revert X
    k_fill
    intro X
    refine' enterK X T.nolimit ?a ?k6 ?k7 ?k9 ?kB ?_ ?c2 ?c3 ?c4 ?c5
    case a => (show dep < _; omega)
    case k6 => k_is
    case k7 => k_is
    case k9 => first | exact BindsTo.of_eq rfl | exact binds_K (by k_in) rfl (by k_is) rfl rfl rfl
    case kB => exact locs rfl
    case c2 => exact rfl
    case c3 => exact rfl
    case c4 => exact rfl
    case c5 => decide
    intro L h₁ F N
    try dsimp only
    k_steps
    exact q _ _ _ rfl (Fr.keep (by assumption))
  have isword_k1 : ∀ {w : World} {p : Program} {loose : List Str} {mean : ExcName → Option Value} {mg mb : Str → Option Value} {t0 : Tok}, Con Challenge.rw_nz0046_01.row.prog w (Mine.holds.heap_1_39 w.params) (Top p loose mean mg mb) 4 257 [.str (Str.ofString "k1") t0] (fun u => u = .bool true) := by
    intro w p loose mean mg mb t0
    intro A s R hA0 hA hU X T q
    obtain ⟨hnd, dep, frs, grd, uns⟩ := A
    dsimp only at hA0 hA hU
    subst hA0
    revert X
    k_fill
    intro X
    refine' enterK X T.nolimit ?a ?k6 ?k7 ?k9 ?kB ?_ ?c2 ?c3 ?c4 ?c5
    case a => (show dep < _; omega)
    case k6 => k_is
    case k7 => k_is
    case k9 => first | exact BindsTo.of_eq rfl | exact binds_K (by k_in) rfl (by k_is) rfl rfl rfl
    case kB => exact locs rfl
    case c2 => exact rfl
    case c3 => exact rfl
    case c4 => exact rfl
    case c5 => decide
    intro L h₁ F N
    try dsimp only
    k_steps
    exact q _ _ _ rfl (Fr.keep (by assumption))
  have letter_b : ∀ {w : World} {p : Program} {loose : List Str} {mean : ExcName → Option Value} {mg mb : Str → Option Value} {t0 t1 : Tok}, Con Challenge.rw_nz0046_01.row.prog w (Mine.holds.heap_1_39 w.params) (Top p loose mean mg mb) 4 285 [.str (Str.ofString "b") t0, .str (Str.ofString "") t1] (fun u => ∃ t, u = .str (Str.ofString "b") t) := by
    intro w p loose mean mg mb t0 t1
    intro A s R hA0 hA hU X T q
    obtain ⟨hnd, dep, frs, grd, uns⟩ := A
    dsimp only at hA0 hA hU
    subst hA0
    revert X
    k_fill
    intro X
    refine' enterK X T.nolimit ?a ?k6 ?k7 ?k9 ?kB ?_ ?c2 ?c3 ?c4 ?c5
    case a => (show dep < _; omega)
    case k6 => k_is
    case k7 => k_is
    case k9 => first | exact BindsTo.of_eq rfl | exact binds_K (by k_in) rfl (by k_is) rfl rfl rfl
    case kB => exact locs rfl
    case c2 => exact rfl
    case c3 => exact rfl
    case c4 => exact rfl
    case c5 => decide
    intro L h₁ F N
    try dsimp only
    k_steps
    exact q _ _ _ ⟨_, rfl⟩ (Fr.keep (by assumption))
  have plain_a : ∀ {w : World} {p : Program} {loose : List Str} {mean : ExcName → Option Value} {mg mb : Str → Option Value} {t0 : Tok}, Con Challenge.rw_nz0046_01.row.prog w (Mine.holds.heap_1_39 w.params) (Top p loose mean mg mb) 6 271 [.str (Str.ofString "a") t0] (fun u => u = .bool true) := by
    intro w p loose mean mg mb t0
    intro A s R hA0 hA hU X T q
    obtain ⟨hnd, dep, frs, grd, uns⟩ := A
    dsimp only at hA0 hA hU
    subst hA0
    revert X
    k_fill
    intro X
    refine' enterK X T.nolimit ?a ?k6 ?k7 ?k9 ?kB ?_ ?c2 ?c3 ?c4 ?c5
    case a => (show dep < _; omega)
    case k6 => k_is
    case k7 => k_is
    case k9 => first | exact BindsTo.of_eq rfl | exact binds_K (by k_in) rfl (by k_is) rfl rfl rfl
    case kB => exact locs rfl
    case c2 => exact rfl
    case c3 => exact rfl
    case c4 => exact rfl
    case c5 => decide
    intro L h₁ F N
    try dsimp only
    k_steps
    exact q _ _ _ rfl (Fr.keep (by assumption))
  have label_k1 : ∀ {w : World} {p : Program} {loose : List Str} {mean : ExcName → Option Value} {mg mb : Str → Option Value} {t0 : Tok}, Con Challenge.rw_nz0046_01.row.prog w (Mine.holds.heap_1_39 w.params) (Top p loose mean mg mb) 6 264 [.str (Str.ofString "k1") t0] (fun u => u = .bool true) := by
    intro w p loose mean mg mb t0
    intro A s R hA0 hA hU X T q
    obtain ⟨hnd, dep, frs, grd, uns⟩ := A
    dsimp only at hA0 hA hU
    subst hA0
    revert X
    k_fill
    intro X
    refine' enterK X T.nolimit ?a ?k6 ?k7 ?k9 ?kB ?_ ?c2 ?c3 ?c4 ?c5
    case a => (show dep < _; omega)
    case k6 => k_is
    case k7 => k_is
    case k9 => first | exact BindsTo.of_eq rfl | exact binds_K (by k_in) rfl (by k_is) rfl rfl rfl
    case kB => exact locs rfl
    case c2 => exact rfl
    case c3 => exact rfl
    case c4 => exact rfl
    case c5 => decide
    intro L h₁ F N
    try dsimp only
    k_steps
    exact q _ _ _ rfl (Fr.keep (by assumption))
  have symbol_a : ∀ {w : World} {p : Program} {loose : List Str} {mean : ExcName → Option Value} {mg mb : Str → Option Value} {t0 : Tok}, Con Challenge.rw_nz0046_01.row.prog w (Mine.holds.heap_1_39 w.params) (Top p loose mean mg mb) 8 297 [.str (Str.ofString "a") t0] (fun u => ∃ t, u = .str (Str.ofString ":a") t) := by
    intro w p loose mean mg mb t0
    intro A s R hA0 hA hU X T q
    obtain ⟨hnd, dep, frs, grd, uns⟩ := A
    dsimp only at hA0 hA hU
    subst hA0
    revert X
    k_fill
    intro X
    refine' enterK X T.nolimit ?a ?k6 ?k7 ?k9 ?kB ?_ ?c2 ?c3 ?c4 ?c5
    case a => (show dep < _; omega)
    case k6 => k_is
    case k7 => k_is
    case k9 => first | exact BindsTo.of_eq rfl | exact binds_K (by k_in) rfl (by k_is) rfl rfl rfl
    case kB => exact locs rfl
    case c2 => exact rfl
    case c3 => exact rfl
    case c4 => exact rfl
    case c5 => decide
    intro L h₁ F N
    try dsimp only
    k_steps
    exact q _ _ _ ⟨_, rfl⟩ (Fr.keep (by assumption))
  k_go0
  rename_i w s₀ s₁ mg mb G Y fa o pm doc kV ho hg KX X V GL T B TE TW u9 u8 M u7 u6 hcd ns hs hlay0 hL1 hr1 hl2 u4 u3 l vs u0 hL ra w1 r0 hI hr hlen hcond K0 hD h₁ F N0
  have hkf : kfB (Mine.holds.heap_1_39 w.params) = true := by kernel_rfl
  have hgl : glB (Mine.holds.heap_1_39 w.params) = true := by kernel_rfl
  let G : G0 := g0 (prog := Challenge.rw_nz0046_01.row.prog) (w := w) KX T hkf hgl (by k_is) (by (dsimp only [KeysLit]; k_keys)) (by kernel_rfl) (by kernel_rfl) (by k_is) (by (dsimp only [KeysLit]; k_keys)) (by kernel_rfl) (by kernel_rfl) (by k_is) (by k_is) (by kernel_rfl)
  refine walk G ?zT (orcOK_of (G := G) T (fun _ _ => letter_b) (fun _ => symbol_a) (fun _ => label_k1)) hL hI ?zk ?zn ?zc ?zx ?zb F (law_runs l ns (by omega)) ?zq
  case zT => exact hT_of (by kernel_rfl)
  case zk => rfl
  case zn => decide
  case zc => decide
  case zx => kernel_rfl
  case zb => kernel_rfl
  case zq =>
    intro h' tk hk
    exact end_ok hk hg (fun _ => rfl) (by first | rfl | with_unfolding_all rfl | wrow_post)
set_option Elab.async false
theorem PySem.Challenge.cw_nz0046_01_holds : PySem.Challenge.rw_nz0046_01.Holds :=
  Mine.holds
