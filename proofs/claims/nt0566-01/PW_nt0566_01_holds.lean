import PyProof.Rows.All
import Wide.All
import OpenK.AllK
import Wide.FinOn
import Lean
import PySem.Challenge.RW_nt0566_01
set_option Elab.async false
set_option linter.unusedVariables false

section
namespace Mine

/-- values of the mini-language: strings and references are numbers (of a table, of the abstract heap) -/
inductive V where
  | none
  | bool (b : Bool)
  | int (i : Int)
  | str (k : Nat)
  | ref (i : Nat)
  | rng (lo hi st : Int)


inductive O where
  | list (vs : List V)
  | inst (c : Nat) (as : List (Nat × V))
  | arg (vs : List V)


inductive BOp where
  | add | sub | mul | fdiv | mod

inductive COp where
  | eq | ne | lt | le | gt | ge | isin | notin

inductive Blt where
  | len | max | min | int | sum | range | list


inductive E where
  | var (x : Nat)
  | con (v : V)
  | gcon (k : Nat)
  | bin (op : BOp) (a b : E)
  | cmp (a : E) (cs : List (COp × E))
  | bop (isAnd : Bool) (es : List E)
  | not (a : E)
  | ite (c a b : E)
  | attr (o : E) (a : Nat)
  | idx (o i : E)
  | slc (o : E) (lo hi : Option E)
  | list (es : List E)
  | comp (elt : E) (x : Nat) (it : E) (ifs : List E)
  | call (f : Nat) (args : List E)
  | new (c : Nat) (args : List E)
  | meth (o : E) (m : Nat) (args : List E)
  | app (o : E) (a : E)
  | blt (b : Blt) (args : List E)
  | inK (e : E)


inductive St where
  | asg (x : Nat) (e : E)
  | asgIdx (o i e : E)
  | asgSlc (o : E) (lo hi : Option E) (e : E)
  | asgAttr (o : E) (a : Nat) (e : E)
  | asgTup (xs : List Nat) (es : List E)
  | swap (o1 i1 o2 i2 e1 e2 : E)
  | unp (xs : List Nat) (e : E)
  | aug (x : Nat) (e : E)
  | ife (c : E) (a b : List St)
  | forv (x : Nat) (it : E) (body : List St)
  | forp (xs : List Nat) (it : E) (body : List St)
  | ret (e : E)
  | expr (e : E)
  | raise
  | tryN (body : List St)


/-- side by side -/
inductive Each {α β : Type} (R : α → β → Prop) : List α → List β → Prop where
  | nil : Each R [] []
  | cons {a b l m} : R a b → Each R l m → Each R (a :: l) (b :: m)
section
variable {α β : Type} {R R' : α → β → Prop} {l : List α} {m : List β}
theorem Each.mono (h : Each R l m) (k : ∀ a b, R a b → R' a b) : Each R' l m := by
  induction h with
  | nil => exact .nil
  | cons x _ ih => exact .cons (k _ _ x) ih
theorem Each.length (h : Each R l m) : l.length = m.length := by
  induction h with
  | nil => rfl
  | cons _ _ ih => exact congrArg Nat.succ ih
theorem Each.len (h : Each R l m) : l.length = m.length := h.length
theorem Each.append {l' : List α} {m' : List β} (h : Each R l m) (y : Each R l' m') : Each R (l ++ l') (m ++ m') := by
  induction h with
  | nil => exact y
  | cons x _ ih => exact .cons x ih
theorem Each.flip (h : Each R l m) : Each (fun b a => R a b) m l := by
  induction h with
  | nil => exact .nil
  | cons x _ ih => exact .cons x ih
theorem Each.get (h : Each R l m) : ∀ {i : Nat} {a : α}, l[i]? = some a → ∃ b, m[i]? = some b ∧ R a b := by
  induction h with
  | nil => intro i a h; cases h
  | cons x _ ih =>
    intro i a h
    cases i with
    | zero => cases h; exact ⟨_, rfl, x⟩
    | succ i => exact ih h
theorem Each.getL (h : Each R l m) {i : Nat} {a : α} (e : l[i]? = some a) : ∃ b, m[i]? = some b ∧ R a b := h.get e
theorem Each.getR (h : Each R l m) {i : Nat} {b : β} (e : m[i]? = some b) : ∃ a, l[i]? = some a ∧ R a b := h.flip.get e
theorem Each.set (h : Each R l m) : ∀ {i : Nat} {a : α} {b : β}, R a b → Each R (l.set i a) (m.set i b) := by
  induction h with
  | nil => intros; exact .nil
  | cons x r ih =>
    intro i a b q
    cases i with
    | zero => exact .cons q r
    | succ i => exact .cons x (ih q)
theorem Each.take (h : Each R l m) : ∀ (n : Nat), Each R (l.take n) (m.take n) := by
  induction h with
  | nil => intro n; cases n <;> exact .nil
  | cons x r ih =>
    intro n
    cases n with
    | zero => exact .nil
    | succ n => exact .cons x (ih n)
theorem Each.drop (h : Each R l m) : ∀ (n : Nat), Each R (l.drop n) (m.drop n) := by
  induction h with
  | nil => intro n; cases n <;> exact .nil
  | cons x r ih =>
    intro n
    cases n with
    | zero => exact .cons x r
    | succ n => exact ih n
end
end Mine
end

section
open PySem
namespace Mine

structure Tabs where
  names : List Str      -- locals and attributes
  texts : List Str       -- written texts
  fns : List Str        -- own functions, by number
  cls : List Str        -- own classes, by number
  gcs : List Str        -- global constants (ints), by number
  meths : List Str

noncomputable def find (l : List Str) (x : Str) : Option Nat :=
  let i := l.idxOf x
  if i < l.length then some i else none

noncomputable def bltOf (x : Str) : Option Blt :=
  if x = ("len" : Str) then some .len else if x = ("max" : Str) then some .max else if x = ("min" : Str) then some .min
  else if x = ("int" : Str) then some .int else if x = ("sum" : Str) then some .sum else if x = ("range" : Str) then some .range
  else if x = ("list" : Str) then some .list else none

noncomputable def bltName : Blt → Str
  | .len => "len" | .max => "max" | .min => "min" | .int => "int" | .sum => "sum" | .range => "range" | .list => "list"
theorem ite_some {α : Type} {p : Prop} [Decidable p] {a b : α} {r : Option α} (h : (if p then some a else r) = some b) : (p ∧ a = b) ∨ r = some b := by
  by_cases q : p
  · rw [if_pos q] at h; exact .inl ⟨q, Option.some.inj h⟩
  · rw [if_neg q] at h; exact .inr h
theorem blt_name {x : Str} {b : Blt} (h : bltOf x = some b) : x = bltName b := by
  rcases ite_some h with ⟨e, rfl⟩ | h
  · exact e
  rcases ite_some h with ⟨e, rfl⟩ | h
  · exact e
  rcases ite_some h with ⟨e, rfl⟩ | h
  · exact e
  rcases ite_some h with ⟨e, rfl⟩ | h
  · exact e
  rcases ite_some h with ⟨e, rfl⟩ | h
  · exact e
  rcases ite_some h with ⟨e, rfl⟩ | h
  · exact e
  rcases ite_some h with ⟨e, rfl⟩ | h
  · exact e
  · cases h

noncomputable def bopOf : Operator → Option BOp
  | .Add => some .add | .Sub => some .sub | .Mult => some .mul | .FloorDiv => some .fdiv | .Mod => some .mod | _ => none
noncomputable def copOf : CmpOp → Option COp
  | .Eq => some .eq | .NotEq => some .ne | .Lt => some .lt | .LtE => some .le | .Gt => some .gt | .GtE => some .ge | .In => some .isin | .NotIn => some .notin | _ => none

noncomputable def isG (sc : Scope) (x : Str) : Bool := sc.names.lookup x == some .globalImplicit

noncomputable def mapO {α β : Type} (f : α → Option β) : List α → Option (List β)
  | [] => some []
  | a :: r => match f a, mapO f r with
    | some b, some bs => some (b :: bs)
    | _, _ => none
noncomputable def compOk (sc csc : Scope) (x : Str) : Bool :=
  csc.kind == .function && csc.names.lookup x == some .local &&
  csc.names.all (fun y => y.2 == .local || (y.2 == .free && sc.names.lookup y.1 == some .cell) || y.2 == .globalImplicit) &&
  csc.names.all (fun y => y.2 != .local || csc.names.lookup y.1 == some .local) && csc.names.all (fun y => y.2 != .local || y.1 == x || y.1 == (".0" : Str)) && csc.names.all (fun y => y.2 != .free || csc.names.lookup y.1 == some .free)

/-- the base of an attribute is no bare call -/
noncomputable def plainBase : PySem.Expr → Bool
  | .Call (.Name _ _) [] [] _ => false
  | _ => true
noncomputable def notComp : PySem.Expr → Bool
  | .ListComp _ _ _ _ => false
  | _ => true

noncomputable def stName (t : Tabs) (sc : Scope) (x : Str) : Option Nat := match sc.names.lookup x with
  | some .local => find t.names x
  | some .cell => find t.names x
  | _ => none
noncomputable def nameId (t : Tabs) (sc : Scope) : PySem.Expr → Option Nat
  | .Name x _ => stName t sc x
  | _ => none

end Mine
end

section
open PySem
namespace Mine
noncomputable def tab : Tabs where
  names := (["k", "self", "message", "places", "dc_slots", "ac_slots", "start", "end", "high", "low", "frame", "scan", "ahead",
    "place", "most", "slot", "last", "row", "at", "is_lossless", "scans", "state", "slots", "found", "here", "many",
    "more", "cut", "size", "ident", "across", "down", "quant", "kind", "precision", "height", "width", "components", "n",
    "component", "script", "cell", "big", "mixed", "source", "top", "drawn", "things", "told", "rows", "way", "other",
    "is_band", "is_done", "first", "wrong", "known", "one"] : List String).map Str.ofString
  texts := (["baseline", "extended", "progressive", "lossless", "arith progressive"] : List String).map Str.ofString
  fns := (["blocks_of_unit", "check_places", "check_slots", "check_band", "check_progressive_band", "follow_script", "check_script", "is_complete",
    "slot_of", "scan_of", "groups", "sequential_script", "dc_scans", "ac_scans", "colour_script", "plain_script", "progressive_script",
    "_law_pool", "_law_take", "_law_one", "_law_frame", "_law_groups", "_law_plain", "_law_drawn", "_law_spoilt", "_law_is_scan", "_law_told",
    "_law_judged", "_law_answer", "law"] : List String).map Str.ofString
  cls := (["Scan", "ScriptState", "Component", "Frame"] : List String).map Str.ofString
  gcs := (["MOST_IN_SCAN", "MOST_IN_UNIT", "MOST_LOW", "MOST_POINT", "UNKNOWN", "LOW_END"] : List String).map Str.ofString
  meths := (["is_alone", "follow", "is_complete"] : List String).map Str.ofString
end Mine
end

section
open PySem
namespace Mine
set_option linter.unusedVariables false

inductive Opt1 {α β : Type} (R : α → β → Prop) : Option α → Option β → Prop where
  | none : Opt1 R none none
  | some {a b} : R a b → Opt1 R (some a) (some b)
theorem Opt1.mono {α β : Type} {R R' : α → β → Prop} {l : Option α} {m : Option β} (h : Opt1 R l m) (k : ∀ a b, R a b → R' a b) : Opt1 R' l m := by
  cases h with
  | none => exact .none
  | some x => exact .some (k _ _ x)
/-- comparisons in a row -/
inductive OkCs (R : PySem.Expr → E → Prop) : List CmpOp → List PySem.Expr → List (COp × E) → Prop where
  | one {op o pe e} : copOf op = some o → R pe e → OkCs R [op] [pe] [(o, e)]
  | cons {op o pe e ops pes cs} : copOf op = some o → R pe e → OkCs R ops pes cs → OkCs R (op :: ops) (pe :: pes) ((o, e) :: cs)
theorem OkCs.mono {R R' : PySem.Expr → E → Prop} {ops : List CmpOp} {pes : List PySem.Expr} {cs : List (COp × E)} (h : OkCs R ops pes cs) (k : ∀ a b, R a b → R' a b) : OkCs R' ops pes cs := by
  induction h with
  | one h x => exact .one h (k _ _ x)
  | cons h x _ ih => exact .cons h (k _ _ x) ih

/-- the rules of the translation; what every relation that keeps them holds is translated -/
structure Rules (P : Scope → PySem.Expr → E → Prop) (PS : Scope → PySem.Stmt → St → Prop) : Prop where
  e_gcon {sc x p k} : sc.names.lookup x = some .globalImplicit → find tab.gcs x = some k → P sc (.Name x p) (.gcon k)
  e_var {sc x p k kk} : sc.names.lookup x = some kk → kk ≠ .globalImplicit → find tab.names x = some k → P sc (.Name x p) (.var k)
  e_none {sc k p} : P sc (.Constant .none k p) (.con .none)
  e_bool {sc b k p} : P sc (.Constant (.bool b) k p) (.con (.bool b))
  e_int {sc i k p} : P sc (.Constant (.int i) k p) (.con (.int i))
  e_str {sc x k p j} : find tab.texts x = some j → P sc (.Constant (.str x) k p) (.con (.str j))
  e_neg {sc i k p q} : P sc (.UnaryOp .USub (.Constant (.int i) k p) q) (.con (.int (-i)))
  e_not {sc a a' p} : P sc a a' → P sc (.UnaryOp .Not a p) (.not a')
  e_pow {sc k k' p p' q} : P sc (.BinOp (.Constant (.int 10) k p) .Pow (.Constant (.int 18) k' p') q) (.con (.int 1000000000000000000))
  e_bin {sc op o a a' b b' p} : bopOf op = some o → P sc a a' → P sc b b' → P sc (.BinOp a op b p) (.bin o a' b')
  e_inK {sc a a' p q} : sc.names.lookup ("PROGRESSIVE" : Str) = some .globalImplicit → P sc a a' → P sc (.Compare a [.In] [.Name ("PROGRESSIVE" : Str) q] p) (.inK a')
  e_cmp {sc a a' ops es cs p} : P sc a a' → OkCs (P sc) ops es cs → P sc (.Compare a ops es p) (.cmp a' cs)
  e_bop {sc op es es' p} : es ≠ [] → Each (P sc) es es' → P sc (.BoolOp op es p) (.bop (op == .And) es')
  e_ite {sc c c' a a' b b' p} : P sc c c' → P sc a a' → P sc b b' → P sc (.IfExp c a b p) (.ite c' a' b')
  e_attr {sc o o' a k p} : plainBase o = true → find tab.names a = some k → P sc o o' → P sc (.Attribute o a p) (.attr o' k)
  e_slc {sc o o' lo lo' hi hi' p q} : P sc o o' → Opt1 (P sc) lo lo' → Opt1 (P sc) hi hi' → P sc (.Subscript o (.Slice lo hi none p) q) (.slc o' lo' hi')
  e_idx {sc o o' i i' p} : P sc o o' → P sc i i' → P sc (.Subscript o i p) (.idx o' i')
  e_list {sc es es' p} : Each (P sc) es es' → P sc (.List es p) (.list es')
  e_comp {sc csc elt elt' x k xp it it' ifs ifs' p} : compOk sc csc x = true → find tab.names x = some k → P csc elt elt' → P sc it it' → Each (P csc) ifs ifs' → P sc (.ListComp elt [⟨.Name x xp, it, ifs, 0⟩] csc p) (.comp elt' k it' ifs')
  e_app {sc o o' a a' p ap} : plainBase o = true → (ap.endLine == p.line) = true → P sc o o' → P sc a a' → P sc (.Call (.Attribute o ("append" : Str) ap) [a] [] p) (.app o' a')
  e_meth {sc o o' m k es es' p ap} : plainBase o = true → (ap.endLine == p.line) = true → es.length < 30 → find tab.meths m = some k → P sc o o' → Each (P sc) es es' → P sc (.Call (.Attribute o m ap) es [] p) (.meth o' k es')
  e_call {sc f k es es' p q} : sc.names.lookup f = some .globalImplicit → find tab.fns f = some k → Each (P sc) es es' → P sc (.Call (.Name f q) es [] p) (.call k es')
  e_new {sc f k es es' p q} : sc.names.lookup f = some .globalImplicit → find tab.cls f = some k → Each (P sc) es es' → P sc (.Call (.Name f q) es [] p) (.new k es')
  e_blt {sc f k es es' p q} : sc.names.lookup f = some .globalImplicit → bltOf f = some k → Each (P sc) es es' → P sc (.Call (.Name f q) es [] p) (.blt k es')
  s_asg {sc x k e e' p q} : stName tab sc x = some k → P sc e e' → PS sc (.Assign [.Name x p] e q) (.asg k e')
  s_swap {sc o1 a i1 b o2 c i2 d e1 x e2 y p1 p2 k p k' p' q} : P sc o1 a → P sc i1 b → P sc o2 c → P sc i2 d → P sc e1 x → P sc e2 y → PS sc (.Assign [.Tuple [.Subscript o1 i1 p1, .Subscript o2 i2 p2] k p] (.Tuple [e1, e2] k' p') q) (.swap a b c d x y)
  s_asgTup {sc ts xs es es' k p k' p' q} : es.all (constantsAlone 8) = false → mapO (nameId tab sc) ts = some xs → Each (P sc) es es' → PS sc (.Assign [.Tuple ts k p] (.Tuple es k' p') q) (.asgTup xs es')
  s_unp {sc ts xs e e' k p q} : mapO (nameId tab sc) ts = some xs → P sc e e' → PS sc (.Assign [.Tuple ts k p] e q) (.unp xs e')
  s_asgSlc {sc o o' hi hi' e e' p p' q} : P sc o o' → P sc hi hi' → P sc e e' → PS sc (.Assign [.Subscript o (.Slice none (some hi) none p) p'] e q) (.asgSlc o' none (some hi') e')
  s_asgIdx {sc o o' i i' e e' p q} : P sc o o' → P sc i i' → P sc e e' → PS sc (.Assign [.Subscript o i p] e q) (.asgIdx o' i' e')
  s_asgAttr {sc o o' a k e e' p q} : find tab.names a = some k → P sc o o' → P sc e e' → PS sc (.Assign [.Attribute o a p] e q) (.asgAttr o' k e')
  s_aug {sc x k e e' p q} : stName tab sc x = some k → P sc e e' → PS sc (.AugAssign (.Name x p) .Add e q) (.aug k e')
  s_ife {sc c c' a a' b b' q} : P sc c c' → Each (PS sc) a a' → Each (PS sc) b b' → PS sc (.If c a b q) (.ife c' a' b')
  s_forv {sc x k it it' b b' p q} : stName tab sc x = some k → P sc it it' → Each (PS sc) b b' → PS sc (.For (.Name x p) it b [] q) (.forv k it' b')
  s_forp {sc ts ks it it' b b' k p q} : mapO (nameId tab sc) ts = some ks → P sc it it' → Each (PS sc) b b' → PS sc (.For (.Tuple ts k p) it b [] q) (.forp ks it' b')
  s_ret {sc e e' q} : P sc e e' → PS sc (.Return (some e) q) (.ret e')
  s_expr {sc e e' q} : notComp e = true → P sc e e' → PS sc (.Expr e q) (.expr e')
  s_raise {sc msg k p1 p2 p3 q} : sc.names.lookup ("ScriptError" : Str) = some .globalImplicit → PS sc (.Raise (some (.Call (.Name ("ScriptError" : Str) p1) [.Constant (.str msg) k p2] [] p3)) none q) .raise
  s_tryN {sc b b' p1 k p2 p3 p4 q} : sc.names.lookup ("ScriptError" : Str) = some .globalImplicit → Each (PS sc) b b' → PS sc (.Try b [.ExceptHandler (some (.Name ("ScriptError" : Str) p1)) none [.Return (some (.Constant .none k p2)) p3] p4] [] [] q) (.tryN b')

/-- an expression of the text and its form in the mini-language -/
noncomputable def TE (sc : Scope) (pe : PySem.Expr) (e : E) : Prop := ∀ P PS, Rules P PS → P sc pe e
/-- a statement of the text and its form in the mini-language -/
noncomputable def TS (sc : Scope) (ps : PySem.Stmt) (st : St) : Prop := ∀ P PS, Rules P PS → PS sc ps st
abbrev TEs (sc : Scope) : List PySem.Expr → List E → Prop := Each (TE sc)
abbrev TEo (sc : Scope) : Option PySem.Expr → Option E → Prop := Opt1 (TE sc)
abbrev TEz (sc : Scope) : List CmpOp → List PySem.Expr → List (COp × E) → Prop := OkCs (TE sc)
abbrev TSs (sc : Scope) : List PySem.Stmt → List St → Prop := Each (TS sc)
theorem TE.gcon {sc x p k} : sc.names.lookup x = some .globalImplicit → find tab.gcs x = some k → TE sc (.Name x p) (.gcon k) := fun h0 h1 P PS r => r.e_gcon h0 h1
theorem TE.var {sc x p k kk} : sc.names.lookup x = some kk → kk ≠ .globalImplicit → find tab.names x = some k → TE sc (.Name x p) (.var k) := fun h0 h1 h2 P PS r => r.e_var h0 h1 h2
theorem TE.none {sc k p} : TE sc (.Constant .none k p) (.con .none) := fun P PS r => r.e_none 
theorem TE.bool {sc b k p} : TE sc (.Constant (.bool b) k p) (.con (.bool b)) := fun P PS r => r.e_bool 
theorem TE.int {sc i k p} : TE sc (.Constant (.int i) k p) (.con (.int i)) := fun P PS r => r.e_int 
theorem TE.str {sc x k p j} : find tab.texts x = some j → TE sc (.Constant (.str x) k p) (.con (.str j)) := fun h0 P PS r => r.e_str h0
theorem TE.neg {sc i k p q} : TE sc (.UnaryOp .USub (.Constant (.int i) k p) q) (.con (.int (-i))) := fun P PS r => r.e_neg 
theorem TE.not {sc a a' p} : TE sc a a' → TE sc (.UnaryOp .Not a p) (.not a') := fun h0 P PS r => r.e_not (h0 P PS r)
theorem TE.pow {sc k k' p p' q} : TE sc (.BinOp (.Constant (.int 10) k p) .Pow (.Constant (.int 18) k' p') q) (.con (.int 1000000000000000000)) := fun P PS r => r.e_pow 
theorem TE.bin {sc op o a a' b b' p} : bopOf op = some o → TE sc a a' → TE sc b b' → TE sc (.BinOp a op b p) (.bin o a' b') := fun h0 h1 h2 P PS r => r.e_bin h0 (h1 P PS r) (h2 P PS r)
theorem TE.inK {sc a a' p q} : sc.names.lookup ("PROGRESSIVE" : Str) = some .globalImplicit → TE sc a a' → TE sc (.Compare a [.In] [.Name ("PROGRESSIVE" : Str) q] p) (.inK a') := fun h0 h1 P PS r => r.e_inK h0 (h1 P PS r)
theorem TE.cmp {sc a a' ops es cs p} : TE sc a a' → TEz sc ops es cs → TE sc (.Compare a ops es p) (.cmp a' cs) := fun h0 h1 P PS r => r.e_cmp (h0 P PS r) (h1.mono fun _ _ h => h P PS r)
theorem TE.bop {sc op es es' p} : es ≠ [] → TEs sc es es' → TE sc (.BoolOp op es p) (.bop (op == .And) es') := fun h0 h1 P PS r => r.e_bop h0 (h1.mono fun _ _ h => h P PS r)
theorem TE.ite {sc c c' a a' b b' p} : TE sc c c' → TE sc a a' → TE sc b b' → TE sc (.IfExp c a b p) (.ite c' a' b') := fun h0 h1 h2 P PS r => r.e_ite (h0 P PS r) (h1 P PS r) (h2 P PS r)
theorem TE.attr {sc o o' a k p} : plainBase o = true → find tab.names a = some k → TE sc o o' → TE sc (.Attribute o a p) (.attr o' k) := fun h0 h1 h2 P PS r => r.e_attr h0 h1 (h2 P PS r)
theorem TE.slc {sc o o' lo lo' hi hi' p q} : TE sc o o' → TEo sc lo lo' → TEo sc hi hi' → TE sc (.Subscript o (.Slice lo hi Option.none p) q) (.slc o' lo' hi') := fun h0 h1 h2 P PS r => r.e_slc (h0 P PS r) (h1.mono fun _ _ h => h P PS r) (h2.mono fun _ _ h => h P PS r)
theorem TE.idx {sc o o' i i' p} : TE sc o o' → TE sc i i' → TE sc (.Subscript o i p) (.idx o' i') := fun h0 h1 P PS r => r.e_idx (h0 P PS r) (h1 P PS r)
theorem TE.list {sc es es' p} : TEs sc es es' → TE sc (.List es p) (.list es') := fun h0 P PS r => r.e_list (h0.mono fun _ _ h => h P PS r)
theorem TE.comp {sc csc elt elt' x k xp it it' ifs ifs' p} : compOk sc csc x = true → find tab.names x = some k → TE csc elt elt' → TE sc it it' → TEs csc ifs ifs' → TE sc (.ListComp elt [⟨.Name x xp, it, ifs, 0⟩] csc p) (.comp elt' k it' ifs') := fun h0 h1 h2 h3 h4 P PS r => r.e_comp h0 h1 (h2 P PS r) (h3 P PS r) (h4.mono fun _ _ h => h P PS r)
theorem TE.app {sc o o' a a' p ap} : plainBase o = true → (ap.endLine == p.line) = true → TE sc o o' → TE sc a a' → TE sc (.Call (.Attribute o ("append" : Str) ap) [a] [] p) (.app o' a') := fun h0 h1 h2 h3 P PS r => r.e_app h0 h1 (h2 P PS r) (h3 P PS r)
theorem TE.meth {sc o o' m k es es' p ap} : plainBase o = true → (ap.endLine == p.line) = true → es.length < 30 → find tab.meths m = some k → TE sc o o' → TEs sc es es' → TE sc (.Call (.Attribute o m ap) es [] p) (.meth o' k es') := fun h0 h1 h2 h3 h4 h5 P PS r => r.e_meth h0 h1 h2 h3 (h4 P PS r) (h5.mono fun _ _ h => h P PS r)
theorem TE.call {sc f k es es' p q} : sc.names.lookup f = some .globalImplicit → find tab.fns f = some k → TEs sc es es' → TE sc (.Call (.Name f q) es [] p) (.call k es') := fun h0 h1 h2 P PS r => r.e_call h0 h1 (h2.mono fun _ _ h => h P PS r)
theorem TE.new {sc f k es es' p q} : sc.names.lookup f = some .globalImplicit → find tab.cls f = some k → TEs sc es es' → TE sc (.Call (.Name f q) es [] p) (.new k es') := fun h0 h1 h2 P PS r => r.e_new h0 h1 (h2.mono fun _ _ h => h P PS r)
theorem TE.blt {sc f k es es' p q} : sc.names.lookup f = some .globalImplicit → bltOf f = some k → TEs sc es es' → TE sc (.Call (.Name f q) es [] p) (.blt k es') := fun h0 h1 h2 P PS r => r.e_blt h0 h1 (h2.mono fun _ _ h => h P PS r)
theorem TS.asg {sc x k e e' p q} : stName tab sc x = some k → TE sc e e' → TS sc (.Assign [.Name x p] e q) (.asg k e') := fun h0 h1 P PS r => r.s_asg h0 (h1 P PS r)
theorem TS.swap {sc o1 a i1 b o2 c i2 d e1 x e2 y p1 p2 k p k' p' q} : TE sc o1 a → TE sc i1 b → TE sc o2 c → TE sc i2 d → TE sc e1 x → TE sc e2 y → TS sc (.Assign [.Tuple [.Subscript o1 i1 p1, .Subscript o2 i2 p2] k p] (.Tuple [e1, e2] k' p') q) (.swap a b c d x y) := fun h0 h1 h2 h3 h4 h5 P PS r => r.s_swap (h0 P PS r) (h1 P PS r) (h2 P PS r) (h3 P PS r) (h4 P PS r) (h5 P PS r)
theorem TS.asgTup {sc ts xs es es' k p k' p' q} : es.all (constantsAlone 8) = false → mapO (nameId tab sc) ts = some xs → TEs sc es es' → TS sc (.Assign [.Tuple ts k p] (.Tuple es k' p') q) (.asgTup xs es') := fun h0 h1 h2 P PS r => r.s_asgTup h0 h1 (h2.mono fun _ _ h => h P PS r)
theorem TS.unp {sc ts xs e e' k p q} : mapO (nameId tab sc) ts = some xs → TE sc e e' → TS sc (.Assign [.Tuple ts k p] e q) (.unp xs e') := fun h0 h1 P PS r => r.s_unp h0 (h1 P PS r)
theorem TS.asgSlc {sc o o' hi hi' e e' p p' q} : TE sc o o' → TE sc hi hi' → TE sc e e' → TS sc (.Assign [.Subscript o (.Slice none (some hi) none p) p'] e q) (.asgSlc o' none (some hi') e') := fun h0 h1 h2 P PS r => r.s_asgSlc (h0 P PS r) (h1 P PS r) (h2 P PS r)
theorem TS.asgIdx {sc o o' i i' e e' p q} : TE sc o o' → TE sc i i' → TE sc e e' → TS sc (.Assign [.Subscript o i p] e q) (.asgIdx o' i' e') := fun h0 h1 h2 P PS r => r.s_asgIdx (h0 P PS r) (h1 P PS r) (h2 P PS r)
theorem TS.asgAttr {sc o o' a k e e' p q} : find tab.names a = some k → TE sc o o' → TE sc e e' → TS sc (.Assign [.Attribute o a p] e q) (.asgAttr o' k e') := fun h0 h1 h2 P PS r => r.s_asgAttr h0 (h1 P PS r) (h2 P PS r)
theorem TS.aug {sc x k e e' p q} : stName tab sc x = some k → TE sc e e' → TS sc (.AugAssign (.Name x p) .Add e q) (.aug k e') := fun h0 h1 P PS r => r.s_aug h0 (h1 P PS r)
theorem TS.ife {sc c c' a a' b b' q} : TE sc c c' → TSs sc a a' → TSs sc b b' → TS sc (.If c a b q) (.ife c' a' b') := fun h0 h1 h2 P PS r => r.s_ife (h0 P PS r) (h1.mono fun _ _ h => h P PS r) (h2.mono fun _ _ h => h P PS r)
theorem TS.forv {sc x k it it' b b' p q} : stName tab sc x = some k → TE sc it it' → TSs sc b b' → TS sc (.For (.Name x p) it b [] q) (.forv k it' b') := fun h0 h1 h2 P PS r => r.s_forv h0 (h1 P PS r) (h2.mono fun _ _ h => h P PS r)
theorem TS.forp {sc ts ks it it' b b' k p q} : mapO (nameId tab sc) ts = some ks → TE sc it it' → TSs sc b b' → TS sc (.For (.Tuple ts k p) it b [] q) (.forp ks it' b') := fun h0 h1 h2 P PS r => r.s_forp h0 (h1 P PS r) (h2.mono fun _ _ h => h P PS r)
theorem TS.ret {sc e e' q} : TE sc e e' → TS sc (.Return (some e) q) (.ret e') := fun h0 P PS r => r.s_ret (h0 P PS r)
theorem TS.expr {sc e e' q} : notComp e = true → TE sc e e' → TS sc (.Expr e q) (.expr e') := fun h0 h1 P PS r => r.s_expr h0 (h1 P PS r)
theorem TS.raise {sc msg k p1 p2 p3 q} : sc.names.lookup ("ScriptError" : Str) = some .globalImplicit → TS sc (.Raise (some (.Call (.Name ("ScriptError" : Str) p1) [.Constant (.str msg) k p2] [] p3)) none q) .raise := fun h0 P PS r => r.s_raise h0
theorem TS.tryN {sc b b' p1 k p2 p3 p4 q} : sc.names.lookup ("ScriptError" : Str) = some .globalImplicit → TSs sc b b' → TS sc (.Try b [.ExceptHandler (some (.Name ("ScriptError" : Str) p1)) none [.Return (some (.Constant .none k p2)) p3] p4] [] [] q) (.tryN b') := fun h0 h1 P PS r => r.s_tryN h0 (h1.mono fun _ _ h => h P PS r)

abbrev CE (sc : Scope) (e : PySem.Expr) : Type := Option {e' : E // TE sc e e'}
noncomputable def trEs {sc : Scope} (f : (e : PySem.Expr) → CE sc e) : (l : List PySem.Expr) → Option {m : List E // TEs sc l m}
  | [] => some ⟨[], .nil⟩
  | e :: r => match f e, trEs f r with
    | some a, some b => some ⟨a.1 :: b.1, .cons a.2 b.2⟩
    | _, _ => none
noncomputable def trEo {sc : Scope} (f : (e : PySem.Expr) → CE sc e) : (l : Option PySem.Expr) → Option {m : Option E // TEo sc l m}
  | none => some ⟨none, .none⟩
  | some e => match f e with
    | some a => some ⟨some a.1, .some a.2⟩
    | none => none
noncomputable def trEz {sc : Scope} (f : (e : PySem.Expr) → CE sc e) : (ops : List CmpOp) → (l : List PySem.Expr) → Option {m : List (COp × E) // TEz sc ops l m}
  | [op], [e] => match h : copOf op, f e with
    | some o, some a => some ⟨[(o, a.1)], .one h a.2⟩
    | _, _ => none
  | op :: ops, e :: es => match h : copOf op, f e, trEz f ops es with
    | some o, some a, some r => some ⟨(o, a.1) :: r.1, .cons h a.2 r.2⟩
    | _, _, _ => none
  | _, _ => none

noncomputable def trE : Nat → (sc : Scope) → (pe : PySem.Expr) → CE sc pe
  | 0, _, _ => none
  | n + 1, sc, pe => match pe with
    | .Name x p => match h : sc.names.lookup x with
      | none => none
      | some kk => if hk : kk = .globalImplicit then (match h2 : find tab.gcs x with
          | some k => some ⟨.gcon k, .gcon (by rw [h, hk]) h2⟩
          | none => none) else (match h2 : find tab.names x with
          | some k => some ⟨.var k, .var h hk h2⟩
          | none => none)
    | .Constant c k p => match c with
      | .none => some ⟨_, .none⟩
      | .bool b => some ⟨_, .bool⟩
      | .int i => some ⟨_, .int⟩
      | .str s => match h : find tab.texts s with
        | some j => some ⟨_, .str h⟩
        | none => none
      | _ => none
    | .UnaryOp .USub (.Constant (.int i) _ _) _ => some ⟨_, .neg⟩
    | .UnaryOp .Not a _ => match trE n sc a with
      | some a => some ⟨_, .not a.2⟩
      | none => none
    | .BinOp (.Constant (.int 10) _ _) .Pow (.Constant (.int 18) _ _) _ => some ⟨_, .pow⟩
    | .BinOp a op b _ => match h : bopOf op, trE n sc a, trE n sc b with
      | some o, some a, some b => some ⟨_, .bin h a.2 b.2⟩
      | _, _, _ => none
    | .Compare a ops es _ => match trE n sc a with
      | none => none
      | some a => match ops, es with
        | [.In], [.Name x q] => if h : sc.names.lookup x = some .globalImplicit ∧ x = ("PROGRESSIVE" : Str) then some ⟨.inK a.1, by obtain ⟨h1, rfl⟩ := h; exact .inK h1 a.2⟩
            else (match trEz (trE n sc) [.In] [.Name x q] with
              | some cs => some ⟨_, .cmp a.2 cs.2⟩
              | none => none)
        | ops, es => match trEz (trE n sc) ops es with
          | some cs => some ⟨_, .cmp a.2 cs.2⟩
          | none => none
    | .BoolOp op es _ => match es with
      | [] => none
      | e :: r => match trEs (trE n sc) (e :: r) with
        | some es => some ⟨_, .bop (fun h => nomatch h) es.2⟩
        | none => none
    | .IfExp c a b _ => match trE n sc c, trE n sc a, trE n sc b with
      | some c, some a, some b => some ⟨_, .ite c.2 a.2 b.2⟩
      | _, _, _ => none
    | .Attribute o a _ => if h : plainBase o = true then (match trE n sc o, h2 : find tab.names a with
        | some o, some k => some ⟨_, .attr h h2 o.2⟩
        | _, _ => none) else none
    | .Subscript o (.Slice lo hi none _) _ => match trE n sc o, trEo (trE n sc) lo, trEo (trE n sc) hi with
      | some o, some l, some h => some ⟨_, .slc o.2 l.2 h.2⟩
      | _, _, _ => none
    | .Subscript o i _ => match trE n sc o, trE n sc i with
      | some o, some i => some ⟨_, .idx o.2 i.2⟩
      | _, _ => none
    | .List es _ => match trEs (trE n sc) es with
      | some es => some ⟨_, .list es.2⟩
      | none => none
    | .ListComp elt [⟨.Name x _, it, ifs, 0⟩] csc _ => if h : compOk sc csc x = true then (match trE n csc elt, h2 : find tab.names x, trE n sc it, trEs (trE n csc) ifs with
        | some elt, some k, some it, some ifs => some ⟨_, .comp h h2 elt.2 it.2 ifs.2⟩
        | _, _, _, _ => none) else none
    | .Call (.Attribute o m ap) es [] p => if h : plainBase o = true ∧ (ap.endLine == p.line) = true then (match trE n sc o with
        | none => none
        | some o => if hm : m = ("append" : Str) then (match es with
            | [a] => (match trE n sc a with
              | some a => some ⟨.app o.1 a.1, by subst hm; exact .app h.1 h.2 o.2 a.2⟩
              | none => none)
            | _ => none)
          else if hn : es.length < 30 then (match h2 : find tab.meths m, trEs (trE n sc) es with
            | some k, some es => some ⟨_, .meth h.1 h.2 hn h2 o.2 es.2⟩
            | _, _ => none) else none) else none
    | .Call (.Name f _) es [] _ => if h : sc.names.lookup f = some .globalImplicit then (match trEs (trE n sc) es with
        | none => none
        | some es => match h1 : find tab.fns f, h2 : find tab.cls f, h3 : bltOf f with
          | some k, _, _ => some ⟨_, .call h h1 es.2⟩
          | none, some k, _ => some ⟨_, .new h h2 es.2⟩
          | none, none, some b => some ⟨_, .blt h h3 es.2⟩
          | _, _, _ => none) else none
    | _ => none

abbrev CS (sc : Scope) (e : PySem.Stmt) : Type := Option {e' : St // TS sc e e'}
noncomputable def trSs {sc : Scope} (f : (e : PySem.Stmt) → CS sc e) : (l : List PySem.Stmt) → Option {m : List St // TSs sc l m}
  | [] => some ⟨[], .nil⟩
  | e :: r => match f e, trSs f r with
    | some a, some b => some ⟨a.1 :: b.1, .cons a.2 b.2⟩
    | _, _ => none
noncomputable def trS : Nat → (sc : Scope) → (ps : PySem.Stmt) → CS sc ps
  | 0, _, _ => none
  | n + 1, sc, s => match s with
    | .Assign [.Name x _] e _ => match h : stName tab sc x, trE n sc e with
      | some k, some e => some ⟨_, .asg h e.2⟩
      | _, _ => none
    | .Assign [.Tuple [.Subscript o1 i1 _, .Subscript o2 i2 _] _ _] (.Tuple [e1, e2] _ _) _ => match trE n sc o1, trE n sc i1, trE n sc o2, trE n sc i2, trE n sc e1, trE n sc e2 with
      | some a, some b, some c, some d, some x, some y => some ⟨_, .swap a.2 b.2 c.2 d.2 x.2 y.2⟩
      | _, _, _, _, _, _ => none
    | .Assign [.Tuple ts _ _] (.Tuple es _ _) _ => if h : es.all (constantsAlone 8) = false then (match h2 : mapO (nameId tab sc) ts, trEs (trE n sc) es with
        | some xs, some es => some ⟨_, .asgTup h h2 es.2⟩
        | _, _ => none) else none
    | .Assign [.Tuple ts _ _] e _ => match h2 : mapO (nameId tab sc) ts, trE n sc e with
      | some xs, some e => some ⟨_, .unp h2 e.2⟩
      | _, _ => none
    | .Assign [.Subscript o (.Slice none (some hi) none _) _] e _ => match trE n sc o, trE n sc hi, trE n sc e with
      | some o, some h, some e => some ⟨_, .asgSlc o.2 h.2 e.2⟩
      | _, _, _ => none
    | .Assign [.Subscript o i _] e _ => match trE n sc o, trE n sc i, trE n sc e with
      | some o, some i, some e => some ⟨_, .asgIdx o.2 i.2 e.2⟩
      | _, _, _ => none
    | .Assign [.Attribute o a _] e _ => match trE n sc o, h : find tab.names a, trE n sc e with
      | some o, some k, some e => some ⟨_, .asgAttr h o.2 e.2⟩
      | _, _, _ => none
    | .AugAssign (.Name x _) .Add e _ => match h : stName tab sc x, trE n sc e with
      | some k, some e => some ⟨_, .aug h e.2⟩
      | _, _ => none
    | .If c a b _ => match trE n sc c, trSs (trS n sc) a, trSs (trS n sc) b with
      | some c, some a, some b => some ⟨_, .ife c.2 a.2 b.2⟩
      | _, _, _ => none
    | .For (.Name x _) it body [] _ => match h : stName tab sc x, trE n sc it, trSs (trS n sc) body with
      | some k, some i, some b => some ⟨_, .forv h i.2 b.2⟩
      | _, _, _ => none
    | .For (.Tuple ts _ _) it body [] _ => match h : mapO (nameId tab sc) ts, trE n sc it, trSs (trS n sc) body with
      | some ks, some i, some b => some ⟨_, .forp h i.2 b.2⟩
      | _, _, _ => none
    | .Return (some e) _ => match trE n sc e with
      | some e => some ⟨_, .ret e.2⟩
      | none => none
    | .Expr e _ => if h : notComp e = true then (match trE n sc e with
      | some e => some ⟨_, .expr h e.2⟩
      | none => none) else none
    | .Raise (some (.Call (.Name x _) [.Constant (.str _) _ _] [] _)) none _ => if h : sc.names.lookup x = some .globalImplicit ∧ x = ("ScriptError" : Str) then some ⟨.raise, by obtain ⟨h1, rfl⟩ := h; exact .raise h1⟩ else none
    | .Try body [.ExceptHandler (some (.Name x _)) none [.Return (some (.Constant .none _ _)) _] _] [] [] _ =>
        if h : sc.names.lookup x = some .globalImplicit ∧ x = ("ScriptError" : Str) then (match trSs (trS n sc) body with
          | some b => some ⟨.tryN b.1, by obtain ⟨h1, rfl⟩ := h; exact .tryN h1 b.2⟩
          | none => none) else none
    | _ => none
noncomputable def trB (n : Nat) (sc : Scope) (b : List PySem.Stmt) : Option (List St) := (trSs (trS n sc) b).map (·.1)
theorem trB_spec {n : Nat} {sc : Scope} {b : List PySem.Stmt} {m : List St} (h : trB n sc b = some m) : TSs sc b m := by
  obtain ⟨x, _, rfl⟩ := Option.map_eq_some_iff.mp h
  exact x.2
end Mine
end

section
namespace Mine

abbrev H := List O
abbrev Fr := Nat → Option V
noncomputable def upd (fr : Fr) (x : Nat) (v : V) : Fr := fun y => if y = x then some v else fr y
noncomputable def upds (fr : Fr) : List Nat → List V → Fr
  | x :: xs, v :: vs => upds (upd fr x v) xs vs
  | _, _ => fr
noncomputable def bind0 (ps : List Nat) (vs : List V) : Fr := upds (fun _ => none) ps vs
noncomputable def LIM : Nat := 1048576

noncomputable def rngLen (lo hi st : Int) : Nat := if st = 1 then (hi - lo).toNat else (lo - hi).toNat
noncomputable def rngItems (lo hi st : Int) : List V := (List.range (rngLen lo hi st)).map fun (i : Nat) => V.int (lo + st * (i : Int))
noncomputable def items (v : V) (S : H) : Option (List V) := match v with
  | .ref k => (match S[k]? with
    | some (.list vs) => some vs
    | _ => none)
  | .rng lo hi st => if lo.natAbs ≤ 1000000 ∧ hi.natAbs ≤ 1000000 ∧ (st = 1 ∨ st = -1) then some (rngItems lo hi st) else none
  | _ => none
noncomputable def intsO : List V → Option (List Int)
  | [] => some []
  | .int i :: r => (intsO r).map (i :: ·)
  | _ :: _ => none
noncomputable def nth (vs : List V) (j : Int) : Option V := if 0 ≤ j then vs[j.toNat]? else if 0 ≤ (vs.length : Int) + j then vs[((vs.length : Int) + j).toNat]? else none
/-- a text's word is read: what a comparison says -/
inductive EqR (S : H) (Q : Bool → Prop) : V → V → Prop where
  | nn (q : Q true) : EqR S Q .none .none
  | nb {b : Bool} (q : Q false) : EqR S Q .none (.bool b)
  | bn {b : Bool} (q : Q false) : EqR S Q (.bool b) .none
  | bb {x y : Bool} (q : Q (x == y)) : EqR S Q (.bool x) (.bool y)
  | ii {i j : Int} (q : Q (i == j)) : EqR S Q (.int i) (.int j)
  | ss {k l : Nat} (q : Q (k == l)) : EqR S Q (.str k) (.str l)
  | ln {k l : Nat} {vs ws : List V} (h1 : S[k]? = some (.list vs)) (h2 : S[l]? = some (.list ws)) (l1 : vs.length ≤ LIM) (l2 : ws.length ≤ LIM) (ne : vs.length ≠ ws.length) (q : Q false) : EqR S Q (.ref k) (.ref l)
  | ll {k l : Nat} {vs ws : List V} {x y : List Int} (h1 : S[k]? = some (.list vs)) (h2 : S[l]? = some (.list ws)) (l1 : vs.length ≤ LIM) (l2 : ws.length ≤ LIM) (e : vs.length = ws.length) (e1 : intsO vs = some x) (e2 : intsO ws = some y) (q : Q (x == y)) : EqR S Q (.ref k) (.ref l)
inductive CmpR (S : H) (Q : Bool → Prop) : COp → V → V → Prop where
  | eq {a b : V} (q : EqR S Q a b) : CmpR S Q .eq a b
  | ne {a b : V} (q : EqR S (fun c => Q (!c)) a b) : CmpR S Q .ne a b
  | lt {i j : Int} (q : Q (decide (i < j))) : CmpR S Q .lt (.int i) (.int j)
  | le {i j : Int} (q : Q (decide (i ≤ j))) : CmpR S Q .le (.int i) (.int j)
  | gt {i j : Int} (q : Q (decide (j < i))) : CmpR S Q .gt (.int i) (.int j)
  | ge {i j : Int} (q : Q (decide (j ≤ i))) : CmpR S Q .ge (.int i) (.int j)
  | isin {i : Int} {k : Nat} {vs : List V} {ns : List Int} (h : S[k]? = some (.list vs)) (hl : vs.length ≤ LIM) (hn : intsO vs = some ns) (q : Q (ns.contains i)) : CmpR S Q .isin (.int i) (.ref k)
  | notin {i lo hi : Int} (q : Q (!(decide (lo ≤ i) && decide (i < hi)))) : CmpR S Q .notin (.int i) (.rng lo hi 1)
noncomputable def cmpop (op : COp) (a b : V) (S : H) (Q : Bool → Prop) : Prop := CmpR S Q op a b

inductive BinR (S : H) (Q : V → H → Prop) : BOp → V → V → Prop where
  | addI {i j : Int} (q : Q (.int (i + j)) S) : BinR S Q .add (.int i) (.int j)
  | addL {k l : Nat} {vs ws : List V} (h1 : S[k]? = some (.list vs)) (h2 : S[l]? = some (.list ws)) (hl : vs.length + ws.length ≤ LIM) (q : Q (.ref S.length) (S ++ [.list (vs ++ ws)])) : BinR S Q .add (.ref k) (.ref l)
  | sub {i j : Int} (q : Q (.int (i - j)) S) : BinR S Q .sub (.int i) (.int j)
  | mulI {i j : Int} (h : i.natAbs < 2 ^ 63 ∨ j.natAbs < 2 ^ 63) (q : Q (.int (i * j)) S) : BinR S Q .mul (.int i) (.int j)
  | mulL {k : Nat} {n : Int} {v : V} (h : S[k]? = some (.list [v])) (h0 : 0 ≤ n) (h1 : n ≤ 1000) (q : Q (.ref S.length) (S ++ [.list (List.replicate n.toNat v)])) : BinR S Q .mul (.ref k) (.int n)
  | fdiv {i j : Int} (h0 : 0 < j) (h1 : j < 1073741824) (q : Q (.int (i / j)) S) : BinR S Q .fdiv (.int i) (.int j)
  | mod {i j : Int} (h0 : 0 < j) (q : Q (.int (i % j)) S) : BinR S Q .mod (.int i) (.int j)
noncomputable def binop (op : BOp) (a b : V) (S : H) (Q : V → H → Prop) : Prop := BinR S Q op a b

inductive BltR (S : H) (Q : V → H → Prop) : Blt → List V → Prop where
  | len {k : Nat} {ws : List V} (h : S[k]? = some (.list ws)) (hl : ws.length ≤ LIM) (q : Q (.int ws.length) S) : BltR S Q .len [.ref k]
  | lenA {k : Nat} {ws : List V} (h : S[k]? = some (.arg ws)) (hl : ws.length ≤ LIM) (q : Q (.int ws.length) S) : BltR S Q .len [.ref k]
  | max {i j : Int} (q : Q (.int (if i < j then j else i)) S) : BltR S Q .max [.int i, .int j]
  | min {i j : Int} (q : Q (.int (if j < i then j else i)) S) : BltR S Q .min [.int i, .int j]
  | intI {i : Int} (q : Q (.int i) S) : BltR S Q .int [.int i]
  | intB {b : Bool} (q : Q (.int (if b then 1 else 0)) S) : BltR S Q .int [.bool b]
  | sum {k : Nat} {ws : List V} {ns : List Int} (h : S[k]? = some (.list ws)) (hl : ws.length ≤ 1000) (hn : intsO ws = some ns) (hb : ∀ i ∈ ns, i.natAbs ≤ 1000000) (q : Q (.int ns.sum) S) : BltR S Q .sum [.ref k]
  | range1 {n : Int} (h : n.natAbs ≤ 1000000) (q : Q (.rng 0 n 1) S) : BltR S Q .range [.int n]
  | range2 {a b : Int} (h0 : a.natAbs ≤ 1000000) (h1 : b.natAbs ≤ 1000000) (q : Q (.rng a b 1) S) : BltR S Q .range [.int a, .int b]
  | range3 {a b : Int} (h0 : a.natAbs ≤ 1000000) (h1 : b.natAbs ≤ 1000000) (q : Q (.rng a b (-1)) S) : BltR S Q .range [.int a, .int b, .int (-1)]
  | listL {k : Nat} {ws : List V} (h : S[k]? = some (.list ws)) (hl : ws.length ≤ LIM) (q : Q (.ref S.length) (S ++ [.list ws])) : BltR S Q .list [.ref k]
  | listR {lo hi : Int} (h0 : lo.natAbs ≤ 1000000) (h1 : hi.natAbs ≤ 1000000) (h2 : rngLen lo hi 1 ≤ 1000) (q : Q (.ref S.length) (S ++ [.list (rngItems lo hi 1)])) : BltR S Q .list [.rng lo hi 1]
noncomputable def bltop (b : Blt) (vs : List V) (S : H) (Q : V → H → Prop) : Prop := BltR S Q b vs

inductive AppR (k : Nat) (y : V) (S : H) (Q : H → Prop) : Prop where
  | mk {ys : List V} (h : S[k]? = some (.list ys)) (hl : ys.length ≤ LIM) (q : Q (S.set k (.list (ys ++ [y]))))
noncomputable def appD (k : Nat) (y : V) (S : H) (Q : H → Prop) : Prop := AppR k y S Q
inductive GetAR (a : Nat) (S : H) (Q : V → Prop) : V → Prop where
  | mk {k c : Nat} {as : List (Nat × V)} {v : V} (h : S[k]? = some (.inst c as)) (e : as.lookup a = some v) (q : Q v) : GetAR a S Q (.ref k)
noncomputable def getA (v : V) (a : Nat) (S : H) (Q : V → Prop) : Prop := GetAR a S Q v
noncomputable def putA (as : List (Nat × V)) (a : Nat) (v : V) : List (Nat × V) := match as with
  | [] => [(a, v)]
  | p :: r => if p.1 = a then (a, v) :: r else p :: putA r a v
inductive SetAR (a : Nat) (v : V) (S : H) (Q : H → Prop) : V → Prop where
  | mk {k c : Nat} {as : List (Nat × V)} (h : S[k]? = some (.inst c as)) (hl : as.length ≤ 100) (q : Q (S.set k (.inst c (putA as a v)))) : SetAR a v S Q (.ref k)
noncomputable def setA (o : V) (a : Nat) (v : V) (S : H) (Q : H → Prop) : Prop := SetAR a v S Q o
inductive GetIR (S : H) (Q : V → Prop) : V → V → Prop where
  | list {k : Nat} {j : Int} {vs : List V} {v : V} (h : S[k]? = some (.list vs)) (hl : vs.length ≤ LIM) (e : nth vs j = some v) (q : Q v) : GetIR S Q (.ref k) (.int j)
  | arg {k : Nat} {j : Int} {vs : List V} {v : V} (h : S[k]? = some (.arg vs)) (hl : vs.length ≤ LIM) (e : nth vs j = some v) (q : Q v) : GetIR S Q (.ref k) (.int j)
noncomputable def getI (o i : V) (S : H) (Q : V → Prop) : Prop := GetIR S Q o i
inductive SetIR (v : V) (S : H) (Q : H → Prop) : V → V → Prop where
  | mk {k : Nat} {j : Int} {vs : List V} (h : S[k]? = some (.list vs)) (hl : vs.length ≤ LIM) (h0 : 0 ≤ j) (h1 : j < vs.length) (q : Q (S.set k (.list (vs.set j.toNat v)))) : SetIR v S Q (.ref k) (.int j)
noncomputable def setI (o i v : V) (S : H) (Q : H → Prop) : Prop := SetIR v S Q o i
inductive GetSR (S : H) (Q : V → H → Prop) : V → Option V → Option V → Prop where
  | to {k : Nat} {vs : List V} {h : Int} (e : S[k]? = some (.list vs)) (hl : vs.length ≤ LIM) (h0 : 0 ≤ h) (h1 : h ≤ LIM) (q : Q (.ref S.length) (S ++ [.list (vs.take h.toNat)])) : GetSR S Q (.ref k) none (some (.int h))
  | fro {k : Nat} {vs : List V} {l : Int} (e : S[k]? = some (.list vs)) (hl : vs.length ≤ LIM) (h0 : 0 ≤ l) (h1 : l ≤ LIM) (q : Q (.ref S.length) (S ++ [.list (vs.drop l.toNat)])) : GetSR S Q (.ref k) (some (.int l)) none
noncomputable def getS (o : V) (lo hi : Option V) (S : H) (Q : V → H → Prop) : Prop := GetSR S Q o lo hi
inductive SetSR (h : Int) (S : H) (Q : H → Prop) : V → V → Prop where
  | mk {k l : Nat} {vs ws : List V} (e1 : S[k]? = some (.list vs)) (e2 : S[l]? = some (.list ws)) (h1 : vs.length ≤ 1000) (h2 : ws.length ≤ 1000) (h3 : 0 ≤ h) (h4 : h ≤ 1000) (ne : k ≠ l) (q : Q (S.set k (.list (ws ++ vs.drop h.toNat)))) : SetSR h S Q (.ref k) (.ref l)
noncomputable def setS (o : V) (h : Int) (v : V) (S : H) (Q : H → Prop) : Prop := SetSR h S Q o v

noncomputable def evs (f : E → H → (V → H → Prop) → Prop) : List E → H → (List V → H → Prop) → Prop
  | [], S, Q => Q [] S
  | e :: r, S, Q => f e S fun v S1 => evs f r S1 fun vs S2 => Q (v :: vs) S2
noncomputable def evo (f : E → H → (V → H → Prop) → Prop) : Option E → H → (Option V → H → Prop) → Prop
  | none, S, Q => Q none S
  | some e, S, Q => f e S fun v S1 => Q (some v) S1
noncomputable def chain (f : E → H → (V → H → Prop) → Prop) : V → List (COp × E) → H → (Bool → H → Prop) → Prop
  | _, [], _, _ => False
  | va, [(op, e)], S, Q => f e S fun vb S1 => cmpop op va vb S1 fun b => Q b S1
  | va, (op, e) :: r, S, Q => f e S fun vb S1 => cmpop op va vb S1 fun b => if b then chain f vb r S1 Q else Q false S1
/-- and, or: of tests -/
noncomputable def bools (f : E → H → (Bool → H → Prop) → Prop) (isAnd : Bool) : List E → H → (Bool → H → Prop) → Prop
  | [], S, Q => Q isAnd S
  | e :: r, S, Q => f e S fun b S1 => if b = isAnd then bools f isAnd r S1 Q else Q b S1
noncomputable def compL (tests : Fr → H → (Bool → H → Prop) → Prop) (elt : Fr → H → (V → H → Prop) → Prop) (x k : Nat) (src : V) (vs0 : List V) (fr : Fr) : List V → H → (H → Prop) → Prop
  | [], S, Q => items src S = some vs0 ∧ Q S
  | v :: r, S, Q => items src S = some vs0 ∧ tests (upd fr x v) S fun b S1 =>
      if b then elt (upd fr x v) S1 fun y S2 => appD k y S2 fun S3 => compL tests elt x k src vs0 fr r S3 Q
      else compL tests elt x k src vs0 fr r S1 Q
noncomputable def exs (f : St → Fr → H → (Option V → Fr → H → Prop) → Prop) : List St → Fr → H → (Option V → Fr → H → Prop) → Prop
  | [], fr, S, Q => Q none fr S
  | s :: r, fr, S, Q => f s fr S fun fl fr' S' => match fl with
    | none => exs f r fr' S' Q
    | some v => Q (some v) fr' S'
noncomputable def forL (bnd : Fr → V → H → (Fr → Prop) → Prop) (body : Fr → H → (Option V → Fr → H → Prop) → Prop) (src : V) (vs0 : List V) : List V → Fr → H → (Option V → Fr → H → Prop) → Prop
  | [], fr, S, Q => items src S = some vs0 ∧ Q none fr S
  | v :: r, fr, S, Q => items src S = some vs0 ∧ bnd fr v S fun fr1 => body fr1 S fun fl fr' S' => match fl with
    | none => forL bnd body src vs0 r fr' S' Q
    | some u => Q (some u) fr' S'
noncomputable def bnd1 (x : Nat) (fr : Fr) (v : V) (_ : H) (Q : Fr → Prop) : Prop := Q (upd fr x v)
noncomputable def bndN (xs : List Nat) (fr : Fr) (v : V) (S : H) (Q : Fr → Prop) : Prop := match v with
  | .ref k => (match S[k]? with
    | some (.list ws) => ws.length = xs.length ∧ xs.length ≤ 100 ∧ Q (upds fr xs ws)
    | _ => False)
  | _ => False

structure Tb where
  fn : Nat → Option (List Nat × List St)
  init : Nat → Nat
  mth : Nat → Nat → Option Nat
  gval : Nat → V

noncomputable def fin (Q : V → H → Prop) : Option V → Fr → H → Prop := fun fl _ S' => match fl with
  | some v => Q v S'
  | none => Q .none S'
noncomputable def F0 : H → Prop := fun _ => False

mutual
noncomputable def ev (t : Tb) : Nat → E → Fr → H → (H → Prop) → (V → H → Prop) → Prop
  | 0, _, _, _, _, _ => False
  | n + 1, e, fr, S, X, Q => match e with
    | .var x => (match fr x with | some v => Q v S | none => False)
    | .con v => Q v S
    | .gcon k => Q (t.gval k) S
    | .bin op a b => ev t n a fr S X fun va S1 => ev t n b fr S1 X fun vb S2 => binop op va vb S2 Q
    | .cmp a cs => ev t n a fr S X fun va S1 => chain (fun e S Q => ev t n e fr S X Q) va cs S1 fun b S2 => Q (.bool b) S2
    | .bop c es => bools (fun e S Q => ev t n e fr S X fun v S1 => match v with | .bool b => Q b S1 | _ => False) c es S fun b S' => Q (.bool b) S'
    | .not _ => False
    | .ite c a b => tst t n c fr S X fun g S1 => if g then ev t n a fr S1 X Q else ev t n b fr S1 X Q
    | .attr o a => ev t n o fr S X fun v S1 => getA v a S1 fun r => Q r S1
    | .idx o i => ev t n o fr S X fun vo S1 => ev t n i fr S1 X fun vi S2 => getI vo vi S2 fun r => Q r S2
    | .slc o lo hi => ev t n o fr S X fun vo S1 => evo (fun e S Q => ev t n e fr S X Q) lo S1 fun vl S2 => evo (fun e S Q => ev t n e fr S X Q) hi S2 fun vh S3 => getS vo vl vh S3 Q
    | .list es => evs (fun e S Q => ev t n e fr S X Q) es S fun vs S1 => vs.length ≤ 100 ∧ Q (.ref S1.length) (S1 ++ [.list vs])
    | .comp elt x it ifs => ev t n it fr S X fun v S1 => match items v S1 with
        | some vs => vs.length ≤ LIM ∧ compL (fun fr S Q => bools (fun e S Q => tst t n e fr S F0 Q) true ifs S Q) (fun fr S Q => ev t n elt fr S F0 Q) x S1.length v vs fr vs (S1 ++ [.list []]) fun S2 => Q (.ref S1.length) S2
        | none => False
    | .call f args => evs (fun e S Q => ev t n e fr S X Q) args S fun vs S1 => match t.fn f with
        | some (ps, body) => ps.length = vs.length ∧ exs (fun s fr S Q => ex t n s fr S X Q) body (bind0 ps vs) S1 (fin Q)
        | none => False
    | .new c args => evs (fun e S Q => ev t n e fr S X Q) args S fun vs S1 => match t.fn (t.init c) with
        | some (ps, body) => ps.length = vs.length + 1 ∧ exs (fun s fr S Q => ex t n s fr S F0 Q) body (bind0 ps (.ref S1.length :: vs)) (S1 ++ [.inst c []]) (fin fun r S2 => r = .none ∧ Q (.ref S1.length) S2)
        | none => False
    | .meth o m args => ev t n o fr S X fun v S1 => match v with
        | .ref k => (match S1[k]? with
          | some (.inst c _) => (match t.mth c m with
            | some f => evs (fun e S Q => ev t n e fr S X Q) args S1 fun vs S2 => (match t.fn f with
              | some (ps, body) => ps.length = vs.length + 1 ∧ exs (fun s fr S Q => ex t n s fr S X Q) body (bind0 ps (.ref k :: vs)) S2 (fin Q)
              | none => False)
            | none => False)
          | _ => False)
        | _ => False
    | .app o a => ev t n o fr S X fun v S1 => match v with
        | .ref k => (match S1[k]? with
          | some (.list _) => ev t n a fr S1 X fun y S2 => appD k y S2 fun S3 => Q .none S3
          | _ => False)
        | _ => False
    | .blt b args => evs (fun e S Q => ev t n e fr S X Q) args S fun vs S1 => bltop b vs S1 Q
    | .inK e => ev t n e fr S X fun v S1 => match v with
        | .str k => Q (.bool (k == 2 || k == 4)) S1
        | _ => False
noncomputable def tst (t : Tb) : Nat → E → Fr → H → (H → Prop) → (Bool → H → Prop) → Prop
  | 0, _, _, _, _, _ => False
  | n + 1, e, fr, S, X, Q => match e with
    | .not a => tst t n a fr S X fun b S1 => Q (!b) S1
    | .bop c es => bools (fun e S Q => tst t n e fr S X Q) c es S Q
    | .cmp a cs => ev t n a fr S X fun va S1 => chain (fun e S Q => ev t n e fr S X Q) va cs S1 Q
    | .ite _ _ _ => False
    | e => ev t n e fr S X fun v S1 => match v with
        | .bool b => Q b S1
        | _ => False
noncomputable def ex (t : Tb) : Nat → St → Fr → H → (H → Prop) → (Option V → Fr → H → Prop) → Prop
  | 0, _, _, _, _, _ => False
  | n + 1, s, fr, S, X, Q => match s with
    | .asg x e => ev t n e fr S X fun v S1 => Q none (upd fr x v) S1
    | .asgIdx o i e => ev t n e fr S X fun v S1 => ev t n o fr S1 X fun vo S2 => ev t n i fr S2 X fun vi S3 => setI vo vi v S3 fun S4 => Q none fr S4
    | .asgSlc o lo hi e => (match lo, hi with
      | none, some hi => ev t n e fr S X fun v S1 => ev t n o fr S1 X fun vo S2 => ev t n hi fr S2 X fun vh S3 => (match vh with
        | .int h => setS vo h v S3 fun S4 => Q none fr S4
        | _ => False)
      | _, _ => False)
    | .asgAttr o a e => ev t n e fr S X fun v S1 => ev t n o fr S1 X fun vo S2 => setA vo a v S2 fun S3 => Q none fr S3
    | .asgTup xs es => evs (fun e S Q => ev t n e fr S X Q) es S fun vs S1 => xs.length ≤ 100 ∧ xs.length = vs.length ∧ xs.Nodup ∧ Q none (upds fr xs vs) S1
    | .swap o1 i1 o2 i2 e1 e2 => ev t n e1 fr S X fun v1 S1 => ev t n e2 fr S1 X fun v2 S2 =>
        ev t n o1 fr S2 X fun vo1 S3 => ev t n i1 fr S3 X fun vi1 S4 => setI vo1 vi1 v1 S4 fun S5 =>
        ev t n o2 fr S5 X fun vo2 S6 => ev t n i2 fr S6 X fun vi2 S7 => setI vo2 vi2 v2 S7 fun S8 => Q none fr S8
    | .unp xs e => ev t n e fr S X fun v S1 => bndN xs fr v S1 fun fr' => Q none fr' S1
    | .aug x e => (match fr x with
      | some (.int a) => ev t n e fr S X fun v S1 => (match v with
        | .int b => Q none (upd fr x (.int (a + b))) S1
        | _ => False)
      | _ => False)
    | .ife c a b => tst t n c fr S X fun g S1 => if g then exs (fun s fr S Q => ex t n s fr S X Q) a fr S1 Q else exs (fun s fr S Q => ex t n s fr S X Q) b fr S1 Q
    | .forv x it body => ev t n it fr S X fun v S1 => match items v S1 with
        | some vs => vs.length ≤ LIM ∧ forL (bnd1 x) (fun fr S Q => exs (fun s fr S Q => ex t n s fr S X Q) body fr S Q) v vs vs fr S1 Q
        | none => False
    | .forp xs it body => ev t n it fr S X fun v S1 => match items v S1 with
        | some vs => vs.length ≤ LIM ∧ forL (bndN xs) (fun fr S Q => exs (fun s fr S Q => ex t n s fr S X Q) body fr S Q) v vs vs fr S1 Q
        | none => False
    | .ret e => ev t n e fr S X fun v S1 => Q (some v) fr S1
    | .expr e => ev t n e fr S X fun _ S1 => Q none fr S1
    | .raise => X S
    | .tryN body => exs (fun s fr S Q' => ex t n s fr S (fun S' => Q (some .none) (fun _ => none) S') Q') body fr S Q
end
end Mine
end

section
set_option Elab.async false
set_option autoImplicit false
set_option linter.unusedVariables false
open PySem PySem.W PyProof.Rows
namespace Mine

/-! the ledger -/
inductive Spec where
  | list (vs : List Value)
  | dict (es : List DictEntry)
  | inst (C d : Addr)
  | ns (m : Str → Option Value)
  | cell (v : Option Value)
  | exact (o : Obj)
  | arg (vs : List Value × Obj)
  | iter (o : Obj)
noncomputable def Spec.ok : Spec → Obj → Prop
  | .list vs, o => ∃ n, o = { cls := .type "list", data := .seq vs.toArray n }
  | .arg vs, o => o = vs.2 ∧ o.cls = .type "list" ∧ ∃ n, o.data = .seq vs.1.toArray n
  | .dict es, o => ∃ n, o = dictOf es n
  | .inst C d, o => o = instObj C d
  | .ns m, o => ∃ es ep, o.data = .dict es ep ∧ StrKeys es ∧ (∀ n, nsFind es n = m n)
  | .cell v, o => o.data = .cell v
  | .exact o', o => o = o'
  | .iter o', o => o = o'
noncomputable def Spec.mut : Spec → Bool
  | .list _ | .dict _ => true
  | _ => false
abbrev Led := Addr → Option Spec
noncomputable def Led.put (Λ : Led) (a : Addr) (sp : Spec) : Led := fun b => if b = a then some sp else Λ b
noncomputable def Led.del (Λ : Led) (a : Addr) : Led := fun b => if b = a then none else Λ b
theorem Led.put_self (Λ : Led) (a : Addr) (sp : Spec) : Λ.put a sp a = some sp := by simp [Led.put]
theorem Led.put_ne {Λ : Led} {a b : Addr} {sp : Spec} (h : b ≠ a) : Λ.put a sp b = Λ b := by simp [Led.put, h]

structure Holds (base h : Heap) (Λ : Led) : Prop where
  keep : ∀ b o, base.get? b = some o → h.get? b = some o
  at_ : ∀ a sp, Λ a = some sp → ∃ o, h.get? a = some o ∧ sp.ok o
  new : ∀ a sp, Λ a = some sp → base.get? a = none

section
variable {base h h' : Heap} {Λ : Led} {a : Addr} {sp sp' : Spec}
theorem Holds.lt (x : Holds base h Λ) (e : Λ a = some sp) : a < h.objs.size := by
  obtain ⟨o, ho, _⟩ := x.at_ a sp e; exact Heap.lt_size ho
theorem Holds.fresh (x : Holds base h Λ) {b : Addr} (hb : h.objs.size ≤ b) : Λ b = none := by
  cases e : Λ b with
  | none => rfl
  | some sp => exact absurd (x.lt e) (Nat.not_lt.mpr hb)
theorem Holds.base_fresh (x : Holds base h Λ) {b : Addr} (hb : h.objs.size ≤ b) : base.get? b = none := by
  cases e : base.get? b with
  | none => rfl
  | some o => exact absurd (Heap.lt_size (x.keep b o e)) (Nat.not_lt.mpr hb)
theorem Holds.base_none (x : Holds base h Λ) {b : Addr} (hb : h.get? b = none) : base.get? b = none := by
  cases e : base.get? b with
  | none => rfl
  | some o => have := x.keep b o e; rw [hb] at this; cases this
theorem Holds.led_none (x : Holds base h Λ) {b : Addr} (hb : h.get? b = none) : Λ b = none := by
  cases e : Λ b with
  | none => rfl
  | some sp => obtain ⟨o, ho, _⟩ := x.at_ b sp e; rw [hb] at ho; cases ho
theorem Holds.keeps (x : Holds base h Λ) (k : ∀ b o, h.get? b = some o → h'.get? b = some o) : Holds base h' Λ :=
  ⟨fun b o e => k b o (x.keep b o e), fun a sp e => let ⟨o, ho, hs⟩ := x.at_ a sp e; ⟨o, k a o ho, hs⟩, x.new⟩
theorem Holds.upd (x : Holds base h Λ) (e : Λ a = some sp) (k : Heap.ExtBut a h h') (hn : ∃ o, h'.get? a = some o ∧ sp'.ok o) : Holds base h' (Λ.put a sp') := by
  refine ⟨fun b o eb => k b o ?_ (x.keep b o eb), fun b sp e' => ?_, fun b sp e' => ?_⟩
  · rintro rfl; rw [x.new _ _ e] at eb; cases eb
  · by_cases hb : b = a
    · subst hb; rw [Led.put_self] at e'; cases e'; exact hn
    · rw [Led.put_ne hb] at e'
      obtain ⟨o, ho, hs⟩ := x.at_ b sp e'
      exact ⟨o, k b o hb ho, hs⟩
  · by_cases hb : b = a
    · subst hb; exact x.new _ _ e
    · rw [Led.put_ne hb] at e'; exact x.new _ _ e'
theorem Holds.add (x : Holds base h Λ) (hf : h.get? a = none) (k : ∀ b o, h.get? b = some o → h'.get? b = some o) (hn : ∃ o, h'.get? a = some o ∧ sp'.ok o) : Holds base h' (Λ.put a sp') := by
  refine ⟨fun b o eb => k b o (x.keep b o eb), fun b sp e' => ?_, fun b sp e' => ?_⟩
  · by_cases hb : b = a
    · subst hb; rw [Led.put_self] at e'; cases e'; exact hn
    · rw [Led.put_ne hb] at e'
      obtain ⟨o, ho, hs⟩ := x.at_ b sp e'
      exact ⟨o, k b o ho, hs⟩
  · by_cases hb : b = a
    · subst hb; exact x.base_none hf
    · rw [Led.put_ne hb] at e'; exact x.new _ _ e'
theorem Holds.sub (x : Holds base h Λ) {Λ' : Led} (hs : ∀ a sp, Λ' a = some sp → Λ a = some sp) : Holds base h Λ' :=
  ⟨x.keep, fun a sp e => x.at_ a sp (hs a sp e), fun a sp e => x.new a sp (hs a sp e)⟩
end

/-! names, values, objects -/
noncomputable def nm (x : Nat) : Str := tab.names.getD x (Str.ofString "")
noncomputable def sm (k : Nat) : Str := tab.texts.getD k (Str.ofString "")
abbrev rangeObj (a b c : Int) (t u v : Tok) : Obj := { cls := .type "range", dict := none, data := .fields #[.int a t, .int b u, .int c v], slots := #[] }
abbrev Rho := List (Addr × Addr)

noncomputable def VRel (Λ : Led) (ρ : Rho) : V → Value → Prop
  | .none, v => v = .none
  | .bool b, v => v = .bool b
  | .int i, v => ∃ t, v = .int i t
  | .str k, v => k < tab.texts.length ∧ ∃ t, v = .str (sm k) t
  | .ref i, v => ∃ c, ρ[i]? = some c ∧ v = .ref c.1
  | .rng lo hi st, v => ∃ r t u w, v = .ref r ∧ Λ r = some (.exact (rangeObj lo hi st t u w))
noncomputable def ARel (Λ : Led) (ρ : Rho) (p : Nat × V) (e : DictEntry) : Prop := p.1 < tab.names.length ∧ (∃ t, e.key = .str (nm p.1) t) ∧ VRel Λ ρ p.2 e.val
noncomputable def ORel (ca : Nat → Addr) (Λ : Led) (ρ : Rho) (c : Addr × Addr) : O → Prop
  | .list vs => ∃ vs', Λ c.1 = some (.list vs') ∧ Each (VRel Λ ρ) vs vs' ∧ c.2 = c.1
  | .arg vs => ∃ vs', Λ c.1 = some (.arg vs') ∧ Each (VRel Λ ρ) vs vs'.1 ∧ c.2 = c.1
  | .inst k as => k < tab.cls.length ∧ ∃ es, Λ c.1 = some (.inst (ca k) c.2) ∧ Λ c.2 = some (.dict es) ∧ Each (ARel Λ ρ) as es
structure Rel (ca : Nat → Addr) (Λ : Led) (ρ : Rho) (S : H) : Prop where
  len : ρ.length = S.length
  objs : ∀ (i : Nat) (o : O), S[i]? = some o → ∃ c, ρ[i]? = some c ∧ ORel ca Λ ρ c o
  inj1 : ∀ (i j : Nat) (c d : Addr × Addr), ρ[i]? = some c → ρ[j]? = some d → c.1 = d.1 → i = j
  inj2 : ∀ (i j : Nat) (c d : Addr × Addr), ρ[i]? = some c → ρ[j]? = some d → c.2 = d.2 → i = j

/-- how ledger and addresses may turn: X are the addresses that the frame at hand may store into -/
structure Evo (X : Addr → Prop) (Λ : Led) (ρ : Rho) (Λ' : Led) (ρ' : Rho) : Prop where
  pre : ∃ t, ρ' = ρ ++ t
  pres : ∀ a sp, Λ a = some sp → sp.mut = false → ¬ X a → Λ' a = some sp
  x : ∀ a, X a → (∃ m, Λ a = some (.ns m)) → ∃ m, Λ' a = some (.ns m)
  y : ∀ a, X a → (∃ v, Λ a = some (.cell v)) → ∃ v, Λ' a = some (.cell v)
  z : ∀ a o, X a → Λ a ≠ some (.exact o)
abbrev X0 : Addr → Prop := fun _ => False
section
variable {X : Addr → Prop} {Λ Λ' Λ'' : Led} {ρ ρ' ρ'' : Rho} {ca : Nat → Addr} {S : H}
theorem Evo.refl0 : Evo X0 Λ ρ Λ ρ := ⟨⟨[], by simp⟩, fun _ _ e _ _ => e, fun _ h => h.elim, fun _ h => h.elim, fun _ _ h => h.elim⟩
theorem Evo.trans0 (a : Evo X0 Λ ρ Λ' ρ') (b : Evo X0 Λ' ρ' Λ'' ρ'') : Evo X0 Λ ρ Λ'' ρ'' := by
  obtain ⟨t, rfl⟩ := a.pre
  obtain ⟨u, rfl⟩ := b.pre
  exact ⟨⟨t ++ u, by simp⟩, fun a' sp e m n => b.pres _ _ (a.pres _ _ e m n) m n, fun _ h => h.elim, fun _ h => h.elim, fun _ _ h => h.elim⟩
theorem Evo.refl (hz : ∀ a o, X a → Λ a ≠ some (.exact o)) : Evo X Λ ρ Λ ρ := ⟨⟨[], by simp⟩, fun _ _ e _ _ => e, fun _ _ h => h, fun _ _ h => h, hz⟩
theorem Evo.trans (a : Evo X Λ ρ Λ' ρ') (b : Evo X Λ' ρ' Λ'' ρ'') : Evo X Λ ρ Λ'' ρ'' := by
  obtain ⟨t, rfl⟩ := a.pre
  obtain ⟨u, rfl⟩ := b.pre
  exact ⟨⟨t ++ u, by simp⟩, fun a' sp e m n => b.pres _ _ (a.pres _ _ e m n) m n, fun c h m => b.x c h (a.x c h m), fun c h m => b.y c h (a.y c h m), a.z⟩
theorem Evo.of0 (a : Evo X0 Λ ρ Λ' ρ') (hz : ∀ a o, X a → Λ a ≠ some (.exact o)) : Evo X Λ ρ Λ' ρ' :=
  ⟨a.pre, fun c sp e m _ => a.pres c sp e m id, fun c _ ⟨m, e⟩ => ⟨m, a.pres c _ e rfl id⟩, fun c _ ⟨m, e⟩ => ⟨m, a.pres c _ e rfl id⟩, hz⟩
theorem Evo.get (a : Evo X Λ ρ Λ' ρ') {i : Nat} {c : Addr × Addr} (h : ρ[i]? = some c) : ρ'[i]? = some c := by
  obtain ⟨t, rfl⟩ := a.pre
  have := (List.getElem?_eq_some_iff.mp h).1
  rw [List.getElem?_append_left this]; exact h
theorem Evo.vrel (a : Evo X Λ ρ Λ' ρ') {v : V} {v' : Value} (h : VRel Λ ρ v v') : VRel Λ' ρ' v v' := by
  cases v with
  | ref i => obtain ⟨c, h1, h2⟩ := h; exact ⟨c, a.get h1, h2⟩
  | rng lo hi st =>
    obtain ⟨r, t, u, w, h1, h2⟩ := h
    exact ⟨r, t, u, w, h1, a.pres r _ h2 rfl fun hx => a.z r _ hx h2⟩
  | _ => exact h
theorem Evo.vrels (a : Evo X Λ ρ Λ' ρ') {vs : List V} {vs' : List Value} (h : Each (VRel Λ ρ) vs vs') : Each (VRel Λ' ρ') vs vs' := h.mono fun _ _ => a.vrel
end

structure St8 (base : Heap) (ca : Nat → Addr) (Λ : Led) (ρ : Rho) (S : H) (h : Heap) : Prop where
  holds : Holds base h Λ
  rel : Rel ca Λ ρ S

section
variable {base h h' : Heap} {X : Addr → Prop} {Λ Λ' Λ'' : Led} {ρ ρ' ρ'' : Rho} {ca : Nat → Addr} {S : H}
theorem St8.keeps (x : St8 base ca Λ ρ S h) (k : ∀ b o, h.get? b = some o → h'.get? b = some o) : St8 base ca Λ ρ S h' := ⟨x.holds.keeps k, x.rel⟩
theorem St8.list (x : St8 base ca Λ ρ S h) {k : Nat} {vs : List V} (e : S[k]? = some (.list vs)) : ∃ c vs', ρ[k]? = some c ∧ Λ c.1 = some (.list vs') ∧ Each (VRel Λ ρ) vs vs' ∧ c.2 = c.1 := by
  obtain ⟨c, hc, vs', h1, h2⟩ := x.rel.objs k _ e
  exact ⟨c, vs', hc, h1, h2⟩
theorem St8.arg (x : St8 base ca Λ ρ S h) {k : Nat} {vs : List V} (e : S[k]? = some (.arg vs)) : ∃ c vs', ρ[k]? = some c ∧ Λ c.1 = some (.arg vs') ∧ Each (VRel Λ ρ) vs vs'.1 ∧ c.2 = c.1 := by
  obtain ⟨c, hc, vs', h1, h2⟩ := x.rel.objs k _ e
  exact ⟨c, vs', hc, h1, h2⟩
theorem Holds.plist (x : Holds base h Λ) {a : Addr} {vs : List Value} (e : Λ a = some (.list vs)) : h.PlainList a vs.toArray := by
  obtain ⟨o, ho, n, hc⟩ := x.at_ a _ e
  exact ⟨n, hc ▸ ho⟩
theorem Holds.isList (x : Holds base h Λ) {a : Addr} {vs : List Value} (e : Λ a = some (.list vs)) : h.IsList a vs.toArray := (x.plist e).isList
theorem Holds.isArg (x : Holds base h Λ) {a : Addr} {vs : List Value × Obj} (e : Λ a = some (.arg vs)) : h.IsList a vs.1.toArray := by
  obtain ⟨o, ho, _, hc, n, hd⟩ := x.at_ a _ e
  exact ⟨_, ho, hc, n, hd⟩
theorem Holds.ns (x : Holds base h Λ) {a : Addr} {m : Str → Option Value} (e : Λ a = some (.ns m)) : h.Ns a m := by
  obtain ⟨o, ho, es, ep, h1, h2, h3⟩ := x.at_ a _ e
  exact ⟨o, es, ep, ho, h1, h2, h3⟩
theorem Holds.cell (x : Holds base h Λ) {a : Addr} {v : Option Value} (e : Λ a = some (.cell v)) : h.IsCell a v := by
  obtain ⟨o, ho, h1⟩ := x.at_ a _ e
  exact ⟨o, ho, h1⟩
theorem Holds.exact (x : Holds base h Λ) {a : Addr} {o : Obj} (e : Λ a = some (.exact o)) : h.get? a = some o := by
  obtain ⟨o', ho, h1⟩ := x.at_ a _ e
  cases h1; exact ho
theorem ns_spec {a : Addr} {m : Str → Option Value} (x : h.Ns a m) : ∃ o, h.get? a = some o ∧ (Spec.ns m).ok o := by
  obtain ⟨o, es, ep, ho, h1, h2, h3⟩ := x
  exact ⟨o, ho, es, ep, h1, h2, h3⟩
theorem cell_spec {a : Addr} {v : Option Value} (x : h.IsCell a v) : ∃ o, h.get? a = some o ∧ (Spec.cell v).ok o := by
  obtain ⟨o, ho, h1⟩ := x
  exact ⟨o, ho, h1⟩

/-- an entry that is not the abstract heap's turns or comes: nothing of the relation turns -/
theorem Rel.putOther (r : Rel ca Λ ρ S) {a : Addr} {sp : Spec} (h0 : ∀ sp', Λ a = some sp' → sp'.mut = false ∧ (∀ C d, sp' ≠ .inst C d) ∧ (∀ o, sp' ≠ .exact o) ∧ (∀ o, sp' ≠ .arg o)) : Rel ca (Λ.put a sp) ρ S := by
  have ne : ∀ b sp', Λ b = some sp' → (sp'.mut = true ∨ (∃ C d, sp' = .inst C d) ∨ (∃ o, sp' = .exact o) ∨ ∃ o, sp' = .arg o) → b ≠ a := by
    rintro b sp' e hm rfl
    obtain ⟨h1, h2, h3, h4⟩ := h0 _ e
    rcases hm with hm | ⟨C, d, rfl⟩ | ⟨o, rfl⟩ | ⟨o, rfl⟩
    · rw [h1] at hm; cases hm
    · exact h2 _ _ rfl
    · exact h3 _ rfl
    · exact h4 _ rfl
  have vm : ∀ v v', VRel Λ ρ v v' → VRel (Λ.put a sp) ρ v v' := by
    intro v v' hv
    cases v with
    | rng lo hi st =>
      obtain ⟨q, t, u, w, h1, h2⟩ := hv
      exact ⟨q, t, u, w, h1, by rw [Led.put_ne (ne _ _ h2 (.inr (.inr (.inl ⟨_, rfl⟩))))]; exact h2⟩
    | _ => exact hv
  refine ⟨r.len, fun i o e => ?_, r.inj1, r.inj2⟩
  obtain ⟨c, hc, ho⟩ := r.objs i o e
  refine ⟨c, hc, ?_⟩
  cases o with
  | list vs =>
    obtain ⟨vs', h1, h2, h3⟩ := ho
    exact ⟨vs', by rw [Led.put_ne (ne _ _ h1 (.inl rfl))]; exact h1, h2.mono vm, h3⟩
  | arg vs =>
    obtain ⟨vs', h1, h2, h3⟩ := ho
    exact ⟨vs', by rw [Led.put_ne (ne _ _ h1 (.inr (.inr (.inr ⟨_, rfl⟩))))]; exact h1, h2.mono vm, h3⟩
  | inst k as =>
    obtain ⟨hk, es, h1, h2, h3⟩ := ho
    exact ⟨hk, es, by rw [Led.put_ne (ne _ _ h1 (.inr (.inl ⟨_, _, rfl⟩)))]; exact h1, by rw [Led.put_ne (ne _ _ h2 (.inl rfl))]; exact h2, h3.mono fun p e ⟨h4, h5, h6⟩ => ⟨h4, h5, vm _ _ h6⟩⟩

theorem evo_add {a : Addr} (hf : Λ a = none) {sp : Spec} : Evo X0 Λ ρ (Λ.put a sp) ρ :=
  ⟨⟨[], by simp⟩, fun b sp' e _ _ => by rw [Led.put_ne (by rintro rfl; rw [hf] at e; cases e)]; exact e, fun _ h => h.elim, fun _ h => h.elim, fun _ _ h => h.elim⟩
theorem evo_mut {a : Addr} {sp sp' : Spec} (e : Λ a = some sp) (hm : sp.mut = true) : Evo X0 Λ ρ (Λ.put a sp') ρ :=
  ⟨⟨[], by simp⟩, fun b sp'' e' hm' _ => by rw [Led.put_ne (by rintro rfl; rw [e] at e'; cases e'; rw [hm] at hm'; cases hm')]; exact e', fun _ h => h.elim, fun _ h => h.elim, fun _ _ h => h.elim⟩

/-- a list is stored into -/
theorem St8.setList (x : St8 base ca Λ ρ S h) {k : Nat} {c : Addr × Addr} {vs0 vs : List V} {vs0' vs' : List Value} (e : S[k]? = some (.list vs0)) (hc : ρ[k]? = some c) (hΛ : Λ c.1 = some (.list vs0'))
    (kk : Heap.ExtBut c.1 h h') (hn : h'.PlainList c.1 vs'.toArray) (hv : Each (VRel Λ ρ) vs vs') :
    St8 base ca (Λ.put c.1 (.list vs')) ρ (S.set k (.list vs)) h' ∧ Evo X0 Λ ρ (Λ.put c.1 (.list vs')) ρ := by
  have ev : Evo X0 Λ ρ (Λ.put c.1 (.list vs')) ρ := evo_mut hΛ rfl
  refine ⟨⟨x.holds.upd hΛ kk (by obtain ⟨n, e⟩ := hn; exact ⟨_, e, n, rfl⟩), ⟨by simp [x.rel.len], fun i o ei => ?_, x.rel.inj1, x.rel.inj2⟩⟩, ev⟩
  by_cases hik : i = k
  · subst hik
    have hlt : i < S.length := (List.getElem?_eq_some_iff.mp e).1
    rw [List.getElem?_set_self hlt] at ei
    cases ei
    obtain ⟨c', hc', _, _, _, h3⟩ := x.rel.objs i _ e
    rw [hc] at hc'; cases hc'
    exact ⟨c, hc, vs', Led.put_self .., ev.vrels hv, h3⟩
  · rw [List.getElem?_set_ne (Ne.symm hik)] at ei
    obtain ⟨d, hd, ho⟩ := x.rel.objs i o ei
    refine ⟨d, hd, ?_⟩
    have n1 : d.1 ≠ c.1 := fun q => hik (x.rel.inj1 i k d c hd hc q)
    cases o with
    | list ws => obtain ⟨ws', h1, h2, h3⟩ := ho; exact ⟨ws', by rw [Led.put_ne n1]; exact h1, ev.vrels h2, h3⟩
    | arg ws => obtain ⟨ws', h1, h2, h3⟩ := ho; exact ⟨ws', by rw [Led.put_ne n1]; exact h1, ev.vrels h2, h3⟩
    | inst k2 as =>
      obtain ⟨hk, es, h1, h2, h3⟩ := ho
      exact ⟨hk, es, by rw [Led.put_ne n1]; exact h1, by rw [Led.put_ne (by intro q; rw [q, hΛ] at h2; cases h2)]; exact h2, h3.mono fun p e ⟨h4, h5, h6⟩ => ⟨h4, h5, ev.vrel h6⟩⟩

theorem Rel.noAddr (r : Rel ca Λ ρ S) {a : Addr} (ha : Λ a = none) : ∀ (i : Nat) (c : Addr × Addr), ρ[i]? = some c → c.1 ≠ a ∧ c.2 ≠ a := by
  intro i c hc
  have hi : i < S.length := r.len ▸ (List.getElem?_eq_some_iff.mp hc).1
  obtain ⟨c', hc', ho⟩ := r.objs i _ (List.getElem?_eq_getElem hi)
  rw [hc] at hc'; cases hc'
  cases hS : S[i] with
  | list ws =>
    rw [hS] at ho
    obtain ⟨ws', h1, _, h3⟩ := ho
    exact ⟨fun q => by (rw [q, ha] at h1; cases h1), fun q => by (rw [← h3, q, ha] at h1; cases h1)⟩
  | arg ws =>
    rw [hS] at ho
    obtain ⟨ws', h1, _, h3⟩ := ho
    exact ⟨fun q => by (rw [q, ha] at h1; cases h1), fun q => by (rw [← h3, q, ha] at h1; cases h1)⟩
  | inst k as =>
    rw [hS] at ho
    obtain ⟨_, es, h1, h2, _⟩ := ho
    exact ⟨fun q => by (rw [q, ha] at h1; cases h1), fun q => by (rw [q, ha] at h2; cases h2)⟩

theorem ORel.mono {c : Addr × Addr} {o : O} (ev : Evo X0 Λ ρ Λ' ρ') (h1 : Λ' c.1 = Λ c.1) (h2 : Λ' c.2 = Λ c.2) (h : ORel ca Λ ρ c o) : ORel ca Λ' ρ' c o := by
  cases o with
  | list ws => obtain ⟨ws', q1, q2, q3⟩ := h; exact ⟨ws', h1.trans q1, ev.vrels q2, q3⟩
  | arg ws => obtain ⟨ws', q1, q2, q3⟩ := h; exact ⟨ws', h1.trans q1, ev.vrels q2, q3⟩
  | inst kk as => obtain ⟨hk, es, q1, q2, q3⟩ := h; exact ⟨hk, es, h1.trans q1, h2.trans q2, q3.mono fun p e ⟨h4, h5, h6⟩ => ⟨h4, h5, ev.vrel h6⟩⟩

theorem Rel.push (r : Rel ca Λ ρ S) {c : Addr × Addr} {o : O} (ev : Evo X0 Λ ρ Λ' (ρ ++ [c])) (hsub : ∀ a, a ≠ c.1 → a ≠ c.2 → Λ' a = Λ a) (n1 : Λ c.1 = none) (n2 : Λ c.2 = none)
    (ho : ORel ca Λ' (ρ ++ [c]) c o) : Rel ca Λ' (ρ ++ [c]) (S ++ [o]) := by
  have hlen := r.len
  have split : ∀ (i : Nat) (d : Addr × Addr), (ρ ++ [c])[i]? = some d → ρ[i]? = some d ∨ (i = ρ.length ∧ d = c) := by
    intro i d hd
    rw [List.getElem?_append] at hd
    split at hd
    · exact .inl hd
    · right
      rename_i hi
      have : i - ρ.length = 0 := by
        cases hq : i - ρ.length with
        | zero => rfl
        | succ n => rw [hq] at hd; simp at hd
      rw [this] at hd
      exact ⟨by lia, by simpa using hd.symm⟩
  refine ⟨by simp [hlen], fun i o' e => ?_, fun i j d d' hd hd' e => ?_, fun i j d d' hd hd' e => ?_⟩
  · rw [List.getElem?_append] at e
    split at e
    · rename_i hi
      obtain ⟨d, hd, ho'⟩ := r.objs i o' e
      obtain ⟨m1, m2⟩ := r.noAddr n1 i d hd
      obtain ⟨m3, m4⟩ := r.noAddr n2 i d hd
      exact ⟨d, ev.get hd, ho'.mono ev (hsub _ m1 m3) (hsub _ m2 m4)⟩
    · rename_i hi
      have hz : i - S.length = 0 := by
        cases hq : i - S.length with
        | zero => rfl
        | succ n => rw [hq] at e; simp at e
      rw [hz] at e
      have hi' : i = S.length := by lia
      have ho' : o' = o := by simpa using e.symm
      subst ho' hi'
      exact ⟨c, by rw [← hlen]; simp, ho⟩
  · rcases split i d hd with h1 | ⟨h1, rfl⟩ <;> rcases split j d' hd' with h2 | ⟨h2, rfl⟩
    · exact r.inj1 i j d d' h1 h2 e
    · exact absurd e (r.noAddr n1 i d h1).1
    · exact absurd e.symm (r.noAddr n1 j d' h2).1
    · rw [h1, h2]
  · rcases split i d hd with h1 | ⟨h1, rfl⟩ <;> rcases split j d' hd' with h2 | ⟨h2, rfl⟩
    · exact r.inj2 i j d d' h1 h2 e
    · exact absurd e (r.noAddr n2 i d h1).2
    · exact absurd e.symm (r.noAddr n2 j d' h2).2
    · rw [h1, h2]

/-- a new list -/
theorem St8.newList (x : St8 base ca Λ ρ S h) {a : Addr} {vs : List V} {vs' : List Value} (hf : h.get? a = none) (k : ∀ b o, h.get? b = some o → h'.get? b = some o)
    (hn : h'.PlainList a vs'.toArray) (hv : Each (VRel Λ ρ) vs vs') :
    St8 base ca (Λ.put a (.list vs')) (ρ ++ [(a, a)]) (S ++ [.list vs]) h' ∧ Evo X0 Λ ρ (Λ.put a (.list vs')) (ρ ++ [(a, a)]) ∧ VRel (Λ.put a (.list vs')) (ρ ++ [(a, a)]) (.ref S.length) (.ref a) := by
  have hΛ : Λ a = none := x.holds.led_none hf
  have ev : Evo X0 Λ ρ (Λ.put a (.list vs')) (ρ ++ [(a, a)]) := ⟨⟨_, rfl⟩, (evo_add (ρ := ρ) hΛ).pres, fun _ h => h.elim, fun _ h => h.elim, fun _ _ h => h.elim⟩
  exact ⟨⟨x.holds.add hf k (by obtain ⟨n, e⟩ := hn; exact ⟨_, e, n, rfl⟩), x.rel.push ev (fun b h1 _ => Led.put_ne h1) hΛ hΛ ⟨vs', Led.put_self .., ev.vrels hv, rfl⟩⟩, ev, ⟨(a, a), by rw [← x.rel.len]; simp, rfl⟩⟩

/-- a new object of a class, its dict empty -/
theorem St8.newInst (x : St8 base ca Λ ρ S h) {a d : Addr} {c : Nat} (hc : c < tab.cls.length) (hfa : h.get? a = none) (hfd : h.get? d = none) (hne : a ≠ d) (k : ∀ b o, h.get? b = some o → h'.get? b = some o)
    (ha : h'.get? a = some (instObj (ca c) d)) (hd : h'.get? d = some (dictOf [] 0)) :
    ∃ Λ', St8 base ca Λ' (ρ ++ [(a, d)]) (S ++ [.inst c []]) h' ∧ Evo X0 Λ ρ Λ' (ρ ++ [(a, d)]) ∧ VRel Λ' (ρ ++ [(a, d)]) (.ref S.length) (.ref a) := by
  have nA := x.holds.led_none hfa
  have nD := x.holds.led_none hfd
  have nA' : (Λ.put d (.dict [])) a = none := by rw [Led.put_ne hne]; exact nA
  have hl : (Λ.put d (.dict [])).put a (.inst (ca c) d) d = some (.dict []) := by rw [Led.put_ne hne.symm, Led.put_self]
  have ev : Evo X0 Λ ρ ((Λ.put d (.dict [])).put a (.inst (ca c) d)) (ρ ++ [(a, d)]) := by
    have e1 := (evo_add (ρ := ρ) nD (sp := .dict [])).trans0 (evo_add (ρ := ρ) nA' (sp := .inst (ca c) d))
    exact ⟨⟨_, rfl⟩, e1.pres, fun _ h => h.elim, fun _ h => h.elim, fun _ _ h => h.elim⟩
  refine ⟨(Λ.put d (.dict [])).put a (.inst (ca c) d), ⟨⟨fun b o e => k b o (x.holds.keep b o e), fun b sp e => ?_, fun b sp e => ?_⟩, x.rel.push ev (fun b h1 h2 => by rw [Led.put_ne h1, Led.put_ne h2]) nA nD ⟨hc, [], Led.put_self .., hl, .nil⟩⟩, ev,
    ⟨(a, d), by rw [← x.rel.len]; simp, rfl⟩⟩
  · by_cases h1 : b = a
    · subst h1; rw [Led.put_self] at e; cases e; exact ⟨_, ha, rfl⟩
    · rw [Led.put_ne h1] at e
      by_cases h2 : b = d
      · subst h2; rw [Led.put_self] at e; cases e; exact ⟨_, hd, 0, rfl⟩
      · rw [Led.put_ne h2] at e
        obtain ⟨o, ho, hs⟩ := x.holds.at_ b sp e
        exact ⟨o, k b o ho, hs⟩
  · by_cases h1 : b = a
    · subst h1; exact x.holds.base_none hfa
    · rw [Led.put_ne h1] at e
      by_cases h2 : b = d
      · subst h2; exact x.holds.base_none hfd
      · rw [Led.put_ne h2] at e; exact x.holds.new _ _ e

/-- an attribute is stored -/
theorem St8.setDict (x : St8 base ca Λ ρ S h) {k : Nat} {c : Addr × Addr} {cl : Nat} {as as' : List (Nat × V)} {es es' : List DictEntry} (e : S[k]? = some (.inst cl as)) (hc : ρ[k]? = some c)
    (hΛ : Λ c.2 = some (.dict es)) (kk : Heap.ExtBut c.2 h h') (hn : ∃ n, h'.get? c.2 = some (dictOf es' n)) (hv : Each (ARel Λ ρ) as' es') :
    St8 base ca (Λ.put c.2 (.dict es')) ρ (S.set k (.inst cl as')) h' ∧ Evo X0 Λ ρ (Λ.put c.2 (.dict es')) ρ := by
  have ev : Evo X0 Λ ρ (Λ.put c.2 (.dict es')) ρ := evo_mut hΛ rfl
  refine ⟨⟨x.holds.upd hΛ kk (by obtain ⟨n, e⟩ := hn; exact ⟨_, e, n, rfl⟩), ⟨by simp [x.rel.len], fun i o ei => ?_, x.rel.inj1, x.rel.inj2⟩⟩, ev⟩
  by_cases hik : i = k
  · subst hik
    have hlt : i < S.length := (List.getElem?_eq_some_iff.mp e).1
    rw [List.getElem?_set_self hlt] at ei
    cases ei
    obtain ⟨c', hc', hk, es0, h1, _, _⟩ := x.rel.objs i _ e
    rw [hc] at hc'; cases hc'
    refine ⟨c, hc, hk, es', ?_, Led.put_self .., hv.mono fun p e ⟨h4, h5, h6⟩ => ⟨h4, h5, ev.vrel h6⟩⟩
    rw [Led.put_ne (fun q => by rw [q, hΛ] at h1; cases h1)]; exact h1
  · rw [List.getElem?_set_ne (Ne.symm hik)] at ei
    obtain ⟨d, hd, ho⟩ := x.rel.objs i o ei
    refine ⟨d, hd, ?_⟩
    have n2 : d.2 ≠ c.2 := fun q => hik (x.rel.inj2 i k d c hd hc q)
    have n1 : d.1 ≠ c.2 := fun q => by
      cases o with
      | list ws => obtain ⟨ws', h1, h2, h3⟩ := ho; rw [q, hΛ] at h1; cases h1
      | arg ws => obtain ⟨ws', h1, h2, h3⟩ := ho; rw [q, hΛ] at h1; cases h1
      | inst k2 as => obtain ⟨_, es, h1, h2, h3⟩ := ho; rw [q, hΛ] at h1; cases h1
    exact ho.mono ev (Led.put_ne n1) (Led.put_ne n2)
end
end Mine
end

section
set_option Elab.async false
set_option autoImplicit false
set_option linter.unusedVariables false
open PySem PySem.W PyProof.Rows
namespace Mine

/-- what is fixed through the whole run -/
structure Cx (prog : Program) (w : World) (K : Frag) (base : Heap) (ca : Nat → Addr) (SE : Addr) (t : Tb) : Prop where
  X : K.In base
  T : ∃ p loose mg mb, TopRead p loose mg mb base
  gcs : ∀ k x, tab.gcs[k]? = some x → ∃ i u, nsIn K mainGlobals x = some (some (.int i u)) ∧ t.gval k = .int i
  blts : ∀ x b, bltOf x = some b → nsIn K mainGlobals x = some none
  cls : ∀ k, k < tab.cls.length → hasDictIn K (ca k) = true ∧ plainGet K (ca k) "" = true ∧ findIn K (.ref (ca k)) "__setattr__" = some (some (.builtin "object.__setattr__")) ∧ plainOver K (ca k) = true ∧ makesIn K (ca k) = true
  attrs : ∀ k, k < tab.cls.length → ∀ a, a < tab.names.length → findIn K (.ref (ca k)) (nm a) = some none

structure EnvOk (sc : Scope) (env : Env) : Prop where
  kind : env.scope.kind = .function
  glob : env.globals = mainGlobals
  blt : env.builtins = builtinsNs
  gk : ∀ x, sc.names.lookup x = some .globalImplicit → env.kindOf x = some .globalImplicit
  cell : ∀ x, sc.names.lookup x = some .cell → env.kindOf x = some .cell ∧ (env.cells.lookup x).isSome = true

noncomputable def Reads (Λ : Led) (env : Env) (n : Str) (v : Value) : Prop :=
  (env.kindOf n = some .local ∧ ∃ m, Λ env.locals = some (.ns m) ∧ m n = some v) ∨
  ((env.kindOf n = some .cell ∨ env.kindOf n = some .free) ∧ ∃ c, env.cells.lookup n = some c ∧ Λ c = some (.cell (some v)))
noncomputable def FrRel (sc : Scope) (Λ : Led) (ρ : Rho) (env : Env) (fr : Fr) : Prop :=
  ∀ x v k, fr x = some v → x < tab.names.length → sc.names.lookup (nm x) = some k → k ≠ .globalImplicit → ∃ v', VRel Λ ρ v v' ∧ Reads Λ env (nm x) v'

/-- the stack: the frame at hand first -/
structure AOk (n : Nat) (A : Around) (l : List Env) : Prop where
  handled : A.handled = none
  frames : A.frames = some l
  depth : A.depth + 3 * n + 5 < 1000
  units : A.units + 6 * n + 100 < 9900
/-- every frame of the stack has its entry -/
noncomputable def StackOk (Λ : Led) (l : List Env) : Prop := ∀ env ∈ l, env.scope.kind = .function ∧ ∃ L m, env.frame = some L ∧ Λ L = some (.ns m)

noncomputable def frAddrs (l : List Env) : List Addr := l.filterMap (·.frame)
/-- an exception of ours flies -/
noncomputable def Raised (base : Heap) (SE : Addr) (l : List Env) (e : Addr) (Λ : Led) (h : Heap) : Prop :=
  ∃ B a0, base.StaysIn B ∧ B.StaysIn h ∧ (∀ a sp, Λ a = some sp → a ∉ frAddrs l → ∃ o, B.get? a = some o ∧ sp.ok o) ∧ B.get? e = none ∧ h.FunFrames B l ∧
    ((∃ oe vs, h.get? e = some oe ∧ oe.cls = .ref SE ∧ oe.data = .fields vs ∧ vs[0]? = some a0 ∧ vs[1]? = some .none) ∨ h.TracedAtW B e (.ref SE) a0 .none ∨
      (∃ env r L, l = env :: r ∧ env.frame = some L ∧ h.TracedAtW B e (.ref SE) a0 (rawInt L)))

section
variable (base : Heap) (ca : Nat → Addr) (SE : Addr)
/-- a value is there -/
inductive PV (s : Shared) (Λ : Led) (ρ : Rho) (Q : V → H → Prop) (v' : Value) (s' : Shared) : Prop where
  | mk (h' : _) (tk : _) (Λ' : _) (ρ' : _) (v : _) (S' : _) (hh1 : s' = { s with heap := h', toks := tk }) (hh2 : Evo X0 Λ ρ Λ' ρ') (hh3 : St8 base ca Λ' ρ' S' h') (hh4 : VRel Λ' ρ' v v') (hh5 : Q v S')
inductive PB (s : Shared) (Λ : Led) (ρ : Rho) (Q : Bool → H → Prop) (b : Bool) (s' : Shared) : Prop where
  | mk (h' : _) (tk : _) (Λ' : _) (ρ' : _) (S' : _) (hh1 : s' = { s with heap := h', toks := tk }) (hh2 : Evo X0 Λ ρ Λ' ρ') (hh3 : St8 base ca Λ' ρ' S' h') (hh4 : Q b S')
inductive PVs (s : Shared) (Λ : Led) (ρ : Rho) (Q : List V → H → Prop) (vs' : List Value) (s' : Shared) : Prop where
  | mk (h' : _) (tk : _) (Λ' : _) (ρ' : _) (vs : _) (S' : _) (hh1 : s' = { s with heap := h', toks := tk }) (hh2 : Evo X0 Λ ρ Λ' ρ') (hh3 : St8 base ca Λ' ρ' S' h') (hh4 : Each (VRel Λ' ρ') vs vs') (hh5 : Q vs S')
inductive PX (X : Addr → Prop) (s : Shared) (Λ : Led) (ρ : Rho) (l : List Env) (Qx : H → Prop) (e' : Value) (s' : Shared) : Prop where
  | mk (h' : _) (tk : _) (Λ' : _) (ρ' : _) (S' : _) (e : _) (hh1 : e' = .ref e) (hh2 : s' = { s with heap := h', toks := tk }) (hh3 : Evo X Λ ρ Λ' ρ') (hh4 : St8 base ca Λ' ρ' S' h') (hh5 : Raised base SE l e Λ' h') (hh6 : Qx S')
end

section
variable {base : Heap} {ca : Nat → Addr} {SE : Addr} {s s₁ s' : Shared} {Λ Λ₁ : Led} {ρ ρ₁ : Rho} {l : List Env} {X : Addr → Prop}
theorem PV.mk' {S : H} {Q : V → H → Prop} {v : V} {v' : Value} {tk : Nat} (x : St8 base ca Λ ρ S s.heap) (hv : VRel Λ ρ v v') (q : Q v S) : PV base ca s Λ ρ Q v' { s with toks := tk } :=
  ⟨s.heap, tk, Λ, ρ, v, S, rfl, .refl0, x, hv, q⟩
theorem PV.mk0 {S : H} {Q : V → H → Prop} {v : V} {v' : Value} (x : St8 base ca Λ ρ S s.heap) (hv : VRel Λ ρ v v') (q : Q v S) : PV base ca s Λ ρ Q v' s :=
  ⟨s.heap, s.toks, Λ, ρ, v, S, rfl, .refl0, x, hv, q⟩
theorem PV.trans {Q : V → H → Prop} {v' : Value} {h₁ : Heap} {t₁ : Nat} (ev : Evo X0 Λ ρ Λ₁ ρ₁) (p : PV base ca { s with heap := h₁, toks := t₁ } Λ₁ ρ₁ Q v' s') : PV base ca s Λ ρ Q v' s' := by
  obtain ⟨h', tk, Λ', ρ', v, S', rfl, e, x, hv, q⟩ := p
  exact ⟨h', tk, Λ', ρ', v, S', rfl, ev.trans0 e, x, hv, q⟩
theorem PB.trans {Q : Bool → H → Prop} {b : Bool} {h₁ : Heap} {t₁ : Nat} (ev : Evo X0 Λ ρ Λ₁ ρ₁) (p : PB base ca { s with heap := h₁, toks := t₁ } Λ₁ ρ₁ Q b s') : PB base ca s Λ ρ Q b s' := by
  obtain ⟨h', tk, Λ', ρ', S', rfl, e, x, q⟩ := p
  exact ⟨h', tk, Λ', ρ', S', rfl, ev.trans0 e, x, q⟩
theorem PVs.trans {Q : List V → H → Prop} {v' : List Value} {h₁ : Heap} {t₁ : Nat} (ev : Evo X0 Λ ρ Λ₁ ρ₁) (p : PVs base ca { s with heap := h₁, toks := t₁ } Λ₁ ρ₁ Q v' s') : PVs base ca s Λ ρ Q v' s' := by
  obtain ⟨h', tk, Λ', ρ', v, S', rfl, e, x, hv, q⟩ := p
  exact ⟨h', tk, Λ', ρ', v, S', rfl, ev.trans0 e, x, hv, q⟩
theorem PX.trans {Qx : H → Prop} {e' : Value} {h₁ : Heap} {t₁ : Nat} (ev : Evo X0 Λ ρ Λ₁ ρ₁) (p : PX base ca SE X0 { s with heap := h₁, toks := t₁ } Λ₁ ρ₁ l Qx e' s') : PX base ca SE X0 s Λ ρ l Qx e' s' := by
  obtain ⟨h', tk, Λ', ρ', S', a, rfl, rfl, e, x, r, q⟩ := p
  exact ⟨h', tk, Λ', ρ', S', a, rfl, rfl, ev.trans0 e, x, r, q⟩

theorem Reads.mono {env : Env} {n : Str} {v : Value} (h : Reads Λ env n v) (ev : Evo X0 Λ ρ Λ₁ ρ₁) : Reads Λ₁ env n v := by
  rcases h with ⟨hk, m, h1, h2⟩ | ⟨hk, c, h1, h2⟩
  · exact .inl ⟨hk, m, ev.pres _ _ h1 rfl id, h2⟩
  · exact .inr ⟨hk, c, h1, ev.pres _ _ h2 rfl id⟩
theorem FrRel.mono {sc : Scope} {env : Env} {fr : Fr} (h : FrRel sc Λ ρ env fr) (ev : Evo X0 Λ ρ Λ₁ ρ₁) : FrRel sc Λ₁ ρ₁ env fr := fun x v k e hl hk hg => by
  obtain ⟨v', h1, h2⟩ := h x v k e hl hk hg
  exact ⟨v', ev.vrel h1, h2.mono ev⟩
theorem StackOk.mono (h : StackOk Λ l) (ev : Evo X0 Λ ρ Λ₁ ρ₁) : StackOk Λ₁ l := fun env he => by
  obtain ⟨h1, L, m, h2, h3⟩ := h env he
  exact ⟨h1, L, m, h2, ev.pres _ _ h3 rfl id⟩
theorem AOk.le {n m : Nat} {A : Around} (h : AOk n A l) (hm : m ≤ n) : AOk m A l := ⟨h.handled, h.frames, by have := h.depth; lia, by have := h.units; lia⟩

section
variable {M : Model} {A : Around} {α : Type}
/-- one step after another -/
theorem bindV {m : Sem Value} {k : Value → Sem α} {Q : V → H → Prop} {R : α → Shared → Prop} {Ex E : Value → Shared → Prop} (h : wpAny M A m (PV base ca s Λ ρ Q) Ex s) (hE : ∀ e s', Ex e s' → E e s')
    (hk : ∀ v' v h₁ t₁ Λ₁ ρ₁ S₁, Evo X0 Λ ρ Λ₁ ρ₁ → St8 base ca Λ₁ ρ₁ S₁ h₁ → VRel Λ₁ ρ₁ v v' → Q v S₁ → wpAny M A (k v') R E { s with heap := h₁, toks := t₁ }) : wpAny M A (m >>= k) R E s :=
  wpAny_bind (wpAny_mono h (fun v' s₁ ⟨h₁, t₁, Λ₁, ρ₁, v, S₁, e, ev, x, hv, q⟩ => by subst e; exact hk v' v h₁ t₁ Λ₁ ρ₁ S₁ ev x hv q) hE)
theorem monoV {m : Sem Value} {Q : V → H → Prop} {R : Value → Shared → Prop} {Ex E : Value → Shared → Prop} (h : wpAny M A m (PV base ca s Λ ρ Q) Ex s) (hE : ∀ e s', Ex e s' → E e s')
    (hk : ∀ v' v h₁ t₁ Λ₁ ρ₁ S₁, Evo X0 Λ ρ Λ₁ ρ₁ → St8 base ca Λ₁ ρ₁ S₁ h₁ → VRel Λ₁ ρ₁ v v' → Q v S₁ → R v' { s with heap := h₁, toks := t₁ }) : wpAny M A m R E s :=
  wpAny_mono h (fun v' s₁ ⟨h₁, t₁, Λ₁, ρ₁, v, S₁, e, ev, x, hv, q⟩ => by subst e; exact hk v' v h₁ t₁ Λ₁ ρ₁ S₁ ev x hv q) hE
end

theorem find_spec {l : List Str} {x : Str} {i : Nat} (h : find l x = some i) : i < l.length ∧ l[i]? = some x := by
  unfold find at h
  simp only at h
  split at h
  · rename_i hi
    cases h
    refine ⟨hi, ?_⟩
    rw [List.getElem?_eq_getElem hi]
    congr 1
    have := List.getElem_idxOf hi
    exact this
  · cases h
theorem find_nm {x : Str} {i : Nat} (h : find tab.names x = some i) : nm i = x := by
  obtain ⟨_, h2⟩ := find_spec h
  unfold nm
  rw [List.getD_eq_getElem?_getD, h2]; rfl
theorem find_sm {x : Str} {i : Nat} (h : find tab.texts x = some i) : sm i = x := by
  obtain ⟨_, h2⟩ := find_spec h
  unfold sm
  rw [List.getD_eq_getElem?_getD, h2]; rfl
theorem names_plain : (tab.names.all fun x => !(x == ("__debug__" : Str)) && !(x == ("__classdict__" : Str))) = true := by decide +kernel
theorem nm_mem {i : Nat} (h : i < tab.names.length) : nm i ∈ tab.names := by
  unfold nm
  rw [List.getD_eq_getElem?_getD, List.getElem?_eq_getElem h]
  exact List.getElem_mem h
theorem nm_plain {i : Nat} (h : i < tab.names.length) : (nm i == ("__debug__" : Str)) = false ∧ (nm i == ("__classdict__" : Str)) = false := by
  have := List.all_eq_true.mp names_plain _ (nm_mem h)
  simpa using this

section
variable {M : Model} {A : Around} {sc : Scope} {env : Env} {fr : Fr} {S : H} {E : Value → Shared → Prop}
theorem reads_name {n : Str} {v : Value} {Q : Value → Shared → Prop} (ho : EnvOk sc env) (x : St8 base ca Λ ρ S s.heap) (h : Reads Λ env n v) (hc : (n == ("__classdict__" : Str)) = false) (q : Q v s) : wpAny M A (loadName env n) Q E s := by
  rcases h with ⟨hk, m, h1, h2⟩ | ⟨hk, c, h1, h2⟩
  · exact wpAny_loadName_local ho.kind hk (x.holds.ns h1) h2 q
  · rcases hk with hk | hk
    · exact wpAny_loadName_cell ho.kind hk h1 (x.holds.cell h2) q
    · exact wpAny_loadName_free ho.kind hk h1 (x.holds.cell h2) q hc
/-- a local name -/
theorem snd_var {i : Nat} {x : Str} {pos : Pos} {v : V} {k : NameKind} {Q : V → H → Prop} (ho : EnvOk sc env) (hf : FrRel sc Λ ρ env fr) (st : St8 base ca Λ ρ S s.heap) (hx : find tab.names x = some i) (hl : sc.names.lookup x = some k) (hk : k ≠ .globalImplicit)
    (e : fr i = some v) (q : Q v S) : wpAny M A (eval (.Name x pos) env) (PV base ca s Λ ρ Q) E s := by
  have hnm := find_nm hx
  have hlt := (find_spec hx).1
  obtain ⟨v', h1, h2⟩ := hf i v k e hlt (by rw [hnm]; exact hl) hk
  obtain ⟨p1, p2⟩ := nm_plain hlt
  rw [hnm] at p1 p2 h2
  exact wpAny_Name (reads_name ho st h2 p2 (PV.mk0 st h1 q)) p1
end

section
variable {prog : Program} {w : World} {K : Frag} {t : Tb} {A : Around} {sc : Scope} {env : Env} {fr : Fr} {S : H} {E : Value → Shared → Prop}
theorem Cx.global (G : Cx prog w K base ca SE t) (ho : EnvOk sc env) (hkeep : ∀ b o, base.get? b = some o → s.heap.get? b = some o) {M : Model} {x : Str} {pos : Pos} {v : Value} {Q : Value → Shared → Prop}
    (e : nsIn K mainGlobals x = some (some v)) (hl : sc.names.lookup x = some .globalImplicit) (hd : (x == ("__debug__" : Str)) = false) (q : Q v s) : wpAny M A (eval (.Name x pos) env) Q E s := by
  obtain ⟨p, loose, mg, mb, T⟩ := G.T
  exact Calls.Name_function_global ho.kind (ho.gk x hl) (Calls.loadGlobal_global (by rw [ho.glob]; exact T.g.keeps hkeep) (mg_of G.X T.g e) q) hd
theorem Cx.builtin (G : Cx prog w K base ca SE t) (ho : EnvOk sc env) (hkeep : ∀ b o, base.get? b = some o → s.heap.get? b = some o) {M : Model} {x : Str} {pos : Pos} {v : Value} {Q : Value → Shared → Prop}
    (e : nsIn K mainGlobals x = some none) (hb : bootBuiltins x = some v) (hn : x ≠ "__name__") (hl : sc.names.lookup x = some .globalImplicit) (hd : (x == ("__debug__" : Str)) = false) (q : Q v s) : wpAny M A (eval (.Name x pos) env) Q E s := by
  obtain ⟨p, loose, mg, mb, T⟩ := G.T
  exact Calls.Name_function_global ho.kind (ho.gk x hl) (Calls.loadGlobal_builtin (by rw [ho.glob]; exact T.g.keeps hkeep) (mg_none_of G.X T.g e) (by rw [ho.blt]; exact T.b.keeps hkeep) ((T.builtins x hn).trans hb) q) hd
theorem gcs_plain : (tab.gcs.all fun x => !(x == ("__debug__" : Str))) = true := by decide +kernel
theorem snd_gcon (G : Cx prog w K base ca SE t) (ho : EnvOk sc env) {M : Model} {i : Nat} {x : Str} {pos : Pos} {Q : V → H → Prop} (st : St8 base ca Λ ρ S s.heap) (hx : find tab.gcs x = some i) (hl : sc.names.lookup x = some .globalImplicit)
    (q : Q (t.gval i) S) : wpAny M A (eval (.Name x pos) env) (PV base ca s Λ ρ Q) E s := by
  obtain ⟨hlt, hi⟩ := find_spec hx
  obtain ⟨j, u, h1, h2⟩ := G.gcs i x hi
  have hd : (x == ("__debug__" : Str)) = false := by
    have := List.all_eq_true.mp gcs_plain x (List.mem_of_getElem? hi)
    simpa using this
  exact G.global ho st.holds.keep h1 hl hd (PV.mk0 st (by rw [h2]; exact ⟨u, rfl⟩) q)
end
end
end Mine
end

section
set_option Elab.async false
set_option autoImplicit false
set_option linter.unusedVariables false
open PySem PySem.W PyProof.Rows
namespace Mine
section
variable {base : Heap} {ca : Nat → Addr} {SE : Addr} {s : Shared} {Λ : Led} {ρ : Rho} {l : List Env} {S : H}
variable {prog : Program} {w : World} {A : Around} {E : Value → Shared → Prop}

theorem at_size (h : Heap) : h.get? h.objs.size = none := by
  cases e : h.get? h.objs.size with
  | none => rfl
  | some o => exact absurd (Heap.lt_size e) (Nat.lt_irrefl _)

theorem vInt {i : Int} {t : Tok} : VRel Λ ρ (.int i) (.int i t) := ⟨t, rfl⟩
theorem vBool {b : Bool} : VRel Λ ρ (.bool b) (.bool b) := rfl
theorem vNone : VRel Λ ρ .none .none := rfl
theorem PV.newList {vs : List V} {vs' : List Value} {Q : V → H → Prop} {n : Nat} {tk : Nat} (st : St8 base ca Λ ρ S s.heap) (hv : Each (VRel Λ ρ) vs vs') (q : Q (.ref S.length) (S ++ [.list vs])) :
    PV base ca s Λ ρ Q (.ref s.heap.objs.size) { s with heap := s.heap.push { cls := .type "list", data := .seq vs'.toArray n }, toks := tk } := by
  obtain ⟨x, ev, hr⟩ := st.newList (h' := s.heap.push { cls := .type "list", data := .seq vs'.toArray n }) (at_size _) (fun b o e => Heap.get?_push_of_some _ e) ⟨n, Heap.get?_push_size _ rfl⟩ hv
  exact ⟨_, tk, _, _, _, _, rfl, ev, x, hr, q⟩

theorem ints_f2 {vs : List V} {vs' : List Value} (h : Each (VRel Λ ρ) vs vs') : ∀ {ns : List Int}, intsO vs = some ns → IntsAre vs' ns := by
  induction h with
  | nil => intro ns h; cases h; exact .nil
  | @cons a b l m x y ih =>
    intro ns h
    cases a with
    | int i =>
      obtain ⟨t, rfl⟩ := x
      obtain ⟨ms, h1, rfl⟩ := Option.map_eq_some_iff.mp (show (intsO l).map (i :: ·) = some ns from h)
      exact .cons _ _ (ih h1)
    | _ => cases h

theorem snd_add_list {a b : Addr} {vs ws : List Value} {Q : Value → Shared → Prop} (ha : s.heap.IsList a vs.toArray) (hb : s.heap.IsList b ws.toArray)
    (hsz : vs.length + ws.length ≤ sizeLine) (h : Q (.ref s.heap.objs.size) { s with heap := s.heap.push { cls := .type "list", data := .seq (vs ++ ws).toArray } }) : wpAny (model prog w) A (binaryOp .Add (.ref a) (.ref b)) Q E s := by
  obtain ⟨⟨c1, d1, t1, s1⟩, ha, hc1, n1, e1⟩ := ha
  obtain ⟨⟨c2, d2, t2, s2⟩, hb, hc2, n2, e2⟩ := hb
  simp only at hc1 e1 hc2 e2
  subst hc1 e1 hc2 e2
  have e : vs.toArray ++ ws.toArray = (vs ++ ws).toArray := by simp
  refine concat_meets ⟨_, ha, rfl⟩ ⟨_, hb, rfl⟩ noFill_list_add seq_list_add PySem.F.slot_list_add PySem.F.entry_list_add (PySem.F.args_list_add_2 _ _) (list_addW a b vs.toArray ws.toArray n1 n2 _ _ _ _ (by simpa using hsz)) ⟨ha, hb, ?_⟩
  rw [e]
  exact h
theorem rep_one (v : Value) : ∀ (n : Nat) (acc : Array Value), (List.replicate n #[v]).foldl (fun x1 x2 => x1 ++ x2) acc = acc ++ (List.replicate n v).toArray
  | 0, acc => by simp
  | n + 1, acc => by
    rw [List.replicate_succ, List.foldl_cons, rep_one v n]
    apply Array.ext'
    simp [List.replicate_succ]
theorem snd_mul_list {a : Addr} {v : Value} {x : Int} {u : Tok} {Q : Value → Shared → Prop} (hl : s.heap.IsList a #[v]) (h0 : 0 ≤ x) (h1 : x ≤ 1000)
    (h : Q (.ref s.heap.objs.size) { s with heap := s.heap.push { cls := .type "list", data := .seq (List.replicate x.toNat v).toArray } }) : wpAny (model prog w) A (binaryOp .Mult (.ref a) (.int x u)) Q E s := by
  obtain ⟨⟨cls, d, data, sl⟩, ho, hcl, k, hd⟩ := hl
  simp only at hcl hd
  subst hcl hd
  refine wpAny_binaryOp_repeat_ref (T := "list") (U := "int") (by decide) ⟨_, ho, rfl⟩ (fun s' => typeIs_int s' x u) noFill_list_mul F.fills_int_mul F.slot_int_rmul repeat_list F.slot_int_index.lookup
    (call_meets F.slot_int_rmul (typeIs_int s x u) F.entry_int_rmul (F.args_int_rmul_2 _ _) (lm_int_rmul_list_any x u a #[v] k d sl)
      ⟨ho, rfl, ⟨_, ho, rfl⟩, call_meets F.slot_list_mul ⟨_, ho, rfl⟩ F.entry_list_mul (F.args_list_mul_2 _ _)
        (lm_list_mul_any a #[v] k d sl x u (by simp [Builtin.List.listFitsIndex]; lia) (by simp; lia) (by simp [Builtin.List.listTooLong, sizeLine]; lia))
        ⟨ho, ?_⟩⟩)
  have e := rep_one v x.toNat #[]
  have e' : (if (#[v] : Array Value).isEmpty = true then 0 else x.toNat) = x.toNat := by simp
  rw [e', e]
  simpa using h

theorem rep_f2 {v : V} {v' : Value} (x : VRel Λ ρ v v') (m : Nat) : Each (VRel Λ ρ) (List.replicate m v) (List.replicate m v') := by
  induction m with
  | zero => exact .nil
  | succ m ih => exact .cons x ih
theorem St8.ref {k : Nat} {v' : Value} {vs : List V} {h : Heap} (st : St8 base ca Λ ρ S h) (hv : VRel Λ ρ (.ref k) v') (e : S[k]? = some (.list vs)) :
    ∃ a vs', ρ[k]? = some (a, a) ∧ v' = .ref a ∧ Λ a = some (.list vs') ∧ Each (VRel Λ ρ) vs vs' ∧ h.IsList a vs'.toArray ∧ vs'.length = vs.length := by
  obtain ⟨⟨a, b⟩, hc, rfl⟩ := hv
  obtain ⟨c', vs', hc', h1, h2, h3⟩ := st.list e
  obtain rfl := Option.some.inj (hc.symm.trans hc')
  obtain rfl : b = a := h3
  exact ⟨b, vs', hc, rfl, h1, h2, st.holds.isList h1, h2.length.symm⟩
noncomputable def opOf : BOp → Operator
  | .add => .Add | .sub => .Sub | .mul => .Mult | .fdiv => .FloorDiv | .mod => .Mod
theorem bop_inv {op : Operator} {o : BOp} (h : bopOf op = some o) : op = opOf o := by
  cases op <;> first | (cases h; rfl) | cases h
theorem snd_bin {op : Operator} {o : BOp} {a b : V} {a' b' : Value} {Q : V → H → Prop} (hop : bopOf op = some o) (st : St8 base ca Λ ρ S s.heap) (ha : VRel Λ ρ a a') (hb : VRel Λ ρ b b') (hbn : A.units < cLine)
    (q : binop o a b S Q) : wpAny (model prog w) A (binaryOp op a' b') (PV base ca s Λ ρ Q) E s := by
  obtain rfl := bop_inv hop
  cases q with
  | addI q => obtain ⟨t, rfl⟩ := ha; obtain ⟨u, rfl⟩ := hb; exact add_int (PV.mk' st vInt q)
  | addL e1 e2 hl q =>
    obtain ⟨c, vs', hc, rfl, h1, h2, p1, l1⟩ := st.ref ha e1
    obtain ⟨d, ws', hd, rfl, h3, h4, p2, l2⟩ := st.ref hb e2
    exact snd_add_list p1 p2 (by rw [l1, l2]; exact Nat.le_trans hl (by decide)) (PV.newList (n := 0) (tk := s.toks) st (h2.append h4) q)
  | sub q => obtain ⟨t, rfl⟩ := ha; obtain ⟨u, rfl⟩ := hb; exact sub_int (PV.mk' st vInt q)
  | mulI h q =>
    obtain ⟨t, rfl⟩ := ha; obtain ⟨u, rfl⟩ := hb
    refine mul_int (PV.mk' st vInt q) ?_
    rcases h with h | h
    · exact IntMulOk.of_left (intBits_le_64 (by lia) (by lia))
    · exact IntMulOk.of_right (intBits_le_64 (by lia) (by lia))
  | mulL e1 h0 h1 q =>
    obtain ⟨u, rfl⟩ := hb
    obtain ⟨c, vs', hc, rfl, g1, h2, p1, l1⟩ := st.ref ha e1
    cases h2 with
    | cons x y =>
      cases y
      exact snd_mul_list p1 h0 h1 (PV.newList (n := 0) (tk := s.toks) st (rep_f2 x _) q)
  | fdiv h0 h1 q =>
    obtain ⟨t, rfl⟩ := ha; obtain ⟨u, rfl⟩ := hb
    refine floordiv_int (by lia) (PV.mk' st vInt ?_) (.inl (PyProof.noPylong_small (by lia)))
    rw [Int.fdiv_eq_ediv_of_nonneg _ (Int.le_of_lt h0)]
    exact q
  | mod h0 q =>
    obtain ⟨t, rfl⟩ := ha; obtain ⟨u, rfl⟩ := hb
    refine PyProof.Rows.mod_int (by lia) (PV.mk' st vInt ?_)
    rw [Int.fmod_eq_emod_of_nonneg _ (Int.le_of_lt h0)]
    exact q
end
end Mine
end

section
set_option Elab.async false
set_option autoImplicit false
set_option linter.unusedVariables false
open PySem PySem.W PyProof.Rows
namespace Mine
section
variable {base : Heap} {ca : Nat → Addr} {SE : Addr} {s : Shared} {Λ : Led} {ρ : Rho} {l : List Env} {S : H}
variable {prog : Program} {w : World} {A : Around} {E : Value → Shared → Prop}

theorem range_contains (r : Addr) (a b c x : Int) (t u v k : Tok) :
    Meets (Builtin.«range.__contains__» ⟨[.ref r, .int x k], []⟩) (fun _ R s => s.heap.get? r = some (rangeObj a b c t u v) ∧ R (.ok (.ret (.bool (Builtin.Range.rangePlace? a b c x).isSome))) s) :=
  .of_wp fun prog w A R s h => by obtain ⟨hp, g, d, tk, os⟩ := s; obtain ⟨hl, h⟩ := h; wp_walk; exact ⟨_, rfl, h⟩

theorem f2_eqAt {A : Around} {s : Shared} : ∀ {xs ys : List Value} {ns ms : List Int}, IntsAre xs ns → IntsAre ys ms → ∀ (j : Nat) (h1 : j < xs.toArray.size) (h2 : j < ys.toArray.size),
    SeqAt.EqAt A s xs.toArray[j] ys.toArray[j] (ns.getD j 0 == ms.getD j 0) := by
  intro xs ys ns ms hx hy j h1 h2
  have l1 := hx.length
  have l2 := hy.length
  simp only [List.size_toArray] at h1 h2
  obtain ⟨t, e1⟩ := hx.get j ns[j] (by simp [← l1, h1])
  obtain ⟨u, e2⟩ := hy.get j ms[j] (by simp [← l2, h2])
  have q1 : xs.toArray[j] = .int ns[j] t := by
    have := List.getElem?_eq_some_iff.mp e1
    simpa using this.2
  have q2 : ys.toArray[j] = .int ms[j] u := by
    have := List.getElem?_eq_some_iff.mp e2
    simpa using this.2
  rw [q1, q2, show ns.getD j 0 = ns[j] by simp [l1 ▸ h1], show ms.getD j 0 = ms[j] by simp [l2 ▸ h2]]
  exact SeqAt.EqAt.int_int _ _ _ _
theorem all_getD (ns ms : List Int) (hl : ns.length = ms.length) : (List.range ns.length).all (fun j => ns.getD j 0 == ms.getD j 0) = (ns == ms) := by
  rw [Bool.eq_iff_iff, List.all_eq_true, beq_iff_eq]
  constructor
  · intro h
    refine List.ext_getElem hl fun j h1 h2 => ?_
    have := h j (List.mem_range.mpr h1)
    simpa [h1, h2] using this
  · rintro rfl j _
    simp

theorem sm_eq : ∀ i, i < tab.texts.length → ∀ j, j < tab.texts.length → (sm i == sm j) = (i == j) := by decide +kernel
theorem snd_eq {a b : V} {a' b' : Value} {q : Bool → Prop} (st : St8 base ca Λ ρ S s.heap) (ha : VRel Λ ρ a a') (hb : VRel Λ ρ b b') (hu : A.units + 100 < cLine) (h : EqR S q a b) :
    ∃ c, q c ∧ SeqAt.RcAt A s a' b' c ∧ SeqAt.RcNeAt A s a' b' (!c) := by
  cases h with
  | nn h => cases ha; cases hb; exact ⟨_, h, SeqAt.RcAt.none_none, SeqAt.RcNeAt.none_none⟩
  | nb h => cases ha; cases hb; exact ⟨_, h, SeqAt.RcAt.none_bool _, SeqAt.RcNeAt.none_bool _⟩
  | bn h => cases ha; cases hb; exact ⟨_, h, SeqAt.RcAt.bool_none _, SeqAt.RcNeAt.bool_none _⟩
  | bb h => cases ha; cases hb; exact ⟨_, h, SeqAt.RcAt.bool_bool _ _, SeqAt.RcNeAt.bool_bool _ _⟩
  | ii h => obtain ⟨t, rfl⟩ := ha; obtain ⟨u, rfl⟩ := hb; exact ⟨_, h, SeqAt.RcAt.int_int _ _ _ _, SeqAt.RcNeAt.int_int _ _ _ _⟩
  | @ss k l h =>
    obtain ⟨hk, t, rfl⟩ := ha; obtain ⟨hl, u, rfl⟩ := hb
    have e := sm_eq k hk l hl
    exact ⟨_, h, e ▸ SeqAt.RcAt.str_str _ _ _ _, e ▸ SeqAt.RcNeAt.str_str _ _ _ _⟩
  | ln e1 e2 l1 l2 ne h =>
    obtain ⟨c, vs', hc, rfl, h1, h2, p1, n1⟩ := st.ref ha e1
    obtain ⟨d, ws', hd, rfl, h3, h4, p2, n2⟩ := st.ref hb e2
    have hne : (vs'.toArray.size != ws'.toArray.size) = true := by
      simp only [List.size_toArray, bne_iff_ne]; rw [n1, n2]; exact ne
    exact ⟨_, h, SeqAt.RcAt.lists_lengths p1 p2 hne (Nat.lt_of_le_of_lt (Nat.le_add_right _ _) hu), SeqAt.RcNeAt.lists_lengths p1 p2 hne (Nat.lt_of_le_of_lt (Nat.le_add_right _ _) hu)⟩
  | @ll k l vs ws x y e1 e2 l1 l2 e ex ey h =>
    obtain ⟨c, vs', hc, rfl, h1, h2, p1, n1⟩ := st.ref ha e1
    obtain ⟨d, ws', hd, rfl, h3, h4, p2, n2⟩ := st.ref hb e2
    have i1 := ints_f2 h2 ex
    have i2 := ints_f2 h4 ey
    have hlen : vs'.toArray.size = ws'.toArray.size := by simp only [List.size_toArray]; rw [n1, n2, e]
    have e0 : (List.range vs'.toArray.size).all (fun j => x.getD j 0 == y.getD j 0) = (x == y) := by
      rw [show vs'.toArray.size = x.length from i1.length]
      exact all_getD x y (i1.length.symm.trans (hlen.trans i2.length))
    have r1 := SeqAt.RcAt.lists (A := A) (e := fun j => x.getD j 0 == y.getD j 0) p1 p2 hlen (Nat.lt_of_le_of_lt (Nat.le_add_right _ _) hu) (fun j h1 h2 => f2_eqAt i1 i2 j h1 h2)
    have r2 := SeqAt.RcNeAt.lists (A := A) (e := fun j => x.getD j 0 == y.getD j 0) p1 p2 hlen (Nat.lt_of_le_of_lt (Nat.le_add_right _ _) hu) (fun j h1 h2 => f2_eqAt i1 i2 j h1 h2)
    rw [e0] at r1 r2
    exact ⟨_, h, r1, r2⟩

noncomputable def cmOf : COp → CmpOp
  | .eq => .Eq | .ne => .NotEq | .lt => .Lt | .le => .LtE | .gt => .Gt | .ge => .GtE | .isin => .In | .notin => .NotIn
theorem cop_inv {op : CmpOp} {o : COp} (h : copOf op = some o) : op = cmOf o := by
  cases op <;> first | (cases h; rfl) | cases h
theorem any_ints {vs' : List Value} {ns : List Int} {i : Int} (i1 : IntsAre vs' ns) : (vs'.any fun y => match y with | .int j _ => j == i | _ => false) = ns.contains i := by
  induction i1 with
  | nil => rfl
  | cons j t r ih => rw [List.any_cons, ih, List.contains_cons, Bool.beq_comm]
theorem snd_cmp {op : CmpOp} {o : COp} {a b : V} {a' b' : Value} {Q : Value → Shared → Prop} {q : Bool → Prop} (hop : copOf op = some o) (st : St8 base ca Λ ρ S s.heap) (ha : VRel Λ ρ a a') (hb : VRel Λ ρ b b') (hu : A.units + 100 < cLine)
    (h : cmpop o a b S q) (k : ∀ c, q c → Q (.bool c) s) : wpAny (model prog w) A (compareOp op a' b') Q E s := by
  obtain rfl := cop_inv hop
  cases h with
  | eq h => obtain ⟨c, hq, r1, _⟩ := snd_eq st ha hb hu h; exact r1 prog w E Q (k c hq)
  | ne h => obtain ⟨c, hq, _, r2⟩ := snd_eq st ha hb hu h; exact r2 prog w E Q (k _ hq)
  | lt h => obtain ⟨t, rfl⟩ := ha; obtain ⟨u, rfl⟩ := hb; exact lt_int (k _ h)
  | le h => obtain ⟨t, rfl⟩ := ha; obtain ⟨u, rfl⟩ := hb; exact le_int (k _ h)
  | gt h => obtain ⟨t, rfl⟩ := ha; obtain ⟨u, rfl⟩ := hb; exact gt_int (k _ h)
  | ge h => obtain ⟨t, rfl⟩ := ha; obtain ⟨u, rfl⟩ := hb; exact ge_int (k _ h)
  | @isin i kk vs ns e1 hl en h =>
    obtain ⟨t, rfl⟩ := ha
    obtain ⟨c, vs', hc, rfl, h1, h2, p1, n1⟩ := st.ref hb e1
    have i1 := ints_f2 h2 en
    refine SeqAt.in_listAt (fun y => match y with | .int j _ => j == i | _ => false) p1 (fun y hy => ?_) (k _ ?_)
    · obtain ⟨j, hj⟩ := List.getElem?_of_mem (List.mem_toArray.mp hy)
      have hjl : j < ns.length := i1.length ▸ (List.getElem?_eq_some_iff.mp hj).1
      obtain ⟨u, e2⟩ := i1.get j ns[j] (List.getElem?_eq_getElem hjl)
      obtain rfl := Option.some.inj (hj.symm.trans e2)
      exact SeqAt.EqAt.int_int _ _ _ _
    · rw [List.any_toArray, any_ints i1]; exact h
  | @notin i lo hi h =>
    obtain ⟨t, rfl⟩ := ha; obtain ⟨r, t1, t2, t3, rfl, hr⟩ := hb
    have hr' := st.holds.exact hr
    refine SeqRoads2.notIn_meets ⟨_, hr', rfl⟩ F.slot_range_contains F.entry_range_contains (F.args_range_contains_2 _ _) (range_contains r lo hi 1 i t1 t2 t3 t) ⟨hr', _, rfl, k _ ?_⟩
    have e : (Builtin.Range.rangePlace? lo hi 1 i).isSome = (decide (lo ≤ i) && decide (i < hi)) := by
      unfold Builtin.Range.rangePlace?
      simp only [Int.reduceGT, ↓reduceIte, Int.emod_one, beq_self_eq_true, Bool.and_true]
      cases (decide (lo ≤ i) && decide (i < hi)) <;> rfl
    rw [e]; exact h
end
end Mine
end

section
set_option Elab.async false
set_option autoImplicit false
set_option linter.unusedVariables false
open PySem PySem.W PyProof.Rows
namespace Mine

noncomputable def bltVal : Blt → Value
  | .len => .builtin "len" | .max => .builtin "max" | .min => .builtin "min" | .sum => .builtin "sum"
  | .int => .type "int" | .range => .type "range" | .list => .type "list"

section
variable {base : Heap} {ca : Nat → Addr} {SE : Addr} {s : Shared} {Λ : Led} {ρ : Rho} {l : List Env} {S : H}
variable {prog : Program} {w : World} {A : Around} {E : Value → Shared → Prop}

theorem St8.addExact {h h' : Heap} (x : St8 base ca Λ ρ S h) {a : Addr} {o : Obj} (hf : h.get? a = none) (k : ∀ b o, h.get? b = some o → h'.get? b = some o) (hn : h'.get? a = some o) :
    St8 base ca (Λ.put a (.exact o)) ρ S h' ∧ Evo X0 Λ ρ (Λ.put a (.exact o)) ρ ∧ (Λ.put a (.exact o)) a = some (.exact o) := by
  have hΛ := x.holds.led_none hf
  exact ⟨⟨x.holds.add hf k ⟨o, hn, rfl⟩, x.rel.putOther fun sp e => by rw [hΛ] at e; cases e⟩, evo_add hΛ, Led.put_self ..⟩
theorem PV.rng {lo hi st' : Int} {t u v : Tok} {Q : V → H → Prop} {h' : Heap} {tk : Nat} (st : St8 base ca Λ ρ S s.heap) (k : ∀ b o, s.heap.get? b = some o → h'.get? b = some o)
    (hn : h'.get? s.heap.objs.size = some (rangeObj lo hi st' t u v)) (q : Q (.rng lo hi st') S) : PV base ca s Λ ρ Q (.ref s.heap.objs.size) { s with heap := h', toks := tk } := by
  obtain ⟨x, ev, e⟩ := st.addExact (at_size _) k hn
  exact ⟨_, tk, _, _, .rng lo hi st', _, rfl, ev, x, ⟨_, t, u, v, rfl, e⟩, q⟩
theorem PV.keepsInt {i : Int} {v' : Value} {Q : V → H → Prop} {h' : Heap} {tk : Nat} (st : St8 base ca Λ ρ S s.heap) (k : ∀ b o, s.heap.get? b = some o → h'.get? b = some o)
    (hv : ∃ t, v' = .int i t) (q : Q (.int i) S) : PV base ca s Λ ρ Q v' { s with heap := h', toks := tk } :=
  ⟨h', tk, _, _, .int i, _, rfl, .refl0, st.keeps k, hv, q⟩
theorem PV.newList' {vs : List V} {vs' : List Value} {Q : V → H → Prop} {n : Nat} {tk : Nat} {h' : Heap} (st : St8 base ca Λ ρ S s.heap) (k : ∀ b o, s.heap.get? b = some o → h'.get? b = some o)
    (hn : h'.get? s.heap.objs.size = some { cls := .type "list", data := .seq vs'.toArray n }) (hv : Each (VRel Λ ρ) vs vs') (q : Q (.ref S.length) (S ++ [.list vs])) :
    PV base ca s Λ ρ Q (.ref s.heap.objs.size) { s with heap := h', toks := tk } := by
  obtain ⟨x, ev, hr⟩ := st.newList (at_size _) k ⟨n, hn⟩ hv
  exact ⟨_, tk, _, _, _, _, rfl, ev, x, hr, q⟩

theorem rngLen_size {lo hi : Int} : Builtin.Range.rangeSize lo hi 1 = (rngLen lo hi 1 : Int) := by
  rw [rangeSize_one]
  unfold rngLen
  simp only [↓reduceIte]
  split <;> lia
theorem inLong {a : Int} (h : a.natAbs ≤ 1000000000) : InLong a := by unfold InLong; lia
theorem sum_fits {ns : List Int} (hl : ns.length ≤ 1000) (h : ∀ i ∈ ns, i.natAbs ≤ 1000000) : ∀ j, j < ns.length → InLong (ns.getD j 0) ∧ InLong (preSum (fun i => ns.getD i 0) (j + 1)) := by
  have g : ∀ j, j < ns.length → (ns.getD j 0).natAbs ≤ 1000000 := fun j hj => h _ (by rw [List.getD_eq_getElem?_getD, List.getElem?_eq_getElem hj]; exact List.getElem_mem hj)
  have b : ∀ j, j ≤ ns.length → (preSum (fun i => ns.getD i 0) j).natAbs ≤ 1000000 * j := by
    intro j
    induction j with
    | zero => intro _; exact Nat.le_refl 0
    | succ j ih =>
      intro hj
      exact Nat.le_trans (Int.natAbs_add_le _ _) (Nat.add_le_add (ih (Nat.le_of_lt hj)) (g j hj))
  exact fun j hj => ⟨inLong (Nat.le_trans (g j hj) (Nat.le_of_ble_eq_true rfl)), inLong (Nat.le_trans (b (j + 1) hj) (Nat.le_trans (Nat.mul_le_mul_left _ (Nat.le_trans hj hl)) (Nat.le_of_ble_eq_true rfl)))⟩

theorem rng_f2' {lo st : Int} {acc : Array Value} (n : Nat) : ∀ (k : Nat), acc.size = k + n → (∀ (j : Nat) (v : Value), acc[j]? = some v → ∃ t, v = .int (lo + j * st) t) → Each (VRel Λ ρ) ((List.range' k n).map fun (i : Nat) => V.int (lo + st * (i : Int))) (acc.toList.drop k) := by
  induction n with
  | zero =>
    intro k hs h
    rw [List.drop_of_length_le (by rw [Array.length_toList, hs]; exact Nat.le_refl _)]
    exact .nil
  | succ n ih =>
    intro k hs h
    have hk : k < acc.toList.length := by rw [Array.length_toList, hs]; exact Nat.lt_add_of_pos_right (Nat.succ_pos n)
    rw [List.drop_eq_getElem_cons hk, List.range'_succ, List.map_cons]
    refine .cons ?_ (ih (k + 1) (hs.trans (Nat.add_right_comm k n 1)) h)
    obtain ⟨t, e⟩ := h k acc.toList[k] (by rw [← Array.getElem?_toList]; exact List.getElem?_eq_getElem hk)
    exact ⟨t, by rw [e, Int.mul_comm]⟩
theorem rng_f2 {lo hi st : Int} {acc : Array Value} (h : ItemsOf (fun i v => ∃ t, v = Value.int (lo + i * st) t) acc (rngLen lo hi st)) : Each (VRel Λ ρ) (rngItems lo hi st) acc.toList := by
  have := rng_f2' (Λ := Λ) (ρ := ρ) (lo := lo) (st := st) (acc := acc) (rngLen lo hi st) 0 (by simpa using h.1) h.2
  rw [List.drop_zero] at this
  unfold rngItems
  rw [List.range_eq_range']
  exact this

theorem Each.one {α β : Type} {R : α → β → Prop} {a : α} {m : List β} (h : Each R [a] m) : ∃ b, m = [b] ∧ R a b := by
  cases h with | cons x r => cases r; exact ⟨_, rfl, x⟩
theorem Each.two {α β : Type} {R : α → β → Prop} {a a2 : α} {m : List β} (h : Each R [a, a2] m) : ∃ b b2, m = [b, b2] ∧ R a b ∧ R a2 b2 := by
  cases h with | cons x r => obtain ⟨b, rfl, y⟩ := r.one; exact ⟨_, _, rfl, x, y⟩
theorem Each.three {α β : Type} {R : α → β → Prop} {a a2 a3 : α} {m : List β} (h : Each R [a, a2, a3] m) : ∃ b b2 b3, m = [b, b2, b3] ∧ R a b ∧ R a2 b2 ∧ R a3 b3 := by
  cases h with | cons x r => obtain ⟨b, b2, rfl, y, z⟩ := r.two; exact ⟨_, _, _, rfl, x, y, z⟩
theorem St8.refA {k : Nat} {v' : Value} {vs : List V} {h : Heap} (st : St8 base ca Λ ρ S h) (hv : VRel Λ ρ (.ref k) v') (e : S[k]? = some (.arg vs)) :
    ∃ a vs', v' = .ref a ∧ Each (VRel Λ ρ) vs vs' ∧ h.IsList a vs'.toArray ∧ vs'.length = vs.length := by
  obtain ⟨⟨a, b⟩, hc, rfl⟩ := hv
  obtain ⟨c', vs', hc', h1, h2, h3⟩ := st.arg e
  obtain rfl := Option.some.inj (hc.symm.trans hc')
  exact ⟨a, vs'.1, rfl, h2, st.holds.isArg h1, h2.length.symm⟩
theorem len_list {a : Addr} {vs : List V} {vs' : List Value} {Q : V → H → Prop} (st : St8 base ca Λ ρ S s.heap) (p : s.heap.IsList a vs'.toArray) (n : vs'.length = vs.length) (hl : vs.length ≤ LIM) (q : Q (.int vs.length) S) :
    wpAny (model prog w) A (call (bltVal .len) [.ref a]) (PV base ca s Λ ρ Q) E s := by
  refine Calls.call_len_list p ?_ (PV.mk' st vInt ?_)
  · simp only [List.size_toArray]; rw [n]; exact Int.lt_of_le_of_lt (Int.ofNat_le.mpr hl) (by decide)
  · simp only [List.size_toArray]; rw [n]; exact q
theorem snd_blt {b : Blt} {vs : List V} {vs' : List Value} {Q : V → H → Prop} (st : St8 base ca Λ ρ S s.heap) (hv : Each (VRel Λ ρ) vs vs') (hh : A.handled = none) (q : bltop b vs S Q) :
    wpAny (model prog w) A (call (bltVal b) vs') (PV base ca s Λ ρ Q) E s := by
  cases q with
  | len e1 hl q =>
    obtain ⟨_, rfl, hw⟩ := hv.one
    obtain ⟨c, ws', _, rfl, h1, h2, p, n⟩ := st.ref hw e1
    exact len_list st p n hl q
  | lenA e1 hl q =>
    obtain ⟨_, rfl, hw⟩ := hv.one
    obtain ⟨c, ws', rfl, h2, p, n⟩ := st.refA hw e1
    exact len_list st p n hl q
  | max q => obtain ⟨_, _, rfl, ⟨t, rfl⟩, ⟨u, rfl⟩⟩ := hv.two; exact max_two_ints hh fun h' tk k => PV.keepsInt st k (by split <;> exact ⟨_, rfl⟩) q
  | min q => obtain ⟨_, _, rfl, ⟨t, rfl⟩, ⟨u, rfl⟩⟩ := hv.two; exact min_two_ints hh fun h' tk k => PV.keepsInt st k (by split <;> exact ⟨_, rfl⟩) q
  | intI q => obtain ⟨_, rfl, ⟨t, rfl⟩⟩ := hv.one; exact call_int_int (PV.mk0 st vInt q)
  | intB q => obtain ⟨_, rfl, h1⟩ := hv.one; cases h1; exact call_int_bool (PV.mk' st vInt q)
  | @sum k ws ns e1 hl en hb q =>
    obtain ⟨_, rfl, hw⟩ := hv.one
    obtain ⟨c, vs', _, rfl, h1, h2, hls, n1⟩ := st.ref hw e1
    have i1 := ints_f2 h2 en
    have hne : c ≠ s.heap.objs.size := Nat.ne_of_lt (st.holds.lt h1)
    have hsz : vs'.toArray.size = ns.length := i1.length
    refine call_sum_walk (wpAny_pyIter_list hls ?_)
    refine ⟨_, _, _, _, _, _, fun i => ns.getD i 0, rfl, Walks.list (A := A.in1) hh _ c hne vs'.toArray, ⟨⟨_, Heap.get?_push_size _ rfl, rfl, rfl⟩, hls.at fun o e => Heap.get?_push_of_some _ e⟩, ?_, ?_, ?_, ?_⟩
    · intro b hb
      simp only [List.mem_cons, List.not_mem_nil, or_false] at hb
      show b < (s.heap.push _).objs.size
      rw [Heap.size_push]
      rcases hb with rfl | rfl
      · exact Nat.lt_succ_self _
      · exact Nat.lt_succ_of_lt (st.holds.lt h1)
    · intro i v hiv
      have hil : i < ns.length := hsz ▸ (Array.getElem?_eq_some_iff.mp hiv).1
      obtain ⟨t, e2⟩ := i1.get i ns[i] (List.getElem?_eq_getElem hil)
      obtain rfl := Option.some.inj (e2.symm.trans (List.getElem?_toArray.symm.trans hiv))
      exact ⟨t, by rw [show ns[i] = ns.getD i 0 by rw [List.getD_eq_getElem?_getD, List.getElem?_eq_getElem hil]; rfl]⟩
    · rw [hsz]
      exact sum_fits (by rw [← i1.length, n1]; exact hl) hb
    · intro h' tk t' k
      refine PV.keepsInt (s := s) st (fun b o e => k b o ?_ (Heap.get?_push_of_some _ e)) ?_ q
      · simp only [List.mem_singleton]; exact Nat.ne_of_lt (Heap.lt_size e)
      · refine ⟨t', ?_⟩
        rw [hsz, preSum_getD, List.take_length]
  | range1 h q => obtain ⟨_, rfl, ⟨t, rfl⟩⟩ := hv.one; exact call_range_1 (PV.rng st (fun b o e => Heap.get?_push_of_some _ e) (Heap.get?_push_size _ rfl) q)
  | range2 h0 h1 q => obtain ⟨_, _, rfl, ⟨t, rfl⟩, ⟨u, rfl⟩⟩ := hv.two; exact call_range_2 (PV.rng st (fun b o e => Heap.get?_push_of_some _ e) (Heap.get?_push_size _ rfl) q)
  | range3 h0 h1 q => obtain ⟨_, _, _, rfl, ⟨t, rfl⟩, ⟨u, rfl⟩, ⟨k, rfl⟩⟩ := hv.three; exact call_range_3 (by decide) (PV.rng (tk := s.toks) st (fun b o e => Heap.get?_push_of_some _ e) (Heap.get?_push_size _ rfl) q) (.inl (PyProof.noPylong_small (by decide)))
  | listL e1 hl q =>
    obtain ⟨_, rfl, hw⟩ := hv.one
    obtain ⟨c, vs', _, rfl, h1, h2, ⟨op, p, pc, n, pd⟩, n1⟩ := st.ref hw e1
    refine call_list_seq (hsz := ?_) c (.inl rfl) p pc pd fun h' c' k hn => PV.newList' (tk := s.toks) st k hn h2 q
    simp only [List.size_toArray]; rw [n1]; exact Nat.le_trans hl (by decide)
  | listR hlo hhi hlen q =>
    obtain ⟨_, rfl, ⟨r, t, u, v, rfl, hr⟩⟩ := hv.one
    exact call_list_range hh (st.holds.exact hr) (small_one (by lia) (by lia) (by lia) (by lia)) rngLen_size (Nat.le_trans hlen (by decide)) fun h' tk acc' c' k hn hI =>
      PV.newList' (vs' := acc'.toList) (n := c') st k (by simpa using hn) (rng_f2 hI) q
end
end Mine
end

section
set_option Elab.async false
set_option autoImplicit false
set_option linter.unusedVariables false
open PySem PySem.W PyProof.Rows
namespace Mine
section
variable {base : Heap} {ca : Nat → Addr} {SE : Addr} {s : Shared} {Λ : Led} {ρ : Rho} {l : List Env} {S : H}
variable {prog : Program} {w : World} {K : Frag} {t : Tb} {A : Around} {E : Value → Shared → Prop}

/-- nothing is handed back -/
inductive PU (base : Heap) (ca : Nat → Addr) (s : Shared) (Λ : Led) (ρ : Rho) (q : H → Prop) (s' : Shared) : Prop where
  | mk (h' : _) (tk : _) (Λ' : _) (ρ' : _) (S' : _) (hh1 : s' = { s with heap := h', toks := tk }) (hh2 : Evo X0 Λ ρ Λ' ρ') (hh3 : St8 base ca Λ' ρ' S' h') (hh4 : q S')
theorem PU.trans {Λ₁ : Led} {ρ₁ : Rho} {q : H → Prop} {s' : Shared} {h₁ : Heap} {t₁ : Nat} (ev : Evo X0 Λ ρ Λ₁ ρ₁) (p : PU base ca { s with heap := h₁, toks := t₁ } Λ₁ ρ₁ q s') : PU base ca s Λ ρ q s' := by
  obtain ⟨h', tk, Λ', ρ', S', rfl, e, x, q⟩ := p
  exact ⟨h', tk, Λ', ρ', S', rfl, ev.trans0 e, x, q⟩

theorem snd_getL {j : Int} {u : Tok} {a : Addr} {vs : List V} {vs' : List Value} {v : V} (hl : s.heap.IsList a vs'.toArray) (h2 : Each (VRel Λ ρ) vs vs') (hlim : vs.length ≤ LIM) (e2 : nth vs j = some v) :
    ∃ r', VRel Λ ρ v r' ∧ s.TypeIs (.ref a) "list" ∧ (∃ b w, Value.int j u = .int b w) ∧ ∀ {A : Around} {E : Value → Shared → Prop} {Q : Value → Shared → Prop}, Q r' s → wpAny (model prog w) A (getItem (.ref a) (.int j u)) Q E s := by
  have hlen := h2.length
  unfold nth at e2
  unfold LIM at hlim
  by_cases h0 : 0 ≤ j
  · rw [if_pos h0] at e2
    obtain ⟨v', e3, hv⟩ := h2.get e2
    have hlt := (List.getElem?_eq_some_iff.mp e2).1
    exact ⟨v', hv, hl.typeIs, ⟨j, u, rfl⟩, fun q => wpAny_getItem_list hl h0 (by lia) (by rw [List.getElem?_toArray]; exact e3) q⟩
  · rw [if_neg h0] at e2
    by_cases h3 : 0 ≤ (vs.length : Int) + j
    · rw [if_pos h3] at e2
      obtain ⟨v', e3, hv⟩ := h2.get e2
      refine ⟨v', hv, hl.typeIs, ⟨j, u, rfl⟩, fun q => wpAny_getItem_list_neg hl (by lia) (by simp only [List.size_toArray]; lia) (by lia) ?_ q⟩
      simp only [List.size_toArray, List.getElem?_toArray]
      rw [← hlen, Int.add_comm]; exact e3
    · rw [if_neg h3] at e2; cases e2
theorem snd_getI {o i : V} {o' i' : Value} {q : V → Prop} (st : St8 base ca Λ ρ S s.heap) (ho : VRel Λ ρ o o') (hi : VRel Λ ρ i i') (h : getI o i S q) :
    ∃ r r', q r ∧ VRel Λ ρ r r' ∧ s.TypeIs o' "list" ∧ (∃ a u, i' = .int a u) ∧ ∀ {A : Around} {E : Value → Shared → Prop} {Q : Value → Shared → Prop}, Q r' s → wpAny (model prog w) A (getItem o' i') Q E s := by
  cases h with
  | list e1 hl e h =>
    obtain ⟨c, vs', _, rfl, h1, h2, p, _⟩ := st.ref ho e1
    obtain ⟨u, rfl⟩ := hi
    obtain ⟨r', x⟩ := snd_getL p h2 hl e
    exact ⟨_, r', h, x⟩
  | arg e1 hl e h =>
    obtain ⟨c, vs', rfl, h2, p, _⟩ := st.refA ho e1
    obtain ⟨u, rfl⟩ := hi
    obtain ⟨r', x⟩ := snd_getL p h2 hl e
    exact ⟨_, r', h, x⟩

theorem setItem_plain {l : Addr} {items : Array Value} {k : Int} {t : Tok} {v : Value} {Q : Unit → Shared → Prop} (hl : s.heap.PlainList l items) (h0 : 0 ≤ k) (hfit : k < 2 ^ 63) (hn : k < items.size)
    (hQ : ∀ h', h'.PlainList l (items.setIfInBounds k.toNat v) → Heap.SameBut l s.heap h' → Q () { s with heap := h' }) : wpAny (model prog w) A (setItem (.ref l) (.int k t) v) Q E s := by
  have hi := hl.isList
  obtain ⟨n, ho⟩ := hl
  unfold setItem
  try with_reducible refine wpAny_holding ?_
  first | refine wpAny_bind (wpAny_pure ?_) | skip
  refine wpAny_bind (wpAny_sequenceKey hi.typeIs (by decide) ?_)
  refine wpAny_bind (wpAny_callSpecial?_slot (name := Str.ofString "__setitem__") hi.typeIs slot_list_setitem
    (wpAny_call_entry slot_list_setitem hi.typeIs entry_list_setitem ?_ (args_list_setitem _ _ _)))
  show wpAny _ _ (Builtin.List.listSubscript? (.int k t) >>= _) _ _ s
  refine wpAny_bind (wpAny_listSubscript_int (fitsIndex_of h0 hfit) ?_)
  obtain ⟨j, rfl⟩ := Int.eq_ofNat_of_zero_le h0
  have hj : j < items.size := by lia
  show wpAny _ _ ((seqItemAt l j >>= fun r => pure (r.map (j, ·))) >>= _) _ _ s
  refine wpAny_bind (wpAny_bind (wpAny_seqItemAt ho rfl (wpAny_pure ?_)))
  rw [Array.getElem?_eq_getElem hj]
  show wpAny _ _ (setSeqItemAt l j v >>= _) _ _ s
  obtain ⟨n', e⟩ : ∃ n', Obj.mapSeq (·.setIfInBounds j v) { cls := .type "list", data := .seq items n } = { cls := .type "list", data := .seq (items.setIfInBounds j v) n' } := ⟨_, rfl⟩
  have hfin : (s.heap.update l (Obj.mapSeq (·.setIfInBounds j v))).PlainList l (items.setIfInBounds j v) := ⟨n', by rw [Heap.get?_update_self _ ho (by rw [e]; rfl), e]⟩
  refine wpAny_bind (wpAny_setSeqItemAt ho rfl ?_)
  first
    | exact wpAny_bind (wpAny_pure (wpAny_pure ⟨.none, rfl, wpAny_pure (hQ _ hfin (Heap.SameBut.update ..))⟩))
    | exact wpAny_pure ⟨.none, rfl, wpAny_pure (hQ _ hfin (Heap.SameBut.update ..))⟩

theorem f2_toArray_set {vs : List Value} {n : Nat} {v : Value} : vs.toArray.setIfInBounds n v = (vs.set n v).toArray := by simp

theorem snd_setI {o i v : V} {o' i' v' : Value} {q : H → Prop} (st : St8 base ca Λ ρ S s.heap) (ho : VRel Λ ρ o o') (hi : VRel Λ ρ i i') (hv : VRel Λ ρ v v') (h : setI o i v S q) :
    wpAny (model prog w) A (setItem o' i' v') (fun _ => PU base ca s Λ ρ q) E s := by
  cases h with
  | mk e1 hlim h0 hlt h =>
    obtain ⟨c, vs', hc, rfl, h1, h2, hl, hlen⟩ := st.ref ho e1
    obtain ⟨u, rfl⟩ := hi
    unfold LIM at hlim
    refine setItem_plain (st.holds.plist h1) h0 (by lia) (by simp only [List.size_toArray]; lia) fun h' hl' hs' => ?_
    rw [f2_toArray_set] at hl'
    obtain ⟨x, ev⟩ := st.setList e1 hc h1 hs'.extBut hl' (h2.set hv)
    exact ⟨h', s.toks, _, _, _, rfl, ev, x, h⟩

theorem snd_app {k : Nat} {a : Addr × Addr} {y : V} {y' : Value} {q : H → Prop} (st : St8 base ca Λ ρ S s.heap) (hk : ρ[k]? = some a) (hy : VRel Λ ρ y y') (h : appD k y S q) :
    wpAny (model prog w) A (call (.builtin "list.append") [.ref a.1, y']) (fun r s' => r = .none ∧ PU base ca s Λ ρ q s') E s := by
  cases h with
  | mk e1 hlim h =>
    obtain ⟨c, vs', hc', hv', h1, h2, hl, hlen⟩ := st.ref ⟨a, hk, rfl⟩ e1
    obtain rfl := Option.some.inj (hk.symm.trans hc')
    have hsz : vs'.toArray.size ≤ sizeLine := by simp only [List.size_toArray]; rw [hlen]; exact Nat.le_trans hlim (by decide)
    refine wpAny_list_append_plain (hsz := hsz) (st.holds.plist h1) fun h' hl' hs' => ⟨rfl, ?_⟩
    rw [List.push_toArray] at hl'
    obtain ⟨x, ev⟩ := st.setList e1 hk h1 hs'.extBut hl' (h2.append (.cons hy .nil))
    exact ⟨h', s.toks, _, _, _, rfl, ev, x, h⟩

/-- the kinds of expression that are translated -/
noncomputable def simpleE : PySem.Expr → Bool
  | .Name _ _ | .Constant _ _ _ | .UnaryOp _ _ _ | .BinOp _ _ _ _ | .Compare _ _ _ _ | .BoolOp _ _ _ | .IfExp _ _ _ _ | .Attribute _ _ _ | .Subscript _ _ _ | .List _ _ | .ListComp _ _ _ _ | .Call _ _ _ _ => true
  | _ => false
theorem sub_idx {e : PySem.Expr} (h : simpleE e = true) (o i : Value) : subscripted e false o i = operate [o, i] (getItem o i) := by
  cases e <;> first | rfl | cases h

/-- a slice of a list: the slice object lies at b -/
theorem snd_getS {o : V} {lo hi : Option V} {o' lo' hi' : Value} {b : Addr} {Q : V → H → Prop} (st : St8 base ca Λ ρ S s.heap) (ho : VRel Λ ρ o o')
    (hlo : match lo with | none => lo' = .none | some x => VRel Λ ρ x lo') (hhi : match hi with | none => hi' = .none | some x => VRel Λ ρ x hi')
    (hb : s.heap.IsSliceOf b lo' hi' .none) (h : getS o lo hi S Q) : s.TypeIs o' "list" ∧ wpAny (model prog w) A (getItem o' (.ref b)) (PV base ca s Λ ρ Q) E s := by
  cases h with
  | to e1 hlim g1 g2 h =>
    obtain ⟨c, vs', hc, rfl, h1, h2, hl, hlen⟩ := st.ref ho e1
    have hsz : vs'.toArray.size ≤ sizeLine := by simp only [List.size_toArray]; rw [hlen]; exact Nat.le_trans hlim (by decide)
    refine ⟨hl.typeIs, wpAny_getItem_list_slice (hsz := hsz) hl hb (lo := none) (hi := some _) (by cases hlo; exact .none) (by obtain ⟨t, rfl⟩ := hhi; exact .int _ _) .none (by decide) ?_⟩
    obtain ⟨j, rfl⟩ := Int.eq_ofNat_of_zero_le g1
    rw [slicePick_upto' vs'.toArray j]
    exact PV.newList (tk := s.toks) st (by simpa using h2.take j) h
  | fro e1 hlim g1 g2 h =>
    obtain ⟨c, vs', hc, rfl, h1, h2, hl, hlen⟩ := st.ref ho e1
    have hsz : vs'.toArray.size ≤ sizeLine := by simp only [List.size_toArray]; rw [hlen]; exact Nat.le_trans hlim (by decide)
    refine ⟨hl.typeIs, wpAny_getItem_list_slice (hsz := hsz) hl hb (lo := some _) (hi := none) (by obtain ⟨t, rfl⟩ := hlo; exact .int _ _) (by cases hhi; exact .none) .none (by decide) ?_⟩
    obtain ⟨j, rfl⟩ := Int.eq_ofNat_of_zero_le g1
    rw [slicePick_from' vs'.toArray j]
    exact PV.newList (tk := s.toks) st (by simpa using h2.drop j) h
end
end Mine
end

section
set_option Elab.async false
set_option autoImplicit false
set_option linter.unusedVariables false
open PySem PySem.W PyProof.Rows
namespace Mine
theorem nm_eq : ∀ i, i < tab.names.length → ∀ j, j < tab.names.length → (nm i == nm j) = (i == j) := by decide +kernel

section
variable {base : Heap} {ca : Nat → Addr} {SE : Addr} {s : Shared} {Λ : Led} {ρ : Rho} {l : List Env} {S : H}
variable {prog : Program} {w : World} {K : Frag} {t : Tb} {A : Around} {E : Value → Shared → Prop}

theorem St8.inst {h : Heap} (x : St8 base ca Λ ρ S h) {k c : Nat} {as : List (Nat × V)} (e : S[k]? = some (.inst c as)) :
    ∃ a es n, ρ[k]? = some a ∧ c < tab.cls.length ∧ Λ a.1 = some (.inst (ca c) a.2) ∧ Λ a.2 = some (.dict es) ∧ Each (ARel Λ ρ) as es ∧ InstAt h a.1 (instObj (ca c) a.2) (ca c) (some (dictOf es n)) := by
  obtain ⟨a, ha, hc, es, h1, h2, h3⟩ := x.rel.objs k _ e
  obtain ⟨o1, e1, q1⟩ := x.holds.at_ _ _ h1
  obtain ⟨o2, e2, n, q2⟩ := x.holds.at_ _ _ h2
  cases q1; cases q2
  exact ⟨a, es, n, ha, hc, h1, h2, h3, ⟨e1, rfl, rfl, e2⟩⟩

theorem isStr_nm {i j : Nat} {u : Tok} (hi : i < tab.names.length) (hj : j < tab.names.length) : (Value.str (nm i) u).isStr (nm j) = (i == j) := by
  show (nm i == nm j) = _
  exact nm_eq i hi j hj
theorem f2_noRef {as : List (Nat × V)} {es : List DictEntry} (h : Each (ARel Λ ρ) as es) : es.any (·.refKey) = false := by
  induction h with
  | nil => rfl
  | cons x _ ih =>
    obtain ⟨_, ⟨u, q⟩, _⟩ := x
    rw [List.any_cons, ih, DictEntry.refKey, q]; try rfl
theorem getL_of {a : Nat} (ha : a < tab.names.length) {as : List (Nat × V)} {es : List DictEntry} (h0 : Each (ARel Λ ρ) as es) :
    (∀ v, as.lookup a = some v → ∃ v', getL (nm a) es = some (some v') ∧ VRel Λ ρ v v') ∧ (as.lookup a = none → getL (nm a) es = some none) := by
  induction h0 with
  | nil => exact ⟨fun v h => (by cases h), fun _ => rfl⟩
  | @cons p e as es h _ ih =>
    obtain ⟨h1, ⟨u, h2⟩, h3⟩ := h
    have key : e.key.isStr (nm a) = (a == p.1) := by rw [h2, Bool.beq_comm]; exact isStr_nm h1 ha
    have hr : e.refKey = false := by rw [DictEntry.refKey, h2]
    rw [show (p :: as).lookup a = _ from List.lookup_cons]
    unfold getL
    rw [List.find?_cons, key]
    cases a == p.1 with
    | true => exact ⟨fun v hv => (by cases hv; exact ⟨e.val, rfl, h3⟩), fun hn => (by cases hn)⟩
    | false =>
      rw [List.any_cons, hr]
      exact ih

theorem Cx.in_ (G : Cx prog w K base ca SE t) {h : Heap} (x : Holds base h Λ) : K.In h := G.X.keeps x.keep

theorem handed_vrel {v : V} {v' : Value} (h : VRel Λ ρ v v') : handedIn v' = true := by
  cases v with
  | none => cases h; rfl
  | bool b => cases h; rfl
  | int i => obtain ⟨t, rfl⟩ := h; rfl
  | str k => obtain ⟨_, t, rfl⟩ := h; rfl
  | ref k => obtain ⟨c, _, rfl⟩ := h; rfl
  | rng a b c => obtain ⟨r, _, _, _, rfl, _⟩ := h; rfl

theorem snd_getA (G : Cx prog w K base ca SE t) {o : V} {o' : Value} {a : Nat} {Q : V → H → Prop} {b : Bool} (ha : a < tab.names.length) (st : St8 base ca Λ ρ S s.heap) (ho : VRel Λ ρ o o') (h : getA o a S fun r => Q r S) :
    wpAny (model prog w) A (getAttr o' (nm a) b) (PV base ca s Λ ρ Q) E s := by
  cases h with
  | mk e1 e2 h =>
    obtain ⟨c, hc, rfl⟩ := ho
    obtain ⟨c', es, n, hc', hcl, h1, h2, h3, I⟩ := st.inst e1
    obtain rfl := Option.some.inj (hc.symm.trans hc')
    obtain ⟨v', e3, hv⟩ := (getL_of ha h3).1 _ e2
    obtain ⟨g1, g2, _, _, _⟩ := G.cls _ hcl
    exact get_value (G.in_ st.holds) I (plainGet_of g2).1 (findObj_own g1 (G.attrs _ hcl a ha) rfl e3) (handed_vrel hv) (PV.mk' st hv h)

theorem putL_of {a : Nat} (ha : a < tab.names.length) {v : V} {v' : Value} {hsh : Int} {u : Tok} (hv : VRel Λ ρ v v') {as : List (Nat × V)} {es : List DictEntry} (h0 : Each (ARel Λ ρ) as es) :
    Each (ARel Λ ρ) (putA as a v) (putL (nm a) hsh (.str (nm a) u) v' es) := by
  induction h0 with
  | nil => exact .cons ⟨ha, ⟨u, rfl⟩, hv⟩ .nil
  | @cons p e as es h r ih =>
    obtain ⟨h1, ⟨u', h2⟩, h3⟩ := h
    have key : e.key.isStr (nm a) = (p.1 == a) := by rw [h2]; exact isStr_nm h1 ha
    unfold putA putL
    by_cases hp : p.1 = a
    · rw [if_pos hp, if_pos (key.trans (beq_iff_eq.mpr hp))]
      exact .cons ⟨ha, ⟨u', by rw [h2, hp]⟩, hv⟩ r
    · rw [if_neg hp, if_neg (fun q => hp (beq_iff_eq.mp (key.symm.trans q)))]
      exact .cons ⟨h1, ⟨u', h2⟩, h3⟩ ih
theorem putA_len (as : List (Nat × V)) (a : Nat) (v : V) : (putA as a v).length ≤ as.length + 1 := by
  induction as with
  | nil => simp [putA]
  | cons p r ih => unfold putA; split <;> simp <;> lia

theorem snd_setA (G : Cx prog w K base ca SE t) {o v : V} {o' v' : Value} {a : Nat} {q : H → Prop} (ha : a < tab.names.length) (st : St8 base ca Λ ρ S s.heap) (ho : VRel Λ ρ o o') (hv : VRel Λ ρ v v') (h : setA o a v S q) :
    wpAny (model prog w) A (setAttr o' (nm a) v') (fun _ => PU base ca s Λ ρ q) E s := by
  cases h with
  | @mk k cl as e1 hlen h =>
      obtain ⟨c, hc, rfl⟩ := ho
      obtain ⟨c', es, n, hc', hcl, h1, h2, h3, I⟩ := st.inst e1
      obtain rfl := Option.some.inj (hc.symm.trans hc')
      obtain ⟨g1, g2, g3, g4, _⟩ := G.cls cl hcl
      have X := G.in_ st.holds
      have hf := G.attrs cl hcl a ha
      have hl : (getL (nm a) es).isSome = true := by
        have := getL_of ha h3
        cases q : as.lookup a with
        | none => rw [this.2 q]; rfl
        | some v => obtain ⟨v', e, _⟩ := this.1 v q; rw [e]; rfl
      refine set_plain X I g3 ?_
      refine osa_open (r := none) X I g4 (by unfold takerIn; rw [hf]; rfl) fun b => ?_
      obtain ⟨cd, hcd, hd'⟩ := any_some g1
      have D := I.dict
      have hx := I.at_
      simp only at D
      refine wpAny_bind (wpAny_pure (wpAny_bind (wpAny_bind (wpAny_loadPart hx (wpAny_bind (looks_clsIn X hcd _ _ _ _ (fun _ _ e => e) ?_))))))
      rw [hd']
      refine wpAny_pure (a := some c.2) (wpAny_bind (wpAny_pure (wpAny_bind ?_)))
      unfold nsSet
      refine wpAny_bind (wpAny_bind (wpAny_askSetting (wpAny_pure (wpAny_bind (wpAny_mkText (wpAny_bind (wpAny_loadPart D ?_)))))))
      have cnd : (!es.toArray.any (·.key.isStr (nm a)) && es.toArray.any (·.refKey)) = false := by
        rw [← Array.any_toList, ← Array.any_toList]
        rw [f2_noRef h3, Bool.and_false]
      dsimp only
      rw [aRefKeyMayBeTheName_at, cnd]
      refine wpAny_updatePart D ?_
      have eo := putName_dict (nm a) (PyData.keyHash w.params (nm a)) (.str (nm a) (s.toks + 1)) v' es n
      have hx' : (s.heap.update c.2 (Obj.putName (nm a) (PyData.keyHash w.params (nm a)) (.str (nm a) (s.toks + 1)) v')).get? c.2 = some (dictOf (putL (nm a) (PyData.keyHash w.params (nm a)) (.str (nm a) (s.toks + 1)) v' es) (putN (nm a) es n)) := by
        rw [← eo]
        exact Heap.get?_update_self _ D (by rw [eo]; rfl)
      have hput := putL_of (Λ := Λ) (ρ := ρ) (hsh := PyData.keyHash w.params (nm a)) (u := s.toks + 1) ha hv h3
      have hsz : (putL (nm a) (PyData.keyHash w.params (nm a)) (.str (nm a) (s.toks + 1)) v' es).length ≤ 1000 := by
        rw [← hput.length]
        exact Nat.le_trans (putA_len as a v) (Nat.le_trans (Nat.succ_le_succ hlen) (by decide))
      refine wpAny_bind (wpAny_lookBehind hx' (pastItsLine_dict (by rw [List.size_toArray, sizeLine_eq]; lia)) ?_)
      obtain ⟨x, ev⟩ := st.setDict e1 hc h2 ((Heap.SameBut.update s.heap c.2 _).extBut) ⟨_, hx'⟩ hput
      exact wpAny_pure ⟨_, _, _, _, _, rfl, ev, x, h⟩
end
end Mine
end

section
set_option Elab.async false
set_option autoImplicit false
set_option linter.unusedVariables false
open PySem PySem.W PyProof.Rows
namespace Mine

/-- what a function's own environment is -/
structure FnEnv (sc : Scope) (env : Env) : Prop where
  scope : env.scope = sc
  kind : sc.kind = .function
  glob : env.globals = mainGlobals
  blt : env.builtins = builtinsNs
  frame : env.frame = some env.locals
  cell : ∀ x, sc.names.lookup x = some .cell → (env.cells.lookup x).isSome = true
  noFree : ∀ x, sc.names.lookup x ≠ some .free
  apart : env.cells.Pairwise fun x y => x.2 ≠ y.2
theorem FnEnv.ok {sc : Scope} {env : Env} (h : FnEnv sc env) : EnvOk sc env :=
  ⟨by rw [h.scope]; exact h.kind, h.glob, h.blt, fun x e => by unfold Env.kindOf; rw [h.scope]; exact e, fun x e => ⟨by unfold Env.kindOf; rw [h.scope]; exact e, h.cell x e⟩⟩
theorem FnEnv.kindOf {sc : Scope} {env : Env} (h : FnEnv sc env) (x : Str) : env.kindOf x = sc.names.lookup x := by unfold Env.kindOf; rw [h.scope]

noncomputable def own (env : Env) (a : Addr) : Prop := a = env.locals ∨ ∃ n, env.cells.lookup n = some a
structure FrameOk (Λ : Led) (env : Env) : Prop where
  ns : ∃ m, Λ env.locals = some (.ns m)
  cell : ∀ n c, env.cells.lookup n = some c → ∃ v, Λ c = some (.cell v)

section
variable {base : Heap} {ca : Nat → Addr} {SE : Addr} {s : Shared} {Λ Λ₁ Λ₂ : Led} {ρ ρ₁ ρ₂ : Rho} {l : List Env} {S : H} {sc : Scope} {env : Env} {fr : Fr}
variable {prog : Program} {w : World} {K : Frag} {t : Tb} {A : Around} {E : Value → Shared → Prop}

theorem FrameOk.z (h : FrameOk Λ env) : ∀ a o, own env a → Λ a ≠ some (.exact o) := by
  intro a o hx e
  rcases hx with rfl | ⟨n, hn⟩
  · obtain ⟨m, h1⟩ := h.ns; rw [h1] at e; cases e
  · obtain ⟨v, h1⟩ := h.cell n a hn; rw [h1] at e; cases e
theorem FrameOk.evo (h : FrameOk Λ env) {X : Addr → Prop} (hX : ∀ a, X a → own env a) (ev : Evo X Λ ρ Λ₁ ρ₁) : FrameOk Λ₁ env := by
  refine ⟨?_, fun n c hc => ?_⟩
  · obtain ⟨m, h1⟩ := h.ns
    by_cases hx : X env.locals
    · exact ev.x _ hx ⟨m, h1⟩
    · exact ⟨m, ev.pres _ _ h1 rfl hx⟩
  · obtain ⟨v, h1⟩ := h.cell n c hc
    by_cases hx : X c
    · exact ev.y _ hx ⟨v, h1⟩
    · exact ⟨v, ev.pres _ _ h1 rfl hx⟩
theorem FrameOk.evo0 (h : FrameOk Λ env) (ev : Evo X0 Λ ρ Λ₁ ρ₁) : FrameOk Λ₁ env := h.evo (fun _ x => x.elim) ev
theorem StackOk.evoOwn (h : StackOk Λ (env :: l)) (hf : env.frame = some env.locals) (hfo : FrameOk Λ env) (ev : Evo (own env) Λ ρ Λ₁ ρ₁) : StackOk Λ₁ (env :: l) := by
  intro e he
  obtain ⟨h1, L, m, h2, h3⟩ := h e he
  by_cases hx : own env L
  · obtain ⟨m', h4⟩ := ev.x L hx ⟨m, h3⟩
    exact ⟨h1, L, m', h2, h4⟩
  · exact ⟨h1, L, m, h2, ev.pres _ _ h3 rfl hx⟩

theorem stName_spec {x : Str} {k : Nat} (h : stName tab sc x = some k) : find tab.names x = some k ∧ (sc.names.lookup x = some .local ∨ sc.names.lookup x = some .cell) := by
  have h : (match sc.names.lookup x with | some .local => find tab.names x | some .cell => find tab.names x | _ => none) = some k := h
  cases e : sc.names.lookup x with
  | none => rw [e] at h; cases h
  | some kd => rw [e] at h; cases kd <;> first | exact ⟨h, .inl rfl⟩ | exact ⟨h, .inr rfl⟩ | cases h

theorem nm_inj {i j : Nat} (hi : i < tab.names.length) (hj : j < tab.names.length) (h : nm i = nm j) : i = j := by
  have := nm_eq i hi j hj
  rw [h, beq_self_eq_true] at this
  simpa using this.symm

/-- a name of the function's own is bound -/
theorem snd_store {x : Str} {k : Nat} {v : V} {v' : Value} (he : FnEnv sc env) (hfo : FrameOk Λ env) (hf : FrRel sc Λ ρ env fr) (st : St8 base ca Λ ρ S s.heap) (hx : stName tab sc x = some k) (hv : VRel Λ ρ v v') {Q : Unit → Shared → Prop}
    (q : ∀ h' tk Λ', Evo (own env) Λ ρ Λ' ρ → St8 base ca Λ' ρ S h' → FrRel sc Λ' ρ env (upd fr k v) → FrameOk Λ' env → Q () { s with heap := h', toks := tk }) :
    wpAny (model prog w) A (storeName env x v') Q E s := by
  obtain ⟨hfind, hkind⟩ := stName_spec hx
  have hnm := find_nm hfind
  have hlt := (find_spec hfind).1
  have vm : ∀ {a : Addr} {sp sp' : Spec}, Λ a = some sp → (∀ o, sp ≠ .exact o) → ∀ v v', VRel Λ ρ v v' → VRel (Λ.put a sp') ρ v v' := by
    intro a sp sp' ha hne v v' hv
    cases v with
    | rng lo hi st =>
      obtain ⟨q, t, u, w, h1, h2⟩ := hv
      refine ⟨q, t, u, w, h1, ?_⟩
      rw [Led.put_ne (by rintro rfl; rw [ha] at h2; cases h2; exact hne _ rfl)]; exact h2
    | _ => exact hv
  rcases hkind with hk | hk
  · obtain ⟨m, hm⟩ := hfo.ns
    refine wpAny_storeName_local (by rw [he.kindOf]; exact hk) (st.holds.ns hm) (fun h' hn' hs' => ?_) (by rw [he.scope, he.kind]; rfl)
    have hp : Rel ca (Λ.put env.locals (.ns fun y => if y = x then some v' else m y)) ρ S := st.rel.putOther fun sp e => by
      rw [hm] at e; cases e; exact ⟨rfl, fun _ _ h => (by cases h), fun _ h => (by cases h), fun _ h => (by cases h)⟩
    have hev : Evo (own env) Λ ρ (Λ.put env.locals (.ns fun y => if y = x then some v' else m y)) ρ := by
      refine ⟨⟨[], by simp⟩, fun b sp e _ hb => ?_, fun b hb ⟨m', e⟩ => ?_, fun b hb ⟨m', e⟩ => ?_, hfo.z⟩
      · rw [Led.put_ne (fun q => hb (.inl q))]; exact e
      · by_cases hbl : b = env.locals
        · subst hbl; exact ⟨_, Led.put_self ..⟩
        · exact ⟨m', by rw [Led.put_ne hbl]; exact e⟩
      · exact ⟨m', by rw [Led.put_ne (by rintro rfl; rw [hm] at e; cases e)]; exact e⟩
    refine q h' _ _ hev ⟨st.holds.upd hm hs'.extBut (ns_spec hn'), hp⟩ ?_ (hfo.evo (fun _ h => h) hev)
    intro y u kk e hy hyk hyg
    unfold upd at e
    by_cases hyk' : y = k
    · subst hyk'
      rw [if_pos rfl] at e; cases e
      refine ⟨v', vm hm (fun _ h => by cases h) _ _ hv, .inl ⟨by rw [he.kindOf, hnm]; exact hk, _, Led.put_self .., by simp [hnm]⟩⟩
    · rw [if_neg hyk'] at e
      obtain ⟨u', h1, h2⟩ := hf y u kk e hy hyk hyg
      have hne : nm y ≠ x := fun q => hyk' (nm_inj hy hlt (q.trans hnm.symm))
      refine ⟨u', vm hm (fun _ h => by cases h) _ _ h1, ?_⟩
      rcases h2 with ⟨k1, m', k2, k3⟩ | ⟨k1, c, k2, k3⟩
      · rw [hm] at k2; cases k2
        exact .inl ⟨k1, _, Led.put_self .., by rw [if_neg hne]; exact k3⟩
      · exact .inr ⟨k1, c, k2, by rw [Led.put_ne (by rintro rfl; rw [hm] at k3; cases k3)]; exact k3⟩
  · obtain ⟨c, hc⟩ := Option.isSome_iff_exists.mp (he.cell x hk)
    obtain ⟨v0, hm⟩ := hfo.cell x c hc
    refine wpAny_storeName_cell (by rw [he.scope]; exact he.kind) (by rw [he.kindOf]; exact hk) hc (st.holds.cell hm) fun h' hn' hs' => ?_
    have hp : Rel ca (Λ.put c (.cell (some v'))) ρ S := st.rel.putOther fun sp e => by
      rw [hm] at e; cases e; exact ⟨rfl, fun _ _ h => (by cases h), fun _ h => (by cases h), fun _ h => (by cases h)⟩
    have hev : Evo (own env) Λ ρ (Λ.put c (.cell (some v'))) ρ := by
      refine ⟨⟨[], by simp⟩, fun b sp e _ hb => ?_, fun b hb ⟨m', e⟩ => ?_, fun b hb ⟨m', e⟩ => ?_, hfo.z⟩
      · rw [Led.put_ne (fun (q : b = c) => hb (.inr ⟨x, q.symm ▸ hc⟩))]; exact e
      · exact ⟨m', by rw [Led.put_ne (by rintro rfl; rw [hm] at e; cases e)]; exact e⟩
      · by_cases hbl : b = c
        · subst hbl; exact ⟨_, Led.put_self ..⟩
        · exact ⟨m', by rw [Led.put_ne hbl]; exact e⟩
    refine q h' s.toks _ hev ⟨st.holds.upd hm hs'.extBut (cell_spec hn'), hp⟩ ?_ (hfo.evo (fun _ h => h) hev)
    intro y u kk e hy hyk hyg
    unfold upd at e
    by_cases hyk' : y = k
    · subst hyk'
      rw [if_pos rfl] at e; cases e
      refine ⟨v', vm hm (fun _ h => by cases h) _ _ hv, .inr ⟨.inl (by rw [he.kindOf, hnm]; exact hk), c, by rw [hnm]; exact hc, Led.put_self ..⟩⟩
    · rw [if_neg hyk'] at e
      obtain ⟨u', h1, h2⟩ := hf y u kk e hy hyk hyg
      have hne : nm y ≠ x := fun q => hyk' (nm_inj hy hlt (q.trans hnm.symm))
      refine ⟨u', vm hm (fun _ h => by cases h) _ _ h1, ?_⟩
      rcases h2 with ⟨k1, m', k2, k3⟩ | ⟨k1, c', k2, k3⟩
      · exact .inl ⟨k1, m', by rw [Led.put_ne (by rintro rfl; rw [k2] at hm; cases hm)]; exact k2, k3⟩
      · have hcc : c' ≠ c := fun q => hne (name_of_addr he.apart (mem_of_lookup k2) (q ▸ mem_of_lookup hc))
        exact .inr ⟨k1, c', k2, by rw [Led.put_ne hcc]; exact k3⟩
end
end Mine
end

section
set_option Elab.async false
set_option autoImplicit false
set_option linter.unusedVariables false
open PySem PySem.W PyProof.Rows
namespace Mine
section
variable {base : Heap} {ca : Nat → Addr} {SE : Addr} {s : Shared} {Λ : Led} {ρ : Rho} {l : List Env} {S : H} {env : Env} {e : Addr}
variable {M : Model} {A : Around} {E : Value → Shared → Prop}

theorem ns_slots {m : Str → Option Value} {o : Obj} (h : (Spec.ns m).ok o) (sl : Array (Option Value)) : (Spec.ns m).ok { o with slots := sl } := h
theorem ns_notFields {m : Str → Option Value} {o : Obj} (h : (Spec.ns m).ok o) : ∀ vs, o.data ≠ .fields vs := by
  obtain ⟨es, ep, h1, _⟩ := h
  intro vs q; rw [h1] at q; cases q

/-- the frames of the stack bear namespaces -/
theorem stack_ns (hs : StackOk Λ l) {a : Addr} (ha : a ∈ frAddrs l) : ∃ m, Λ a = some (.ns m) := by
  obtain ⟨env, he, hf⟩ := List.mem_filterMap.mp ha
  obtain ⟨_, L, m, h1, h2⟩ := hs env he
  rw [h1] at hf; cases hf
  exact ⟨m, h2⟩

/-- what a step of a traceback leaves -/
theorem holds_noted {h h' B : Heap} (x : Holds base h Λ) (hs : StackOk Λ l) (hb : base.StaysIn B) (hB : B.StaysIn h') (hΛ : ∀ a sp, Λ a = some sp → a ∉ frAddrs l → ∃ o, B.get? a = some o ∧ sp.ok o) (up : h.UpToSlots h') : Holds base h' Λ := by
  refine ⟨fun b o q => hB b o (hb b o q), fun a sp q => ?_, x.new⟩
  by_cases ha : a ∈ frAddrs l
  · obtain ⟨m, hm⟩ := stack_ns hs ha
    rw [hm] at q; cases q
    obtain ⟨o, ho, hok⟩ := x.at_ a _ hm
    obtain ⟨sl, hsl⟩ := up a o ho (ns_notFields hok)
    exact ⟨_, hsl, hok⟩
  · obtain ⟨o, ho, hok⟩ := hΛ a sp q ha
    exact ⟨o, hB _ _ ho, hok⟩

theorem field_isNone {oe : Obj} {vs : Array Value} {v : Value} {Q : Value → Shared → Prop} (he : s.heap.get? e = some oe) (hd : oe.data = .fields vs) (hv : vs[1]? = some v) (h : Q v s) : wpAny M A (field (.ref e) 1) Q E s := wpAny_field he hd hv h

/-- the frame's own passes: noted, set back -/
theorem raised_pass {outer : List Env} {L : Addr} {E' : Value → Shared → Prop} (hs : StackOk Λ (env :: outer)) (hL : env.frame = some L) (hA : A.frames = some (env :: outer)) (st : St8 base ca Λ ρ S s.heap) (R : Raised base SE (env :: outer) e Λ s.heap)
    (k : ∀ h', St8 base ca Λ ρ S h' → Raised base SE (env :: outer) e Λ h' → E' (.ref e) { s with heap := h' }) : notedBy M A env (cameBackBy M A env E') (.ref e) s := by
  obtain ⟨B, a0, hb, hB, hΛ, hBe, hF, hT⟩ := R
  have stop : ∀ h₁, Holds base h₁ Λ → B.StaysIn h₁ → h₁.FunFrames B (env :: outer) → h₁.TracedAtW B e (.ref SE) a0 (rawInt L) → cameBackBy M A env E' (.ref e) { s with heap := h₁ } := by
    intro h₁ x₁ hB₁ hF₁ ht
    obtain ⟨oe, vs, T, oT, ts, he, ⟨hcls, h0⟩, hd, h1, hnT, hTe, hoT, hdT, h3⟩ := ht
    unfold cameBackBy
    refine wpAny_bind (wpAny_field he hd h1 ?_)
    rw [if_neg (by simp)]
    rw [hL]
    unfold setFlight
    refine wpAny_bind (wpAny_field he hd h1 ?_)
    rw [if_pos (by simp)]
    have hsz : 3 < ts.size := (Array.getElem?_eq_some_iff.mp h3).1
    refine wpAny_setField hoT hdT hsz ?_
    have other : ∀ b, b ≠ T → (h₁.update T (Obj.mapFields (·.setIfInBounds 3 (rawInt L)))).get? b = h₁.get? b := fun b hb => Heap.get?_update_other _ _ (Ne.symm hb)
    have noT : ∀ b o, h₁.get? b = some o → (∀ vs, o.data ≠ .fields vs) → b ≠ T := fun b o hb hn q => by rw [q, hoT] at hb; cases hb; exact hn _ hdT
    have up : h₁.UpToSlots (h₁.update T (Obj.mapFields (·.setIfInBounds 3 (rawInt L)))) := fun b o hb hn => ⟨o.slots, (other b (noT b o hb hn)).trans hb⟩
    have hB₂ : B.StaysIn (h₁.update T (Obj.mapFields (·.setIfInBounds 3 (rawInt L)))) := fun b o hb => (other b fun q => by rw [q, hnT] at hb; cases hb).trans (hB₁ b o hb)
    have hF₂ : (h₁.update T (Obj.mapFields (·.setIfInBounds 3 (rawInt L)))).FunFrames B (env :: outer) := hF₁.of_keeps fun b o hb hn => ⟨o, (other b (noT b o hb hn)).trans hb, rfl⟩
    refine k _ ⟨holds_noted x₁ hs hb hB₂ hΛ up, st.rel⟩ ⟨B, a0, hb, hB₂, hΛ, hBe, hF₂, .inr (.inr ⟨env, outer, L, rfl, hL, ?_⟩)⟩
    exact ⟨oe, vs, T, _, _, (other e (Ne.symm hTe)).trans he, ⟨hcls, h0⟩, hd, h1, hnT, hTe, Heap.get?_update_self _ hoT (Obj.isFreed_of_fields (Obj.data_mapFields hdT _)), Obj.data_mapFields hdT _, by simp [hsz]⟩
  unfold notedBy
  rcases hT with ⟨oe, vs, he, hcls, hd, h0, h1⟩ | ht | ⟨env', r, L', hl, hL', ht⟩
  · unfold noteFrame
    simp only [hL]
    refine wpAny_bind (wpAny_field he hd h1 ?_)
    rw [if_neg (by decide)]
    refine wpAny_entryW hA hF hL he hB hBe hd (Array.getElem?_eq_some_iff.mp h1).1 h0 fun h' hN => ?_
    obtain ⟨k1, k2, k3, k4⟩ := hN
    rw [hcls] at k3
    exact stop h' (holds_noted st.holds hs hb k1 hΛ k4) k1 k2 k3
  · refine wpAny_noteFrame_onW hA hF hL ht hB hBe fun h' hN => ?_
    obtain ⟨k1, k2, k3, k4⟩ := hN
    exact stop h' (holds_noted st.holds hs hb k1 hΛ k4) k1 k2 k3
  · cases hl
    rw [hL] at hL'; cases hL'
    exact wpAny_noteFrame_againW hL ht (stop s.heap st.holds hB hF ht)

/-- an exception leaves its frame -/
theorem raised_leave {outer : List Env} {L : Addr} {Q : Unit → Shared → Prop} (hs : StackOk Λ (env :: outer)) (hL : env.frame = some L) (hA : A.frames = some (env :: outer)) (st : St8 base ca Λ ρ S s.heap) (R : Raised base SE (env :: outer) e Λ s.heap)
    (hnot : L ∉ frAddrs outer) (k : ∀ h', St8 base ca (Λ.del L) ρ S h' → Raised base SE outer e (Λ.del L) h' → Q () { s with heap := h' }) : wpAny M A (leaving env (.ref e)) Q E s := by
  obtain ⟨B, a0, hb, hB, hΛ, hBe, hF, hT⟩ := R
  have delR : Rel ca (Λ.del L) ρ S := by
    obtain ⟨m, hm⟩ := stack_ns hs (List.mem_filterMap.mpr ⟨env, List.mem_cons_self, hL⟩)
    have ne : ∀ b sp, Λ b = some sp → (∀ m, sp ≠ .ns m) → Λ.del L b = some sp := fun b sp e h => by
      unfold Led.del; rw [if_neg (by rintro rfl; rw [hm] at e; cases e; exact h _ rfl)]; exact e
    have vm : ∀ v v', VRel Λ ρ v v' → VRel (Λ.del L) ρ v v' := by
      intro v v' hv
      cases v with
      | rng lo hi st => obtain ⟨q, t, u, w, h1, h2⟩ := hv; exact ⟨q, t, u, w, h1, ne _ _ h2 fun _ h => by cases h⟩
      | _ => exact hv
    refine ⟨st.rel.len, fun i o e => ?_, st.rel.inj1, st.rel.inj2⟩
    obtain ⟨c, hc, ho⟩ := st.rel.objs i o e
    refine ⟨c, hc, ?_⟩
    cases o with
    | list vs => obtain ⟨vs', h1, h2, h3⟩ := ho; exact ⟨vs', ne _ _ h1 fun _ h => (by cases h), h2.mono vm, h3⟩
    | arg vs => obtain ⟨vs', h1, h2, h3⟩ := ho; exact ⟨vs', ne _ _ h1 fun _ h => (by cases h), h2.mono vm, h3⟩
    | inst k as => obtain ⟨hk, es, h1, h2, h3⟩ := ho; exact ⟨hk, es, ne _ _ h1 fun _ h => (by cases h), ne _ _ h2 fun _ h => (by cases h), h3.mono fun p e ⟨h4, h5, h6⟩ => ⟨h4, h5, vm _ _ h6⟩⟩
  have sub : ∀ a sp, Λ.del L a = some sp → Λ a = some sp ∧ a ≠ L := fun a sp q => by
    unfold Led.del at q
    split at q
    · cases q
    · exact ⟨q, by assumption⟩
  have mem : ∀ a, a ≠ L → a ∉ frAddrs outer → a ∉ frAddrs (env :: outer) := fun a h1 h2 h3 => by
    unfold frAddrs at h3
    rw [List.filterMap_cons, hL] at h3
    rcases List.mem_cons.mp h3 with q | q
    · exact h1 q
    · exact h2 q
  have fin : ∀ h', Holds base h' Λ → B.StaysIn h' → h'.FunFrames B outer → h'.TracedW B e (.ref SE) a0 → Q () { s with heap := h' } := fun h' x hB' hF' ht =>
    k h' ⟨x.sub fun a sp q => (sub a sp q).1, delR⟩ ⟨B, a0, hb, hB', fun a sp q hn => hΛ a sp (sub a sp q).1 (mem a (sub a sp q).2 hn), hBe, hF', .inr (.inl ht)⟩
  rcases hT with ⟨oe, vs, he, hcls, hd, h0, h1⟩ | ht | ⟨env', r, L', hl, hL', ht⟩
  · refine wpAny_leaving_firstW hA hF hL he hB hBe hd h1 h0 fun h' hN => ?_
    obtain ⟨k1, ⟨_, _, k2⟩, k3, k4⟩ := hN
    rw [hcls] at k3
    exact fin h' (holds_noted st.holds hs hb k1 hΛ k4) k1 k2 k3
  · refine wpAny_leaving_nextW hA hF hL ht hB hBe fun h' hN => ?_
    obtain ⟨k1, ⟨_, _, k2⟩, k3, k4⟩ := hN
    exact fin h' (holds_noted st.holds hs hb k1 hΛ k4) k1 k2 k3
  · cases hl
    rw [hL] at hL'; cases hL'
    unfold leaving
    refine wpAny_bind (wpAny_noteFrame_againW hL ht ?_)
    refine wpAny_setFlight_noneW hB hF ht fun h' k1 k2 k3 k4 => ?_
    obtain ⟨_, _, k2⟩ := k2
    exact fin h' (holds_noted st.holds hs hb k1 hΛ fun b o hb hn => ⟨o.slots, k4 b o hb hn⟩) k1 k2 k3
end
end Mine
end

section
set_option Elab.async false
set_option autoImplicit false
set_option linter.unusedVariables false
open PySem PySem.W PyProof.Rows
namespace Mine

theorem mapO_cons {α β : Type} {f : α → Option β} {a : α} {r : List α} {bs : List β} (h : mapO f (a :: r) = some bs) : ∃ b bs', f a = some b ∧ mapO f r = some bs' ∧ bs = b :: bs' := by
  have h : (match f a, mapO f r with | some b, some bs => some (b :: bs) | _, _ => none) = some bs := h
  cases e1 : f a with
  | none => rw [e1] at h; cases h
  | some b =>
    cases e2 : mapO f r with
    | none => rw [e1, e2] at h; cases h
    | some bs' => rw [e1, e2] at h; cases h; exact ⟨b, bs', rfl, rfl, rfl⟩
theorem mapO_nil {α β : Type} {f : α → Option β} {bs : List β} (h : mapO f [] = some bs) : bs = [] := (Option.some.inj h).symm

section
variable (base : Heap) (ca : Nat → Addr) (SE : Addr)
/-- a statement is done -/
inductive PF (sc : Scope) (env : Env) (s : Shared) (Λ : Led) (ρ : Rho) (Q : Option V → Fr → H → Prop) (fl : Flow) (s' : Shared) : Prop where
  | mk (h' : _) (tk : _) (Λ' : _) (ρ' : _) (fr' : _) (S' : _) (hh1 : s' = { s with heap := h', toks := tk }) (hh2 : Evo (own env) Λ ρ Λ' ρ') (hh3 : St8 base ca Λ' ρ' S' h') (hh4 : FrRel sc Λ' ρ' env fr') (hh5 : (match fl with | .next => Q none fr' S' | .ret v' => ∃ v, VRel Λ' ρ' v v' ∧ Q (some v) fr' S' | _ => False))
end

section
variable {base : Heap} {ca : Nat → Addr} {SE : Addr} {s s' : Shared} {Λ Λ₁ Λ' : Led} {ρ ρ₁ : Rho} {l outer : List Env} {S : H} {sc : Scope} {env : Env} {fr : Fr}
variable {prog : Program} {w : World} {K : Frag} {t : Tb} {A : Around}

theorem PF.trans {Q : Option V → Fr → H → Prop} {fl : Flow} {h₁ : Heap} {t₁ : Nat} (ev : Evo (own env) Λ ρ Λ₁ ρ₁) (p : PF base ca sc env { s with heap := h₁, toks := t₁ } Λ₁ ρ₁ Q fl s') : PF base ca sc env s Λ ρ Q fl s' := by
  obtain ⟨h', tk, Λ', ρ', fr', S', rfl, e, x, hv, q⟩ := p
  exact ⟨h', tk, Λ', ρ', fr', S', rfl, ev.trans e, x, hv, q⟩
theorem PX.transO {X : Addr → Prop} {Qx : H → Prop} {e' : Value} {h₁ : Heap} {t₁ : Nat} (ev : Evo X Λ ρ Λ₁ ρ₁) (p : PX base ca SE X { s with heap := h₁, toks := t₁ } Λ₁ ρ₁ l Qx e' s') : PX base ca SE X s Λ ρ l Qx e' s' := by
  obtain ⟨h', tk, Λ', ρ', S', a, rfl, rfl, e, x, r, q⟩ := p
  exact ⟨h', tk, Λ', ρ', S', a, rfl, rfl, ev.trans e, x, r, q⟩
theorem PX.of0 {Qx : H → Prop} {e' : Value} (hfo : FrameOk Λ env) (p : PX base ca SE X0 s Λ ρ l Qx e' s') : PX base ca SE (own env) s Λ ρ l Qx e' s' := by
  obtain ⟨h', tk, Λ', ρ', S', a, rfl, rfl, e, x, r, q⟩ := p
  exact ⟨h', tk, Λ', ρ', S', a, rfl, rfl, e.of0 hfo.z, x, r, q⟩

end

/-- where a statement stands -/
structure AtX (base : Heap) (ca : Nat → Addr) (n : Nat) (sc : Scope) (A : Around) (env : Env) (outer : List Env) (s : Shared) (Λ : Led) (ρ : Rho) (S : H) (fr : Fr) : Prop where
  a : AOk n A (env :: outer)
  e : FnEnv sc env
  o : FrameOk Λ env
  k : StackOk Λ (env :: outer)
  f : FrRel sc Λ ρ env fr
  x : St8 base ca Λ ρ S s.heap

section
variable (base : Heap) (ca : Nat → Addr) (SE : Addr) (prog : Program) (w : World) (t : Tb)
noncomputable def OkX (n : Nat) (sc : Scope) (ps : PySem.Stmt) (st : St) : Prop := ∀ (A : Around) (env : Env) (outer : List Env) (s : Shared) (Λ : Led) (ρ : Rho) (S : H) (fr : Fr) (Qx : H → Prop) (Q : Option V → Fr → H → Prop),
  AtX base ca n sc A env outer s Λ ρ S fr → ex t n st fr S Qx Q → wpAny (model prog w) A (exec ps env) (PF base ca sc env s Λ ρ Q) (PX base ca SE (own env) s Λ ρ (env :: outer) Qx) s
noncomputable def OkXs (n : Nat) (sc : Scope) : List PySem.Stmt → List St → Prop := Each (OkX base ca SE prog w t n sc)
/-- statements of n levels are sound -/
noncomputable def SndX (n : Nat) : Prop := ∀ (sc : Scope) (ps : PySem.Stmt) (st : St), TS sc ps st → OkX base ca SE prog w t n sc ps st
end

section
variable {base : Heap} {ca : Nat → Addr} {SE : Addr} {s s' : Shared} {Λ Λ₁ Λ' : Led} {ρ ρ₁ : Rho} {l outer : List Env} {S : H} {sc : Scope} {env : Env} {fr : Fr}
variable {prog : Program} {w : World} {K : Frag} {t : Tb} {A : Around}

theorem SndX.each {n : Nat} (hX : SndX base ca SE prog w t n) {ps : List PySem.Stmt} {sts : List St} (h : TSs sc ps sts) : OkXs base ca SE prog w t n sc ps sts := h.mono fun _ _ h => hX _ _ _ h
theorem snd_exs {n : Nat} {ps : List PySem.Stmt} {sts : List St} (h : OkXs base ca SE prog w t n sc ps sts) : ∀ (s : Shared) (Λ : Led) (ρ : Rho) (S : H) (fr : Fr) (Qx : H → Prop) (Q : Option V → Fr → H → Prop),
      AtX base ca n sc A env outer s Λ ρ S fr → exs (fun s fr S Q => ex t n s fr S Qx Q) sts fr S Q →
        wpAny (model prog w) A (execs ps env) (PF base ca sc env s Λ ρ Q) (PX base ca SE (own env) s Λ ρ (env :: outer) Qx) s := by
  induction h with
  | nil =>
    intro s Λ ρ S fr Qx Q H h
    exact wpAny_execs_nil ⟨s.heap, s.toks, Λ, ρ, fr, S, rfl, .refl H.o.z, H.x, H.f, h⟩
  | cons h1 _ ih =>
    intro s Λ ρ S fr Qx Q H h
    refine wpAny_execs_cons (wpAny_mono (h1 A env outer s Λ ρ S fr Qx _ H h) (fun fl s₁ q => ?_) fun _ _ x => x)
    obtain ⟨h', tk, Λ', ρ', fr', S', rfl, ev, x, hf', q⟩ := q
    cases fl with
    | next => exact wpAny_mono (ih _ Λ' ρ' S' fr' Qx Q ⟨H.a, H.e, H.o.evo (fun _ h => h) ev, H.k.evoOwn H.e.frame H.o ev, hf', x⟩ q) (fun fl s₂ q => PF.trans ev q) fun e s₂ q => PX.transO ev q
    | ret v' => exact ⟨h', tk, Λ', ρ', fr', S', rfl, ev, x, hf', q⟩
    | brk => exact q.elim
    | cont => exact q.elim

/-- a function of the text's, as the written heap bears it -/
inductive FnOk (K : Frag) (a : Addr) (ps : List Nat) (body : List St) : Prop where
  | mk (name qual : Str) (params : Arguments) (bp : List PySem.Stmt) (scope : Scope) (dV kV doc pm cdv ct oc : Value) (an od : Option Addr) (osl : Array (Option Value)) (hh1 : K.lookup a = some ⟨oc, od, .func (fnOf name qual params bp scope dV kV doc pm an cdv ct), osl⟩) (hh2 : codeIn K cdv qual = true) (hh3 : TSs scope bp body) (hh4 : (∀ args : List Value, args.length = ps.length → bindArgs (fnOf name qual params bp scope dV kV doc pm an cdv ct) ⟨args, []⟩ = pure ((ps.map nm).zip args))) (hh5 : scope.kind = .function) (hh6 : scope.isCoroutine = false) (hh7 : scope.isGenerator = false) (hh8 : (∀ p ∈ ps, p < tab.names.length ∧ (scope.names.lookup (nm p) = some .local ∨ scope.names.lookup (nm p) = some .cell))) (hh9 : (∀ x, scope.names.lookup x ≠ some .free)) (hh10 : typeIn K (.ref a) = some (.type "function")) (hh11 : keepIn K (.ref a) = true)
theorem cellsFrom_some' {x : Str} {names : List (Str × NameKind)} {n : Nat} (h : names.lookup x = some .cell) : ((cellsFrom n names []).lookup x).isSome = true := cellsFrom_some names n [] (.inl h)

theorem lookup_has {α : Type} : ∀ {l : List (Str × α)} {x : Str} {v : α}, l.lookup x = some v → (x, v) ∈ l := mem_of_lookup

noncomputable def BR (Λ : Led) (ρ : Rho) (kindOf : Str → Option NameKind) (fr : Fr) (m cm : Str → Option Value) : Prop :=
  ∀ x v, fr x = some v → x < tab.names.length → ∃ v', VRel Λ ρ v v' ∧ (if kindOf (nm x) = some .local then m (nm x) = some v' else cm (nm x) = some v')
theorem bind_rel {kindOf : Str → Option NameKind} (ps : List Nat) (vs : List V) (vs' : List Value) (fr : Fr) (m cm : Str → Option Value) (hv : Each (VRel Λ ρ) vs vs') (hl : ps.length = vs.length) (hp : ∀ p ∈ ps, p < tab.names.length) (h : BR Λ ρ kindOf fr m cm) :
    BR Λ ρ kindOf (upds fr ps vs) (bindL kindOf ((ps.map nm).zip vs') m) (bindC kindOf ((ps.map nm).zip vs') cm) := by
  induction hv generalizing ps fr m cm with
  | nil =>
    cases ps with
    | nil => exact h
    | cons _ _ => cases hl
  | @cons v v' vs vs' hv _ ih =>
    cases ps with
    | nil => cases hl
    | cons p ps =>
      refine ih ps _ _ _ (Nat.succ.inj hl) (fun q hq => hp q (List.mem_cons_of_mem _ hq)) ?_
      have hpl := hp p List.mem_cons_self
      intro x u e hx
      have e : (if x = p then some v else fr x) = some u := e
      by_cases hxp : x = p
      · subst hxp
        rw [if_pos rfl] at e; cases e
        refine ⟨v', hv, ?_⟩
        split <;> simp_all
      · rw [if_neg hxp] at e
        obtain ⟨u', h1, h2⟩ := h x u e hx
        have hne : nm x ≠ nm p := fun q => hxp (nm_inj hx hpl q)
        refine ⟨u', h1, ?_⟩
        by_cases hk : kindOf (nm x) = some .local
        · rw [if_pos hk] at h2 ⊢
          by_cases hkp : kindOf (nm p) = some .local
          · rw [if_pos hkp]; simp [hne, h2]
          · rw [if_neg hkp]; exact h2
        · rw [if_neg hk] at h2 ⊢
          by_cases hkp : kindOf (nm p) = some .local
          · rw [if_pos hkp]; exact h2
          · rw [if_neg hkp]; simp [hne, h2]

theorem Rel.ext (r : Rel ca Λ ρ S) (h : ∀ a sp, Λ a = some sp → Λ' a = some sp) : Rel ca Λ' ρ S := by
  have vm : ∀ v v', VRel Λ ρ v v' → VRel Λ' ρ v v' := by
    intro v v' hv
    cases v with
    | rng lo hi st => obtain ⟨q, t, u, w, h1, h2⟩ := hv; exact ⟨q, t, u, w, h1, h _ _ h2⟩
    | _ => exact hv
  refine ⟨r.len, fun i o e => ?_, r.inj1, r.inj2⟩
  obtain ⟨c, hc, ho⟩ := r.objs i o e
  refine ⟨c, hc, ?_⟩
  cases o with
  | list vs => obtain ⟨vs', h1, h2, h3⟩ := ho; exact ⟨vs', h _ _ h1, h2.mono vm, h3⟩
  | arg vs => obtain ⟨vs', h1, h2, h3⟩ := ho; exact ⟨vs', h _ _ h1, h2.mono vm, h3⟩
  | inst k as => obtain ⟨hk, es, h1, h2, h3⟩ := ho; exact ⟨hk, es, h _ _ h1, h _ _ h2, h3.mono fun p e ⟨h4, h5, h6⟩ => ⟨h4, h5, vm _ _ h6⟩⟩
end
end Mine
end

section
set_option Elab.async false
set_option autoImplicit false
set_option linter.unusedVariables false
open PySem PySem.W PyProof.Rows
namespace Mine
section
variable {base : Heap} {ca : Nat → Addr} {SE : Addr} {s s' : Shared} {Λ Λ₁ Λ' : Led} {ρ ρ₁ : Rho} {l outer : List Env} {S : H} {sc : Scope} {env : Env} {fr : Fr}
variable {prog : Program} {w : World} {K : Frag} {t : Tb} {A : Around}

theorem upds_mem (ps : List Nat) : ∀ (vs : List V) (fr : Fr) (x : Nat) (v : V), upds fr ps vs x = some v → x ∈ ps ∨ fr x = some v := by
  induction ps with
  | nil => intro vs fr x v h; exact .inr h
  | cons p ps ih =>
    intro vs fr x v h
    cases vs with
    | nil => exact .inr h
    | cons u vs =>
      rcases ih vs _ x v h with h | h
      · exact .inl (List.mem_cons_of_mem _ h)
      · by_cases e : x = p
        · exact .inl (e ▸ List.mem_cons_self)
        · exact .inr ((if_neg e).symm.trans h)

open Classical in
noncomputable def frameLed (Λ : Led) (env : Env) (m cm : Str → Option Value) : Led := fun b =>
  if b = env.locals then some (.ns m) else if h : ∃ n, env.cells.lookup n = some b then some (.cell (cm h.choose)) else Λ b

theorem frameLed_own {m cm : Str → Option Value} : frameLed Λ env m cm env.locals = some (.ns m) := by unfold frameLed; rw [if_pos rfl]
theorem frameLed_cell {m cm : Str → Option Value} (hp : env.cells.Pairwise fun x y => x.2 ≠ y.2) {n : Str} {c : Addr} (h : env.cells.lookup n = some c) (hne : c ≠ env.locals) : frameLed Λ env m cm c = some (.cell (cm n)) := by
  unfold frameLed
  have hx : ∃ n, env.cells.lookup n = some c := ⟨n, h⟩
  rw [if_neg hne, dif_pos hx]
  have : hx.choose = n := name_of_addr hp (mem_of_lookup hx.choose_spec) (mem_of_lookup h)
  rw [this]
theorem frameLed_other {m cm : Str → Option Value} {b : Addr} (h : ¬ own env b) : frameLed Λ env m cm b = Λ b := by
  unfold frameLed
  rw [if_neg (fun e => h (.inl e)), dif_neg (fun e => h (.inr e))]

theorem snd_frame {m cm : Str → Option Value} {s₁ : Shared} (st : St8 base ca Λ ρ S s.heap) (hs : StackOk Λ l) (x : InCallC s env.locals m env.cells cm s₁) (hk : env.scope.kind = .function) (hf : env.frame = some env.locals) :
    St8 base ca (frameLed Λ env m cm) ρ S s₁.heap ∧ (∀ a sp, Λ a = some sp → frameLed Λ env m cm a = some sp) ∧ (∀ a sp, Λ a = some sp → ¬ own env a) ∧ FrameOk (frameLed Λ env m cm) env ∧ StackOk (frameLed Λ env m cm) (env :: l) ∧ env.locals ∉ frAddrs l := by
  have hfresh := x.toInCall.fresh
  have ab : ∀ n c, env.cells.lookup n = some c → env.locals < c := fun n c h => x.above n c (mem_of_lookup h)
  have no : ∀ a sp, Λ a = some sp → ¬ own env a := by
    intro a sp e h
    have hlt := st.holds.lt e
    rcases h with rfl | ⟨n, hn⟩
    · exact absurd hlt (Nat.not_lt.mpr hfresh)
    · exact absurd (Nat.lt_of_le_of_lt hfresh (ab n a hn)) (Nat.not_lt.mpr (Nat.le_of_lt hlt))
  have ext : ∀ a sp, Λ a = some sp → frameLed Λ env m cm a = some sp := fun a sp e => by rw [frameLed_other (no a sp e)]; exact e
  have hso : StackOk (frameLed Λ env m cm) (env :: l) := by
    intro e he
    rcases List.mem_cons.mp he with rfl | he
    · exact ⟨hk, _, m, hf, frameLed_own⟩
    · obtain ⟨h1, L, m', h2, h3⟩ := hs e he
      exact ⟨h1, L, m', h2, ext _ _ h3⟩
  refine ⟨⟨⟨fun b o e => x.toInCall.keep b o (st.holds.keep b o e), fun a sp e => ?_, fun a sp e => ?_⟩, st.rel.ext ext⟩, ext, no, ⟨⟨m, frameLed_own⟩, fun n c hc => ⟨cm n, frameLed_cell x.apart hc (Nat.ne_of_gt (ab n c hc))⟩⟩, hso, ?_⟩
  · by_cases ha : own env a
    · rcases ha with rfl | ⟨n, hn⟩
      · rw [frameLed_own] at e; cases e; exact ns_spec x.toInCall.ns
      · rw [frameLed_cell x.apart hn (Nat.ne_of_gt (ab n a hn))] at e; cases e
        exact cell_spec (x.cell n a hn)
    · rw [frameLed_other ha] at e
      obtain ⟨o, ho, hok⟩ := st.holds.at_ a sp e
      exact ⟨o, x.toInCall.keep _ _ ho, hok⟩
  · by_cases ha : own env a
    · rcases ha with rfl | ⟨n, hn⟩
      · exact st.holds.base_fresh hfresh
      · exact st.holds.base_fresh (Nat.le_of_lt (Nat.lt_of_le_of_lt hfresh (ab n a hn)))
    · rw [frameLed_other ha] at e; exact st.holds.new a sp e
  · intro hm
    obtain ⟨m', h1⟩ := stack_ns hs hm
    exact no _ _ h1 (.inl rfl)

theorem FnOk.in_ {a : Addr} {ps : List Nat} {body : List St} (h : FnOk K a ps body) : keepIn K (.ref a) = true := by
  obtain ⟨_, _, _, _, _, _, _, _, _, _, _, _, _, _, _, _, _, _, _, _, _, _, _, _, _, h1⟩ := h
  exact h1

theorem snd_callF {n : Nat} (hX : SndX base ca SE prog w t n) (G : Cx prog w K base ca SE t) {a : Addr} {ps : List Nat} {body : List St} (hfn : FnOk K a ps body)
    (hA : A.handled = none) (hfr : A.frames = some l) (hd : A.depth + 3 * n + 6 < 1000) (hu : A.units + 6 * n + 103 < 9900) (hs : StackOk Λ l) (st : St8 base ca Λ ρ S s.heap)
    {vs : List V} {vs' : List Value} (hv : Each (VRel Λ ρ) vs vs') (hlen : ps.length = vs.length) {Qx : H → Prop} {Q : V → H → Prop}
    (h : exs (fun s fr S Q => ex t n s fr S Qx Q) body (bind0 ps vs) S (fin Q)) :
    codeAny (model prog w) A (.call (.ref a) ⟨vs', []⟩) (fun r s' => match r with | .ok (.ret v) => PV base ca s Λ ρ Q v s' | .ok _ => False | .error e => PX base ca SE X0 s Λ ρ l Qx e s') s := by
  obtain ⟨name, qual, params, bp, scope, dV, kV, doc, pm, cdv, ct, oc, an, od, osl, hK, hcd, htr, hbind, hkind, hco, hgen, hps, hfree, _, _⟩ := hfn
  obtain ⟨p, loose, mg, mb, T⟩ := G.T
  have hKb := G.X.keeps st.holds.keep
  have hbl : vs'.length = ps.length := by rw [← hv.length, hlen]
  refine codeAny_call_function (Nat.lt_of_le_of_lt (by lia) (show 1000 ≤ recursionLimit from Nat.le_refl _)) (hKb _ _ hK) rfl hco hgen rfl (codeRec_of hKb hcd) ?_
  refine BindsTo.of_eq (hbind vs' hbl) _ _ _ _ ?_
  refine wpAny_newFunctionEnv_cells hkind (fun x hx => ?_) fun env henv s₁ x => ?_
  · have hm : x.1 ∈ ps.map nm := (List.of_mem_zip (show (x.1, x.2) ∈ _ from hx)).1
    obtain ⟨q, hq, hqe⟩ := List.mem_map.mp hm
    rcases (hps q hq).2 with h1 | h1
    · exact .inl (by rw [← hqe]; exact h1)
    · exact .inr ⟨by rw [← hqe]; exact h1, by rw [← hqe]; exact cellsFrom_some' h1⟩
  have hscope : env.scope = scope := by rw [henv]; rfl
  have hframe : env.frame = some env.locals := by rw [henv]; rfl
  obtain ⟨st₁, ext, no, hfo, hso, hnl⟩ := snd_frame (l := l) st hs x (by rw [hscope]; exact hkind) hframe
  have he : FnEnv scope env := by
    refine ⟨hscope, hkind, by rw [henv]; rfl, by rw [henv]; rfl, hframe, fun y hy => ?_, hfree, x.apart⟩
    rw [henv]; exact cellsFrom_some' hy
  have hkof : ∀ y, env.kindOf y = scope.names.lookup y := he.kindOf
  have hf : FrRel scope (frameLed Λ env (bindL env.kindOf ((ps.map nm).zip vs') fun _ => none) (bindC env.kindOf ((ps.map nm).zip vs') fun _ => none)) ρ env (bind0 ps vs) := by
    intro y v k e hy hl hg
    have hbr := bind_rel (Λ := Λ) (ρ := ρ) (kindOf := env.kindOf) ps vs vs' (fun _ => none) (fun _ => none) (fun _ => none) hv hlen (fun q hq => (hps q hq).1) (fun _ _ e => by cases e)
    obtain ⟨v', h1, h2⟩ := hbr y v e hy
    have h1' : VRel (frameLed Λ env (bindL env.kindOf ((ps.map nm).zip vs') fun _ => none) (bindC env.kindOf ((ps.map nm).zip vs') fun _ => none)) ρ v v' := by
      cases v with
      | rng lo hi st => obtain ⟨r, t, u, w, h3, h4⟩ := h1; exact ⟨r, t, u, w, h3, ext _ _ h4⟩
      | _ => exact h1
    refine ⟨v', h1', ?_⟩
    have hmem : y ∈ ps := by
      rcases upds_mem ps vs _ y v e with h | h
      · exact h
      · cases h
    rcases (hps y hmem).2 with h3 | h3
    · rw [if_pos (by rw [hkof]; exact h3)] at h2
      exact .inl ⟨by rw [hkof]; exact h3, _, frameLed_own, h2⟩
    · rw [if_neg (by rw [hkof, h3]; decide)] at h2
      obtain ⟨c, hc⟩ := Option.isSome_iff_exists.mp (he.cell _ h3)
      exact .inr ⟨.inl (by rw [hkof]; exact h3), c, hc, by rw [frameLed_cell x.apart hc (Nat.ne_of_gt (x.above _ _ (mem_of_lookup hc))), h2]⟩
  obtain ⟨h₁, tk₁, rfl⟩ := x.toInCall.same
  have back : ∀ {Λ₂ : Led} {ρ₂ : Rho} , Evo (own env) (frameLed Λ env (bindL env.kindOf ((ps.map nm).zip vs') fun _ => none) (bindC env.kindOf ((ps.map nm).zip vs') fun _ => none)) ρ Λ₂ ρ₂ → Evo X0 Λ ρ Λ₂ ρ₂ := fun ev =>
    ⟨ev.pre, fun b sp e hm _ => ev.pres b sp (ext b sp e) hm (no b sp e), fun _ h => h.elim, fun _ h => h.elim, fun _ _ h => h.elim⟩
  refine ⟨T.nolimit.keeps fun b o e => x.toInCall.keep b o (st.holds.keep b o e), codeAny_func (wpAny_mono (snd_exs (outer := l) (A := A.deeper env) (hX.each htr) _ _ ρ S (bind0 ps vs) Qx (fin Q) ⟨⟨hA, ?_, ?_, ?_⟩, he, hfo, hso, hf, st₁⟩ h) (fun fl s₂ q => ?_) fun e s₂ q => ?_)⟩
  · show A.frames.map _ = _; rw [hfr]; rfl
  · show A.depth + 1 + 3 * n + 5 < 1000; lia
  · show A.units + 3 + 6 * n + 100 < 9900; lia
  · obtain ⟨h', tk, Λ', ρ', fr', S', rfl, ev, x', hf', q⟩ := q
    cases fl with
    | next => exact ⟨h', tk, Λ', ρ', .none, S', rfl, back ev, x', rfl, q⟩
    | ret v' => obtain ⟨v, hv', q⟩ := q; exact ⟨h', tk, Λ', ρ', v, S', rfl, back ev, x', hv', q⟩
    | brk => exact q.elim
    | cont => exact q.elim
  · obtain ⟨h', tk, Λ', ρ', S', e', rfl, rfl, ev, x', r, q⟩ := q
    have hso' := hso.evoOwn hframe hfo ev
    refine raised_leave (s := { s with heap := h', toks := tk }) hso' hframe (by show A.frames.map _ = _; rw [hfr]; rfl) x' r hnl fun h₂ x₂ r₂ => ?_
    refine ⟨h₂, tk, _, ρ', S', e', rfl, rfl, ?_, x₂, r₂, q⟩
    have b := back ev
    refine ⟨b.pre, fun c sp e hm _ => ?_, fun _ h => h.elim, fun _ h => h.elim, fun _ _ h => h.elim⟩
    unfold Led.del
    rw [if_neg (fun q => no c sp e (.inl q))]
    exact b.pres c sp e hm id
end
end Mine
end

section
set_option Elab.async false
set_option autoImplicit false
set_option linter.unusedVariables false
open PySem PySem.W PyProof.Rows
namespace Mine

/-- where an expression stands -/
structure At (base : Heap) (ca : Nat → Addr) (n : Nat) (sc : Scope) (A : Around) (env : Env) (l : List Env) (s : Shared) (Λ : Led) (ρ : Rho) (S : H) (fr : Fr) : Prop where
  a : AOk n A l
  e : EnvOk sc env
  k : StackOk Λ l
  f : FrRel sc Λ ρ env fr
  x : St8 base ca Λ ρ S s.heap

section
variable {base : Heap} {ca : Nat → Addr} {SE : Addr} {s : Shared} {Λ Λ₁ : Led} {ρ ρ₁ : Rho} {l : List Env} {S : H} {sc : Scope} {env : Env} {fr : Fr} {n : Nat} {A : Around}
theorem At.step (h : At base ca n sc A env l s Λ ρ S fr) (ev : Evo X0 Λ ρ Λ₁ ρ₁) {h₁ : Heap} {t₁ : Nat} {S₁ : H} (x : St8 base ca Λ₁ ρ₁ S₁ h₁) : At base ca n sc A env l { s with heap := h₁, toks := t₁ } Λ₁ ρ₁ S₁ fr :=
  ⟨h.a, h.e, h.k.mono ev, h.f.mono ev, x⟩
theorem At.le {m : Nat} (h : At base ca n sc A env l s Λ ρ S fr) (hm : m ≤ n) : At base ca m sc A env l s Λ ρ S fr := ⟨h.a.le hm, h.e, h.k, h.f, h.x⟩
theorem At.lt (h : At base ca (n + 1) sc A env l s Λ ρ S fr) : At base ca n sc A env l s Λ ρ S fr := h.le (Nat.le_succ n)
end

section
variable (base : Heap) (ca : Nat → Addr) (SE : Addr) (prog : Program) (w : World) (t : Tb)
noncomputable def OkE (n : Nat) (sc : Scope) (pe : PySem.Expr) (e : E) : Prop := ∀ (A : Around) (env : Env) (l : List Env) (s : Shared) (Λ : Led) (ρ : Rho) (S : H) (fr : Fr) (X : H → Prop) (Q : V → H → Prop),
  At base ca n sc A env l s Λ ρ S fr → ev t n e fr S X Q → wpAny (model prog w) A (eval pe env) (PV base ca s Λ ρ Q) (PX base ca SE X0 s Λ ρ l X) s
noncomputable def OkT (n : Nat) (sc : Scope) (pe : PySem.Expr) (e : E) : Prop := ∀ (A : Around) (env : Env) (l : List Env) (s : Shared) (Λ : Led) (ρ : Rho) (S : H) (fr : Fr) (X : H → Prop) (Q : Bool → H → Prop),
  At base ca n sc A env l s Λ ρ S fr → tst t n e fr S X Q → wpAny (model prog w) A (isTrue pe env (eval pe env)) (PB base ca s Λ ρ Q) (PX base ca SE X0 s Λ ρ l X) s
end

section
variable {base : Heap} {ca : Nat → Addr} {SE : Addr} {s : Shared} {Λ Λ₁ : Led} {ρ ρ₁ : Rho} {l : List Env} {S : H} {sc : Scope} {env : Env} {fr : Fr} {n m : Nat} {A : Around} {t : Tb}
variable {prog : Program} {w : World} {K : Frag} {M : Model} {X : H → Prop}

theorem ptV {mm : Sem Value} {Q : V → H → Prop} {h₁ : Heap} {t₁ : Nat} (ev : Evo X0 Λ ρ Λ₁ ρ₁)
    (h : wpAny M A mm (PV base ca { s with heap := h₁, toks := t₁ } Λ₁ ρ₁ Q) (PX base ca SE X0 { s with heap := h₁, toks := t₁ } Λ₁ ρ₁ l X) { s with heap := h₁, toks := t₁ }) :
    wpAny M A mm (PV base ca s Λ ρ Q) (PX base ca SE X0 s Λ ρ l X) { s with heap := h₁, toks := t₁ } := wpAny_mono h (fun _ _ => PV.trans ev) fun _ _ => PX.trans ev
theorem ptB {mm : Sem Bool} {Q : Bool → H → Prop} {h₁ : Heap} {t₁ : Nat} (ev : Evo X0 Λ ρ Λ₁ ρ₁)
    (h : wpAny M A mm (PB base ca { s with heap := h₁, toks := t₁ } Λ₁ ρ₁ Q) (PX base ca SE X0 { s with heap := h₁, toks := t₁ } Λ₁ ρ₁ l X) { s with heap := h₁, toks := t₁ }) :
    wpAny M A mm (PB base ca s Λ ρ Q) (PX base ca SE X0 s Λ ρ l X) { s with heap := h₁, toks := t₁ } := wpAny_mono h (fun _ _ => PB.trans ev) fun _ _ => PX.trans ev
theorem ptVs {mm : Sem (List Value)} {Q : List V → H → Prop} {h₁ : Heap} {t₁ : Nat} (ev : Evo X0 Λ ρ Λ₁ ρ₁)
    (h : wpAny M A mm (PVs base ca { s with heap := h₁, toks := t₁ } Λ₁ ρ₁ Q) (PX base ca SE X0 { s with heap := h₁, toks := t₁ } Λ₁ ρ₁ l X) { s with heap := h₁, toks := t₁ }) :
    wpAny M A mm (PVs base ca s Λ ρ Q) (PX base ca SE X0 s Λ ρ l X) { s with heap := h₁, toks := t₁ } := wpAny_mono h (fun _ _ => PVs.trans ev) fun _ _ => PX.trans ev

/-- an expression is evaluated, and the rest goes on -/
theorem OkE.use {pe : PySem.Expr} {e : E} (h : OkE base ca SE prog w t n sc pe e) (H : At base ca n sc A env l s Λ ρ S fr) {Q : V → Mine.H → Prop} (hq : ev t n e fr S X Q) {R : Value → Shared → Prop}
    (k : ∀ v' v h₁ t₁ Λ₁ ρ₁ S₁, At base ca n sc A env l { s with heap := h₁, toks := t₁ } Λ₁ ρ₁ S₁ fr → Evo X0 Λ ρ Λ₁ ρ₁ → VRel Λ₁ ρ₁ v v' → Q v S₁ → R v' { s with heap := h₁, toks := t₁ }) :
    wpAny (model prog w) A (eval pe env) R (PX base ca SE X0 s Λ ρ l X) s :=
  monoV (h A env l s Λ ρ S fr X Q H hq) (fun _ _ e => e) fun v' v h₁ t₁ Λ₁ ρ₁ S₁ ev x hv q => k v' v h₁ t₁ Λ₁ ρ₁ S₁ (H.step ev x) ev hv q
/-- the same, later -/
theorem OkE.then {pe : PySem.Expr} {e : E} {h₀ : Heap} {t₀ : Nat} (h : OkE base ca SE prog w t n sc pe e) (ev₀ : Evo X0 Λ ρ Λ₁ ρ₁) (H : At base ca n sc A env l { s with heap := h₀, toks := t₀ } Λ₁ ρ₁ S fr) {Q : V → Mine.H → Prop} (hq : ev t n e fr S X Q) {R : Value → Shared → Prop}
    (k : ∀ v' v h₁ t₁ Λ₂ ρ₂ S₁, At base ca n sc A env l { s with heap := h₁, toks := t₁ } Λ₂ ρ₂ S₁ fr → Evo X0 Λ ρ Λ₂ ρ₂ → Evo X0 Λ₁ ρ₁ Λ₂ ρ₂ → VRel Λ₂ ρ₂ v v' → Q v S₁ → R v' { s with heap := h₁, toks := t₁ }) :
    wpAny (model prog w) A (eval pe env) R (PX base ca SE X0 s Λ ρ l X) { s with heap := h₀, toks := t₀ } :=
  monoV (h A env l _ Λ₁ ρ₁ S fr X Q H hq) (fun _ _ => PX.trans ev₀) fun v' v h₁ t₁ Λ₂ ρ₂ S₁ ev x hv q => k v' v h₁ t₁ Λ₂ ρ₂ S₁ (H.step ev x) (ev₀.trans0 ev) ev hv q

theorem okE_var {i : Nat} {x : Str} {pos : Pos} {kk : NameKind} (hx : find tab.names x = some i) (hl : sc.names.lookup x = some kk) (hk : kk ≠ .globalImplicit) : OkE base ca SE prog w t (n + 1) sc (.Name x pos) (.var i) := by
  intro A env l s Λ ρ S fr X Q H h
  have h : (match fr i with | some v => Q v S | none => False) := h
  cases e : fr i with
  | none => rw [e] at h; exact h.elim
  | some v => rw [e] at h; exact snd_var H.e H.f H.x hx hl hk e h
theorem okE_gcon (G : Cx prog w K base ca SE t) {i : Nat} {x : Str} {pos : Pos} (hx : find tab.gcs x = some i) (hl : sc.names.lookup x = some .globalImplicit) : OkE base ca SE prog w t (n + 1) sc (.Name x pos) (.gcon i) := by
  intro A env l s Λ ρ S fr X Q H h
  exact snd_gcon G H.e H.x hx hl h

theorem okE_int {i : Int} {k : Nat} {pos : Pos} : OkE base ca SE prog w t (n + 1) sc (.Constant (.int i) k pos) (.con (.int i)) := by
  intro A env l s Λ ρ S fr X Q H h
  exact wpAny_Constant_int (PV.mk' H.x vInt h)
theorem okE_str {i : Str} {k j : Nat} {pos : Pos} (hj : find tab.texts i = some j) : OkE base ca SE prog w t (n + 1) sc (.Constant (.str i) k pos) (.con (.str j)) := by
  intro A env l s Λ ρ S fr X Q H h
  exact wpAny_Constant_str (PV.mk' H.x (show VRel Λ ρ (.str j) _ from ⟨(find_spec hj).1, _, by rw [find_sm hj]⟩) h)
theorem okE_none {k : Nat} {pos : Pos} : OkE base ca SE prog w t (n + 1) sc (.Constant .none k pos) (.con .none) := by
  intro A env l s Λ ρ S fr X Q H h
  exact wpAny_Constant_none (PV.mk0 H.x (show VRel Λ ρ .none _ from rfl) h)
theorem okE_bool {b : Bool} {k : Nat} {pos : Pos} : OkE base ca SE prog w t (n + 1) sc (.Constant (.bool b) k pos) (.con (.bool b)) := by
  intro A env l s Λ ρ S fr X Q H h
  exact wpAny_Constant_bool (PV.mk0 H.x (show VRel Λ ρ (.bool b) _ from rfl) h)

theorem okE_bin {op : Operator} {o : BOp} {a b : PySem.Expr} {a' b' : E} {pos : Pos} (hop : bopOf op = some o) (ha : OkE base ca SE prog w t n sc a a') (hb : OkE base ca SE prog w t n sc b b') :
    OkE base ca SE prog w t (n + 1) sc (.BinOp a op b pos) (.bin o a' b') := by
  intro A env l s Λ ρ S fr X Q H h
  refine wpAny_BinOp (ha.use H.lt h fun va' va h₁ t₁ Λ₁ ρ₁ S₁ H₁ ev₁ v₁ q₁ => ?_)
  refine hb.then ev₁ H₁ q₁ fun vb' vb h₂ t₂ Λ₂ ρ₂ S₂ H₂ ev₂ ev₂' v₂ q₂ => ?_
  refine wpAny_mono (snd_bin hop H₂.x (ev₂'.vrel v₁) v₂ (by have := H₂.a.units; unfold cLine; lia) q₂) (fun _ _ => PV.trans ev₂) fun _ _ x => x
end
end Mine
end

section
set_option Elab.async false
set_option autoImplicit false
set_option linter.unusedVariables false
open PySem PySem.W PyProof.Rows
namespace Mine

section
variable {base : Heap} {ca : Nat → Addr} {SE : Addr} {s : Shared} {Λ Λ₁ : Led} {ρ ρ₁ : Rho} {l : List Env} {S : H} {sc : Scope} {env : Env} {fr : Fr} {n m : Nat} {A : Around} {t : Tb}
variable {prog : Program} {w : World} {K : Frag} {M : Model} {X : H → Prop}

/-- neither a star nor a set -/
noncomputable def plainE : PySem.Expr → Bool
  | .Starred _ _ => false
  | .Set _ _ _ => false
  | .Slice _ _ _ _ => false
  | _ => true
theorem plainE_of {e : PySem.Expr} (h : simpleE e = true) : plainE e = true := by
  cases e <;> first | rfl | cases h
theorem starEach_plain {e : PySem.Expr} {r : List PySem.Expr} (h : plainE e = true) : starEach (e :: r) env = (false, eval e env) :: starEach r env := by
  cases e <;> first | rfl | (cases h)
theorem fold_plain {e : PySem.Expr} (h : plainE e = true) (x : Value) : foldedSetIterable e env x = pure x := by
  cases e <;> first | rfl | (cases h)

noncomputable def OkEs (base : Heap) (ca : Nat → Addr) (SE : Addr) (prog : Program) (w : World) (t : Tb) (n : Nat) (sc : Scope) : List PySem.Expr → List E → Prop := Each fun pe e => OkE base ca SE prog w t n sc pe e ∧ plainE pe = true

theorem snd_evs {pos : Pos} (pes : List PySem.Expr) (es : List E) (h0 : OkEs base ca SE prog w t n sc pes es) : ∀ (s : Shared) (Λ : Led) (ρ : Rho) (S : Mine.H) (Q : List V → Mine.H → Prop), At base ca n sc A env l s Λ ρ S fr →
    evs (fun e S Q => ev t n e fr S X Q) es S Q → wpAny (model prog w) A (spliced (backTo pos (starEach pes env))) (PVs base ca s Λ ρ Q) (PX base ca SE X0 s Λ ρ l X) s := by
  induction h0 with
  | nil =>
    intro s Λ ρ S Q H h
    exact Calls.spliced_nil ⟨s.heap, s.toks, Λ, ρ, [], S, rfl, .refl0, H.x, .nil, h⟩
  | cons h1 _ ih =>
    intro s Λ ρ S Q H h
    rw [starEach_plain h1.2]
    refine Calls.spliced_cons (h1.1.use H h fun v' v h₁ t₁ Λ₁ ρ₁ S₁ H₁ ev₁ hv q => ?_)
    refine wpAny_mono (ih _ Λ₁ ρ₁ S₁ _ H₁ q) (fun vs' s₂ q₂ => ?_) fun _ _ => PX.trans ev₁
    obtain ⟨h', tk, Λ', ρ', vs, S', rfl, e, x, hvs, q⟩ := q₂
    exact ⟨h', tk, Λ', ρ', v :: vs, S', rfl, ev₁.trans0 e, x, .cons (e.vrel hv) hvs, q⟩

theorem okE_list {pes : List PySem.Expr} {es : List E} {pos : Pos} (h0 : OkEs base ca SE prog w t n sc pes es) : OkE base ca SE prog w t (n + 1) sc (.List pes pos) (.list es) := by
  intro A env l s Λ ρ S fr X Q H h
  refine wpAny_List (wpAny_mono (snd_evs pes es h0 s Λ ρ S _ H.lt h) (fun vs' s₁ q => ?_) fun _ _ x => x)
  obtain ⟨h', tk, Λ', ρ', vs, S', rfl, e, x, hvs, q1, q2⟩ := q
  have hl : vs'.length ≤ 100 := by rw [← hvs.length]; exact q1
  exact ⟨by unfold sizeLine; lia, PV.trans e (PV.newList (n := 0) (s := { s with heap := h', toks := tk }) x hvs q2)⟩

theorem OkCs.ne {R : PySem.Expr → E → Prop} {ops pes cs} (r : OkCs R ops pes cs) : ∃ o os p ps, ops = o :: os ∧ pes = p :: ps := by
  cases r <;> exact ⟨_, _, _, _, rfl, rfl⟩
theorem OkCs.nec {R : PySem.Expr → E → Prop} {ops pes cs} (r : OkCs R ops pes cs) : ∃ o os, cs = o :: os := by
  cases r <;> exact ⟨_, _, rfl⟩
theorem OkCs.marks {R : PySem.Expr → E → Prop} (hR : ∀ pe e, R pe e → plainE pe = true) {ops pes cs} (r : OkCs R ops pes cs) : lastMarks ops pes = false := by
  induction r with
  | @one op o pe e _ h2 =>
    have := hR _ _ h2
    show behindInMarks op pe = false
    cases pe <;> first | rfl | cases this
  | cons _ _ r ih =>
    obtain ⟨o, os, p, ps, e1, e2⟩ := r.ne
    subst e1 e2
    exact ih

theorem snd_chain {pos : Pos} (hu : A.units + 100 < cLine) {ops pes cs} (r : OkCs (fun pe e => OkE base ca SE prog w t n sc pe e ∧ plainE pe = true) ops pes cs) : ∀ (s : Shared) (Λ : Led) (ρ : Rho) (S : Mine.H) (a : V) (a' : Value) (Q : Bool → Mine.H → Prop),
    At base ca n sc A env l s Λ ρ S fr → VRel Λ ρ a a' → chain (fun e S Q => ev t n e fr S X Q) a cs S Q →
      wpAny (model prog w) A (compareChain pos a' ops (evalEach pes env)) (PV base ca s Λ ρ fun v S' => match v with | .bool b => Q b S' | _ => False) (PX base ca SE X0 s Λ ρ l X) s ∧
      wpAny (model prog w) A (testChain pos a' ops (evalEach pes env)) (PB base ca s Λ ρ Q) (PX base ca SE X0 s Λ ρ l X) s := by
  induction r with
  | one hop hR =>
    intro s Λ ρ S a a' Q H ha h
    refine ⟨chain_last (hR.1.use H h fun vb' vb h₁ t₁ Λ₁ ρ₁ S₁ H₁ ev₁ v₁ q₁ => ?_), test_last (hR.1.use H h fun vb' vb h₁ t₁ Λ₁ ρ₁ S₁ H₁ ev₁ v₁ q₁ => ?_)⟩
    · exact snd_cmp hop H₁.x (ev₁.vrel ha) v₁ hu q₁ fun c hc => ⟨h₁, t₁, Λ₁, ρ₁, .bool c, S₁, rfl, ev₁, H₁.x, rfl, hc⟩
    · exact snd_cmp hop H₁.x (ev₁.vrel ha) v₁ hu q₁ fun c hc => wpAny_truthy_bool ⟨h₁, t₁, Λ₁, ρ₁, S₁, rfl, ev₁, H₁.x, hc⟩
  | cons hop hR r ih =>
    intro s Λ ρ S a a' Q H ha h
    obtain ⟨o₁, os, p₁, ps, rfl, rfl⟩ := r.ne
    obtain ⟨c₁, cr, rfl⟩ := r.nec
    refine ⟨chain_link (hR.1.use H h fun vb' vb h₁ t₁ Λ₁ ρ₁ S₁ H₁ ev₁ v₁ q₁ => ?_), test_link (hR.1.use H h fun vb' vb h₁ t₁ Λ₁ ρ₁ S₁ H₁ ev₁ v₁ q₁ => ?_)⟩
    · refine snd_cmp hop H₁.x (ev₁.vrel ha) v₁ hu q₁ fun c hc => wpAny_truthy_bool ?_
      cases c with
      | false => exact ⟨h₁, t₁, Λ₁, ρ₁, .bool false, S₁, rfl, ev₁, H₁.x, rfl, hc⟩
      | true => exact ptV ev₁ (ih _ Λ₁ ρ₁ S₁ vb vb' Q H₁ v₁ hc).1
    · refine snd_cmp hop H₁.x (ev₁.vrel ha) v₁ hu q₁ fun c hc => wpAny_truthy_bool ?_
      cases c with
      | false => exact ⟨h₁, t₁, Λ₁, ρ₁, S₁, rfl, ev₁, H₁.x, hc⟩
      | true => exact ptB ev₁ (ih _ Λ₁ ρ₁ S₁ vb vb' Q H₁ v₁ hc).2

theorem eval_cmp_eq {a : PySem.Expr} {ops : List CmpOp} {pes : List PySem.Expr} {pos : Pos} (h : lastMarks ops pes = false) : eval (.Compare a ops pes pos) env = (do compareChain pos (← eval a env) ops (evalEach pes env)) := by
  show (do compareChain pos (← eval a env) ops (markedEach ops pes (evalEach pes env))) = _
  rw [markedEach_of_false _ _ _ h]
theorem isTrue_cmp_eq {a : PySem.Expr} {ops : List CmpOp} {pes : List PySem.Expr} {pos : Pos} {x : Sem Value} (h : lastMarks ops pes = false) : isTrue (.Compare a ops pes pos) env x = (do testChain pos (← eval a env) ops (evalEach pes env)) := by
  show (do testChain pos (← eval a env) ops (markedEach ops pes (evalEach pes env))) = _
  rw [markedEach_of_false _ _ _ h]

theorem okE_cmp {a : PySem.Expr} {a' : E} {ops pes cs} {pos : Pos} (ha : OkE base ca SE prog w t n sc a a') (hc : OkCs (fun pe e => OkE base ca SE prog w t n sc pe e ∧ plainE pe = true) ops pes cs) : OkE base ca SE prog w t (n + 1) sc (.Compare a ops pes pos) (.cmp a' cs) := by
  intro A env l s Λ ρ S fr X Q H h
  rw [eval_cmp_eq (hc.marks fun _ _ h => h.2)]
  refine wpAny_bind (ha.use H.lt h fun va' va h₁ t₁ Λ₁ ρ₁ S₁ H₁ ev₁ v₁ q₁ => ?_)
  refine ptV ev₁ (wpAny_mono (snd_chain (by have := H.a.units; unfold cLine; lia) hc _ Λ₁ ρ₁ S₁ va va' _ H₁ v₁ q₁).1 (fun v' s₂ q => ?_) fun _ _ x => x)
  obtain ⟨h', tk, Λ', ρ', v, S', rfl, e, x, hv, q⟩ := q
  cases v <;> first | exact q.elim | exact ⟨h', tk, Λ', ρ', _, S', rfl, e, x, hv, q⟩
theorem okT_cmp {a : PySem.Expr} {a' : E} {ops pes cs} {pos : Pos} (ha : OkE base ca SE prog w t n sc a a') (hc : OkCs (fun pe e => OkE base ca SE prog w t n sc pe e ∧ plainE pe = true) ops pes cs) : OkT base ca SE prog w t (n + 1) sc (.Compare a ops pes pos) (.cmp a' cs) := by
  intro A env l s Λ ρ S fr X Q H h
  rw [isTrue_cmp_eq (hc.marks fun _ _ h => h.2)]
  refine wpAny_bind (ha.use H.lt h fun va' va h₁ t₁ Λ₁ ρ₁ S₁ H₁ ev₁ v₁ q₁ => ?_)
  exact ptB ev₁ (snd_chain (by have := H.a.units; unfold cLine; lia) hc _ Λ₁ ρ₁ S₁ va va' _ H₁ v₁ q₁).2
end
end Mine
end

section
set_option Elab.async false
set_option autoImplicit false
set_option linter.unusedVariables false
open PySem PySem.W PyProof.Rows
namespace Mine
section
variable {base : Heap} {ca : Nat → Addr} {SE : Addr} {s : Shared} {Λ Λ₁ : Led} {ρ ρ₁ : Rho} {l : List Env} {S : H} {sc : Scope} {env : Env} {fr : Fr} {n m : Nat} {A : Around} {t : Tb}
variable {prog : Program} {w : World} {K : Frag} {M : Model} {X : H → Prop}

/-- a test is made, and the rest goes on -/
theorem OkT.use {pe : PySem.Expr} {e : E} (h : OkT base ca SE prog w t n sc pe e) (H : At base ca n sc A env l s Λ ρ S fr) {Q : Bool → Mine.H → Prop} (hq : tst t n e fr S X Q) {R : Bool → Shared → Prop}
    (k : ∀ b h₁ t₁ Λ₁ ρ₁ S₁, At base ca n sc A env l { s with heap := h₁, toks := t₁ } Λ₁ ρ₁ S₁ fr → Evo X0 Λ ρ Λ₁ ρ₁ → Q b S₁ → R b { s with heap := h₁, toks := t₁ }) :
    wpAny (model prog w) A (isTrue pe env (eval pe env)) R (PX base ca SE X0 s Λ ρ l X) s :=
  wpAny_mono (h A env l s Λ ρ S fr X Q H hq) (fun b s₁ ⟨h₁, t₁, Λ₁, ρ₁, S₁, e, ev, x, q⟩ => by subst e; exact k b h₁ t₁ Λ₁ ρ₁ S₁ (H.step ev x) ev q) fun _ _ e => e

theorem okE_ite {c a b : PySem.Expr} {c' a' b' : E} {pos : Pos} (hc : OkT base ca SE prog w t n sc c c') (ha : OkE base ca SE prog w t n sc a a') (hb : OkE base ca SE prog w t n sc b b') :
    OkE base ca SE prog w t (n + 1) sc (.IfExp c a b pos) (.ite c' a' b') := by
  intro A env l s Λ ρ S fr X Q H h
  refine IfExp_ (hc.use H.lt h fun g h₁ t₁ Λ₁ ρ₁ S₁ H₁ ev₁ q₁ => ?_)
  cases g with
  | true => exact ptV ev₁ (ha A env l _ Λ₁ ρ₁ S₁ fr X Q H₁ q₁)
  | false => exact ptV ev₁ (hb A env l _ Λ₁ ρ₁ S₁ fr X Q H₁ q₁)

theorem okT_not {a : PySem.Expr} {a' : E} {pos : Pos} (ha : OkT base ca SE prog w t n sc a a') : OkT base ca SE prog w t (n + 1) sc (.UnaryOp .Not a pos) (.not a') := by
  intro A env l s Λ ρ S fr X Q H h
  exact isTrue_not (ha.use H.lt h fun b h₁ t₁ Λ₁ ρ₁ S₁ H₁ ev₁ q₁ => ⟨h₁, t₁, Λ₁, ρ₁, S₁, rfl, ev₁, H₁.x, q₁⟩)

theorem snd_boolsT {op : BoolOp} {pos : Pos} {whole : Sem Value} (pes : List PySem.Expr) (es : List E) (h0 : Each (fun pe e => OkT base ca SE prog w t n sc pe e) pes es) : ∀ (s : Shared) (Λ : Led) (ρ : Rho) (S : Mine.H) (Q : Bool → Mine.H → Prop),
    At base ca n sc A env l s Λ ρ S fr → bools (fun e S Q => tst t n e fr S X Q) (op == .And) es S Q →
      wpAny (model prog w) A (isTrue (.BoolOp op pes pos) env whole) (PB base ca s Λ ρ Q) (PX base ca SE X0 s Λ ρ l X) s := by
  induction h0 with
  | nil =>
    intro s Λ ρ S Q H h
    cases op
    · exact isTrue_and_nil ⟨s.heap, s.toks, Λ, ρ, S, rfl, .refl0, H.x, h⟩
    · exact isTrue_or_nil ⟨s.heap, s.toks, Λ, ρ, S, rfl, .refl0, H.x, h⟩
  | cons h1 _ ih =>
    intro s Λ ρ S Q H h
    cases op
    · refine isTrue_and (h1.use H h fun b h₁ t₁ Λ₁ ρ₁ S₁ H₁ ev₁ q₁ => ?_)
      cases b with
      | true => exact ptB ev₁ (ih _ Λ₁ ρ₁ S₁ Q H₁ q₁)
      | false => exact ⟨h₁, t₁, Λ₁, ρ₁, S₁, rfl, ev₁, H₁.x, q₁⟩
    · refine isTrue_or (h1.use H h fun b h₁ t₁ Λ₁ ρ₁ S₁ H₁ ev₁ q₁ => ?_)
      cases b with
      | false => exact ptB ev₁ (ih _ Λ₁ ρ₁ S₁ Q H₁ q₁)
      | true => exact ⟨h₁, t₁, Λ₁, ρ₁, S₁, rfl, ev₁, H₁.x, q₁⟩
theorem okT_bop {op : BoolOp} {pes : List PySem.Expr} {es : List E} {pos : Pos} (h0 : Each (fun pe e => OkT base ca SE prog w t n sc pe e) pes es) : OkT base ca SE prog w t (n + 1) sc (.BoolOp op pes pos) (.bop (op == .And) es) := by
  intro A env l s Λ ρ S fr X Q H h
  exact snd_boolsT pes es h0 s Λ ρ S Q H.lt h

noncomputable def isB (Q : Bool → H → Prop) (v : V) (S : H) : Prop := match v with
  | .bool b => Q b S
  | _ => False
theorem isB_eq (Q : Bool → H → Prop) : (fun (v : V) (S1 : H) => match v with | .bool b => Q b S1 | _ => False) = isB Q := rfl
theorem isB_inv {Q : Bool → H → Prop} {v : V} (h : isB Q v S) : ∃ b, v = .bool b ∧ Q b S := by
  cases v <;> first | exact ⟨_, rfl, h⟩ | exact h.elim

theorem snd_boolsE {op : BoolOp} {pos : Pos} {pes : List PySem.Expr} {es : List E} (h0 : Each (fun pe e => OkE base ca SE prog w t n sc pe e) pes es) : pes ≠ [] → ∀ (s : Shared) (Λ : Led) (ρ : Rho) (S : Mine.H) (Q : Bool → Mine.H → Prop),
    At base ca n sc A env l s Λ ρ S fr → bools (fun e S Q => ev t n e fr S X (isB Q)) (op == .And) es S Q →
      wpAny (model prog w) A (eval (.BoolOp op pes pos) env) (PV base ca s Λ ρ fun v S' => isB Q v S') (PX base ca SE X0 s Λ ρ l X) s := by
  induction h0 with
  | nil => intro hn; exact absurd rfl hn
  | @cons pe e pes es h1 hr ih =>
    intro _ s Λ ρ S Q H h
    cases hr with
    | nil =>
      refine BoolOp_one (h1.use H h fun v' v h₁ t₁ Λ₁ ρ₁ S₁ H₁ ev₁ hv q₁ => ?_)
      obtain ⟨b, hb0, q₂⟩ := isB_inv q₁
      subst hb0
      refine ⟨h₁, t₁, Λ₁, ρ₁, .bool b, S₁, rfl, ev₁, H₁.x, hv, ?_⟩
      show Q b S₁
      by_cases hb : b = (op == .And)
      · rw [if_pos hb] at q₂
        rw [hb]; exact q₂
      · rw [if_neg hb] at q₂; exact q₂
    | @cons pe₂ e₂ pes es h2 hr =>
      cases op
      · refine BoolOp_and (h1.use H h fun v' v h₁ t₁ Λ₁ ρ₁ S₁ H₁ ev₁ hv q₁ => ?_)
        obtain ⟨b, rfl, q₁⟩ := isB_inv q₁
        cases hv
        refine wpAny_truthy_bool ?_
        cases b with
        | true => exact ptV ev₁ (ih (by simp) _ Λ₁ ρ₁ S₁ Q H₁ q₁)
        | false => exact ⟨h₁, t₁, Λ₁, ρ₁, .bool false, S₁, rfl, ev₁, H₁.x, rfl, q₁⟩
      · refine BoolOp_or (h1.use H h fun v' v h₁ t₁ Λ₁ ρ₁ S₁ H₁ ev₁ hv q₁ => ?_)
        obtain ⟨b, rfl, q₁⟩ := isB_inv q₁
        cases hv
        refine wpAny_truthy_bool ?_
        cases b with
        | false => exact ptV ev₁ (ih (by simp) _ Λ₁ ρ₁ S₁ Q H₁ q₁)
        | true => exact ⟨h₁, t₁, Λ₁, ρ₁, .bool true, S₁, rfl, ev₁, H₁.x, rfl, q₁⟩
theorem okE_bop {op : BoolOp} {pes : List PySem.Expr} {es : List E} {pos : Pos} (h0 : Each (fun pe e => OkE base ca SE prog w t n sc pe e) pes es) (hn : pes ≠ []) : OkE base ca SE prog w t (n + 1) sc (.BoolOp op pes pos) (.bop (op == .And) es) := by
  intro A env l s Λ ρ S fr X Q H h
  refine wpAny_mono (snd_boolsE h0 hn s Λ ρ S _ H.lt h) (fun v' s₁ q => ?_) fun _ _ e => e
  obtain ⟨h', tk, Λ', ρ', v, S', rfl, e, x, hv, q⟩ := q
  obtain ⟨b, rfl, q⟩ := isB_inv q
  exact ⟨h', tk, Λ', ρ', .bool b, S', rfl, e, x, hv, q⟩

/-- a plain value as a test -/
noncomputable def plainT : PySem.Expr → Bool
  | .UnaryOp .Not _ _ => false
  | .BoolOp _ _ _ => false
  | .IfExp _ _ _ _ => false
  | .Compare _ _ _ _ => false
  | _ => true
theorem okT_plain {pe : PySem.Expr} {e : E} (hp : plainT pe = true) (he : OkE base ca SE prog w t n sc pe e) (hd : ∀ (fr : Fr) (S : Mine.H) (X : Mine.H → Prop) (Q : Bool → Mine.H → Prop), tst t (n + 1) e fr S X Q → ev t n e fr S X (isB Q)) : OkT base ca SE prog w t (n + 1) sc pe e := by
  intro A env l s Λ ρ S fr X Q H h
  have whole : isTrue pe env (eval pe env) = (do let v ← eval pe env; standAt pe.pos; holding [v] (truthy v)) := by
    cases pe <;> first | rfl | (cases hp; done) | (rename_i op _ _; cases op <;> first | rfl | (cases hp; done))
  refine isTrue_plain (he.use H.lt (hd _ _ _ _ h) fun v' v h₁ t₁ Λ₁ ρ₁ S₁ H₁ ev₁ hv q₁ => ?_) whole
  obtain ⟨b, rfl, q₁⟩ := isB_inv q₁
  cases hv
  exact wpAny_truthy_bool ⟨h₁, t₁, Λ₁, ρ₁, S₁, rfl, ev₁, H₁.x, q₁⟩

theorem attrBase_plain {o : PySem.Expr} {a : Str} {x : Sem Value} (h : plainBase o = true) : attributeBase o a env x = x := by
  cases o with
  | Call f as ks p =>
    cases f with
    | Name _ _ =>
      cases as with
      | cons _ _ => rfl
      | nil => cases ks with
        | cons _ _ => rfl
        | nil => cases h
    | _ => rfl
  | _ => rfl
theorem okE_attr (G : Cx prog w K base ca SE t) {o : PySem.Expr} {o' : E} {a : Str} {k : Nat} {pos : Pos} (hb : plainBase o = true) (ha : find tab.names a = some k) (ho : OkE base ca SE prog w t n sc o o') : OkE base ca SE prog w t (n + 1) sc (.Attribute o a pos) (.attr o' k) := by
  intro A env l s Λ ρ S fr X Q H h
  refine Attribute_any_ (ho.use H.lt h fun v' v h₁ t₁ Λ₁ ρ₁ S₁ H₁ ev₁ hv q₁ => ?_) ?_
  · have := find_nm ha
    subst this
    exact ptV ev₁ (snd_getA G (find_spec ha).1 H₁.x hv q₁)
  · show (do let o_1 ← attributeBase o a env (eval o env); _) = _
    rw [attrBase_plain hb]

theorem okE_idx {o i : PySem.Expr} {o' i' : E} {pos : Pos} (ho : OkE base ca SE prog w t n sc o o') (hi : OkE base ca SE prog w t n sc i i') (hsub : ∀ x y, subscripted i false x y = operate [x, y] (getItem x y)) : OkE base ca SE prog w t (n + 1) sc (.Subscript o i pos) (.idx o' i') := by
  intro A env l s Λ ρ S fr X Q H h
  refine Subscript_ (ho.use H.lt h fun vo' vo h₁ t₁ Λ₁ ρ₁ S₁ H₁ ev₁ v₁ q₁ => ?_)
  refine hi.then ev₁ H₁ q₁ fun vi' vi h₂ t₂ Λ₂ ρ₂ S₂ H₂ ev₂ ev₂' v₂ q₂ => ?_
  obtain ⟨r, r', hq, hr, hT, _, hg⟩ := snd_getI H₂.x (ev₂'.vrel v₁) v₂ q₂
  exact tail_any hT slot_list_getitem.lookup (hg ⟨h₂, t₂, Λ₂, ρ₂, r, S₂, rfl, ev₂, H₂.x, hr, hq⟩) (hsub _ _)

/-- a part of a slice -/
noncomputable def OkO (base : Heap) (ca : Nat → Addr) (SE : Addr) (prog : Program) (w : World) (t : Tb) (n : Nat) (sc : Scope) : Option PySem.Expr → Option E → Prop
  | none, none => True
  | some pe, some e => OkE base ca SE prog w t n sc pe e
  | _, _ => False
noncomputable def ORelV (Λ : Led) (ρ : Rho) (v : Option V) (v' : Value) : Prop := match v with
  | none => v' = .none
  | some x => VRel Λ ρ x v'
theorem ORelV.mono {v : Option V} {v' : Value} (h : ORelV Λ ρ v v') (ev : Evo X0 Λ ρ Λ₁ ρ₁) : ORelV Λ₁ ρ₁ v v' := by
  cases v with
  | none => exact h
  | some x => exact ev.vrel h
theorem snd_part {pe : Option PySem.Expr} {e : Option E} {h₀ : Heap} {t₀ : Nat} (ho : OkO base ca SE prog w t n sc pe e) (ev₀ : Evo X0 Λ ρ Λ₁ ρ₁) (H : At base ca n sc A env l { s with heap := h₀, toks := t₀ } Λ₁ ρ₁ S fr) {Q : Option V → Mine.H → Prop} (hq : evo (fun e S Q => ev t n e fr S X Q) e S Q) {R : Value → Shared → Prop}
    (k : ∀ v' v h₁ t₁ Λ₂ ρ₂ S₁, At base ca n sc A env l { s with heap := h₁, toks := t₁ } Λ₂ ρ₂ S₁ fr → Evo X0 Λ ρ Λ₂ ρ₂ → Evo X0 Λ₁ ρ₁ Λ₂ ρ₂ → ORelV Λ₂ ρ₂ v v' → Q v S₁ → R v' { s with heap := h₁, toks := t₁ }) :
    wpAny (model prog w) A (evalPart pe env) R (PX base ca SE X0 s Λ ρ l X) { s with heap := h₀, toks := t₀ } := by
  cases pe with
  | none =>
    cases e with
    | none => exact wpAny_pure (k .none none h₀ t₀ Λ₁ ρ₁ S H ev₀ .refl0 rfl hq)
    | some e => exact ho.elim
  | some pe =>
    cases e with
    | none => exact ho.elim
    | some e => exact OkE.then (show OkE base ca SE prog w t n sc pe e from ho) ev₀ H hq fun v' v h₁ t₁ Λ₂ ρ₂ S₁ H₁ e1 e2 hv q => k v' (some v) h₁ t₁ Λ₂ ρ₂ S₁ H₁ e1 e2 hv q

theorem okE_slc {o : PySem.Expr} {o' : E} {lo hi : Option PySem.Expr} {lo' hi' : Option E} {p pos : Pos} (ho : OkE base ca SE prog w t n sc o o') (hl : OkO base ca SE prog w t n sc lo lo') (hh : OkO base ca SE prog w t n sc hi hi') :
    OkE base ca SE prog w t (n + 1) sc (.Subscript o (.Slice lo hi none p) pos) (.slc o' lo' hi') := by
  intro A env l s Λ ρ S fr X Q H h
  refine Subscript_ (ho.use H.lt h fun vo' vo h₁ t₁ Λ₁ ρ₁ S₁ H₁ ev₁ v₁ q₁ => ?_)
  refine wpAny_Slice (snd_part hl ev₁ H₁ q₁ fun vl' vl h₂ t₂ Λ₂ ρ₂ S₂ H₂ ev₂ ev₂' v₂ q₂ => snd_part hh ev₂ H₂ q₂ fun vh' vh h₃ t₃ Λ₃ ρ₃ S₃ H₃ ev₃ ev₃' v₃ q₃ => ?_)
  refine wpAny_pure (a := Value.none) ?_
  have x₄ : St8 base ca Λ₃ ρ₃ S₃ (h₃.push { cls := .type "slice", data := .fields #[vl', vh', .none] }) := H₃.x.keeps fun b o e => Heap.get?_push_of_some _ e
  obtain ⟨hT, hg⟩ := snd_getS (prog := prog) (w := w) (A := A) (E := PX base ca SE X0 s Λ ρ l X) (s := { s with heap := h₃.push { cls := .type "slice", data := .fields #[vl', vh', .none] }, toks := t₃ }) (Q := Q) (b := h₃.objs.size) x₄ (ev₃'.vrel (ev₂'.vrel v₁))
    (show ORelV Λ₃ ρ₃ vl vl' from v₂.mono ev₃') (show ORelV Λ₃ ρ₃ vh vh' from v₃) (Heap.IsSliceOf.new _ _ _ _) q₃
  exact tail_any hT slot_list_getitem.lookup (wpAny_mono hg (fun _ _ => PV.trans ev₃) fun _ _ e => e) (ops := [.ref h₃.objs.size, vo']) rfl
end
end Mine
end

section
set_option Elab.async false
set_option autoImplicit false
set_option linter.unusedVariables false
open PySem PySem.W PyProof.Rows
namespace Mine

noncomputable def progName : Str := Str.ofString "PROGRESSIVE"
/-- what is fixed, and the functions and classes of the text -/
structure Cy (prog : Program) (w : World) (K : Frag) (base : Heap) (ca : Nat → Addr) (SE : Addr) (t : Tb) : Prop extends Cx prog w K base ca SE t where
  fns : ∀ k x, tab.fns[k]? = some x → ∃ ps body a, t.fn k = some (ps, body) ∧ nsIn K mainGlobals x = some (some (.ref a)) ∧ FnOk K a ps body
  newc : ∀ k x, tab.cls[k]? = some x → nsIn K mainGlobals x = some (some (.ref (ca k))) ∧ keepIn K (.ref (ca k)) = true
  init : ∀ k, k < tab.cls.length → ∃ ps body a, t.fn (t.init k) = some (ps, body) ∧ findIn K (.ref (ca k)) "__init__" = some (some (.ref a)) ∧ FnOk K a ps body
  mths : ∀ c m f x, t.mth c m = some f → tab.meths[m]? = some x → ∃ ps body a, t.fn f = some (ps, body) ∧ findIn K (.ref (ca c)) x = some (some (.ref a)) ∧ FnOk K a ps body
  prg : ∃ pt u v n d sl, nsIn K mainGlobals progName = some (some (.ref pt)) ∧ K.lookup pt = some ⟨.type "tuple", d, .seq #[.str (sm 2) u, .str (sm 4) v] n, sl⟩

theorem FnOk.typ {K : Frag} {a : Addr} {ps : List Nat} {body : List St} (h : FnOk K a ps body) : typeIn K (.ref a) = some (.type "function") := by
  obtain ⟨_, _, _, _, _, _, _, _, _, _, _, _, _, _, _, _, _, _, _, _, _, _, _, _, h1, _⟩ := h
  exact h1

theorem fns_plain : (tab.fns.all fun x => !(x == ("__debug__" : Str))) = true := by decide +kernel
theorem cls_plain : (tab.cls.all fun x => !(x == ("__debug__" : Str))) = true := by decide +kernel
theorem meths_apart : (tab.meths.all fun x => tab.names.all fun y => !(y == x)) = true := by decide +kernel
theorem blt_spec {x : Str} {b : Blt} (h : bltOf x = some b) : bootBuiltins x = some (bltVal b) ∧ x ≠ "__name__" ∧ (x == ("__debug__" : Str)) = false := by
  obtain rfl := blt_name h
  cases b <;> exact ⟨by decide +kernel, by decide +kernel, by decide +kernel⟩

section
variable {base : Heap} {ca : Nat → Addr} {SE : Addr} {s : Shared} {Λ Λ₁ : Led} {ρ ρ₁ : Rho} {l : List Env} {S : H} {sc : Scope} {env : Env} {fr : Fr} {n m : Nat} {A : Around} {t : Tb}
variable {prog : Program} {w : World} {K : Frag} {M : Model} {X : H → Prop}

theorem okE_neg {i : Int} {k : Nat} {pos pos' : Pos} : OkE base ca SE prog w t (n + 1) sc (.UnaryOp .USub (.Constant (.int i) k pos') pos) (.con (.int (-i))) := by
  intro A env l s Λ ρ S fr X Q H h
  exact UnaryOp_ (wpAny_Constant_int (neg_int (PV.mk' H.x vInt h)))

theorem okE_pow {k k' : Nat} {pos pos' pos'' : Pos} : OkE base ca SE prog w t (n + 1) sc (.BinOp (.Constant (.int 10) k pos') .Pow (.Constant (.int 18) k' pos'') pos) (.con (.int 1000000000000000000)) := by
  intro A env l s Λ ρ S fr X Q H h
  refine wpAny_BinOp (wpAny_Constant_int (wpAny_Constant_int (pow_int (by decide) (by decide +kernel) ?_)))
  have e : (10 : Int) ^ (18 : Int).toNat = 1000000000000000000 := by decide +kernel
  rw [e]
  exact PV.mk' H.x vInt h

/-- a name among the written pair -/
theorem snd_inK (G : Cy prog w K base ca SE t) {k : Nat} {v' : Value} {Q : Value → Shared → Prop} {E : Value → Shared → Prop} {pos : Pos} (ho : EnvOk sc env) (st : St8 base ca Λ ρ S s.heap) (hv : VRel Λ ρ (.str k) v') (hl : sc.names.lookup progName = some .globalImplicit)
    (q : Q (.bool (k == 2 || k == 4)) s) : wpAny (model prog w) A (eval (.Name progName pos) env) (fun b s₂ => wpAny (model prog w) A (compareOp .In v' b) Q E s₂) E s := by
  obtain ⟨pt, u, v, n, d, sl, h1, h2⟩ := G.prg
  refine G.toCx.global ho st.holds.keep h1 hl (by decide +kernel) ?_
  obtain ⟨hk, tk, rfl⟩ := hv
  have ht := (G.toCx.in_ st.holds) _ _ h2
  refine SeqAt.in_tupleAt (fun y => match y with | .str y _ => y == sm k | _ => false) ⟨_, ht, rfl, n, rfl⟩ (fun y hy => ?_) ?_
  · simp only [List.mem_toArray, List.mem_cons, List.not_mem_nil, or_false] at hy
    rcases hy with rfl | rfl
    · exact SeqAt.EqAt.str_str _ _ _ _
    · exact SeqAt.EqAt.str_str _ _ _ _
  · have e : (#[Value.str (sm 2) u, Value.str (sm 4) v].any fun y => match y with | .str y _ => y == sm k | _ => false) = (k == 2 || k == 4) := by
      simp only [List.any_toArray, List.any_cons, List.any_nil, Bool.or_false]
      rw [sm_eq 2 (by decide) k hk, sm_eq 4 (by decide) k hk]
      congr 1 <;> exact Bool.beq_comm ..
    rw [e]; exact q

noncomputable def isSt (Q : V → H → Prop) (v : V) (S : H) : Prop := match v with
  | .str k => Q (.bool (k == 2 || k == 4)) S
  | _ => False
theorem isSt_inv {Q : V → H → Prop} {v : V} (h : isSt Q v S) : ∃ k, v = .str k ∧ Q (.bool (k == 2 || k == 4)) S := by
  cases v <;> first | exact ⟨_, rfl, h⟩ | exact h.elim

theorem okE_inK (G : Cy prog w K base ca SE t) {a : PySem.Expr} {a' : E} {pos pos' : Pos} (ha : OkE base ca SE prog w t n sc a a') (hl : sc.names.lookup progName = some .globalImplicit) : OkE base ca SE prog w t (n + 1) sc (.Compare a [.In] [.Name progName pos'] pos) (.inK a') := by
  intro A env l s Λ ρ S fr X Q H h
  refine wpAny_Compare1 (ha.use H.lt (Q := isSt Q) h fun v' v h₁ t₁ Λ₁ ρ₁ S₁ H₁ ev₁ hv q₁ => ?_)
  obtain ⟨k, rfl, q₂⟩ := isSt_inv q₁
  exact snd_inK G H₁.e H₁.x hv hl ⟨h₁, t₁, Λ₁, ρ₁, .bool _, S₁, rfl, ev₁, H₁.x, rfl, q₂⟩
theorem okT_inK (G : Cy prog w K base ca SE t) {a : PySem.Expr} {a' : E} {pos pos' : Pos} (ha : OkE base ca SE prog w t n sc a a') (hl : sc.names.lookup progName = some .globalImplicit) : OkT base ca SE prog w t (n + 2) sc (.Compare a [.In] [.Name progName pos'] pos) (.inK a') := by
  intro A env l s Λ ρ S fr X Q H h
  refine wpAny_isTrue_Compare1 (ha.use H.lt.lt (Q := isSt (isB Q)) h fun v' v h₁ t₁ Λ₁ ρ₁ S₁ H₁ ev₁ hv q₁ => ?_)
  obtain ⟨k, rfl, q₂⟩ := isSt_inv q₁
  exact snd_inK G H₁.e H₁.x hv hl (wpAny_truthy_bool ⟨h₁, t₁, Λ₁, ρ₁, S₁, rfl, ev₁, H₁.x, q₂⟩)

/-- the arguments of a call -/
theorem args_plain {pos : Pos} {pes : List PySem.Expr} {es : List E} (h : OkEs base ca SE prog w t n sc pes es) : (backTo pos (starEach pes env)).any (·.1) = false := by
  induction h with
  | nil => rfl
  | cons h1 _ ih => rw [starEach_plain h1.2]; exact ih
theorem snd_args {pos : Pos} {f : Value} {pes : List PySem.Expr} {es : List E} (h0 : OkEs base ca SE prog w t n sc pes es) (H : At base ca n sc A env l s Λ ρ S fr) {Q : List V → Mine.H → Prop} (h : evs (fun e S Q => ev t n e fr S X Q) es S Q) {R : Args → Shared → Prop}
    (k : ∀ vs' s₁, PVs base ca s Λ ρ Q vs' s₁ → R ⟨vs', []⟩ s₁) :
    wpAny (model prog w) A (evalArgs f true (backTo pos (starEach pes env)) []) R (PX base ca SE X0 s Λ ρ l X) s := by
  have h1 := snd_evs (pos := pos) pes es h0 s Λ ρ S Q H h
  cases h0 with
  | nil => 
    exact evalArgs_nil3 (k [] s ⟨s.heap, s.toks, Λ, ρ, [], S, rfl, .refl0, H.x, .nil, h⟩)
  | cons h2 hr =>
    rw [starEach_plain h2.2] at h1 ⊢
    exact Calls.evalArgs_plain (wpAny_mono h1 k fun _ _ e => e)

theorem snd_callWith {pos : Pos} {f : Value} {first : List Value} {pes : List PySem.Expr} {es : List E} (hk : ∀ h : Heap, (∀ b o, base.get? b = some o → h.get? b = some o) → ∃ k, (k = Keeper.frame ∨ k = Keeper.machine ∨ k = Keeper.boundFrame) ∧ Looks (model prog w) h (keeperOf f) k)
    (h0 : OkEs base ca SE prog w t n sc pes es) {h₀ : Heap} {t₀ : Nat} (ev₀ : Evo X0 Λ ρ Λ₁ ρ₁) (H : At base ca n sc A env l { s with heap := h₀, toks := t₀ } Λ₁ ρ₁ S fr) {Q : List V → Mine.H → Prop} (h : evs (fun e S Q => ev t n e fr S X Q) es S Q) {R : Value → Shared → Prop}
    (k : ∀ vs' vs h₁ t₁ Λ₂ ρ₂ S₁, At base ca n sc A env l { s with heap := h₁, toks := t₁ } Λ₂ ρ₂ S₁ fr → Evo X0 Λ ρ Λ₂ ρ₂ → Evo X0 Λ₁ ρ₁ Λ₂ ρ₂ → Each (VRel Λ₂ ρ₂) vs vs' → Q vs S₁ →
      wpAny (model prog w) A (call f (first ++ vs')) R (PX base ca SE X0 s Λ ρ l X) { s with heap := h₁, toks := t₁ }) :
    wpAny (model prog w) A (callWith pos f first (backTo pos (starEach pes env)) []) R (PX base ca SE X0 s Λ ρ l X) { s with heap := h₀, toks := t₀ } := by
  refine callWith_of (P := fun h => ∀ b o, base.get? b = some o → h.get? b = some o) (by rw [args_plain h0]; rfl) hk ?_
  refine wpAny_mono (snd_args h0 H h (R := fun a s₁ => (∀ b o, base.get? b = some o → s₁.heap.get? b = some o) ∧ wpAny (model prog w) A (call f (first ++ a.pos) a.kw) R (PX base ca SE X0 s Λ ρ l X) s₁) fun vs' s₁ q => ?_) (fun _ _ e => e) fun _ _ => PX.trans ev₀
  obtain ⟨h', tk, Λ', ρ', vs, S', rfl, e, x, hv, q⟩ := q
  exact ⟨x.holds.keep, k vs' vs h' tk Λ' ρ' S' (H.step e x) (ev₀.trans0 e) e hv q⟩

theorem keeper_blt (b : Blt) (h : Heap) : ∃ k, (k = Keeper.frame ∨ k = Keeper.machine ∨ k = Keeper.boundFrame) ∧ Looks (model prog w) h (keeperOf (bltVal b)) k :=
  ⟨.machine, .inr (.inl rfl), by cases b <;> exact Looks.of_pure rfl⟩

theorem okE_blt (G : Cy prog w K base ca SE t) {x : Str} {b : Blt} {pes : List PySem.Expr} {es : List E} {pos pos' : Pos} (hl : sc.names.lookup x = some .globalImplicit) (hx : bltOf x = some b) (h0 : OkEs base ca SE prog w t n sc pes es) :
    OkE base ca SE prog w t (n + 1) sc (.Call (.Name x pos') pes [] pos) (.blt b es) := by
  intro A env l s Λ ρ S fr X Q H h
  obtain ⟨b1, b2, b3⟩ := blt_spec hx
  refine wpAny_Call_ofName (G.toCx.builtin H.e H.x.holds.keep (G.blts x b hx) b1 b2 hl b3 ?_)
  refine snd_callWith (Λ₁ := Λ) (ρ₁ := ρ) (S := S) (h₀ := s.heap) (t₀ := s.toks) (fun h _ => keeper_blt b h) h0 .refl0 H.lt h fun vs' vs h₁ t₁ Λ₂ ρ₂ S₁ H₁ ev₁ _ hv q => ?_
  exact ptV ev₁ (snd_blt H₁.x hv H₁.a.handled q)

theorem keeper_K (G : Cy prog w K base ca SE t) {a : Addr} (hk : keepIn K (.ref a) = true) (h : Heap) (hb : ∀ b o, base.get? b = some o → h.get? b = some o) : ∃ k, (k = Keeper.frame ∨ k = Keeper.machine ∨ k = Keeper.boundFrame) ∧ Looks (model prog w) h (keeperOf (.ref a)) k :=
  keeps_K hk h (G.X.keeps hb)

/-- the call itself -/
theorem snd_callV (hX : SndX base ca SE prog w t n) (G : Cy prog w K base ca SE t) {a : Addr} {ps : List Nat} {body : List St} (hfn : FnOk K a ps body) (H : At base ca (n + 1) sc A env l s Λ ρ S fr)
    {vs : List V} {vs' : List Value} (hv : Each (VRel Λ ρ) vs vs') (hlen : ps.length = vs.length) {Q : V → Mine.H → Prop}
    (h : exs (fun s fr S Q => ex t n s fr S X Q) body (bind0 ps vs) S (fin Q)) : wpAny (model prog w) A (call (.ref a) vs') (PV base ca s Λ ρ Q) (PX base ca SE X0 s Λ ρ l X) s :=
  wpAny_call (codeAny_mono (snd_callF hX G.toCx hfn H.a.handled H.a.frames (by have := H.a.depth; lia) (by have := H.a.units; lia) H.k H.x hv hlen h) fun r s' q => by
    cases r with
    | error e => exact q
    | ok f => cases f <;> exact q)

theorem okE_call (hX : SndX base ca SE prog w t n) (G : Cy prog w K base ca SE t) {x : Str} {k : Nat} {pes : List PySem.Expr} {es : List E} {pos pos' : Pos} (hl : sc.names.lookup x = some .globalImplicit) (hx : find tab.fns x = some k) (h0 : OkEs base ca SE prog w t n sc pes es) :
    OkE base ca SE prog w t (n + 1) sc (.Call (.Name x pos') pes [] pos) (.call k es) := by
  intro A env l s Λ ρ S fr X Q H h
  obtain ⟨hlt, hi⟩ := find_spec hx
  have hd : (x == ("__debug__" : Str)) = false := by
    have := List.all_eq_true.mp fns_plain x (List.mem_of_getElem? hi)
    simpa using this
  obtain ⟨ps, body, a, hfn, h1, h2⟩ := G.fns k x hi
  have h : evs (fun e S Q => ev t n e fr S X Q) es S fun vs S1 => (match t.fn k with
    | some (ps, body) => ps.length = vs.length ∧ exs (fun s fr S Q => ex t n s fr S X Q) body (bind0 ps vs) S1 (fin Q)
    | none => False) := h
  rw [hfn] at h
  refine wpAny_Call_ofName (G.toCx.global H.e H.x.holds.keep h1 hl hd ?_)
  refine snd_callWith (Λ₁ := Λ) (ρ₁ := ρ) (S := S) (h₀ := s.heap) (t₀ := s.toks) (keeper_K G h2.in_) h0 .refl0 H.lt h fun vs' vs h₁ t₁ Λ₂ ρ₂ S₁ H₁ ev₁ _ hv q => ?_
  exact ptV ev₁ (snd_callV hX G h2 (H.step ev₁ H₁.x) hv q.1 q.2)

theorem lastArg_eq {o : PySem.Expr} {name : Str} {apos pos : Pos} {args : List PySem.Expr} {pl : Sem Bool} (hb : plainBase o = true) (hp : (apos.endLine == pos.line) = true) (hn : args.length < 30) (ha : (backTo pos (starEach args env)).any (·.1) = false) :
    eval (.Call (.Attribute o name apos) args [] pos) env = (do
      let ov ← eval o env
      standAt apos.atName
      let (f, first) ← holding [ov] (getMethod ov name (do return (← importBound o env).getD true))
      callWith pos f first (backTo pos (starEach args env)) []) := by
  show (do
    let ov ← attributeBase o name env (eval o env)
    standAt apos.atName
    methodCall o name apos pos env ov (args.length + 0) (backTo pos (starEach args env)) []) = _
  rw [attrBase_plain hb]
  have hform : methodCallForm (args.length + 0) (backTo pos (starEach args env)) [] = true := by
    unfold methodCallForm
    have : (backTo pos (starEach args env)).all (!·.1) = true := by
      rw [List.all_eq_true]
      intro x hx
      have := List.any_eq_false.mp ha x hx
      simpa using this
    rw [this]
    simp
    lia
  unfold methodCall methodCallPos calleeOf
  rw [hform]
  simp only [Bool.not_true, Bool.false_or, hp, if_true]
  rfl

theorem okE_meth (hX : SndX base ca SE prog w t n) (G : Cy prog w K base ca SE t) {o : PySem.Expr} {o' : E} {x : Str} {k : Nat} {pes : List PySem.Expr} {es : List E} {pos apos : Pos} (hb : plainBase o = true) (hp : (apos.endLine == pos.line) = true) (hn : pes.length < 30)
    (hx : find tab.meths x = some k) (ho : OkE base ca SE prog w t n sc o o') (h0 : OkEs base ca SE prog w t n sc pes es) : OkE base ca SE prog w t (n + 1) sc (.Call (.Attribute o x apos) pes [] pos) (.meth o' k es) := by
  intro A env l s Λ ρ S fr X Q H h
  obtain ⟨hlt, hi⟩ := find_spec hx
  refine MethodCall_ (ho.use H.lt h fun v' v h₁ t₁ Λ₁ ρ₁ S₁ H₁ ev₁ hv q₁ => ?_) (lastArg_eq (pl := pure true) hb hp hn (args_plain h0))
  cases v with
  | ref i =>
    simp only at q₁
    obtain ⟨c, hc, rfl⟩ := hv
    split at q₁
    · rename_i cl as e1
      obtain ⟨c', es', nn, hc', hcl, k1, k2, k3, I⟩ := H₁.x.inst e1
      rw [hc] at hc'; cases hc'
      obtain ⟨g1, g2, _, _, _⟩ := G.cls cl hcl
      split at q₁
      · rename_i f hm
        obtain ⟨ps, body, a, hfn, m1, m2⟩ := G.mths cl k f x hm hi
        simp only [hfn] at q₁
        have hsh : shadowIn (some (dictOf es' nn)) x = some false := by
          show (lookIn x (dictOf es' nn)).map (·.isSome) = _
          rw [lookIn_dict]
          have hne : ∀ (as : List (Nat × V)) (es : List DictEntry), Each (ARel Λ₁ ρ₁) as es → getL x es = some none := by
            intro as es h
            have : es.find? (·.key.isStr x) = none := by
              induction h with
              | nil => rfl
              | @cons p e _ _ hh _ ih =>
                obtain ⟨h4, ⟨u, h5⟩, _⟩ := hh
                rw [List.find?_cons]
                have : e.key.isStr x = false := by
                  rw [h5]
                  show (nm p.1 == x) = false
                  have := List.all_eq_true.mp (List.all_eq_true.mp meths_apart x (List.mem_of_getElem? hi)) _ (nm_mem h4)
                  simpa using this
                rw [this]; exact ih
            unfold getL
            rw [this]
            simp only [f2_noRef h, Bool.false_eq_true, if_false]
          rw [hne _ _ k3]; rfl
        refine method_fn (G.toCx.in_ H₁.x.holds) I (plainGet_of g2).1 (plainGet_of g2).2 m1 m2.typ hsh ?_
        refine snd_callWith (keeper_K G m2.in_) h0 ev₁ H₁ q₁ fun vs' vs h₂ t₂ Λ₂ ρ₂ S₂ H₂ ev₂ ev₂' hv q => ?_
        exact ptV ev₂ (snd_callV hX G m2 (vs := .ref i :: vs) (H.step ev₂ H₂.x) (.cons ⟨c, ev₂'.get hc, rfl⟩ hv) (by simp [q.1]) q.2)
      · exact q₁.elim
    · exact q₁.elim
  | _ => exact q₁.elim

theorem okE_app {o a : PySem.Expr} {o' a' : E} {pos apos : Pos} (hb : plainBase o = true) (hp : (apos.endLine == pos.line) = true) (ho : OkE base ca SE prog w t n sc o o') (ha : OkE base ca SE prog w t n sc a a') (hpl : plainE a = true) :
    OkE base ca SE prog w t (n + 1) sc (.Call (.Attribute o ("append" : Str) apos) [a] [] pos) (.app o' a') := by
  intro A env l s Λ ρ S fr X Q H h
  have h0 : OkEs base ca SE prog w t n sc [a] [a'] := .cons ⟨ha, hpl⟩ .nil
  refine MethodCall_ (ho.use H.lt h fun v' v h₁ t₁ Λ₁ ρ₁ S₁ H₁ ev₁ hv q₁ => ?_) (lastArg_eq (pl := pure true) hb hp (by simp) (args_plain h0))
  cases v with
  | ref i =>
    simp only at q₁
    obtain ⟨c, hc, rfl⟩ := hv
    split at q₁
    · rename_i vs e1
      obtain ⟨c', vs', hc', k1, k2, _⟩ := H₁.x.list e1
      rw [hc] at hc'; cases hc'
      have hl := H₁.x.holds.plist k1
      obtain ⟨nn, hg⟩ := id hl
      refine getMethod_builtin hl.isList.typeIs PySem.F.plainAttrs_list PySem.F.slot_list_append PySem.F.type_list_append (fun a e => by cases e; exact ⟨_, hg, rfl⟩) ?_
      refine snd_callWith (f := .builtin "list.append") (first := [.ref c.1]) (es := [a']) (fun h _ => ⟨.machine, .inr (.inl rfl), Looks.of_pure rfl⟩) h0 ev₁ H₁ (Q := fun vs S2 => match vs with | [y] => appD i y S2 fun S3 => Q .none S3 | _ => False) q₁ fun vs' vs h₂ t₂ Λ₂ ρ₂ S₂ H₂ ev₂ ev₂' hv q => ?_
      match vs, hv, q with
      | [y], hv, q =>
        cases hv with
        | cons hy hr =>
          cases hr
          refine wpAny_mono (snd_app H₂.x (ev₂'.get hc) hy q) (fun r s₃ p => ?_) fun _ _ e => e
          obtain ⟨rfl, h', tk, Λ', ρ', S', rfl, e, x, q⟩ := p
          exact ⟨h', tk, Λ', ρ', .none, S', rfl, ev₂.trans0 e, x, rfl, q⟩
    · exact q₁.elim
  | _ => exact q₁.elim
end
end Mine
end

section
set_option Elab.async false
set_option autoImplicit false
set_option linter.unusedVariables false
open PySem PySem.W PyProof.Rows
namespace Mine
theorem tc_weight (args : Args) : (Code.builtin "type.__call__" args).weight ≤ 1 := by
  have h1 : (Code.builtin "type.__call__" args).frames = 0 := by kernel_rfl
  have h2 : (Code.builtin "type.__call__" args).isGuard = false := by kernel_rfl
  have h3 : (Code.builtin "type.__call__" args).isCaller = false := by kernel_rfl
  unfold Code.weight
  rw [h1, h2, h3]
  split <;> decide
theorem tc_units (args : Args) : (Code.builtin "type.__call__" args).cUnits = 1 := by kernel_rfl
theorem tc_envs (args : Args) : (Code.builtin "type.__call__" args).envs = [] := by kernel_rfl

section
variable {base : Heap} {ca : Nat → Addr} {SE : Addr} {s : Shared} {Λ Λ₁ : Led} {ρ ρ₁ : Rho} {l : List Env} {S : H} {sc : Scope} {env : Env} {fr : Fr} {n m : Nat} {A : Around} {t : Tb}
variable {prog : Program} {w : World} {K : Frag} {M : Model} {X : H → Prop}

theorem okE_new (hX : SndX base ca SE prog w t n) (G : Cy prog w K base ca SE t) {x : Str} {k : Nat} {pes : List PySem.Expr} {es : List E} {pos pos' : Pos} (hl : sc.names.lookup x = some .globalImplicit) (hx : find tab.cls x = some k) (h0 : OkEs base ca SE prog w t n sc pes es) :
    OkE base ca SE prog w t (n + 1) sc (.Call (.Name x pos') pes [] pos) (.new k es) := by
  intro A env l s Λ ρ S fr X Q H h
  obtain ⟨hlt, hi⟩ := find_spec hx
  have hd : (x == ("__debug__" : Str)) = false := by
    have := List.all_eq_true.mp cls_plain x (List.mem_of_getElem? hi)
    simpa using this
  obtain ⟨h1, h2⟩ := G.newc k x hi
  obtain ⟨ps, body, a, hfn, h3, h4⟩ := G.init k hlt
  have h : evs (fun e S Q => ev t n e fr S X Q) es S fun vs S1 => (match t.fn (t.init k) with
    | some (ps, body) => ps.length = vs.length + 1 ∧ exs (fun s fr S Q => ex t n s fr S F0 Q) body (bind0 ps (.ref S1.length :: vs)) (S1 ++ [.inst k []]) (fin fun r S2 => r = .none ∧ Q (.ref S1.length) S2)
    | none => False) := h
  rw [hfn] at h
  refine wpAny_Call_ofName (G.toCx.global H.e H.x.holds.keep h1 hl hd ?_)
  refine snd_callWith (Λ₁ := Λ) (ρ₁ := ρ) (S := S) (h₀ := s.heap) (t₀ := s.toks) (keeper_K G h2) h0 .refl0 H.lt h fun vs' vs h₁ t₁ Λ₂ ρ₂ S₁ H₁ ev₁ _ hv q => ?_
  refine ptV ev₁ (wpAny_call ?_)
  obtain ⟨q1, q2⟩ := q
  have Xh := G.toCx.in_ H₁.x.holds
  refine make_core (makes_of Xh (G.cls k hlt).2.2.2.2) (looks_findIn Xh h3) (fun self => bind_fn Xh self h4.typ) (.inl rfl) ?_
  have hsz : (h₁.push emptyDict).objs.size = h₁.objs.size + 1 := Heap.size_push ..
  have k' : ∀ b o, h₁.get? b = some o → ((h₁.push emptyDict).push (instObj (ca k) h₁.objs.size)).get? b = some o := fun b o e => Heap.get?_push_of_some _ (Heap.get?_push_of_some _ e)
  have fresh : ∀ a, h₁.objs.size ≤ a → h₁.get? a = none := fun a ha => by
    cases e : h₁.get? a with
    | none => rfl
    | some o => exact absurd (Heap.lt_size e) (Nat.not_lt.mpr ha)
  have ga : ((h₁.push emptyDict).push (instObj (ca k) h₁.objs.size)).get? (h₁.objs.size + 1) = some (instObj (ca k) h₁.objs.size) := by rw [← hsz]; exact Heap.get?_push_size _ rfl
  have gd : ((h₁.push emptyDict).push (instObj (ca k) h₁.objs.size)).get? h₁.objs.size = some (dictOf [] 0) := Heap.get?_push_of_some _ (Heap.get?_push_size _ rfl)
  obtain ⟨Λ₃, x₃, ev₃, hr⟩ := H₁.x.newInst (a := h₁.objs.size + 1) (d := h₁.objs.size) hlt (fresh _ (Nat.le_succ _)) (fresh _ (Nat.le_refl _)) (Nat.succ_ne_self _) k' ga gd
  refine codeAny_mono (snd_callF (A := A.under (.builtin "type.__call__" ⟨.ref (ca k) :: vs', []⟩)) (l := l) (s := { s with heap := (h₁.push emptyDict).push (instObj (ca k) h₁.objs.size), toks := t₁ }) (S := S₁ ++ [.inst k []])
    (vs := .ref S₁.length :: vs) (vs' := .ref (h₁.objs.size + 1) :: vs') (Qx := F0) hX G.toCx h4 H.a.handled ?_ ?_ ?_ (H₁.k.mono ev₃) x₃ (.cons hr (ev₃.vrels hv)) (by simp [q1]) q2) fun r s' q => ?_
  · exact H.a.frames
  · show A.depth + (Code.builtin "type.__call__" _).weight + 3 * n + 6 < 1000
    have := tc_weight ⟨.ref (ca k) :: vs', []⟩; have := H.a.depth; lia
  · show A.units + (Code.builtin "type.__call__" _).cUnits + 6 * n + 103 < 9900
    rw [tc_units]; have := H.a.units; lia
  · cases r with
    | error e =>
      obtain ⟨_, _, _, _, _, _, _, _, _, _, _, hF⟩ := q
      exact hF.elim
    | ok f =>
      cases f with
      | ret v =>
        obtain ⟨h', tk, Λ', ρ', v, S', rfl, e, x, hv', rfl, q⟩ := q
        cases hv'
        exact ⟨rfl, h', tk, Λ', ρ', .ref S₁.length, S', rfl, ev₃.trans0 e, x, e.vrel hr, q⟩
      | next => exact q
      | brk => exact q
      | cont => exact q
end
end Mine
end

section
set_option Elab.async false
set_option autoImplicit false
set_option linter.unusedVariables false
open PySem PySem.W PyProof.Rows
namespace Mine
section
variable {X : Addr → Prop} {Λ Λ₀ Λ' : Led} {ρ ρ₀ ρ' : Rho} {ca : Nat → Addr} {S : H} {base h h' : Heap}
theorem Evo.putNew (ev : Evo X Λ₀ ρ₀ Λ ρ) {a : Addr} {sp : Spec} (h0 : Λ₀ a = none) : Evo X Λ₀ ρ₀ (Λ.put a sp) ρ := by
  have ne : ∀ b sp', Λ₀ b = some sp' → b ≠ a := by rintro b sp' e rfl; rw [h0] at e; cases e
  refine ⟨ev.pre, fun b sp' e m n => ?_, fun b hx ⟨m, e⟩ => ?_, fun b hx ⟨m, e⟩ => ?_, ev.z⟩
  · rw [Led.put_ne (ne _ _ e)]; exact ev.pres b sp' e m n
  · obtain ⟨m', e'⟩ := ev.x b hx ⟨m, e⟩; exact ⟨m', by rw [Led.put_ne (ne _ _ e)]; exact e'⟩
  · obtain ⟨m', e'⟩ := ev.y b hx ⟨m, e⟩; exact ⟨m', by rw [Led.put_ne (ne _ _ e)]; exact e'⟩
theorem Led.del_ne {a b : Addr} (hb : b ≠ a) : Λ.del a b = Λ b := by unfold Led.del; rw [if_neg hb]
theorem Evo.delNew (ev : Evo X Λ₀ ρ₀ Λ ρ) {a : Addr} (h0 : Λ₀ a = none) : Evo X Λ₀ ρ₀ (Λ.del a) ρ := by
  have ne : ∀ b sp', Λ₀ b = some sp' → b ≠ a := by rintro b sp' e rfl; rw [h0] at e; cases e
  refine ⟨ev.pre, fun b sp' e m n => ?_, fun b hx ⟨m, e⟩ => ?_, fun b hx ⟨m, e⟩ => ?_, ev.z⟩
  · rw [Led.del_ne (ne _ _ e)]; exact ev.pres b sp' e m n
  · obtain ⟨m', e'⟩ := ev.x b hx ⟨m, e⟩; exact ⟨m', by rw [Led.del_ne (ne _ _ e)]; exact e'⟩
  · obtain ⟨m', e'⟩ := ev.y b hx ⟨m, e⟩; exact ⟨m', by rw [Led.del_ne (ne _ _ e)]; exact e'⟩
/-- neither of the abstract heap's, nor named by a value -/
noncomputable def Spec.side : Spec → Prop
  | .ns _ | .cell _ | .iter _ => True
  | _ => False
theorem side_h0 {a : Addr} (h0 : ∀ sp', Λ a = some sp' → sp'.side) : ∀ sp', Λ a = some sp' → sp'.mut = false ∧ (∀ C d, sp' ≠ .inst C d) ∧ (∀ o, sp' ≠ .exact o) ∧ (∀ o, sp' ≠ .arg o) := by
  intro sp e
  have := h0 sp e
  cases sp <;> first | exact this.elim | exact ⟨rfl, fun _ _ h => (by cases h), fun _ h => (by cases h), fun _ h => (by cases h)⟩
theorem Rel.putSide (r : Rel ca Λ ρ S) {a : Addr} {sp : Spec} (h0 : ∀ sp', Λ a = some sp' → sp'.side) : Rel ca (Λ.put a sp) ρ S := r.putOther (side_h0 h0)
theorem Rel.del (r : Rel ca Λ ρ S) {a : Addr} (h0 : ∀ sp', Λ a = some sp' → sp'.side) : Rel ca (Λ.del a) ρ S := by
  have ne : ∀ b sp, Λ b = some sp → ¬ sp.side → Λ.del a b = some sp := fun b sp e hs => by
    rw [Led.del_ne (by rintro rfl; exact hs (h0 _ e))]; exact e
  have vm : ∀ v v', VRel Λ ρ v v' → VRel (Λ.del a) ρ v v' := by
    intro v v' hv
    cases v with
    | rng lo hi st => obtain ⟨q, t, u, w, h1, h2⟩ := hv; exact ⟨q, t, u, w, h1, ne _ _ h2 id⟩
    | _ => exact hv
  refine ⟨r.len, fun i o e => ?_, r.inj1, r.inj2⟩
  obtain ⟨c, hc, ho⟩ := r.objs i o e
  refine ⟨c, hc, ?_⟩
  cases o with
  | list vs => obtain ⟨vs', h1, h2, h3⟩ := ho; exact ⟨vs', ne _ _ h1 id, h2.mono vm, h3⟩
  | arg vs => obtain ⟨vs', h1, h2, h3⟩ := ho; exact ⟨vs', ne _ _ h1 id, h2.mono vm, h3⟩
  | inst k as => obtain ⟨hk, es, h1, h2, h3⟩ := ho; exact ⟨hk, es, ne _ _ h1 id, ne _ _ h2 id, h3.mono fun p e ⟨h4, h5, h6⟩ => ⟨h4, h5, vm _ _ h6⟩⟩
theorem Holds.drop (x : Holds base h Λ) {a : Addr} {sp : Spec} (e : Λ a = some sp) (k : Heap.ExtBut a h h') : Holds base h' (Λ.del a) := by
  refine ⟨fun b o eb => k b o ?_ (x.keep b o eb), fun b sp' e' => ?_, fun b sp' e' => ?_⟩
  · rintro rfl; rw [x.new _ _ e] at eb; cases eb
  · by_cases hb : b = a
    · subst hb; unfold Led.del at e'; rw [if_pos rfl] at e'; cases e'
    · rw [Led.del_ne hb] at e'
      obtain ⟨o, ho, hs⟩ := x.at_ b sp' e'
      exact ⟨o, k b o hb ho, hs⟩
  · by_cases hb : b = a
    · subst hb; exact x.new _ _ e
    · rw [Led.del_ne hb] at e'; exact x.new _ _ e'
/-- an entry of the side turns -/
theorem St8.side (x : St8 base ca Λ ρ S h) {a : Addr} {sp sp' : Spec} (e : Λ a = some sp) (hs : sp.side) (k : Heap.ExtBut a h h') (hn : ∃ o, h'.get? a = some o ∧ sp'.ok o) : St8 base ca (Λ.put a sp') ρ S h' :=
  ⟨x.holds.upd e k hn, x.rel.putSide fun sp'' e' => by rw [e] at e'; cases e'; exact hs⟩
theorem St8.sideDrop (x : St8 base ca Λ ρ S h) {a : Addr} {sp : Spec} (e : Λ a = some sp) (hs : sp.side) (k : Heap.ExtBut a h h') : St8 base ca (Λ.del a) ρ S h' :=
  ⟨x.holds.drop e k, x.rel.del fun sp'' e' => by rw [e] at e'; cases e'; exact hs⟩
theorem St8.sideNew (x : St8 base ca Λ ρ S h) {a : Addr} {sp' : Spec} (hf : h.get? a = none) (k : ∀ b o, h.get? b = some o → h'.get? b = some o) (hn : ∃ o, h'.get? a = some o ∧ sp'.ok o) : St8 base ca (Λ.put a sp') ρ S h' :=
  ⟨x.holds.add hf k hn, x.rel.putSide fun sp'' e' => by rw [x.holds.led_none hf] at e'; cases e'⟩
/-- an entry of the side turns: no value is touched -/
theorem vrel_side {a : Addr} {sp sp' : Spec} (e : Λ a = some sp) (hs : sp.side) {v : V} {v' : Value} (hv : VRel Λ ρ v v') : VRel (Λ.put a sp') ρ v v' := by
  cases v with
  | rng lo hi st =>
    obtain ⟨q, t, u, w, h1, h2⟩ := hv
    exact ⟨q, t, u, w, h1, by rw [Led.put_ne (by rintro rfl; rw [e] at h2; cases h2; exact hs)]; exact h2⟩
  | _ => exact hv
theorem vrel_sideDel {a : Addr} {sp : Spec} (e : Λ a = some sp) (hs : sp.side) {v : V} {v' : Value} (hv : VRel Λ ρ v v') : VRel (Λ.del a) ρ v v' := by
  cases v with
  | rng lo hi st =>
    obtain ⟨q, t, u, w, h1, h2⟩ := hv
    exact ⟨q, t, u, w, h1, by rw [Led.del_ne (by rintro rfl; rw [e] at h2; cases h2; exact hs)]; exact h2⟩
  | _ => exact hv

/-- an iterator over a value, i items on -/
noncomputable def ItAt (ρ : Rho) (i : Nat) (o : Obj) : V → Prop
  | .ref k => ∃ c, ρ[k]? = some c ∧ o.cls = .type "list_iterator" ∧ o.data = .fields #[.ref c.1, .int i 0]
  | .rng lo hi st => (st = 1 ∨ st = -1) ∧ o = { cls := .type "range_iterator", dict := none, data := .fields #[rawInt (lo + st * i), rawInt ((rngLen lo hi st : Int) - i), rawInt st], slots := #[] }
  | _ => False
theorem ItAt.mono {i : Nat} {o : Obj} {v : V} (h : ItAt ρ i o v) (ev : Evo X Λ ρ Λ' ρ') : ItAt ρ' i o v := by
  cases v with
  | ref k => obtain ⟨c, h1, h2⟩ := h; exact ⟨c, ev.get h1, h2⟩
  | rng lo hi st => exact h
  | _ => exact h

theorem rangeSize_neg (lo hi : Int) : Builtin.Range.rangeSize lo hi (-1) = (rngLen lo hi (-1) : Int) := by
  unfold Builtin.Range.rangeSize rngLen
  simp only [show ¬ ((-1 : Int) > 0) by decide, if_false, show ¬ ((-1 : Int) = 1) by decide, Int.neg_neg, Int.ediv_one]
  split <;> lia
theorem fitsL {a : Int} (h : a.natAbs ≤ 4000000) : Builtin.Range.rangeFitsLong a = true := by
  unfold Builtin.Range.rangeFitsLong
  simp only [Bool.and_eq_true, decide_eq_true_eq]
  lia
theorem tn (a : Int) : a.toNat ≤ a.natAbs := by lia
theorem rl {lo hi st : Int} (h1 : lo.natAbs ≤ 1000000) (h2 : hi.natAbs ≤ 1000000) : (rngLen lo hi st : Int).natAbs ≤ 4000000 := by
  rw [Int.natAbs_natCast]
  unfold rngLen
  split <;> refine Nat.le_trans (tn _) (Nat.le_trans (Int.natAbs_sub_le _ _) (Nat.le_trans (Nat.add_le_add ?_ ?_) (Nat.le_of_ble_eq_true rfl : 1000000 + 1000000 ≤ 4000000))) <;> assumption
theorem rq {hi d : Int} (h2 : hi.natAbs ≤ 1000000) (h : d.natAbs ≤ 2) : Builtin.Range.rangeFitsLong (hi + d) = true := fitsL (Nat.le_trans (Int.natAbs_add_le _ _) (Nat.le_trans (Nat.add_le_add h2 h) (Nat.le_of_ble_eq_true rfl : 1000000 + 2 ≤ 4000000)))
theorem small_st {lo hi st : Int} (h1 : lo.natAbs ≤ 1000000) (h2 : hi.natAbs ≤ 1000000) (hs : st = 1 ∨ st = -1) : Builtin.Range.small lo hi st = true ∧ Builtin.Range.rangeSize lo hi st = (rngLen lo hi st : Int) := by
  have hr : Builtin.Range.rangeSize lo hi st = (rngLen lo hi st : Int) := by
    rcases hs with rfl | rfl
    · exact rngLen_size
    · exact rangeSize_neg lo hi
  refine ⟨?_, hr⟩
  unfold Builtin.Range.small
  rw [hr, fitsL (a := lo) (Nat.le_trans h1 (Nat.le_of_ble_eq_true rfl)), fitsL (a := hi) (Nat.le_trans h2 (Nat.le_of_ble_eq_true rfl)), fitsL (rl h1 h2)]
  rcases hs with rfl | rfl
  · rw [fitsL (a := 1) (by decide), rq h2 (d := 1 - 1) (by decide), rq h2 (d := 1 + 1) (by decide)]; split <;> exact Bool.or_true _
  · rw [fitsL (a := -1) (by decide), rq h2 (d := -1 - 1) (by decide), rq h2 (d := -1 + 1) (by decide)]; split <;> exact Bool.or_true _
end

inductive ItR (S : H) : V → List V → Prop where
  | list {k : Nat} {vs : List V} (e : S[k]? = some (.list vs)) : ItR S (.ref k) vs
  | rng {lo hi st : Int} (c : lo.natAbs ≤ 1000000 ∧ hi.natAbs ≤ 1000000 ∧ (st = 1 ∨ st = -1)) : ItR S (.rng lo hi st) (rngItems lo hi st)
theorem itR_of {v : V} {vs : List V} {S : H} (h : items v S = some vs) : ItR S v vs := by
  cases v with
  | ref k =>
    cases e : S[k]? with
    | none => rw [show items (.ref k) S = none by unfold items; simp only [e]] at h; cases h
    | some o => cases o with
      | list ws => rw [show items (.ref k) S = some ws by unfold items; simp only [e]] at h; cases h; exact .list e
      | inst c as => rw [show items (.ref k) S = none by unfold items; simp only [e]] at h; cases h
      | arg ws => rw [show items (.ref k) S = none by unfold items; simp only [e]] at h; cases h
  | rng lo hi st =>
    by_cases c : lo.natAbs ≤ 1000000 ∧ hi.natAbs ≤ 1000000 ∧ (st = 1 ∨ st = -1)
    · cases (if_pos c).symm.trans h; exact .rng c
    · cases (if_neg c).symm.trans h
  | _ => cases h
section
variable {base : Heap} {ca : Nat → Addr} {SE : Addr} {s : Shared} {Λ Λ₁ : Led} {ρ ρ₁ : Rho} {l : List Env} {S : H} {A : Around}
variable {prog : Program} {w : World} {E : Value → Shared → Prop}
theorem snd_iter {v : V} {v' : Value} {vs0 : List V} {Q : Value → Shared → Prop} (st : St8 base ca Λ ρ S s.heap) (hv : VRel Λ ρ v v') (hi : items v S = some vs0)
    (k : ∀ o, ItAt ρ 0 o v → Q (.ref s.heap.objs.size) { s with heap := s.heap.push o }) : wpAny (model prog w) A (pyIter v') Q E s := by
  cases itR_of hi with
  | list e1 =>
    obtain ⟨c, vs', hc, rfl, h1, h2, p, _⟩ := st.ref hv e1
    exact wpAny_pyIter_list p (k _ ⟨_, hc, rfl, rfl⟩)
  | rng hc =>
    obtain ⟨r, t, u, w', rfl, hr⟩ := hv
    obtain ⟨h1, h2⟩ := small_st hc.1 hc.2.1 hc.2.2
    refine wpAny_pyIter_range (st.holds.exact hr) h1 (k _ ⟨hc.2.2, ?_⟩)
    rw [h2]; simp

theorem rngItems_get {lo hi st : Int} {i : Nat} {x : V} (h : (rngItems lo hi st)[i]? = some x) : i < rngLen lo hi st ∧ x = .int (lo + st * i) := by
  obtain ⟨hl, h⟩ := List.getElem?_eq_some_iff.mp h
  have hl' : i < rngLen lo hi st := by simpa [rngItems] using hl
  exact ⟨hl', by rw [← h]; simp [rngItems]⟩

/-- the next of an iterator -/
theorem snd_next {v x : V} {v' : Value} {vs0 : List V} {I : Addr} {o : Obj} {i : Nat} {Q : Option Value → Shared → Prop} (st : St8 base ca Λ ρ S s.heap) (hv : VRel Λ ρ v v') (hi : items v S = some vs0) (hI : Λ I = some (.iter o)) (hit : ItAt ρ i o v) (hx : vs0[i]? = some x)
    (k : ∀ h' tk o' x', ItAt ρ (i + 1) o' v → St8 base ca (Λ.put I (.iter o')) ρ S h' → VRel (Λ.put I (.iter o')) ρ x x' → Q (some x') { s with heap := h', toks := tk }) : wpAny (model prog w) A (pyNext (.ref I)) Q E s := by
  obtain ⟨oI, hoI, rfl⟩ := st.holds.at_ I _ hI
  cases itR_of hi with
  | list e1 =>
      obtain ⟨c, vs', hc, rfl, h1, h2, p, _⟩ := st.ref hv e1
      obtain ⟨c', hc', q1, q2⟩ := hit
      obtain rfl := Option.some.inj (hc.symm.trans hc')
      obtain ⟨x', hx', hxv⟩ := h2.get hx
      refine wpAny_pyNext_list_item ⟨oI, hoI, q1, q2⟩ p (by rw [List.getElem?_toArray]; exact hx') fun h' hit' hs' => ?_
      obtain ⟨o', ho', q3, q4⟩ := hit'
      exact k h' s.toks o' x' ⟨_, hc, q3, q4⟩ (st.side hI trivial hs'.extBut ⟨o', ho', rfl⟩) (vrel_side hI trivial hxv)
  | @rng lo hi' sp hc =>
      obtain ⟨q1, q2⟩ := hit
      subst q2
      obtain ⟨hlt, rfl⟩ := rngItems_get hx
      refine wpAny_pyNext_range_item hoI (by lia) fun h' hit' hs' => ?_
      refine k h' _ { cls := .type "range_iterator", dict := none, data := .fields #[rawInt (lo + sp * ((i + 1 : Nat) : Int)), rawInt ((rngLen lo hi' sp : Int) - ((i + 1 : Nat) : Int)), rawInt sp], slots := #[] } _ ⟨q1, rfl⟩ (st.side hI trivial hs'.extBut ⟨_, hit', ?_⟩) vInt
      have e1 : lo + sp * ((i + 1 : Nat) : Int) = lo + sp * (i : Int) + sp := by rw [Int.natCast_add, Int.mul_add]; simp [Int.add_assoc]
      have e2 : (rngLen lo hi' sp : Int) - ((i + 1 : Nat) : Int) = (rngLen lo hi' sp : Int) - (i : Int) - 1 := by lia
      show _ = _
      rw [e1, e2]
theorem snd_end {v : V} {v' : Value} {vs0 : List V} {I : Addr} {o : Obj} {i : Nat} {Q : Option Value → Shared → Prop} (hh : A.handled = none) (st : St8 base ca Λ ρ S s.heap) (hv : VRel Λ ρ v v') (hi : items v S = some vs0) (hI : Λ I = some (.iter o)) (hit : ItAt ρ i o v) (hx : vs0.length ≤ i)
    (k : ∀ h', St8 base ca (Λ.del I) ρ S h' → Q none { s with heap := h' }) : wpAny (model prog w) A (pyNext (.ref I)) Q E s := by
  obtain ⟨oI, hoI, rfl⟩ := st.holds.at_ I _ hI
  cases itR_of hi with
  | list e1 =>
      obtain ⟨c, vs', hc, rfl, h1, h2, p, n1⟩ := st.ref hv e1
      obtain ⟨c', hc', q1, q2⟩ := hit
      obtain rfl := Option.some.inj (hc.symm.trans hc')
      exact wpAny_pyNext_list_end hh ⟨oI, hoI, q1, q2⟩ p (by rw [List.getElem?_toArray]; exact List.getElem?_eq_none (n1.symm ▸ hx)) fun h' hs' => k h' (st.sideDrop hI trivial hs')
  | @rng lo hi' sp hc =>
      obtain ⟨q1, q2⟩ := hit
      subst q2
      have hl : (rngItems lo hi' sp).length = rngLen lo hi' sp := by simp [rngItems]
      rw [hl] at hx
      exact wpAny_pyNext_range_end hh hoI (by lia) fun h' hs' => k h' (st.sideDrop hI trivial hs')
end
end Mine
end

section
set_option Elab.async false
set_option autoImplicit false
set_option linter.unusedVariables false
open PySem PySem.W PyProof.Rows
namespace Mine

theorem zero_apart : (tab.names.all fun x => !(x == (".0" : Str))) = true := by decide +kernel

structure CompSc (sc csc : Scope) (x : Str) : Prop where
  kind : csc.kind = .function
  tgt : csc.names.lookup x = some .local
  kinds : ∀ y ∈ csc.names, y.2 = .local ∨ (y.2 = .free ∧ sc.names.lookup y.1 = some .cell) ∨ y.2 = .globalImplicit
  loc : ∀ y ∈ csc.names, y.2 = .local → csc.names.lookup y.1 = some .local
  one : ∀ y ∈ csc.names, y.2 = .local → y.1 = x ∨ y.1 = (".0" : Str)
theorem compSc_of {sc csc : Scope} {x : Str} (h : compOk sc csc x = true) : CompSc sc csc x := by
  unfold compOk at h
  simp only [Bool.and_eq_true] at h
  obtain ⟨⟨⟨⟨⟨h1, h2⟩, h3⟩, h4⟩, h5⟩, h6⟩ := h
  refine ⟨beq_iff_eq.mp h1, beq_iff_eq.mp h2, fun y hy => ?_, fun y hy hl => ?_, fun y hy hl => ?_⟩
  · have := List.all_eq_true.mp h3 y hy
    simp only [Bool.or_eq_true, Bool.and_eq_true, beq_iff_eq] at this
    rcases this with (h | h) | h
    · exact .inl h
    · exact .inr (.inl h)
    · exact .inr (.inr h)
  · have := List.all_eq_true.mp h4 y hy
    simp only [Bool.or_eq_true, bne_iff_ne, ne_eq, beq_iff_eq] at this
    exact this.resolve_left (fun q => q hl)
  · have := List.all_eq_true.mp h5 y hy
    simp only [Bool.or_eq_true, bne_iff_ne, ne_eq, beq_iff_eq] at this
    rcases this with (h | h) | h
    · exact absurd hl h
    · exact .inl h
    · exact .inr h

theorem lookup_relabel {env : Env} {names : List (Str × NameKind)} {x : Str} {k : NameKind} (h : names.lookup x = some k) :
    (names.map fun (n, k) => if (k == NameKind.free && env.scope.kind == .function && env.kindOf n == some .cell) then (n, NameKind.cell) else (n, k)).lookup x =
      some (if (k == NameKind.free && env.scope.kind == .function && env.kindOf x == some .cell) then .cell else k) := by
  induction names with
  | nil => cases h
  | cons y r ih =>
    obtain ⟨n, k'⟩ := y
    have e : ∀ c : Bool, (if c = true then (n, NameKind.cell) else (n, k')) = (n, if c = true then NameKind.cell else k') := fun c => by cases c <;> rfl
    rw [List.lookup_cons] at h
    rw [List.map_cons]
    show List.lookup x ((if (k' == NameKind.free && env.scope.kind == .function && env.kindOf n == some .cell) = true then (n, NameKind.cell) else (n, k')) :: _) = _
    rw [e, List.lookup_cons]
    cases hx : x == n with
    | true =>
      rw [hx] at h
      cases h
      rw [beq_iff_eq.mp hx]
    | false =>
      rw [hx] at h
      exact ih h

noncomputable def clOf (env : Env) : List (Str × NameKind) → List (Str × Addr) → List (Str × Addr)
  | [], acc => acc
  | (n, k) :: r, acc => clOf env r (if k = .free then (n, (env.cells.lookup n).getD 0) :: acc else acc)
theorem closure_eq {env : Env} (f : Str × NameKind → List (Str × Addr) → Sem (ForInStep (List (Str × Addr)))) (hf : ∀ n k cs, f (n, k) cs = if k == NameKind.free then (do let c ← cellOf env n; pure (ForInStep.yield ((n, c) :: cs))) else pure (ForInStep.yield cs))
    (names : List (Str × NameKind)) : ∀ (acc : List (Str × Addr)), (∀ y ∈ names, y.2 = .free → (env.cells.lookup y.1).isSome = true) → forIn names acc f = pure (clOf env names acc) := by
  induction names with
  | nil => intro acc _; rw [List.forIn_nil]; rfl
  | cons y r ih =>
    intro acc h
    obtain ⟨n, k⟩ := y
    rw [List.forIn_cons, hf]
    unfold clOf
    by_cases hk : k = .free
    · subst hk
      obtain ⟨c, hc⟩ := Option.isSome_iff_exists.mp (h _ List.mem_cons_self rfl)
      have : cellOf env n = pure c := by unfold cellOf; rw [hc]
      simp only [beq_self_eq_true, if_true, this, pure_bind, hc, Option.getD_some]
      exact ih _ fun y hy => h y (List.mem_cons_of_mem _ hy)
    · have : (k == NameKind.free) = false := beq_eq_false_iff_ne.mpr hk
      simp only [this, Bool.false_eq_true, if_false, pure_bind, hk]
      exact ih _ fun y hy => h y (List.mem_cons_of_mem _ hy)
theorem clOf_spec {env : Env} (names : List (Str × NameKind)) : ∀ (acc : List (Str × Addr)), (∀ y ∈ names, y.2 = .free → (env.cells.lookup y.1).isSome = true) → (∀ n c, (n, c) ∈ acc → env.cells.lookup n = some c) →
    (∀ n c, (n, c) ∈ clOf env names acc → env.cells.lookup n = some c) ∧ (∀ n, ((n, NameKind.free) ∈ names ∨ ∃ c, (n, c) ∈ acc) → ∃ c, (n, c) ∈ clOf env names acc) := by
  induction names with
  | nil => exact fun acc _ ha => ⟨ha, fun n h => h.elim (fun h => by cases h) id⟩
  | cons y r ih =>
    intro acc h ha
    obtain ⟨n, k⟩ := y
    unfold clOf
    have hr : ∀ y ∈ r, y.2 = .free → (env.cells.lookup y.1).isSome = true := fun y hy => h y (List.mem_cons_of_mem _ hy)
    by_cases hk : k = .free
    · subst hk
      obtain ⟨c, hc⟩ := Option.isSome_iff_exists.mp (h _ List.mem_cons_self rfl)
      simp only at hc
      rw [if_pos rfl, hc, Option.getD_some]
      obtain ⟨i1, i2⟩ := ih ((n, c) :: acc) hr (fun n' c' hm => by
        rcases List.mem_cons.mp hm with e | hm
        · cases e; exact hc
        · exact ha n' c' hm)
      refine ⟨i1, fun n' hn => i2 n' ?_⟩
      rcases hn with hn | ⟨c', hn⟩
      · rcases List.mem_cons.mp hn with e | hn
        · cases e; exact .inr ⟨c, List.mem_cons_self⟩
        · exact .inl hn
      · exact .inr ⟨c', List.mem_cons_of_mem _ hn⟩
    · rw [if_neg hk]
      obtain ⟨i1, i2⟩ := ih acc hr ha
      refine ⟨i1, fun n' hn => i2 n' ?_⟩
      rcases hn with hn | hn
      · rcases List.mem_cons.mp hn with e | hn
        · cases e; exact absurd rfl hk
        · exact .inl hn
      · exact .inr hn
theorem lookup_of_mem {α : Type} {l : List (Str × α)} {n : Str} : ∀ {c : α}, (n, c) ∈ l → ∃ c', l.lookup n = some c' ∧ (n, c') ∈ l := by
  induction l with
  | nil => intro c h; cases h
  | cons y r ih =>
    intro c h
    obtain ⟨k, v⟩ := y
    cases hb : n == k with
    | true => exact ⟨v, by rw [List.lookup_cons, hb], by rw [beq_iff_eq.mp hb]; exact List.mem_cons_self⟩
    | false =>
      rcases List.mem_cons.mp h with e | h
      · cases e; rw [beq_self_eq_true] at hb; cases hb
      · obtain ⟨c', h1, h2⟩ := ih h
        exact ⟨c', by rw [List.lookup_cons, hb]; exact h1, List.mem_cons_of_mem _ h2⟩

section
variable {base : Heap} {ca : Nat → Addr} {SE : Addr} {s : Shared} {Λ Λ₁ : Led} {ρ ρ₁ : Rho} {l : List Env} {S : H} {sc csc : Scope} {env : Env} {fr : Fr} {n m : Nat} {A : Around} {t : Tb}
variable {prog : Program} {w : World} {K : Frag} {M : Model} {X : H → Prop} {x : Str} {E : Value → Shared → Prop}

theorem clos_of (hc : CompSc sc csc x) (he : EnvOk sc env) : ∃ cl, closureFor csc env = pure cl ∧ ∀ y, csc.names.lookup y = some .free → ∃ c, env.cells.lookup y = some c ∧ cl.lookup y = some c := by
  have hf : ∀ y ∈ csc.names, y.2 = .free → (env.cells.lookup y.1).isSome = true := fun y hy hk => by
    rcases hc.kinds y hy with h | ⟨_, h⟩ | h
    · rw [hk] at h; cases h
    · exact (he.cell _ h).2
    · rw [hk] at h; cases h
  refine ⟨clOf env csc.names [], ?_, fun y hy => ?_⟩
  · simp only [closureFor]
    rw [closure_eq (env := env) _ (fun n k cs => by cases hk : k == NameKind.free <;> simp [hk]) csc.names [] hf]
    rfl
  · obtain ⟨i1, i2⟩ := clOf_spec (env := env) csc.names [] hf (fun _ _ h => by simp at h)
    obtain ⟨c, h1⟩ := i2 y (.inl (mem_of_lookup hy))
    obtain ⟨c', h2, h3⟩ := lookup_of_mem h1
    exact ⟨c', i1 _ _ h3, h2⟩
end
end Mine
end

section
set_option Elab.async false
set_option autoImplicit false
set_option linter.unusedVariables false
open PySem PySem.W PyProof.Rows
namespace Mine
section
variable {base : Heap} {ca : Nat → Addr} {SE : Addr} {s : Shared} {Λ Λ₁ : Led} {ρ ρ₁ : Rho} {l : List Env} {S : H} {sc csc : Scope} {env : Env} {fr : Fr} {n m : Nat} {A : Around} {t : Tb}
variable {prog : Program} {w : World} {K : Frag} {M : Model} {X : H → Prop} {x : Str} {E : Value → Shared → Prop} {cl : List (Str × Addr)} {C : Addr}

theorem cenv_kind (hc : CompSc sc csc x) {y : Str} {k : NameKind} (h : csc.names.lookup y = some k) : (compEnvC csc cl C env).kindOf y = some (if (k == NameKind.free && env.scope.kind == .function && env.kindOf y == some .cell) then .cell else k) :=
  lookup_relabel h
theorem cenvOk (hc : CompSc sc csc x) (he : EnvOk sc env) : EnvOk csc (compEnvC csc cl C env) := by
  refine ⟨hc.kind, he.glob, he.blt, fun y h => ?_, fun y h => ?_⟩
  · rw [cenv_kind hc h]; rfl
  · rcases hc.kinds _ (mem_of_lookup h) with q | ⟨q, _⟩ | q <;> cases q

noncomputable def CFree (csc : Scope) (cl : List (Str × Addr)) (Λ : Led) (ρ : Rho) (fr : Fr) : Prop := ∀ y v, fr y = some v → y < tab.names.length → csc.names.lookup (nm y) = some .free → ∃ v' c, VRel Λ ρ v v' ∧ cl.lookup (nm y) = some c ∧ Λ c = some (.cell (some v'))
theorem CFree.mono (h : CFree csc cl Λ ρ fr) (ev : Evo X0 Λ ρ Λ₁ ρ₁) : CFree csc cl Λ₁ ρ₁ fr := fun y v e hy hk => by
  obtain ⟨v', c, h1, h2, h3⟩ := h y v e hy hk
  exact ⟨v', c, ev.vrel h1, h2, ev.pres _ _ h3 rfl id⟩
theorem cfree_of (hc : CompSc sc csc x) (he : EnvOk sc env) (hcl : ∀ y, csc.names.lookup y = some .free → ∃ c, env.cells.lookup y = some c ∧ cl.lookup y = some c) (hf : FrRel sc Λ ρ env fr) : CFree csc cl Λ ρ fr := fun y v e hy hk => by
  rcases hc.kinds _ (mem_of_lookup hk) with q | ⟨_, q⟩ | q
  · cases q
  · obtain ⟨v', h1, h2⟩ := hf y v _ e hy q (by decide)
    obtain ⟨c, h3, h4⟩ := hcl _ hk
    rcases h2 with ⟨h5, _⟩ | ⟨_, c', h5, h6⟩
    · rw [(he.cell _ q).1] at h5; cases h5
    · rw [h3] at h5; cases h5
      exact ⟨v', c, h1, h4, h6⟩
  · cases q

/-- the variable of a comprehension is bound -/
theorem comp_store (hc : CompSc sc csc x) (he : EnvOk sc env) (hxi : find tab.names x = some m) {px : Pos} {mm : Str → Option Value} {v : V} {v' : Value} (st : St8 base ca Λ ρ S s.heap) (hC : Λ C = some (.ns mm)) (hv : VRel Λ ρ v v') (hcf : CFree csc cl Λ ρ fr) (hsk : env.scope.kind = .function) {Q : Unit → Shared → Prop}
    (k : ∀ h' tk m', St8 base ca (Λ.put C (.ns m')) ρ S h' → FrRel csc (Λ.put C (.ns m')) ρ (compEnvC csc cl C env) (upd fr m v) → Q () { s with heap := h', toks := tk }) :
    wpAny (model prog w) A (assign (.Name x px) (compEnvC csc cl C env) v') Q E s := by
  have hkx : (compEnvC csc cl C env).kindOf x = some .local := by rw [cenv_kind hc hc.tgt]; rfl
  have hnm := find_nm hxi
  refine wpAny_assign_Name (wpAny_storeName_local hkx (st.holds.ns hC) (fun h' hn' hs' => ?_) (by show (csc.kind == .class || (csc.kind == .module && _)) = false; rw [hc.kind]; rfl))
  refine k h' _ _ (st.side hC trivial hs'.extBut (ns_spec hn')) fun y u kk e hy hyk hyg => ?_
  unfold upd at e
  by_cases hym : y = m
  · subst hym
    rw [if_pos rfl] at e; cases e
    exact ⟨v', vrel_side hC trivial hv, .inl ⟨by rw [hnm]; exact hkx, _, Led.put_self .., by simp [hnm]⟩⟩
  · rw [if_neg hym] at e
    have hmem := mem_of_lookup hyk
    rcases hc.kinds _ hmem with q | ⟨q, q2⟩ | q
    · rcases hc.one _ hmem q with q | q
      · exact absurd (nm_inj hy (find_spec hxi).1 (q.trans hnm.symm)) hym
      · have := List.all_eq_true.mp zero_apart _ (nm_mem hy)
        simp only at q
        rw [q] at this
        simp at this
    · simp only at q; subst q
      obtain ⟨u', c, h1, h2, h3⟩ := hcf y u e hy hyk
      refine ⟨u', vrel_side hC trivial h1, .inr ⟨.inl ?_, c, h2, ?_⟩⟩
      · rw [cenv_kind hc hyk, (he.cell _ q2).1, hsk]; rfl
      · rw [Led.put_ne (by rintro rfl; rw [hC] at h3; cases h3)]; exact h3
    · exact absurd q hyg

theorem px_false {Q : Prop} {X : Addr → Prop} {e : Value} {s' : Shared} (h : PX base ca SE X s Λ ρ l F0 e s') : Q := by
  obtain ⟨_, _, _, _, _, _, _, _, _, _, _, hF⟩ := h
  exact hF.elim

/-- the tests of a comprehension -/
theorem ifs_false {cenv : Env} (ifs : List PySem.Expr) {s : Shared} {Q : Bool → Shared → Prop} (h : Q false s) : wpAny M A (forIn ifs false fun c r => if r = true then do let ok ← isTrue c cenv (eval c cenv); pure (ForInStep.yield ok) else pure (ForInStep.yield r)) Q E s := by
  induction ifs with
  | nil => rw [List.forIn_nil]; exact wpAny_pure h
  | cons c r ih =>
    rw [List.forIn_cons]
    refine wpAny_bind ?_
    rw [if_neg (by decide)]
    exact wpAny_pure ih
theorem snd_ifs (pes : List PySem.Expr) (es : List Mine.E) (h0 : Each (fun pe e => OkT base ca SE prog w t n csc pe e) pes es) : ∀ (s : Shared) (Λ : Led) (ρ : Rho) (S : Mine.H) (Q : Bool → Mine.H → Prop),
    At base ca n csc A env l s Λ ρ S fr → bools (fun e S Q => tst t n e fr S F0 Q) true es S Q →
      wpAny (model prog w) A (forIn pes true fun c r => if r = true then do let ok ← isTrue c env (eval c env); pure (ForInStep.yield ok) else pure (ForInStep.yield r)) (PB base ca s Λ ρ Q) E s := by
  induction h0 with
  | nil =>
    intro s Λ ρ S Q H h
    rw [List.forIn_nil]
    exact wpAny_pure ⟨s.heap, s.toks, Λ, ρ, S, rfl, .refl0, H.x, h⟩
  | @cons pe e pes es h1 _ ih =>
    intro s Λ ρ S Q H h
    rw [List.forIn_cons]
    refine wpAny_bind ?_
    rw [if_pos rfl]
    refine wpAny_bind (wpAny_mono (h1.use H h (R := fun b s₁ => wpAny (model prog w) A (pure (ForInStep.yield b) : Sem _) (fun r s₂ => wpAny (model prog w) A (match r with | ForInStep.done b => pure b | ForInStep.yield b => forIn pes b fun c r => if r = true then do let ok ← isTrue c env (eval c env); pure (ForInStep.yield ok) else pure (ForInStep.yield r)) (PB base ca s Λ ρ Q) E s₂) E s₁) fun b h₁ t₁ Λ₁ ρ₁ S₁ H₁ ev₁ q₁ => ?_) (fun _ _ q => q) fun e s₂ q => px_false q)
    refine wpAny_pure ?_
    cases b with
    | true => exact wpAny_mono (ih _ Λ₁ ρ₁ S₁ Q H₁ q₁) (fun _ _ => PB.trans ev₁) fun _ _ e => e
    | false => exact ifs_false pes ⟨h₁, t₁, Λ₁, ρ₁, S₁, rfl, ev₁, H₁.x, q₁⟩
end
end Mine
end

section
set_option Elab.async false
set_option autoImplicit false
set_option linter.unusedVariables false
open PySem PySem.W PyProof.Rows
namespace Mine
section
variable {base : Heap} {ca : Nat → Addr} {SE : Addr} {s : Shared} {Λ Λ₁ : Led} {ρ ρ₁ : Rho} {l : List Env} {S : H} {sc csc : Scope} {env : Env} {fr : Fr} {n : Nat} {A : Around} {t : Tb}
variable {prog : Program} {w : World} {K : Frag} {X : H → Prop} {x : Str} {cl : List (Str × Addr)} {C : Addr}

theorem Evo.delMut {Y : Addr → Prop} {Λ₀ : Led} {ρ₀ : Rho} (ev : Evo Y Λ₀ ρ₀ Λ ρ) {a : Addr} (h0 : ∀ sp, Λ₀ a = some sp → sp.mut = true) : Evo Y Λ₀ ρ₀ (Λ.del a) ρ := by
  have ne : ∀ b sp', Λ₀ b = some sp' → sp'.mut = false → b ≠ a := by rintro b sp' e hm rfl; rw [h0 _ e] at hm; cases hm
  refine ⟨ev.pre, fun b sp' e m n => ?_, fun b hx ⟨m, e⟩ => ?_, fun b hx ⟨m, e⟩ => ?_, ev.z⟩
  · rw [Led.del_ne (ne _ _ e m)]; exact ev.pres b sp' e m n
  · obtain ⟨m', e'⟩ := ev.x b hx ⟨m, e⟩; exact ⟨m', by rw [Led.del_ne (ne _ _ e rfl)]; exact e'⟩
  · obtain ⟨m', e'⟩ := ev.y b hx ⟨m, e⟩; exact ⟨m', by rw [Led.del_ne (ne _ _ e rfl)]; exact e'⟩
theorem ItAt.free {i : Nat} {o : Obj} {v : V} (h : ItAt ρ i o v) : o.isFreed = false := by
  cases v with
  | ref k => obtain ⟨c, _, _, h2⟩ := h; exact Obj.isFreed_of_fields h2
  | rng lo hi st => obtain ⟨_, rfl⟩ := h; rfl
  | _ => exact h.elim
theorem snd_self {v : V} {I : Addr} {o : Obj} {i : Nat} {Q : Value → Shared → Prop} {EE : Value → Shared → Prop} (st : St8 base ca Λ ρ S s.heap) (hI : Λ I = some (.iter o)) (hit : ItAt ρ i o v) (k : Q (.ref I) s) : wpAny (model prog w) A (pyIter (.ref I)) Q EE s := by
  obtain ⟨oI, hoI, rfl⟩ := st.holds.at_ I _ hI
  cases v with
  | ref k' => obtain ⟨c, _, h1, h2⟩ := hit; exact wpAny_pyIter_listiter ⟨_, hoI, h1, h2⟩ k
  | rng lo hi st' => obtain ⟨_, rfl⟩ := hit; exact wpAny_pyIter_rangeiter hoI k
  | _ => exact hit.elim

theorem drop_cons {α : Type} {l r : List α} {i : Nat} {x : α} (h : l.drop i = x :: r) : l[i]? = some x ∧ r = l.drop (i + 1) := by
  have hlt : i < l.length := by
    rcases Nat.lt_or_ge i l.length with q | q
    · exact q
    · rw [List.drop_of_length_le q] at h; cases h
  rw [List.drop_eq_getElem_cons hlt] at h
  cases h
  exact ⟨List.getElem?_eq_getElem hlt, rfl⟩
theorem drop_nil' {α : Type} {l : List α} {i : Nat} (h : l.drop i = []) : l.length ≤ i := List.drop_eq_nil_iff.mp h

/-- where the loop of a comprehension stands -/
inductive LI (base : Heap) (ca : Nat → Addr) (csc : Scope) (tests : Fr → H → (Bool → H → Prop) → Prop) (elt : Fr → H → (V → H → Prop) → Prop) (xi k : Nat) (sA : Shared) (Λa : Led) (ρa : Rho) (I D C : Addr) (v : V) (vs0 : List V) (fr : Fr) (Qc : H → Prop) (rem : Nat) (s : Shared) : Prop where
  | mk (Λ : _) (ρ : _) (S : _) (h : _) (tk : _) (o : _) (i : _) (hh1 : s = { sA with heap := h, toks := tk }) (hh2 : Evo X0 Λa ρa Λ ρ) (hh3 : St8 base ca Λ ρ S h) (hh4 : Λ I = some (.iter o)) (hh5 : ItAt ρ i o v) (hh6 : (∃ m, Λ C = some (.ns m))) (hh7 : ρ[k]? = some (D, D)) (hh8 : rem = vs0.length - i) (hh9 : compL tests elt xi k v vs0 fr (vs0.drop i) S Qc)
theorem snd_compLoop {xi k : Nat} {elt it : PySem.Expr} {elt' : E} {ifs : List PySem.Expr} {ifs' : List E} {px pos : Pos} {sA : Shared} {Λa : Led} {ρa : Rho} {I D : Addr} {v : V} {v' : Value} {vs0 : List V} {Qc : H → Prop} {R : Result → Shared → Prop}
    (hc : CompSc sc csc x) (he : EnvOk sc env) (hxi : find tab.names x = some xi) (hcl : ∀ y, csc.names.lookup y = some .free → ∃ c, env.cells.lookup y = some c ∧ cl.lookup y = some c)
    (helt : OkE base ca SE prog w t n csc elt elt') (hifs : Each (fun pe e => OkT base ca SE prog w t n csc pe e) ifs ifs')
    (hA : AOk n A l) (hk : StackOk Λa l) (hf : FrRel sc Λa ρa env fr) (hv : VRel Λa ρa v v') (nI : Λa I = none) (nC : Λa C = none)
    (hR : ∀ Λ ρ S h tk, Evo X0 Λa ρa Λ ρ → St8 base ca Λ ρ S h → (∃ m, Λ C = some (.ns m)) → ρ[k]? = some (D, D) → Qc S → R (.ok .next) { sA with heap := h, toks := tk })
    (rem : Nat) (s : Shared) (h : LI base ca csc (fun fr S Q => bools (fun e S Q => tst t n e fr S F0 Q) true ifs' S Q) (fun fr S Q => ev t n elt' fr S F0 Q) xi k sA Λa ρa I D C v vs0 fr Qc rem s) :
    codeAny (model prog w) A (.compLoop (.ListComp elt [⟨.Name x px, it, ifs, 0⟩] csc pos) 0 (.ref I) (.ref D) (compEnvC csc cl C env)) R s := by
  refine codeAny_compLoop_tests _ (fun rem s h => ?_) rem h
  obtain ⟨Λ, ρ, S, hh, tk, o, i, rfl, ev, st, hI, hit, ⟨mm, hC⟩, hD, hrem, hL⟩ := h
  have hcf := (cfree_of hc he hcl hf).mono ev
  cases hd : vs0.drop i with
  | nil =>
    rw [hd] at hL
    obtain ⟨hit0, hL⟩ := (show _ ∧ _ from hL)
    refine snd_end (s := { sA with heap := hh, toks := tk }) hA.handled st (ev.vrel hv) hit0 hI hit (drop_nil' hd) fun h' st' => ?_
    exact hR _ ρ S h' tk (ev.delNew nI) st' ⟨mm, by rw [Led.del_ne (by rintro rfl; rw [hI] at hC; cases hC)]; exact hC⟩ hD hL
  | cons y r =>
    rw [hd] at hL
    obtain ⟨hit0, hL⟩ := (show _ ∧ _ from hL)
    obtain ⟨hy, rfl⟩ := drop_cons hd
    have hlt : i < vs0.length := (List.getElem?_eq_some_iff.mp hy).1
    refine snd_next (s := { sA with heap := hh, toks := tk }) st (ev.vrel hv) hit0 hI hit hy fun h₁ t₁ o₁ y' hit₁ st₁ hy' => ?_
    have ev₁ := ev.putNew (sp := .iter o₁) nI
    have hC₁ : (Λ.put I (.iter o₁)) C = some (.ns mm) := by rw [Led.put_ne (by rintro rfl; rw [hI] at hC; cases hC)]; exact hC
    have hcf₁ := (cfree_of hc he hcl hf).mono ev₁
    refine comp_store (s := { sA with heap := h₁, toks := t₁ }) hc he hxi st₁ hC₁ hy' hcf₁ he.kind fun h₂ t₂ m₂ st₂ hf₂ => ?_
    have ev₂ := ev₁.putNew (sp := .ns m₂) nC
    have hI₂ : ((Λ.put I (.iter o₁)).put C (.ns m₂)) I = some (.iter o₁) := by rw [Led.put_ne (by rintro rfl; rw [hI] at hC; cases hC), Led.put_self]
    have H₂ : At base ca n csc A (compEnvC csc cl C env) l { sA with heap := h₂, toks := t₂ } ((Λ.put I (.iter o₁)).put C (.ns m₂)) ρ S (upd fr xi y) := ⟨hA, cenvOk hc he, hk.mono ev₂, hf₂, st₂⟩
    refine wpAny_mono (snd_ifs ifs ifs' hifs _ _ ρ S _ H₂ hL) (fun b s₃ q => ?_) fun _ _ e => e
    obtain ⟨h₃, t₃, Λ₃, ρ₃, S₃, rfl, e₃, st₃, q⟩ := q
    have H₃ := H₂.step (t₁ := t₃) e₃ st₃
    have ev₃ := ev₂.trans0 e₃
    cases b with
    | false =>
      simp only [Bool.false_eq_true, if_false] at q ⊢
      exact ⟨vs0.length - (i + 1), by lia, Λ₃, ρ₃, S₃, h₃, t₃, o₁, i + 1, rfl, ev₃, st₃, e₃.pres _ _ hI₂ rfl id, hit₁.mono e₃, ⟨m₂, e₃.pres _ _ (Led.put_self ..) rfl id⟩, e₃.get hD, rfl, q⟩
    | true =>
      simp only [if_true] at q ⊢
      refine wpAny_mono (helt A _ l _ Λ₃ ρ₃ S₃ _ F0 _ H₃ q) (fun u' s₄ q => ?_) fun e s₄ q => px_false q
      obtain ⟨h₄, t₄, Λ₄, ρ₄, u, S₄, rfl, e₄, st₄, hu, q⟩ := q
      have hD₄ := e₄.get (e₃.get hD)
      refine wpAny_mono (snd_app (s := { sA with heap := h₄, toks := t₄ }) st₄ hD₄ hu q) (fun r s₅ q => ?_) fun _ _ e => e
      obtain ⟨_, h₅, t₅, Λ₅, ρ₅, S₅, rfl, e₅, st₅, q⟩ := q
      have e35 := (e₃.trans0 e₄).trans0 e₅
      exact ⟨vs0.length - (i + 1), by lia, Λ₅, ρ₅, S₅, h₅, t₅, o₁, i + 1, rfl, ev₂.trans0 e35, st₅, e35.pres _ _ hI₂ rfl id, hit₁.mono e35, ⟨m₂, e35.pres _ _ (Led.put_self ..) rfl id⟩, e35.get hD, rfl, q⟩

/-- a comprehension, its value kept or used -/
theorem snd_comp {xi : Nat} {elt it : PySem.Expr} {elt' it' : E} {ifs : List PySem.Expr} {ifs' : List E} {px pos pos' : Pos} {use : Option (Value → Sem Unit)} {Qv : Value → Shared → Prop} {Qc : V → Mine.H → Prop}
    (hc : CompSc sc csc x) (hxi : find tab.names x = some xi) (hit : OkE base ca SE prog w t n sc it it') (hpl : plainE it = true)
    (helt : OkE base ca SE prog w t n csc elt elt') (hifs : Each (fun pe e => OkT base ca SE prog w t n csc pe e) ifs ifs') (H : At base ca n sc A env l s Λ ρ S fr)
    (h : ev t n it' fr S X fun v S1 => match items v S1 with
        | some vs => vs.length ≤ LIM ∧ compL (fun fr S Q => bools (fun e S Q => tst t n e fr S F0 Q) true ifs' S Q) (fun fr S Q => ev t n elt' fr S F0 Q) xi S1.length v vs fr vs (S1 ++ [.list []]) fun S2 => Qc (.ref S1.length) S2
        | none => False)
    (hend : ∀ (D C : Addr) (Λ' : Led) (ρ' : Rho) (S' : Mine.H) (h' : Heap) (tk : Nat) (r : V), Evo X0 Λ ρ Λ' ρ' → St8 base ca Λ' ρ' S' h' → VRel Λ' ρ' r (.ref D) → (∀ sp, Λ C = some sp → sp.mut = true) → (∃ m, Λ' C = some (.ns m)) → Qc r S' →
      compPost (model prog w) A (PX base ca SE X0 s Λ ρ l X) use Qv (.ref D) C (.ok .next) { s with heap := h', toks := tk }) :
    wpAny (model prog w) A (comprehension (.ListComp elt [⟨.Name x px, it, ifs, 0⟩] csc pos) csc env pos' (newList []) false (eval it env) use) Qv (PX base ca SE X0 s Λ ρ l X) s := by
  obtain ⟨cl, hclos, hcl⟩ := clos_of hc H.e
  refine wpAny_comprehension_free (cl := cl) rfl (fun y => fold_plain hpl y) hclos hc.kind hc.loc ?_
  refine hit.use H h fun v' v h₁ t₁ Λ₁ ρ₁ S₁ H₁ ev₁ hv q => ?_
  split at q
  · rename_i vs hvs
    obtain ⟨hlen, q⟩ := q
    refine snd_iter (s := { s with heap := h₁, toks := t₁ }) H₁.x hv hvs fun o hit₀ => ?_
    have hI0 : h₁.get? h₁.objs.size = none := at_size h₁
    have k₂ : ∀ b o', h₁.get? b = some o' → (h₁.push o).get? b = some o' := fun b o' e => Heap.get?_push_of_some _ e
    have st₂ := H₁.x.sideNew (sp' := .iter o) (h' := h₁.push o) hI0 k₂ ⟨o, Heap.get?_push_size _ hit₀.free, rfl⟩
    have nI : Λ₁ h₁.objs.size = none := H₁.x.holds.led_none hI0
    generalize hI' : h₁.objs.size = I at *
    have sz₂ : (h₁.push o).objs.size = I + 1 := by rw [Heap.size_push, hI']
    generalize hh₂ : h₁.push o = h₂ at *
    refine wpAny_newList ?_
    have k₃ : ∀ b o', h₂.get? b = some o' → (h₂.push { cls := .type "list", data := .seq ([] : List Value).toArray }).get? b = some o' := fun b o' e => Heap.get?_push_of_some _ e
    obtain ⟨st₃, ev₃, r₃⟩ := st₂.newList (vs := []) (vs' := []) (h' := h₂.push { cls := .type "list", data := .seq ([] : List Value).toArray }) (at_size h₂) k₃ ⟨0, Heap.get?_push_size _ rfl⟩ .nil
    generalize hD' : h₂.objs.size = D at *
    generalize hh₃ : h₂.push { cls := .type "list", data := .seq ([] : List Value).toArray } = h₃ at *
    have sz₃ : h₃.objs.size = I + 2 := by rw [← hh₃, Heap.size_push, hD', sz₂]
    refine wpAny_newFunctionEnv (fun y hy q => ?_) (fun y hy => by simp at hy) (fun h₄ hns hsb => ?_) hc.kind
    · rcases hc.kinds y hy with h | ⟨h, _⟩ | h <;> (rw [q] at h; cases h)
    dsimp only at hns hsb ⊢
    have hC0 : h₃.get? h₃.objs.size = none := at_size h₃
    have nC : Λ₁ h₃.objs.size = none := by
      cases e : Λ₁ h₃.objs.size with
      | none => rfl
      | some sp =>
        have hlt : h₃.objs.size < h₁.objs.size := H₁.x.holds.lt e
        rw [sz₃, hI'] at hlt
        exact absurd hlt (Nat.not_lt.mpr (Nat.le_add_right _ _))
    generalize hC' : h₃.objs.size = C at *
    have k₄ : ∀ b o', h₃.get? b = some o' → h₄.get? b = some o' := fun b o' e => hsb.extBut b o' (by have := Heap.lt_size e; rw [hC'] at this; exact Nat.ne_of_lt this) (Heap.get?_push_of_some _ e)
    have st₄ := st₃.sideNew hC0 k₄ (ns_spec hns)
    have nIC : I ≠ C := by rw [sz₃]; exact Nat.ne_of_lt (Nat.lt_succ_of_lt (Nat.lt_succ_self _))
    have nID : I ≠ D := by rw [sz₂]; exact Nat.ne_of_lt (Nat.lt_succ_self _)
    have ev₄ : Evo X0 Λ₁ ρ₁ (((Λ₁.put I (.iter o)).put D (.list [])).put C (.ns fun x => List.lookup x ([] : List (Str × Value)).reverse)) (ρ₁ ++ [(D, D)]) := (((Evo.refl0.putNew nI).trans0 ev₃).putNew nC)
    have hI₄ : (((Λ₁.put I (.iter o)).put D (.list [])).put C (.ns fun x => List.lookup x ([] : List (Str × Value)).reverse)) I = some (.iter o) := by rw [Led.put_ne nIC, Led.put_ne nID, Led.put_self]
    have hDρ : (ρ₁ ++ [(D, D)])[S₁.length]? = some (D, D) := by rw [← H₁.x.rel.len]; simp
    have loop : codeAny (model prog w) A (.compLoop (.ListComp elt [⟨.Name x px, it, ifs, 0⟩] csc pos) 0 (.ref I) (.ref D) (compEnvC csc cl C env)) (compPost (model prog w) A (PX base ca SE X0 s Λ ρ l X) use Qv (.ref D) C) { s with heap := h₄, toks := t₁ + ([] : List (Str × Value)).length } := by
      refine snd_compLoop (cl := cl) (sA := { s with heap := h₁, toks := t₁ }) (Λa := Λ₁) (ρa := ρ₁) (k := S₁.length) (v := v) (v' := v') (vs0 := vs) (Qc := fun S2 => Qc (.ref S₁.length) S2) hc H₁.e hxi hcl helt hifs H₁.a H₁.k H₁.f hv nI nC (fun Λ' ρ' S' h' tk e x hm hD q => ?_) (vs.length - 0) _
        ⟨_, _, S₁ ++ [.list []], h₄, _, o, 0, rfl, ev₄, st₄, hI₄, hit₀.mono ev₄, ⟨_, Led.put_self ..⟩, hDρ, rfl, by rw [List.drop_zero]; exact q⟩
      refine hend D C Λ' ρ' S' h' tk (.ref S₁.length) (ev₁.trans0 e) x ⟨(D, D), hD, rfl⟩ (fun sp e => ?_) hm q
      cases hmut : sp.mut with
      | true => rfl
      | false => have := ev₁.pres _ _ e hmut id; rw [nC] at this; cases this
    exact codeAny_compStart_list loop (snd_self (s := { s with heap := h₄, toks := _ }) st₄ hI₄ (hit₀.mono ev₄) loop)
  · exact q.elim

theorem okE_comp {xi : Nat} {elt it : PySem.Expr} {elt' it' : E} {ifs : List PySem.Expr} {ifs' : List E} {px pos : Pos}
    (hc : CompSc sc csc x) (hxi : find tab.names x = some xi) (hit : OkE base ca SE prog w t n sc it it') (hpl : plainE it = true)
    (helt : OkE base ca SE prog w t n csc elt elt') (hifs : Each (fun pe e => OkT base ca SE prog w t n csc pe e) ifs ifs') :
    OkE base ca SE prog w t (n + 1) sc (.ListComp elt [⟨.Name x px, it, ifs, 0⟩] csc pos) (.comp elt' xi it' ifs') := by
  intro A env l s Λ ρ S fr X Q H h
  rw [eval_ListComp]
  refine snd_comp (use := none) (Qc := Q) hc hxi hit hpl helt hifs H.lt h fun D C Λ' ρ' S' h' tk r ev x hr hC hm q => ?_
  obtain ⟨m, hm⟩ := hm
  refine ⟨m, x.holds.ns hm, fun h'' hs => ?_⟩
  exact ⟨h'', tk, Λ'.del C, ρ', r, S', rfl, ev.delMut hC, x.sideDrop hm trivial hs.extBut, vrel_sideDel hm trivial hr, q⟩
end
end Mine
end

section
set_option Elab.async false
set_option autoImplicit false
set_option linter.unusedVariables false
open PySem PySem.W PyProof.Rows
namespace Mine

section
variable {base : Heap} {ca : Nat → Addr} {SE : Addr} {s : Shared} {Λ Λ₁ : Led} {ρ ρ₁ : Rho} {outer : List Env} {S : H} {sc : Scope} {env : Env} {fr fr₁ : Fr} {n : Nat} {A : Around}
theorem AtX.at (h : AtX base ca n sc A env outer s Λ ρ S fr) : At base ca n sc A env (env :: outer) s Λ ρ S fr := ⟨h.a, h.e.ok, h.k, h.f, h.x⟩
theorem AtX.lt (h : AtX base ca (n + 1) sc A env outer s Λ ρ S fr) : AtX base ca n sc A env outer s Λ ρ S fr := ⟨h.a.le (Nat.le_succ n), h.e, h.o, h.k, h.f, h.x⟩
theorem AtX.step0 (h : AtX base ca n sc A env outer s Λ ρ S fr) (ev : Evo X0 Λ ρ Λ₁ ρ₁) {h₁ : Heap} {t₁ : Nat} {S₁ : H} (x : St8 base ca Λ₁ ρ₁ S₁ h₁) : AtX base ca n sc A env outer { s with heap := h₁, toks := t₁ } Λ₁ ρ₁ S₁ fr :=
  ⟨h.a, h.e, h.o.evo0 ev, h.k.mono ev, h.f.mono ev, x⟩
theorem AtX.step (h : AtX base ca n sc A env outer s Λ ρ S fr) (ev : Evo (own env) Λ ρ Λ₁ ρ₁) {h₁ : Heap} {t₁ : Nat} {S₁ : H} (x : St8 base ca Λ₁ ρ₁ S₁ h₁) (f : FrRel sc Λ₁ ρ₁ env fr₁) : AtX base ca n sc A env outer { s with heap := h₁, toks := t₁ } Λ₁ ρ₁ S₁ fr₁ :=
  ⟨h.a, h.e, h.o.evo (fun _ h => h) ev, h.k.evoOwn h.e.frame h.o ev, f, x⟩
end


section
variable {base : Heap} {ca : Nat → Addr} {SE : Addr} {s : Shared} {Λ Λ₁ : Led} {ρ ρ₁ : Rho} {outer : List Env} {S : H} {sc : Scope} {env : Env} {fr : Fr} {n m : Nat} {A : Around} {t : Tb}
variable {prog : Program} {w : World} {K : Frag} {M : Model} {X : H → Prop}

theorem OkE.useX {pe : PySem.Expr} {e : E} (h : OkE base ca SE prog w t n sc pe e) (H : AtX base ca n sc A env outer s Λ ρ S fr) {Q : V → Mine.H → Prop} (hq : ev t n e fr S X Q) {R : Value → Shared → Prop}
    (k : ∀ v' v h₁ t₁ Λ₁ ρ₁ S₁, AtX base ca n sc A env outer { s with heap := h₁, toks := t₁ } Λ₁ ρ₁ S₁ fr → Evo X0 Λ ρ Λ₁ ρ₁ → VRel Λ₁ ρ₁ v v' → Q v S₁ → R v' { s with heap := h₁, toks := t₁ }) :
    wpAny (model prog w) A (eval pe env) R (PX base ca SE (own env) s Λ ρ (env :: outer) X) s :=
  monoV (h A env _ s Λ ρ S fr X Q H.at hq) (fun _ _ e => e.of0 H.o) fun v' v h₁ t₁ Λ₁ ρ₁ S₁ ev x hv q => k v' v h₁ t₁ Λ₁ ρ₁ S₁ (H.step0 ev x) ev hv q
theorem OkE.thenX {pe : PySem.Expr} {e : E} {h₀ : Heap} {t₀ : Nat} (h : OkE base ca SE prog w t n sc pe e) (ev₀ : Evo (own env) Λ ρ Λ₁ ρ₁) (H : AtX base ca n sc A env outer { s with heap := h₀, toks := t₀ } Λ₁ ρ₁ S fr) {Q : V → Mine.H → Prop} (hq : ev t n e fr S X Q) {R : Value → Shared → Prop}
    (k : ∀ v' v h₁ t₁ Λ₂ ρ₂ S₁, AtX base ca n sc A env outer { s with heap := h₁, toks := t₁ } Λ₂ ρ₂ S₁ fr → Evo (own env) Λ ρ Λ₂ ρ₂ → Evo X0 Λ₁ ρ₁ Λ₂ ρ₂ → VRel Λ₂ ρ₂ v v' → Q v S₁ → R v' { s with heap := h₁, toks := t₁ }) :
    wpAny (model prog w) A (eval pe env) R (PX base ca SE (own env) s Λ ρ (env :: outer) X) { s with heap := h₀, toks := t₀ } :=
  monoV (h A env _ _ Λ₁ ρ₁ S fr X Q H.at hq) (fun _ _ e => PX.transO ev₀ (e.of0 H.o)) fun v' v h₁ t₁ Λ₂ ρ₂ S₁ ev x hv q => k v' v h₁ t₁ Λ₂ ρ₂ S₁ (H.step0 ev x) (ev₀.trans (ev.of0 H.o.z)) ev hv q

/-- done, and the frame as it was -/
theorem pf_same {Q : Option V → Fr → Mine.H → Prop} {h₁ : Heap} {t₁ : Nat} (ev : Evo (own env) Λ ρ Λ₁ ρ₁) (H : AtX base ca n sc A env outer { s with heap := h₁, toks := t₁ } Λ₁ ρ₁ S fr) (q : Q none fr S) : PF base ca sc env s Λ ρ Q .next { s with heap := h₁, toks := t₁ } :=
  ⟨h₁, t₁, Λ₁, ρ₁, fr, S, rfl, ev, H.x, H.f, q⟩

theorem swaps_no {e : PySem.Expr} (h : simpleE e = true) {tg : Option PySem.Expr} {ln : Nat} (hn : notComp e = true) : swapsWith e tg ln env = pure false := by
  cases e <;> first | rfl | (cases hn; done) | (cases h; done)
theorem swaps_sub {e : PySem.Expr} (h : simpleE e = true) {o i : PySem.Expr} {p : Pos} {ln : Nat} : swapsWith e (some (.Subscript o i p)) ln env = pure false := by
  cases e <;> first | rfl | cases h
theorem swaps_attr {e : PySem.Expr} (h : simpleE e = true) {o : PySem.Expr} {a : Str} {p : Pos} {ln : Nat} : swapsWith e (some (.Attribute o a p)) ln env = pure false := by
  cases e <;> first | rfl | cases h
theorem swaps_tup {e : PySem.Expr} (h : simpleE e = true) {ts : List PySem.Expr} {k : Nat} {p : Pos} {ln : Nat} : swapsWith e (some (.Tuple ts k p)) ln env = pure false := by
  cases e <;> first | rfl | cases h

theorem okX_asg {x : Str} {k : Nat} {pe : PySem.Expr} {e : E} {p pos : Pos} (hx : stName tab sc x = some k) (hs : ∀ env : Env, swapsWith pe (some (.Name x p)) pos.line env = pure false) (he : OkE base ca SE prog w t n sc pe e) : OkX base ca SE prog w t (n + 1) sc (.Assign [.Name x p] pe pos) (.asg k e) := by
  intro A env outer s Λ ρ S fr Qx Q H h
  refine wpAny_Assign_Name (he.useX H.lt h fun v' v h₁ t₁ Λ₁ ρ₁ S₁ H₁ ev₁ hv q => ?_) (hs env)
  refine snd_store H₁.e H₁.o H₁.f H₁.x hx hv fun h' tk Λ' ev x f o => ?_
  exact ⟨h', tk, Λ', ρ₁, _, S₁, rfl, (ev₁.of0 H.o.z).trans ev, x, f, q⟩

theorem okX_asgComp {x y : Str} {k xi : Nat} {elt it : PySem.Expr} {elt' it' : E} {ifs : List PySem.Expr} {ifs' : List E} {csc : Scope} {px p cpos pos : Pos} (hx : stName tab sc x = some k)
    (hc : CompSc sc csc y) (hxi : find tab.names y = some xi) (hit : OkE base ca SE prog w t n sc it it') (hpl : plainE it = true) (helt : OkE base ca SE prog w t n csc elt elt') (hifs : Each (fun pe e => OkT base ca SE prog w t n csc pe e) ifs ifs') :
    OkX base ca SE prog w t (n + 2) sc (.Assign [.Name x p] (.ListComp elt [⟨.Name y px, it, ifs, 0⟩] csc cpos) pos) (.asg k (.comp elt' xi it' ifs')) := by
  intro A env outer s Λ ρ S fr Qx Q H h
  have h : ev t (n + 1) (.comp elt' xi it' ifs') fr S Qx (fun v S1 => Q none (upd fr k v) S1) := h
  obtain ⟨b, hb⟩ : ∃ b, swapsWith (.ListComp elt [⟨.Name y px, it, ifs, 0⟩] csc cpos) (some (.Name x p)) pos.line env = pure b := ⟨_, rfl⟩
  cases b with
  | false =>
    refine wpAny_Assign_Name ((okE_comp hc hxi hit hpl helt hifs).useX H.lt h fun v' v h₁ t₁ Λ₁ ρ₁ S₁ H₁ ev₁ hv q => ?_) hb
    refine snd_store H₁.e H₁.o H₁.f H₁.x hx hv fun h' tk Λ' ev x f o => ?_
    exact ⟨h', tk, Λ', ρ₁, _, S₁, rfl, (ev₁.of0 H.o.z).trans ev, x, f, q⟩
  | true =>
    rw [exec_Assign_Name_used _ _ _ _ hb]
    refine wpAny_bind (wpAny_standAt (wpAny_bind ?_))
    show wpAny _ A (do let _ ← comprehension (.ListComp elt [⟨.Name y px, it, ifs, 0⟩] csc cpos) csc env _ (newList []) false (eval it env) (some (assign (.Name x p) env))) _ _ s
    refine wpAny_bind (wpAny_mono (snd_comp (use := some (assign (.Name x p) env)) (Qv := fun _ s' => PF base ca sc env s Λ ρ Q .next s') (Qc := fun v S1 => Q none (upd fr k v) S1) hc hxi hit hpl helt hifs H.lt.lt.at h ?_) (fun _ s' hq => wpAny_pure (wpAny_pure hq)) fun _ _ e => e.of0 H.o)
    intro D C Λ' ρ' S' h' tk r ev x1 hr hC hm q
    obtain ⟨m, hm⟩ := hm
    have H₁ : AtX base ca (n + 2) sc A env outer { s with heap := h', toks := tk } Λ' ρ' S' fr := H.step0 ev x1
    have nown : ¬ own env C := by
      rintro (rfl | ⟨nn, hn⟩)
      · obtain ⟨m', h1⟩ := H.o.ns; have := hC _ h1; cases this
      · obtain ⟨v0, h1⟩ := H.o.cell nn C hn; have := hC _ h1; cases this
    show wpAny _ A (assign (.Name x p) env (.ref D)) _ _ _
    refine wpAny_assign_Name (snd_store H₁.e H₁.o H₁.f H₁.x hx hr fun h'' tk' Λ'' ev'' x'' f'' o'' => ?_)
    have hm'' := ev''.pres _ _ hm rfl nown
    refine ⟨m, x''.holds.ns hm'', fun h₃ hs₃ => ?_⟩
    have hsd := x''.sideDrop hm'' trivial hs₃.extBut
    have hev : Evo (own env) Λ ρ (Λ''.del C) ρ' := ((ev.of0 H.o.z).trans ev'').delMut hC
    refine ⟨h₃, tk', Λ''.del C, ρ', _, S', rfl, hev, hsd, ?_, q⟩
    intro y u kk e hy hyk hyg
    obtain ⟨u', h1, h2⟩ := f'' y u kk e hy hyk hyg
    refine ⟨u', vrel_sideDel hm'' trivial h1, ?_⟩
    rcases h2 with ⟨k1, m', k2, k3⟩ | ⟨k1, c, k2, k3⟩
    · exact .inl ⟨k1, m', by rw [Led.del_ne (fun e => nown (.inl e.symm))]; exact k2, k3⟩
    · exact .inr ⟨k1, c, k2, by rw [Led.del_ne (fun e => nown (.inr ⟨_, e ▸ k2⟩))]; exact k3⟩

theorem okX_asgIdx {o i pe : PySem.Expr} {o' i' e : E} {p pos : Pos} (hs : ∀ env : Env, swapsWith pe (some (.Subscript o i p)) pos.line env = pure false) (ho : OkE base ca SE prog w t n sc o o') (hi : OkE base ca SE prog w t n sc i i') (he : OkE base ca SE prog w t n sc pe e) :
    OkX base ca SE prog w t (n + 1) sc (.Assign [.Subscript o i p] pe pos) (.asgIdx o' i' e) := by
  intro A env outer s Λ ρ S fr Qx Q H h
  refine wpAny_Assign_Subscript (he.useX H.lt h fun v' v h₁ t₁ Λ₁ ρ₁ S₁ H₁ ev₁ hv q₁ => ?_) (hs env)
  refine ho.thenX (ev₁.of0 H.o.z) H₁ q₁ fun vo' vo h₂ t₂ Λ₂ ρ₂ S₂ H₂ ev₂ e₂ hvo q₂ => ?_
  refine hi.thenX ev₂ H₂ q₂ fun vi' vi h₃ t₃ Λ₃ ρ₃ S₃ H₃ ev₃ e₃ hvi q₃ => ?_
  refine wpAny_mono (snd_setI H₃.x (e₃.vrel hvo) hvi (e₃.vrel (e₂.vrel hv)) q₃) (fun _ s₄ q => ?_) fun _ _ e => e
  obtain ⟨h', tk, Λ', ρ', S', rfl, e, x, q⟩ := q
  exact pf_same (ev₃.trans (e.of0 H₃.o.z)) (H₃.step0 e x) q

theorem okX_asgAttr (G : Cx prog w K base ca SE t) {o pe : PySem.Expr} {o' e : E} {a : Str} {k : Nat} {p pos : Pos} (hs : ∀ env : Env, swapsWith pe (some (.Attribute o a p)) pos.line env = pure false) (ha : find tab.names a = some k) (ho : OkE base ca SE prog w t n sc o o') (he : OkE base ca SE prog w t n sc pe e) :
    OkX base ca SE prog w t (n + 1) sc (.Assign [.Attribute o a p] pe pos) (.asgAttr o' k e) := by
  intro A env outer s Λ ρ S fr Qx Q H h
  have hsw : swappedStores [.Attribute o a p] pe env = pure none := by cases pe <;> rfl
  refine wpAny_Assign_stores (he.useX H.lt h fun v' v h₁ t₁ Λ₁ ρ₁ S₁ H₁ ev₁ hv q₁ => ?_) (hs env) hsw
  show wpAny _ A (do
    let ov ← holding [v'] (eval o env)
    standAt p.atName
    holding [v', ov] (setAttr ov a v')
    release [v', ov] []) _ _ _
  refine wpAny_bind (wpAny_holding (ho.thenX (ev₁.of0 H.o.z) H₁ q₁ fun vo' vo h₂ t₂ Λ₂ ρ₂ S₂ H₂ ev₂ e₂ hvo q₂ => ?_))
  have hnm := find_nm ha
  subst hnm
  refine wpAny_bind (wpAny_standAt (wpAny_bind (wpAny_holding (wpAny_mono (snd_setA G (find_spec ha).1 H₂.x hvo (e₂.vrel hv) q₂) (fun _ s₄ q => wpAny_release' ?_) fun _ _ e => e))))
  obtain ⟨h', tk, Λ', ρ', S', rfl, e, x, q⟩ := q
  exact pf_same (ev₂.trans (e.of0 H₂.o.z)) (H₂.step0 e x) q

noncomputable def intK (Q : Int → Mine.H → Prop) (v : V) (S : Mine.H) : Prop := match v with
  | .int b => Q b S
  | _ => False
theorem intK_inv {Q : Int → Mine.H → Prop} {v : V} {S : Mine.H} (h : intK Q v S) : ∃ b, v = .int b ∧ Q b S := by
  cases v <;> first | exact ⟨_, rfl, h⟩ | exact h.elim
theorem okX_aug {x : Str} {k : Nat} {kk : NameKind} {pe : PySem.Expr} {e : E} {p pos : Pos} (hx : stName tab sc x = some k) (he : OkE base ca SE prog w t n sc pe e) : OkX base ca SE prog w t (n + 1) sc (.AugAssign (.Name x p) .Add pe pos) (.aug k e) := by
  intro A env outer s Λ ρ S fr Qx Q H h
  have h : (match fr k with | some (.int a) => ev t n e fr S Qx (fun v S1 => match v with | .int b => Q none (upd fr k (.int (a + b))) S1 | _ => False) | _ => False) := h
  obtain ⟨a, hfr, h⟩ : ∃ a, fr k = some (.int a) ∧ ev t n e fr S Qx (intK fun b => Q none (upd fr k (.int (a + b)))) := by
    cases q : fr k with
    | none => rw [q] at h; exact h.elim
    | some v => rw [q] at h; cases v <;> first | exact ⟨_, rfl, h⟩ | exact h.elim
  obtain ⟨hfind, hkind⟩ := stName_spec hx
  have hnm := find_nm hfind
  obtain ⟨kd, hkd, hkg⟩ : ∃ kd, sc.names.lookup (nm k) = some kd ∧ kd ≠ .globalImplicit := by
    rw [hnm]
    rcases hkind with h | h
    · exact ⟨_, h, by decide⟩
    · exact ⟨_, h, by decide⟩
  obtain ⟨v0, hv0, hr0⟩ := H.f k _ kd hfr (find_spec hfind).1 hkd hkg
  obtain ⟨tk0, rfl⟩ := hv0
  rw [hnm] at hr0
  have hcd := (nm_plain (find_spec hfind).1).2
  rw [hnm] at hcd
  refine wpAny_AugAssign_Name (reads_name H.e.ok H.x hr0 hcd ?_)
  refine he.useX H.lt h fun v' v h₁ t₁ Λ₁ ρ₁ S₁ H₁ ev₁ hv q₁ => ?_
  obtain ⟨b, rfl, q₁⟩ := intK_inv q₁
  obtain ⟨u, rfl⟩ := hv
  refine iadd_int ?_
  refine snd_store (s := { s with heap := h₁, toks := t₁ + 1 }) (v := .int (a + b)) H₁.e H₁.o H₁.f H₁.x hx vInt fun h' tk Λ' ev x f o => ?_
  exact ⟨h', tk, Λ', ρ₁, _, S₁, rfl, (ev₁.of0 H.o.z).trans ev, x, f, q₁⟩

theorem okX_ret {pe : PySem.Expr} {e : E} {pos : Pos} (he : OkE base ca SE prog w t n sc pe e) : OkX base ca SE prog w t (n + 1) sc (.Return (some pe) pos) (.ret e) := by
  intro A env outer s Λ ρ S fr Qx Q H h
  exact wpAny_Return_some (he.useX H.lt h fun v' v h₁ t₁ Λ₁ ρ₁ S₁ H₁ ev₁ hv q₁ => ⟨h₁, t₁, Λ₁, ρ₁, fr, S₁, rfl, ev₁.of0 H.o.z, H₁.x, H₁.f, v, hv, q₁⟩)

theorem okX_expr {pe : PySem.Expr} {e : E} {pos : Pos} (hs : ∀ env : Env, swapsWith pe none pos.line env = pure false) (he : OkE base ca SE prog w t n sc pe e) : OkX base ca SE prog w t (n + 1) sc (.Expr pe pos) (.expr e) := by
  intro A env outer s Λ ρ S fr Qx Q H h
  refine wpAny_Expr_any (he.useX H.lt (Q := fun _ S1 => Q none fr S1) h fun v' v h₁ t₁ Λ₁ ρ₁ S₁ H₁ ev₁ hv q₁ => ?_) ?_ (hs env)
  · exact pf_same (ev₁.of0 H.o.z) H₁ q₁
  · unfold interactive; rw [H.e.scope, H.e.kind]; rfl

theorem okX_ife {c : PySem.Expr} {c' : E} {a b : List PySem.Stmt} {a' b' : List St} {pos : Pos} (hc : OkT base ca SE prog w t n sc c c') (ha : OkXs base ca SE prog w t n sc a a') (hb : OkXs base ca SE prog w t n sc b b') :
    OkX base ca SE prog w t (n + 1) sc (.If c a b pos) (.ife c' a' b') := by
  intro A env outer s Λ ρ S fr Qx Q H h
  refine wpAny_If (wpAny_mono (hc A env _ s Λ ρ S fr Qx _ H.lt.at h) (fun g s₁ q => ?_) fun _ _ e => e.of0 H.o)
  obtain ⟨h₁, t₁, Λ₁, ρ₁, S₁, rfl, ev₁, x, q⟩ := q
  have H₁ := H.lt.step0 (t₁ := t₁) ev₁ x
  have ev₁' := ev₁.of0 H.o.z
  cases g with
  | true => exact wpAny_mono (snd_exs ha _ Λ₁ ρ₁ S₁ fr Qx Q H₁ q) (fun _ _ => PF.trans ev₁') fun _ _ => PX.transO ev₁'
  | false => exact wpAny_mono (snd_exs hb _ Λ₁ ρ₁ S₁ fr Qx Q H₁ q) (fun _ _ => PF.trans ev₁') fun _ _ => PX.transO ev₁'
end
end Mine
end

section
set_option Elab.async false
set_option autoImplicit false
set_option linter.unusedVariables false
open PySem PySem.W PyProof.Rows
namespace Mine
section
variable {prog : Program} {w : World} {A : Around} {E : Value → Shared → Prop} {s : Shared}
theorem draw_list {it l : Addr} {items : Array Value} (hne : l ≠ it) (n : Nat) : ∀ (i : Nat) (s : Shared) (Q : List Value → Shared → Prop), s.heap.IsListIter it l i → s.heap.IsList l items → i + n ≤ items.size →
    (∀ h', h'.IsListIter it l (i + n) → Heap.SameBut it s.heap h' → Q ((items.toList.drop i).take n) { s with heap := h' }) → wpAny (model prog w) A (draw (.ref it) n) Q E s := by
  induction n with
  | zero =>
    intro i s Q hit _ _ hQ
    show wpAny _ _ (pure []) Q E s
    exact wpAny_pure (hQ s.heap hit (Heap.SameBut.refl ..))
  | succ n ih =>
    intro i s Q hit ht hle hQ
    have hlt : i < items.size := Nat.lt_of_lt_of_le (Nat.lt_add_of_pos_right (Nat.succ_pos n)) hle
    show wpAny _ _ (pyNext (.ref it) >>= _) Q E s
    refine wpAny_bind (wpAny_pyNext_list_item hit ht (x := items[i]) (Array.getElem?_eq_getElem hlt) fun h₁ hit₁ hs₁ => ?_)
    have e : i + (n + 1) = i + 1 + n := Nat.add_right_comm i n 1
    refine wpAny_bind (wpAny_holding (ih (i + 1) _ _ hit₁ (ht.extBut hs₁.extBut hne) (e ▸ hle) fun h₂ hit₂ hs₂ => wpAny_pure ?_))
    have hd : items.toList.drop i = items[i] :: items.toList.drop (i + 1) := List.drop_eq_getElem_cons (Array.length_toList.symm ▸ hlt)
    have := hQ h₂ (by rw [e]; exact hit₂) (hs₁.trans hs₂)
    rw [hd, List.take_succ_cons] at this
    exact this
theorem unpack_list {l : Addr} {items : Array Value} {Q : List Value → Shared → Prop} (hh : A.handled = none) (ht : s.heap.IsList l items)
    (hQ : ∀ h', Heap.ExtBut s.heap.objs.size s.heap h' → Q items.toList { s with heap := h' }) : wpAny (model prog w) A (unpackItems (.ref l) items.size none) Q E s := by
  have hlt : l ≠ s.heap.objs.size := by obtain ⟨o, ho, _⟩ := ht; exact Nat.ne_of_lt (Heap.lt_size ho)
  unfold unpackItems notIterableAtAll
  refine wpAny_bind ?_
  refine wpAny_bind (wpAny_specialOf ht.typeIs slot_list_iter.lookup ?_)
  refine wpAny_pure ?_
  simp only [Bool.false_eq_true, if_false]
  refine wpAny_bind (wpAny_holding (wpAny_pyIter_list ht ?_))
  refine wpAny_bind (wpAny_holding (draw_list hlt items.size 0 _ _ ⟨_, Heap.get?_push_size _ rfl, rfl, rfl⟩ (ht.at fun o e => Heap.get?_push_of_some _ e) (by lia) fun h₁ hit₁ hs₁ => ?_))
  have hall : List.take items.size (List.drop 0 items.toList) = items.toList := by
    rw [List.drop_zero]; exact List.take_of_length_le (by simp)
  rw [hall]
  rw [if_neg (by simp)]
  have ht₁ : h₁.IsList l items := (ht.at fun o e => Heap.get?_push_of_some _ e).extBut hs₁.extBut hlt
  refine wpAny_bind (wpAny_holding (wpAny_pyNext_list_end hh hit₁ ht₁ (by simp) fun h₂ he₂ => ?_))
  simp only [Option.isSome_none, Bool.false_eq_true, if_false]
  exact wpAny_pure (hQ h₂ fun b o hb e => he₂ b o hb (hs₁.extBut b o hb (Heap.get?_push_of_some _ e)))
end

section
variable {base : Heap} {ca : Nat → Addr} {SE : Addr} {s : Shared} {Λ Λ₁ : Led} {ρ ρ₁ : Rho} {outer : List Env} {S : H} {sc : Scope} {env : Env} {fr : Fr} {n m : Nat} {A : Around} {t : Tb}
variable {prog : Program} {w : World} {K : Frag} {M : Model} {X : H → Prop} {E : Value → Shared → Prop}

theorem nameId_spec {pe : PySem.Expr} {k : Nat} (h : nameId tab sc pe = some k) : ∃ x p, pe = .Name x p ∧ stName tab sc x = some k := by
  cases pe <;> first | exact ⟨_, _, rfl, h⟩ | cases h

/-- stores done: where the frame stands now -/
inductive PS (base : Heap) (ca : Nat → Addr) (sc : Scope) (env : Env) (s : Shared) (Λ : Led) (ρ : Rho) (S : H) (fr' : Fr) (s' : Shared) : Prop where
  | mk (h' : _) (tk : _) (Λ' : _) (hh1 : s' = { s with heap := h', toks := tk }) (hh2 : Evo (own env) Λ ρ Λ' ρ) (hh3 : St8 base ca Λ' ρ S h') (hh4 : FrRel sc Λ' ρ env fr')
theorem PS.trans {fr' : Fr} {h₁ : Heap} {t₁ : Nat} {s' : Shared} (ev : Evo (own env) Λ ρ Λ₁ ρ) (p : PS base ca sc env { s with heap := h₁, toks := t₁ } Λ₁ ρ S fr' s') : PS base ca sc env s Λ ρ S fr' s' := by
  obtain ⟨h', tk, Λ', rfl, e, x, f⟩ := p
  exact ⟨h', tk, Λ', rfl, ev.trans e, x, f⟩

theorem vrel_own {v : V} {v' : Value} (hfo : FrameOk Λ env) (ev : Evo (own env) Λ ρ Λ₁ ρ₁) (hv : VRel Λ ρ v v') : VRel Λ₁ ρ₁ v v' := ev.vrel hv

theorem snd_storeAll (ts : List PySem.Expr) : ∀ (ks : List Nat), mapO (nameId tab sc) ts = some ks → ∀ (vs : List V) (vs' : List Value) (s : Shared) (Λ : Led) (fr : Fr), ks.length = vs.length → FnEnv sc env → FrameOk Λ env → FrRel sc Λ ρ env fr → St8 base ca Λ ρ S s.heap → Each (VRel Λ ρ) vs vs' →
    wpAny (model prog w) A (assignInOrder ((assignEach ts env).map (·.2)) vs') (fun _ s' => PS base ca sc env s Λ ρ S (upds fr ks vs) s') E s := by
  induction ts with
  | nil =>
    intro ks hk vs vs' s Λ fr hl he ho hf st hv
    cases mapO_nil hk
    exact wpAny_pure ⟨s.heap, s.toks, Λ, rfl, .refl ho.z, st, hf⟩
  | cons pe ts ih =>
    intro ks hk vs vs' s Λ fr hl he ho hf st hv
    obtain ⟨k, ks', h1, h2, rfl⟩ := mapO_cons hk
    obtain ⟨x, p, rfl, hx⟩ := nameId_spec h1
    cases hv with
    | nil => cases hl
    | @cons v v' vs vs' hv hr =>
      show wpAny _ A (do holding vs' (assign (.Name x p) env v'); assignInOrder ((assignEach ts env).map (·.2)) vs') _ E s
      refine wpAny_bind (wpAny_holding (wpAny_assign_Name (snd_store he ho hf st hx hv fun h' tk Λ' ev x' f' o' => ?_)))
      exact wpAny_mono (ih ks' h2 vs vs' { s with heap := h', toks := tk } Λ' _ (Nat.succ.inj hl) he o' f' x' (ev.vrels hr)) (fun _ s₂ q => PS.trans ev q) fun _ _ e => e

theorem stars_none (ts : List PySem.Expr) : ∀ (ks : List Nat), mapO (nameId tab sc) ts = some ks → (assignEach ts env).length = ts.length ∧ (assignEach ts env).findIdx? (·.1) = none ∧ ts.length = ks.length := by
  induction ts with
  | nil => intro ks hk; cases mapO_nil hk; exact ⟨rfl, rfl, rfl⟩
  | cons pe ts ih =>
    intro ks hk
    obtain ⟨k, ks', h1, h2, rfl⟩ := mapO_cons hk
    obtain ⟨x, p, rfl, hx⟩ := nameId_spec h1
    obtain ⟨i1, i2, i3⟩ := ih ks' h2
    refine ⟨congrArg Nat.succ i1, ?_, congrArg Nat.succ i3⟩
    show List.findIdx? _ ((false, assign (.Name x p) env) :: assignEach ts env) = none
    rw [List.findIdx?_cons, i2]; rfl

/-- a list is unpacked into names -/
theorem snd_unp {ts : List PySem.Expr} {ks : List Nat} {k : Nat} {p : Pos} {v : V} {v' : Value} {Qb : Fr → Prop} (hk : mapO (nameId tab sc) ts = some ks) (H : AtX base ca n sc A env outer s Λ ρ S fr) (hv : VRel Λ ρ v v') (h : bndN ks fr v S Qb) :
    wpAny (model prog w) A (assign (.Tuple ts k p) env v') (fun _ s' => ∃ fr', PS base ca sc env s Λ ρ S fr' s' ∧ Qb fr') E s := by
  unfold bndN at h
  split at h
  · rename_i i
    split at h
    · rename_i ws e1
      obtain ⟨c, hc, rfl⟩ := hv
      obtain ⟨c', vs', hc', h1, h2, _⟩ := H.x.list e1
      rw [hc] at hc'; cases hc'
      obtain ⟨i1, i2, i3⟩ := stars_none (env := env) ts ks hk
      obtain ⟨q1, q2, q3⟩ := h
      rw [arm_assign_Tuple]
      refine wpAny_bind (wpAny_standAt ?_)
      unfold unpack
      have hsz : (assignEach ts env).length = vs'.toArray.size := by rw [i1, i3, ← q1, h2.length]; simp
      rw [hsz, i2]
      refine wpAny_bind (wpAny_holding (unpack_list H.a.handled (H.x.holds.isList h1) fun h' hx => ?_))
      have st' : St8 base ca Λ ρ S h' := H.x.keeps fun b o e => hx b o (Nat.ne_of_lt (Heap.lt_size e)) e
      refine wpAny_mono (snd_storeAll ts ks hk ws vs' { s with heap := h' } Λ fr q1.symm H.e H.o H.f st' h2) (fun _ s' q => ⟨_, ?_, q3⟩) fun _ _ e => e
      obtain ⟨h₂, t₂, Λ₂, rfl, e, x, f⟩ := q
      exact ⟨h₂, t₂, Λ₂, rfl, e, x, f⟩
    · exact h.elim
  · exact h.elim

theorem okX_unp {ts : List PySem.Expr} {ks : List Nat} {k : Nat} {p pos : Pos} {pe : PySem.Expr} {e : Mine.E} (hk : mapO (nameId tab sc) ts = some ks) (hs : ∀ env : Env, swapsWith pe (some (.Tuple ts k p)) pos.line env = pure false) (hw : ∀ env : Env, swappedStores [.Tuple ts k p] pe env = pure none)
    (he : OkE base ca SE prog w t n sc pe e) : OkX base ca SE prog w t (n + 1) sc (.Assign [.Tuple ts k p] pe pos) (.unp ks e) := by
  intro A env outer s Λ ρ S fr Qx Q H h
  refine Assign_Tuple (he.useX H.lt h fun v' v h₁ t₁ Λ₁ ρ₁ S₁ H₁ ev₁ hv q => ?_) (hs env) (hw env)
  refine wpAny_mono (snd_unp hk H₁ hv q) (fun _ s' q => ?_) fun _ _ e => e
  obtain ⟨fr', ⟨h₂, t₂, Λ₂, rfl, ev, x, f⟩, q⟩ := q
  exact ⟨h₂, t₂, Λ₂, ρ₁, fr', S₁, rfl, (ev₁.of0 H.o.z).trans ev, x, f, q⟩
end
end Mine
end

section
set_option Elab.async false
set_option autoImplicit false
set_option linter.unusedVariables false
open PySem PySem.W PyProof.Rows
namespace Mine
section
variable {base : Heap} {ca : Nat → Addr} {SE : Addr} {s : Shared} {Λ Λ₁ : Led} {ρ ρ₁ : Rho} {outer : List Env} {S : H} {sc : Scope} {env : Env} {fr : Fr} {n m : Nat} {A : Around} {t : Tb}
variable {prog : Program} {w : World} {K : Frag} {X : H → Prop}

variable (base ca prog w) in
/-- what a target of a loop does -/
noncomputable def Binds (n : Nat) (sc : Scope) (tgt : PySem.Expr) (bnd : Fr → V → H → (Fr → Prop) → Prop) : Prop := ∀ (A : Around) (env : Env) (outer : List Env) (s : Shared) (Λ : Led) (ρ : Rho) (S : H) (fr : Fr) (v : V) (v' : Value) (Qb : Fr → Prop) (EE : Value → Shared → Prop),
  AtX base ca n sc A env outer s Λ ρ S fr → VRel Λ ρ v v' → bnd fr v S Qb → wpAny (model prog w) A (assign tgt env v') (fun _ s' => ∃ fr', PS base ca sc env s Λ ρ S fr' s' ∧ Qb fr') EE s

theorem binds1 {x : Str} {k : Nat} {p : Pos} (hx : stName tab sc x = some k) : Binds base ca prog w n sc (.Name x p) (bnd1 k) := by
  intro A env outer s Λ ρ S fr v v' Qb EE H hv h
  refine wpAny_assign_Name (snd_store H.e H.o H.f H.x hx hv fun h' tk Λ' ev x f o => ?_)
  exact ⟨_, ⟨h', tk, Λ', rfl, ev, x, f⟩, h⟩
theorem bindsN {ts : List PySem.Expr} {ks : List Nat} {k : Nat} {p : Pos} (hk : mapO (nameId tab sc) ts = some ks) : Binds base ca prog w n sc (.Tuple ts k p) (bndN ks) := by
  intro A env outer s Λ ρ S fr v v' Qb EE H hv h
  exact snd_unp hk H hv h

theorem owned_go {tgt : PySem.Expr} {I : Addr} {o : Obj} {v : V} {i : Nat} {v' : Value} {Q : Unit → Shared → Prop} {EE : Value → Shared → Prop} (ht : (∃ x p, tgt = .Name x p) ∨ ∃ ts k p, tgt = .Tuple ts k p) (hI : s.heap.get? I = some o) (hit : ItAt ρ i o v) (q : Q () s) :
    wpAny (model prog w) A (letOwnedTupleGo tgt (.ref I) v') Q EE s := by
  rcases ht with ⟨x, p, rfl⟩ | ⟨ts, k, p, rfl⟩
  · exact wpAny_pure q
  · unfold letOwnedTupleGo
    dsimp only
    split
    · rename_i r a hra
      have : r = I := by
        have := congrArg (fun (x : Value × Value) => x.1) hra
        simp only at this
        cases this; rfl
      subst this
      refine wpAny_bind (wpAny_load hI ?_)
      have hcls : ∃ T vs, o.cls = .type T ∧ o.data = .fields vs ∧ ["enumerate", "zip", "dict_itemiterator", "dict_reverseitemiterator", "odict_iterator", "itertools.zip_longest", "itertools.pairwise"].contains T = false := by
        cases v with
        | ref k => obtain ⟨c, _, h1, h2⟩ := hit; exact ⟨_, _, h1, h2, by decide⟩
        | rng lo hi st => obtain ⟨_, rfl⟩ := hit; exact ⟨_, _, rfl, rfl, by decide⟩
        | _ => exact hit.elim
      obtain ⟨T, vs, h1, h2, h3⟩ := hcls
      rw [h1, h2]
      dsimp only
      rw [h3]
      simp only [Bool.false_and, Bool.false_eq_true, if_false]
      exact wpAny_pure q
    · exact wpAny_pure q

/-- where a loop stands -/
inductive LF (base : Heap) (ca : Nat → Addr) (sc : Scope) (env : Env) (bnd : Fr → V → H → (Fr → Prop) → Prop) (body : Fr → H → (Option V → Fr → H → Prop) → Prop) (sA : Shared) (Λa : Led) (ρa : Rho) (I : Addr) (v : V) (vs0 : List V) (Q : Option V → Fr → H → Prop) (rem : Nat) (s : Shared) : Prop where
  | mk (Λ : _) (ρ : _) (S : _) (h : _) (tk : _) (o : _) (i : _) (fr : _) (hh1 : s = { sA with heap := h, toks := tk }) (hh2 : Evo (own env) Λa ρa Λ ρ) (hh3 : FrRel sc Λ ρ env fr) (hh4 : St8 base ca Λ ρ S h) (hh5 : Λ I = some (.iter o)) (hh6 : ItAt ρ i o v) (hh7 : rem = vs0.length - i) (hh8 : forL bnd body v vs0 (vs0.drop i) fr S Q)
theorem okX_for {tgt it : PySem.Expr} {it' : E} {body : List PySem.Stmt} {body' : List St} {bnd : Fr → V → H → (Fr → Prop) → Prop} {pos : Pos} (ht : (∃ x p, tgt = .Name x p) ∨ ∃ ts k p, tgt = .Tuple ts k p) (hb : Binds base ca prog w n sc tgt bnd)
    (hit : OkE base ca SE prog w t n sc it it') (hpl : plainE it = true) (hbody : OkXs base ca SE prog w t n sc body body')
    (A : Around) (env : Env) (outer : List Env) (s : Shared) (Λ : Led) (ρ : Rho) (S : H) (fr : Fr) (Qx : H → Prop) (Q : Option V → Fr → H → Prop) (H : AtX base ca (n + 1) sc A env outer s Λ ρ S fr)
    (h : ev t n it' fr S Qx fun v S1 => match items v S1 with
        | some vs => vs.length ≤ LIM ∧ forL bnd (fun fr S Q => exs (fun s fr S Q => ex t n s fr S Qx Q) body' fr S Q) v vs vs fr S1 Q
        | none => False) :
    wpAny (model prog w) A (exec (.For tgt it body [] pos) env) (PF base ca sc env s Λ ρ Q) (PX base ca SE (own env) s Λ ρ (env :: outer) Qx) s := by
  refine wpAny_For (hit.useX H.lt h fun v' v h₁ t₁ Λ₁ ρ₁ S₁ H₁ ev₁ hv q => ?_) (fun x => fold_plain hpl x)
  split at q
  · rename_i vs hvs
    obtain ⟨hlen, q⟩ := q
    refine snd_iter (s := { s with heap := h₁, toks := t₁ }) H₁.x hv hvs fun o hit₀ => ?_
    have hI0 : h₁.get? h₁.objs.size = none := at_size h₁
    have st₂ := H₁.x.sideNew (sp' := .iter o) (h' := h₁.push o) hI0 (fun b o' e => Heap.get?_push_of_some _ e) ⟨o, Heap.get?_push_size _ hit₀.free, rfl⟩
    have nI : Λ₁ h₁.objs.size = none := H₁.x.holds.led_none hI0
    have ev₁' := ev₁.of0 H.o.z
    show codeAny _ A (.forLoop tgt (.ref h₁.objs.size) body [] env) _ _
    generalize hI' : h₁.objs.size = I at *
    have nown : ¬ own env I := by
      rintro (rfl | ⟨nn, hn⟩)
      · obtain ⟨m', h1⟩ := H₁.o.ns; rw [nI] at h1; cases h1
      · obtain ⟨v0, h1⟩ := H₁.o.cell nn I hn; rw [nI] at h1; cases h1
    have err : ∀ (e' : Value) (Λ₂ : Led) (ρ₂ : Rho) (h₂ : Heap) (t₂ : Nat) (s' : Shared), Evo (own env) Λ₁ ρ₁ Λ₂ ρ₂ → AtX base ca n sc A env outer { s with heap := h₂, toks := t₂ } Λ₂ ρ₂ S₁ fr ∨ True → StackOk Λ₂ (env :: outer) → FrameOk Λ₂ env →
        PX base ca SE (own env) { s with heap := h₂, toks := t₂ } Λ₂ ρ₂ (env :: outer) Qx e' s' → notedBy (model prog w) A env (cameBackBy (model prog w) A env (PX base ca SE (own env) s Λ ρ (env :: outer) Qx)) e' s' := by
      intro e' Λ₂ ρ₂ h₂ t₂ s' ev₂ _ hk ho hp
      obtain ⟨h₃, t₃, Λ₃, ρ₃, S₃, e, rfl, rfl, ev₃, x₃, r₃, q₃⟩ := hp
      refine raised_pass (s := { s with heap := h₃, toks := t₃ }) (hk.evoOwn H.e.frame ho ev₃) H.e.frame H.a.frames x₃ r₃ fun h₄ x₄ r₄ => ?_
      exact ⟨h₄, t₃, Λ₃, ρ₃, S₃, e, rfl, rfl, (ev₁'.trans ev₂).trans ev₃, x₄, r₄, q₃⟩
    refine codeAny_forLoop_any (LF base ca sc env bnd (fun fr S Q => exs (fun s fr S Q => ex t n s fr S Qx Q) body' fr S Q) { s with heap := h₁, toks := t₁ } Λ₁ ρ₁ I v vs Q) (fun rem s₂ hL => ?_) (vs.length - 0)
      ⟨_, ρ₁, S₁, h₁.push o, t₁, o, 0, fr, rfl, (Evo.refl H₁.o.z).putNew nI, ?_, st₂, Led.put_self .., hit₀, rfl, by rw [List.drop_zero]; exact q⟩
    · obtain ⟨Λ₂, ρ₂, S₂, h₂, t₂, o₂, i, fr₂, rfl, ev₂, f₂, x₂, hI₂, hit₂, hrem, hF⟩ := hL
      cases hd : vs.drop i with
      | nil =>
        rw [hd] at hF
        obtain ⟨hit0, hF⟩ := (show _ ∧ _ from hF)
        refine snd_end (s := { s with heap := h₂, toks := t₂ }) H.a.handled x₂ (ev₂.vrel hv) hit0 hI₂ hit₂ (drop_nil' hd) fun h' st' => ?_
        refine wpAny_execs_nil ?_
        refine ⟨h', t₂, _, ρ₂, fr₂, S₂, rfl, ev₁'.trans (ev₂.delNew nI), st', ?_, hF⟩
        intro y u kk e hy hyk hyg
        obtain ⟨u', h1, h2⟩ := f₂ y u kk e hy hyk hyg
        refine ⟨u', vrel_sideDel hI₂ trivial h1, ?_⟩
        rcases h2 with ⟨k1, m', k2, k3⟩ | ⟨k1, c, k2, k3⟩
        · exact .inl ⟨k1, m', by rw [Led.del_ne (fun e => nown (.inl e.symm))]; exact k2, k3⟩
        · exact .inr ⟨k1, c, k2, by rw [Led.del_ne (fun e => nown (.inr ⟨_, e ▸ k2⟩))]; exact k3⟩
      | cons y r =>
        rw [hd] at hF
        obtain ⟨hit0, hF⟩ := (show _ ∧ _ from hF)
        obtain ⟨hy, rfl⟩ := drop_cons hd
        have hlt : i < vs.length := (List.getElem?_eq_some_iff.mp hy).1
        refine snd_next (s := { s with heap := h₂, toks := t₂ }) x₂ (ev₂.vrel hv) hit0 hI₂ hit₂ hy fun h₃ t₃ o₃ y' hit₃ st₃ hy' => ?_
        have ev₃ := ev₂.putNew (sp := .iter o₃) nI
        obtain ⟨oI, hoI, hok⟩ := st₃.holds.at_ I _ (Led.put_self ..)
        cases hok
        refine owned_go (s := { s with heap := h₃, toks := t₃ }) ht hoI hit₃ ?_
        have f₃ : FrRel sc (Λ₂.put I (.iter o₃)) ρ₂ env fr₂ := by
          intro y u kk e hy hyk hyg
          obtain ⟨u', h1, h2⟩ := f₂ y u kk e hy hyk hyg
          refine ⟨u', vrel_side hI₂ trivial h1, ?_⟩
          rcases h2 with ⟨k1, m', k2, k3⟩ | ⟨k1, c, k2, k3⟩
          · exact .inl ⟨k1, m', by rw [Led.put_ne (fun e => nown (.inl e.symm))]; exact k2, k3⟩
          · exact .inr ⟨k1, c, k2, by rw [Led.put_ne (fun e => nown (.inr ⟨_, e ▸ k2⟩))]; exact k3⟩
        have H₃ : AtX base ca n sc A env outer { s with heap := h₃, toks := t₃ } (Λ₂.put I (.iter o₃)) ρ₂ S₂ fr₂ := H₁.step ev₃ st₃ f₃
        refine wpAny_mono (hb A env outer _ _ ρ₂ S₂ fr₂ y y' _ _ H₃ hy' hF) (fun _ s₄ q => ?_) fun _ _ e => e
        obtain ⟨fr₄, ⟨h₄, t₄, Λ₄, rfl, ev₄, x₄, f₄⟩, q₄⟩ := q
        have H₄ : AtX base ca n sc A env outer { s with heap := h₄, toks := t₄ } Λ₄ ρ₂ S₂ fr₄ := H₃.step ev₄ x₄ f₄
        have e14 := ev₃.trans ev₄
        refine wpAny_mono (snd_exs hbody _ Λ₄ ρ₂ S₂ fr₄ Qx _ H₄ q₄) (fun fl s₅ q => ?_) fun e' s₅ q => err e' Λ₄ ρ₂ h₄ t₄ s₅ e14 (.inr trivial) H₄.k H₄.o q
        obtain ⟨h₅, t₅, Λ₅, ρ₅, fr₅, S₅, rfl, ev₅, x₅, f₅, q₅⟩ := q
        have hI₅ : Λ₅ I = some (.iter o₃) := ev₅.pres _ _ (ev₄.pres _ _ (Led.put_self ..) rfl nown) rfl nown
        cases fl with
        | next => exact ⟨vs.length - (i + 1), by lia, Λ₅, ρ₅, S₅, h₅, t₅, o₃, i + 1, fr₅, rfl, e14.trans ev₅, f₅, x₅, hI₅, hit₃.mono ev₅, rfl, q₅⟩
        | ret v₅ =>
          obtain ⟨u, hu, q₅⟩ := q₅
          exact ⟨h₅, t₅, Λ₅, ρ₅, fr₅, S₅, rfl, (ev₁'.trans e14).trans ev₅, x₅, f₅, u, hu, q₅⟩
        | brk => exact q₅.elim
        | cont => exact q₅.elim
    · intro y u kk e hy hyk hyg
      obtain ⟨u', h1, h2⟩ := H₁.f y u kk e hy hyk hyg
      refine ⟨u', (evo_add nI).vrel h1, h2.mono (evo_add (ρ := ρ₁) nI)⟩
  · exact q.elim

theorem okX_forv {x : Str} {k : Nat} {it : PySem.Expr} {it' : E} {body : List PySem.Stmt} {body' : List St} {p pos : Pos} (hx : stName tab sc x = some k) (hit : OkE base ca SE prog w t n sc it it') (hpl : plainE it = true) (hbody : OkXs base ca SE prog w t n sc body body') :
    OkX base ca SE prog w t (n + 1) sc (.For (.Name x p) it body [] pos) (.forv k it' body') := by
  intro A env outer s Λ ρ S fr Qx Q H h
  exact okX_for (.inl ⟨_, _, rfl⟩) (binds1 hx) hit hpl hbody A env outer s Λ ρ S fr Qx Q H h
theorem okX_forp {ts : List PySem.Expr} {ks : List Nat} {k : Nat} {it : PySem.Expr} {it' : E} {body : List PySem.Stmt} {body' : List St} {p pos : Pos} (hk : mapO (nameId tab sc) ts = some ks) (hit : OkE base ca SE prog w t n sc it it') (hpl : plainE it = true) (hbody : OkXs base ca SE prog w t n sc body body') :
    OkX base ca SE prog w t (n + 1) sc (.For (.Tuple ts k p) it body [] pos) (.forp ks it' body') := by
  intro A env outer s Λ ρ S fr Qx Q H h
  exact okX_for (.inr ⟨_, _, _, rfl⟩) (bindsN hk) hit hpl hbody A env outer s Λ ρ S fr Qx Q H h
end
end Mine
end

section
set_option Elab.async false
set_option autoImplicit false
set_option linter.unusedVariables false
open PySem PySem.W PyProof.Rows
namespace Mine
theorem cl0 (h n : Nat) : max (0 : Int) ((min h n : Nat) : Int) = ((min h n : Nat) : Int) := Int.max_eq_right (Int.natCast_nonneg _)
theorem cl2 (h n : Nat) : (max (0 : Int) ((min h n : Nat) : Int)).toNat = min h n := by rw [cl0, Int.toNat_natCast]
theorem cl1 (h n : Nat) : max (0 : Int) (min (h : Int) (n : Int)) = ((min h n : Nat) : Int) := by
  rw [← cl0]; congr 1
  rcases Nat.le_total h n with q | q
  · rw [Nat.min_eq_left q, Int.min_eq_left (Int.ofNat_le.mpr q)]
  · rw [Nat.min_eq_right q, Int.min_eq_right (Int.ofNat_le.mpr q)]
section
variable {prog : Program} {w : World} {A : Around} {E : Value → Shared → Prop} {s : Shared}
theorem extract_drop (xs : Array Value) (h : Nat) : (xs.extract (min h xs.size) xs.size).toList = xs.toList.drop h := by
  simp only [Array.toList_extract]
  rcases Nat.le_total h xs.size with q | q
  · rw [Nat.min_eq_left q]
    simp [List.extract_eq_drop_take, List.take_of_length_le]
  · rw [Nat.min_eq_right q, List.drop_of_length_le (l := xs.toList) (by simpa using q)]
    simp
theorem listItems_ok {M : Model} {l : Addr} {items : Array Value} {Q : Array Value → Shared → Prop} (hl : s.heap.IsList l items) (q : Q items s) : wpAny M A (Builtin.List.listItems (.ref l)) Q E s := by
  obtain ⟨o, ho, hc, n, hd⟩ := hl
  unfold Builtin.List.listItems
  exact wpAny_bind (wpAny_seqItems ho hd (wpAny_pure q))
theorem listAll_ok {M : Model} {l : Addr} {items : Array Value} {msg : String} {Q : Array Value → Shared → Prop} (hl : s.heap.IsList l items) (q : Q items s) : wpAny M A (Builtin.List.listAllItems (.ref l) msg) Q E s := by
  unfold Builtin.List.listAllItems
  refine wpAny_bind (wpAny_typeOf hl.typeIs ?_)
  rw [if_pos (by decide)]
  exact listItems_ok hl q
theorem setSlice {l sl v : Addr} {items new : Array Value} {h : Nat} {vu : Value} {Q : Unit → Shared → Prop} (hl : s.heap.PlainList l items) (hv : s.heap.IsList v new) (hne : l ≠ v)
    (hs : s.heap.IsSliceOf sl .none vu .none) (pu : IsPart vu (some (h : Int))) (hsz : items.size + new.size ≤ sizeLine)
    (hQ : ∀ h', h'.PlainList l (new.toList ++ items.toList.drop h).toArray → Heap.SameBut l s.heap h' → Q () { s with heap := h' }) : wpAny (model prog w) A (setItem (.ref l) (.ref sl) (.ref v)) Q E s := by
  have hli := hl.isList
  obtain ⟨n, ho⟩ := hl
  obtain ⟨ov, hov, hcv, nv, hdv⟩ := id hv
  obtain ⟨os, hos, hcs, hds⟩ := id hs
  have hTs : s.TypeIs (.ref sl) "slice" := ⟨os, hos, hcs⟩
  unfold setItem
  try with_reducible refine wpAny_holding ?_
  first | refine wpAny_bind (wpAny_pure ?_) | skip
  refine wpAny_bind (wpAny_sequenceKey hli.typeIs (by decide) ?_)
  refine wpAny_bind (wpAny_callSpecial?_slot (name := Str.ofString "__setitem__") hli.typeIs slot_list_setitem
    (wpAny_call_entry slot_list_setitem hli.typeIs entry_list_setitem ?_ (args_list_setitem _ _ _)))
  show wpAny _ _ (Builtin.List.listSubscript? (.ref sl) >>= _) _ _ s
  refine wpAny_bind ?_
  unfold Builtin.List.listSubscript?
  refine wpAny_bind (wpAny_specialOf hTs slice_no_index ?_)
  simp only [Option.isNone_none, if_true]
  refine wpAny_pure ?_
  show wpAny _ _ (typeOf (.ref sl) >>= _) _ _ s
  refine wpAny_bind (wpAny_typeOf hTs ?_)
  rw [if_neg (by decide)]
  rw [listSliceParts_eq]
  refine wpAny_bind (wpAny_bind (wpAny_field hos hds (x := .none) rfl (wpAny_bind (wpAny_listPart .none ?_))))
  rw [if_neg (by decide)]
  refine wpAny_bind (wpAny_field hos hds (x := .none) rfl (wpAny_bind (wpAny_listPart .none ?_)))
  refine wpAny_bind (wpAny_field hos hds (x := vu) rfl (wpAny_bind (wpAny_listPart pu (wpAny_pure ?_))))
  have hsame : Builtin.List.listSameRef (.ref l) (.ref v) = false := by show (l == v) = false; simpa using hne
  dsimp only
  rw [hsame]
  simp only [Bool.false_eq_true, if_false]
  refine wpAny_bind (listAll_ok hv ?_)
  refine wpAny_bind (listItems_ok hli ?_)
  refine wpAny_bind (wpAny_of_eq (sliceIndices_raw none (some (h : Int)) none items.size (by simp)) ?_)
  have hstep : (sliceBounds none (some (h : Int)) none items.size) = (0, ((min h items.size : Nat) : Int), 1) := by
    unfold sliceBounds
    simp only [Option.getD_none]
    have : ¬ ((h : Int) < 0) := Int.not_lt.mpr (Int.natCast_nonneg _)
    simp only [this, if_false]
    simp only [show (1 : Int) > 0 by decide, if_true]
    congr 2
    exact cl1 h items.size
  rw [hstep]
  dsimp only
  rw [if_pos (by decide)]
  refine wpAny_bind (wpAny_rule ?_)
  have hlong : Builtin.List.listTooLong (items.size + new.size) = false := by unfold Builtin.List.listTooLong; exact decide_eq_false (Nat.not_lt.mpr hsz)
  rw [hlong]
  simp only [Bool.false_eq_true, if_false]
  have hcalc : ∀ xs : Array Value, xs = items → xs.extract 0 (Int.toNat 0) ++ new ++ xs.extract (max (0 : Int) ((min h items.size : Nat) : Int)).toNat xs.size = (new.toList ++ items.toList.drop h).toArray := by
    rintro xs rfl
    apply Array.ext'
    have e : (max (0 : Int) ((min h xs.size : Nat) : Int)).toNat = min h xs.size := cl2 h xs.size
    rw [e]
    simp only [Array.toList_append, extract_drop]
    simp
  have e : ∃ n', Obj.mapSeq (fun xs => xs.extract 0 (Int.toNat 0) ++ new ++ xs.extract (max (0 : Int) ((min h items.size : Nat) : Int)).toNat xs.size) { cls := .type "list", data := .seq items n } = { cls := .type "list", data := .seq (new.toList ++ items.toList.drop h).toArray n' } := by
    rw [← hcalc items rfl]; exact ⟨_, rfl⟩
  obtain ⟨n', e⟩ := e
  refine wpAny_bind ?_
  show wpAny _ _ (updateSeq l _) _ _ s
  refine wpAny_updateSeq ho rfl (wpAny_bind (wpAny_letGo (wpAny_bind (wpAny_pure (wpAny_pure ⟨_, rfl, wpAny_pure (hQ _ ⟨n', ?_⟩ (Heap.SameBut.update ..))⟩))))) (Nat.le_trans (Nat.le_add_right _ _) hsz) (by rw [hcalc items rfl]; simp only [List.size_toArray, List.length_append, List.length_drop, Array.length_toList]; exact Nat.le_trans (Nat.add_le_add_left (Nat.sub_le _ _) _) (Nat.le_succ_of_le (Nat.add_comm _ _ ▸ hsz)))
  rw [Heap.get?_update_self _ ho (by rw [e]; rfl), e]
end
end Mine
end

section
set_option Elab.async false
set_option autoImplicit false
set_option linter.unusedVariables false
open PySem PySem.W PyProof.Rows
namespace Mine

theorem upds_append (ks : List Nat) : ∀ (ks' : List Nat) (vs vs' : List V) (fr : Fr), ks.length = vs.length → upds fr (ks ++ ks') (vs ++ vs') = upds (upds fr ks vs) ks' vs' := by
  induction ks with
  | nil =>
    intro ks' vs vs' fr h
    cases vs with
    | nil => rfl
    | cons _ _ => cases h
  | cons k ks ih =>
    intro ks' vs vs' fr h
    cases vs with
    | nil => cases h
    | cons v vs => exact ih ks' vs vs' _ (Nat.succ.inj h)
theorem upd_comm {fr : Fr} {i j : Nat} {u v : V} (h : i ≠ j) : upd (upd fr i u) j v = upd (upd fr j v) i u := by
  funext y
  show (if y = j then some v else if y = i then some u else fr y) = (if y = i then some u else if y = j then some v else fr y)
  by_cases h1 : y = j
  · subst h1; rw [if_pos rfl, if_neg (Ne.symm h), if_pos rfl]
  · rw [if_neg h1, if_neg h1]
theorem upds_upd (ks : List Nat) : ∀ (vs : List V) (fr : Fr) (k : Nat) (v : V), k ∉ ks → upd (upds fr ks vs) k v = upds (upd fr k v) ks vs := by
  induction ks with
  | nil => intros; rfl
  | cons j ks ih =>
    intro vs fr k v h
    cases vs with
    | nil => rfl
    | cons u vs =>
      show upd (upds (upd fr j u) ks vs) k v = upds (upd (upd fr k v) j u) ks vs
      rw [ih vs _ k v (fun q => h (List.mem_cons_of_mem _ q)), upd_comm (fun e : j = k => h (e ▸ List.mem_cons_self))]
theorem upds_reverse (ks : List Nat) : ∀ (vs : List V) (fr : Fr), ks.Nodup → ks.length = vs.length → upds fr ks.reverse vs.reverse = upds fr ks vs := by
  induction ks with
  | nil =>
    intro vs fr _ h
    cases vs with
    | nil => rfl
    | cons _ _ => cases h
  | cons k ks ih =>
    intro vs fr hn hl
    cases vs with
    | nil => cases hl
    | cons v vs =>
      have hn' := List.nodup_cons.mp hn
      have hl' : ks.length = vs.length := Nat.succ.inj hl
      rw [List.reverse_cons, List.reverse_cons, upds_append _ _ _ _ _ (by rw [List.length_reverse, List.length_reverse]; exact hl'), ih vs fr hn'.2 hl']
      exact upds_upd ks vs fr k v hn'.1

section
variable {base : Heap} {ca : Nat → Addr} {SE : Addr} {s : Shared} {Λ Λ₁ : Led} {ρ ρ₁ : Rho} {outer : List Env} {S : H} {sc : Scope} {env : Env} {fr : Fr} {n m : Nat} {A : Around} {t : Tb}
variable {prog : Program} {w : World} {K : Frag} {X : H → Prop} {EE : Value → Shared → Prop}

theorem snd_setS {o v : V} {o' v' : Value} {hj : Int} {u : Tok} {sl : Addr} {q : H → Prop} (st : St8 base ca Λ ρ S s.heap) (ho : VRel Λ ρ o o') (hv : VRel Λ ρ v v') (hsl : s.heap.IsSliceOf sl .none (.int hj u) .none) (h : setS o hj v S q) :
    wpAny (model prog w) A (setItem o' (.ref sl) v') (fun _ => PU base ca s Λ ρ q) EE s := by
  cases h with
  | @mk k l vs ws e1 e2 z1 z2 z3 z4 z5 h =>
    obtain ⟨c, vs', hc, rfl, g1, g2, p1, n1⟩ := st.ref ho e1
    obtain ⟨d, ws', hd, rfl, g3, g4, p2, n2⟩ := st.ref hv e2
    have hne : c ≠ d := fun q => z5 (st.rel.inj1 k l _ _ hc hd q)
    obtain ⟨j, rfl⟩ := Int.eq_ofNat_of_zero_le z3
    refine setSlice (h := j) (st.holds.plist g1) p2 hne hsl (.int _ _) ?_ fun h' hp hs' => ?_
    · simp only [List.size_toArray]; rw [n1, n2]; exact Nat.le_trans (Nat.add_le_add z1 z2) (by decide)
    · obtain ⟨x₅, ev₅⟩ := st.setList (vs := ws ++ vs.drop j) (vs' := ws' ++ vs'.drop j) e1 hc g1 hs'.extBut (by simpa using hp) (g4.append (g2.drop j))
      exact ⟨h', s.toks, _, _, _, rfl, ev₅, x₅, h⟩

theorem okX_asgSlc {o hi pe : PySem.Expr} {o' hi' e : E} {p p' pos : Pos} (hs : ∀ env : Env, swapsWith pe (some (.Subscript o (.Slice none (some hi) none p) p')) pos.line env = pure false) (ho : OkE base ca SE prog w t n sc o o') (hh : OkE base ca SE prog w t n sc hi hi') (he : OkE base ca SE prog w t n sc pe e) :
    OkX base ca SE prog w t (n + 1) sc (.Assign [.Subscript o (.Slice none (some hi) none p) p'] pe pos) (.asgSlc o' none (some hi') e) := by
  intro A env outer s Λ ρ S fr Qx Q H h
  refine wpAny_Assign_Subscript (he.useX H.lt h fun v' v h₁ t₁ Λ₁ ρ₁ S₁ H₁ ev₁ hv q₁ => ?_) (hs env)
  refine ho.thenX (ev₁.of0 H.o.z) H₁ q₁ fun vo' vo h₂ t₂ Λ₂ ρ₂ S₂ H₂ ev₂ e₂ hvo q₂ => ?_
  refine wpAny_Slice (wpAny_pure (a := Value.none) ?_)
  refine hh.thenX (Q := fun vh S3 => match vh with | .int h => setS vo h v S3 fun S4 => Q none fr S4 | _ => False) ev₂ H₂ q₂ fun vh' vh h₃ t₃ Λ₃ ρ₃ S₃ H₃ ev₃ e₃ hvh q₃ => ?_
  refine wpAny_pure (a := Value.none) ?_
  match vh, hvh, q₃ with
  | .int hj, ⟨u, hu⟩, q₃ =>
    subst hu
    have kp : ∀ b o, h₃.get? b = some o → (h₃.push { cls := .type "slice", data := .fields #[.none, .int hj u, .none] }).get? b = some o := fun b o e => Heap.get?_push_of_some _ e
    have H₄ : AtX base ca n sc A env outer { s with heap := h₃.push { cls := .type "slice", data := .fields #[.none, .int hj u, .none] }, toks := t₃ } Λ₃ ρ₃ S₃ fr := H₃.step0 .refl0 (H₃.x.keeps kp)
    refine wpAny_mono (snd_setS H₄.x (e₃.vrel hvo) (e₃.vrel (e₂.vrel hv)) (Heap.IsSliceOf.new _ _ _ _) q₃) (fun _ s₅ q => ?_) fun _ _ e => e
    obtain ⟨h', tk, Λ', ρ', S', rfl, e, x, q⟩ := q
    exact pf_same (ev₃.trans (e.of0 H₃.o.z)) (H₃.step0 e x) q

/-- stores of two values of a pair into a name each, in either order -/
noncomputable def NamesOk (sc : Scope) : List Str → List Nat → Prop := Each fun x k => stName tab sc x = some k
theorem NamesOk.len {xs : List Str} {ks : List Nat} (h : NamesOk sc xs ks) : xs.length = ks.length := by
  induction h with
  | nil => rfl
  | cons _ _ ih => simp [ih]
theorem NamesOk.append {xs xs' : List Str} {ks ks' : List Nat} (h : NamesOk sc xs ks) (h' : NamesOk sc xs' ks') : NamesOk sc (xs ++ xs') (ks ++ ks') := by
  induction h with
  | nil => exact h'
  | cons h1 _ ih => exact .cons h1 ih
theorem NamesOk.reverse {xs : List Str} {ks : List Nat} (h : NamesOk sc xs ks) : NamesOk sc xs.reverse ks.reverse := by
  induction h with
  | nil => exact .nil
  | cons h1 hr ih => rw [List.reverse_cons, List.reverse_cons]; exact NamesOk.append ih (.cons h1 .nil)
theorem Each.reverse {α β : Type} {R : α → β → Prop} {l : List α} {m : List β} (h : Each R l m) : Each R l.reverse m.reverse := by
  induction h with
  | nil => exact .nil
  | cons h1 _ ih => rw [List.reverse_cons, List.reverse_cons]; exact ih.append (.cons h1 .nil)

theorem snd_bindAll (xs : List Str) (ks : List Nat) (h0 : NamesOk sc xs ks) : ∀ (vs : List V) (vs' : List Value) (s : Shared) (Λ : Led) (fr : Fr), ks.length = vs.length → FnEnv sc env → FrameOk Λ env → FrRel sc Λ ρ env fr → St8 base ca Λ ρ S s.heap → Each (VRel Λ ρ) vs vs' →
    wpAny (model prog w) A (assignInOrder (xs.map fun n => bindName env n) vs') (fun _ s' => PS base ca sc env s Λ ρ S (upds fr ks vs) s') EE s := by
  induction h0 with
  | nil => exact fun vs vs' s Λ fr hl he ho hf st hv => wpAny_pure ⟨s.heap, s.toks, Λ, rfl, .refl ho.z, st, hf⟩
  | @cons x k xs ks hx _ ih =>
    intro vs vs' s Λ fr hl he ho hf st hv
    cases hv with
    | nil => cases hl
    | @cons v v' vs vs' hv hrv =>
      show wpAny _ A (do holding vs' (bindName env x v'); assignInOrder (xs.map fun n => bindName env n) vs') _ EE s
      refine wpAny_bind (wpAny_holding (wpAny_bindName (snd_store he ho hf st hx hv fun h' tk Λ' ev x' f' o' => ?_)))
      exact wpAny_mono (ih vs vs' { s with heap := h', toks := tk } Λ' _ (Nat.succ.inj hl) he o' f' x' (ev.vrels hrv)) (fun _ s₂ q => PS.trans ev q) fun _ _ e => e

theorem namesOf_ok {cond : Str → Pos → Bool} (ts : List PySem.Expr) : ∀ (ks : List Nat), mapO (nameId tab sc) ts = some ks → ∀ (f : PySem.Expr → Option Str), (∀ x p, f (.Name x p) = some x ∨ f (.Name x p) = none) → (ts.filterMap f).length = ts.length → NamesOk sc (ts.filterMap f) ks := by
  induction ts with
  | nil => intro ks hk f hf hl; cases mapO_nil hk; exact .nil
  | cons pe ts ih =>
    intro ks hk f hf hl
    obtain ⟨k, ks', h1, h2, rfl⟩ := mapO_cons hk
    obtain ⟨x, p, rfl, hx⟩ := nameId_spec h1
    rcases hf x p with h | h
    · rw [List.filterMap_cons, h] at hl ⊢
      exact .cons hx (ih ks' h2 f hf (Nat.succ.inj hl))
    · rw [List.filterMap_cons, h] at hl
      have e : (List.filterMap f ts).length = ts.length + 1 := hl
      exact absurd (List.length_filterMap_le f ts) (e ▸ Nat.not_succ_le_self _)

theorem swapped_spec {ts es : List PySem.Expr} {ks : List Nat} {k k' : Nat} {p p' : Pos} (hk : mapO (nameId tab sc) ts = some ks) (hc : es.all (constantsAlone 8) = false) :
    swappedStores [.Tuple ts k p] (.Tuple es k' p') env = pure none ∨ ∃ xs, swappedStores [.Tuple ts k p] (.Tuple es k' p') env = pure (some xs) ∧ NamesOk sc xs ks := by
  unfold swappedStores
  dsimp only
  split
  · exact .inl rfl
  · split
    · exact .inl rfl
    · split
      · exact .inl rfl
      · rename_i hn
        split
        · exact .inl rfl
        · rw [hc]
          simp only [Bool.false_eq_true, if_false]
          refine .inr ⟨_, rfl, ?_⟩
          refine namesOf_ok (cond := fun _ _ => true) ts ks hk _ (fun x p => ?_) ?_
          · dsimp only; split <;> simp
          · simp only [Bool.or_eq_true, bne_iff_ne, ne_eq, not_or, Decidable.not_not] at hn
            exact hn.1

theorem okX_asgTup {ts es : List PySem.Expr} {ks : List Nat} {es' : List E} {k k' : Nat} {p p' pos : Pos} (hk : mapO (nameId tab sc) ts = some ks) (hc : es.all (constantsAlone 8) = false) (h0 : OkEs base ca SE prog w t n sc es es') :
    OkX base ca SE prog w t (n + 1) sc (.Assign [.Tuple ts k p] (.Tuple es k' p') pos) (.asgTup ks es') := by
  intro A env outer s Λ ρ S fr Qx Q H h
  have value : ∀ (R : Value → Shared → Prop), (∀ vs' vs h₁ t₁ Λ₁ ρ₁ S₁, AtX base ca n sc A env outer { s with heap := h₁, toks := t₁ } Λ₁ ρ₁ S₁ fr → Evo X0 Λ ρ Λ₁ ρ₁ → Each (VRel Λ₁ ρ₁) vs vs' → (ks.length ≤ 100 ∧ ks.length = vs.length ∧ ks.Nodup ∧ Q none (upds fr ks vs) S₁) →
      ∀ a, h₁.IsTuple a vs'.toArray → R (.ref a) { s with heap := h₁, toks := t₁ }) →
      wpAny (model prog w) A (eval (.Tuple es k' p') env) R (PX base ca SE (own env) s Λ ρ (env :: outer) Qx) s := by
    intro R hR
    refine wpAny_Tuple (wpAny_mono (snd_evs (pos := p') es es' h0 s Λ ρ S _ H.lt.at h) (fun vs' s₁ q => ?_) fun _ _ e => e.of0 H.o)
    obtain ⟨h₁, t₁, Λ₁, ρ₁, vs, S₁, rfl, ev₁, x₁, hv, q⟩ := q
    refine ⟨?_, hR vs' vs _ _ Λ₁ ρ₁ S₁ (H.lt.step0 (t₁ := t₁) ev₁ (x₁.keeps fun b o e => Heap.get?_push_of_some _ e)) ev₁ hv q _ ⟨_, Heap.get?_push_size _ rfl, rfl, _, rfl⟩⟩
    rw [← hv.length, ← q.2.1]
    have := q.1
    unfold sizeLine; lia
  obtain ⟨i1, i2, i3⟩ := stars_none (env := env) ts ks hk
  rcases swapped_spec (env := env) (k := k) (k' := k') (p := p) (p' := p') hk hc with hsw | ⟨xs, hsw, hxs⟩
  · refine Assign_Tuple (value _ fun vs' vs h₁ t₁ Λ₁ ρ₁ S₁ H₁ ev₁ hv q a hta => ?_) rfl hsw
    refine wpAny_assign_Tuple H₁.a.handled hta (by rw [i1, i3, q.2.1, hv.length]; simp) i2 fun h' hx => ?_
    have st' : St8 base ca Λ₁ ρ₁ S₁ h' := H₁.x.keeps fun b o e => hx b o (Nat.ne_of_lt (Heap.lt_size e)) e
    have H₂ : AtX base ca n sc A env outer { s with heap := h', toks := t₁ } Λ₁ ρ₁ S₁ fr := H₁.step0 .refl0 st'
    refine wpAny_mono (snd_storeAll ts ks hk vs vs' _ Λ₁ fr q.2.1 H₂.e H₂.o H₂.f H₂.x hv) (fun _ s' z => ?_) fun _ _ e => e
    obtain ⟨h₂, t₂, Λ₂, rfl, e, x, f⟩ := z
    exact ⟨h₂, t₂, Λ₂, ρ₁, _, S₁, rfl, (ev₁.of0 H.o.z).trans e, x, f, q.2.2.2⟩
  · refine Assign_Tuple_swapped (value _ fun vs' vs h₁ t₁ Λ₁ ρ₁ S₁ H₁ ev₁ hv q a hta => ?_) rfl hsw
    have hlen : xs.length = vs'.toArray.size := by
      rw [hxs.len, q.2.1, hv.length]; simp
    rw [hlen]
    refine wpAny_unpackItems_tuple H₁.a.handled hta fun h' hx => ?_
    have st' : St8 base ca Λ₁ ρ₁ S₁ h' := H₁.x.keeps fun b o e => hx b o (Nat.ne_of_lt (Heap.lt_size e)) e
    have H₂ : AtX base ca n sc A env outer { s with heap := h', toks := t₁ } Λ₁ ρ₁ S₁ fr := H₁.step0 .refl0 st'
    refine wpAny_mono (snd_bindAll xs.reverse ks.reverse hxs.reverse vs.reverse vs'.reverse _ Λ₁ fr (by simpa using q.2.1) H₂.e H₂.o H₂.f H₂.x hv.reverse) (fun _ s' z => ?_) fun _ _ e => e
    obtain ⟨h₂, t₂, Λ₂, rfl, e, x, f⟩ := z
    rw [upds_reverse ks vs fr q.2.2.1 q.2.1] at f
    exact ⟨h₂, t₂, Λ₂, ρ₁, _, S₁, rfl, (ev₁.of0 H.o.z).trans e, x, f, q.2.2.2⟩
end
end Mine
end

section
set_option Elab.async false
set_option autoImplicit false
set_option linter.unusedVariables false
open PySem PySem.W PyProof.Rows
namespace Mine
section
variable {base : Heap} {ca : Nat → Addr} {SE : Addr} {s : Shared} {Λ Λ₁ : Led} {ρ ρ₁ : Rho} {outer : List Env} {S : H} {sc : Scope} {env : Env} {fr : Fr} {n m : Nat} {A : Around} {t : Tb}
variable {prog : Program} {w : World} {K : Frag} {X : H → Prop} {EE : Value → Shared → Prop}

theorem swapped_sub {o1 i1 o2 i2 e1 e2 : PySem.Expr} {p1 p2 p p' : Pos} {k k' : Nat} : swappedStores [.Tuple [.Subscript o1 i1 p1, .Subscript o2 i2 p2] k p] (.Tuple [e1, e2] k' p') env = pure none := by
  unfold swappedStores
  dsimp only
  split
  · rfl
  · split
    · rfl
    · rfl

/-- a list item is stored -/
theorem snd_assignIdx {o i : PySem.Expr} {o' i' : E} {p : Pos} {h₀ : Heap} {t₀ : Nat} {v : V} {v' : Value} {Q : H → Prop} {R : Unit → Shared → Prop} (ho : OkE base ca SE prog w t n sc o o') (hi : OkE base ca SE prog w t n sc i i')
    (ev₀ : Evo (own env) Λ ρ Λ₁ ρ₁) (H : AtX base ca n sc A env outer { s with heap := h₀, toks := t₀ } Λ₁ ρ₁ S fr) (hv : VRel Λ₁ ρ₁ v v')
    (h : ev t n o' fr S X fun vo S1 => ev t n i' fr S1 X fun vi S2 => setI vo vi v S2 Q)
    (k : ∀ h₁ t₁ Λ₂ ρ₂ S₁, AtX base ca n sc A env outer { s with heap := h₁, toks := t₁ } Λ₂ ρ₂ S₁ fr → Evo (own env) Λ ρ Λ₂ ρ₂ → Evo X0 Λ₁ ρ₁ Λ₂ ρ₂ → Q S₁ → R () { s with heap := h₁, toks := t₁ }) :
    wpAny (model prog w) A (assign (.Subscript o i p) env v') R (PX base ca SE (own env) s Λ ρ (env :: outer) X) { s with heap := h₀, toks := t₀ } := by
  rw [assign_Subscript]
  refine wpAny_bind (wpAny_holding (ho.thenX ev₀ H h fun vo' vo h₂ t₂ Λ₂ ρ₂ S₂ H₂ ev₂ e₂ hvo q₂ => ?_))
  refine wpAny_bind (wpAny_holding (hi.thenX ev₂ H₂ q₂ fun vi' vi h₃ t₃ Λ₃ ρ₃ S₃ H₃ ev₃ e₃ hvi q₃ => ?_))
  refine wpAny_bind (wpAny_standAt (wpAny_bind (wpAny_holding (wpAny_mono (snd_setI H₃.x (e₃.vrel hvo) hvi (e₃.vrel (e₂.vrel hv)) q₃) (fun _ s₄ q => wpAny_release' ?_) fun _ _ e => e))))
  obtain ⟨h', tk, Λ', ρ', S', rfl, e, x, q⟩ := q
  exact k h' tk Λ' ρ' S' (H₃.step0 e x) (ev₃.trans (e.of0 H₃.o.z)) ((e₂.trans0 e₃).trans0 e) q

theorem okX_swap {o1 i1 o2 i2 e1 e2 : PySem.Expr} {a b c d x y : E} {p1 p2 p p' pos : Pos} {k k' : Nat} (ho1 : OkE base ca SE prog w t n sc o1 a) (hi1 : OkE base ca SE prog w t n sc i1 b) (ho2 : OkE base ca SE prog w t n sc o2 c) (hi2 : OkE base ca SE prog w t n sc i2 d)
    (he1 : OkE base ca SE prog w t n sc e1 x) (he2 : OkE base ca SE prog w t n sc e2 y) (hp1 : plainE e1 = true) (hp2 : plainE e2 = true) :
    OkX base ca SE prog w t (n + 1) sc (.Assign [.Tuple [.Subscript o1 i1 p1, .Subscript o2 i2 p2] k p] (.Tuple [e1, e2] k' p') pos) (.swap a b c d x y) := by
  intro A env outer s Λ ρ S fr Qx Q H h
  refine Assign_Tuple ?_ rfl swapped_sub
  have h0 : OkEs base ca SE prog w t n sc [e1, e2] [x, y] := .cons ⟨he1, hp1⟩ (.cons ⟨he2, hp2⟩ .nil)
  refine wpAny_Tuple ?_
  rw [starEach_plain hp1, starEach_plain hp2]
  refine Calls.spliced_cons (he1.useX H.lt h fun v1' v1 h₁ t₁ Λ₁ ρ₁ S₁ H₁ ev₁ hv1 q₁ => ?_)
  refine Calls.spliced_cons (he2.thenX (ev₁.of0 H.o.z) H₁ q₁ fun v2' v2 h₂ t₂ Λ₂ ρ₂ S₂ H₂ ev₂ e₂ hv2 q₂ => ?_)
  refine Calls.spliced_nil ⟨by show 2 ≤ sizeLine; unfold sizeLine; lia, ?_⟩
  have H₃ : AtX base ca n sc A env outer { s with heap := h₂.push { cls := .type "tuple", data := .seq [v1', v2'].toArray }, toks := t₂ } Λ₂ ρ₂ S₂ fr := H₂.step0 .refl0 (H₂.x.keeps fun b o e => Heap.get?_push_of_some _ e)
  refine wpAny_assign_Tuple (s := { s with heap := h₂.push { cls := .type "tuple", data := .seq [v1', v2'].toArray }, toks := t₂ }) (items := [v1', v2'].toArray) H.a.handled ⟨_, Heap.get?_push_size _ rfl, rfl, _, rfl⟩ rfl rfl fun h' hx => ?_
  have H₄ : AtX base ca n sc A env outer { s with heap := h', toks := t₂ } Λ₂ ρ₂ S₂ fr := H₃.step0 .refl0 (H₃.x.keeps fun b o e => hx b o (Nat.ne_of_lt (Heap.lt_size e)) e)
  show wpAny _ A (do holding [v2'] (assign (.Subscript o1 i1 p1) env v1'); (do holding [] (assign (.Subscript o2 i2 p2) env v2'); pure ())) _ _ _
  refine wpAny_bind (wpAny_holding (snd_assignIdx (s := s) (h₀ := h') (t₀ := t₂) ho1 hi1 ev₂ H₄ (e₂.vrel hv1) q₂ fun h₅ t₅ Λ₅ ρ₅ S₅ H₅ ev₅ e₅ q₅ => ?_))
  refine wpAny_bind (wpAny_holding (snd_assignIdx (s := s) (h₀ := h₅) (t₀ := t₅) ho2 hi2 ev₅ H₅ (e₅.vrel hv2) q₅ fun h₆ t₆ Λ₆ ρ₆ S₆ H₆ ev₆ e₆ q₆ => ?_))
  exact wpAny_pure (pf_same ev₆ H₆ q₆)
end
end Mine
end

section
set_option Elab.async false
set_option autoImplicit false
set_option linter.unusedVariables false
set_option maxRecDepth 100000
open PySem PySem.W
namespace Mine

abbrev tailX (PE : Addr) : List Value := [.ref PE, .type "Exception", .type "BaseException", .type "object"]
abbrev scriptCls (nm q : Str) (C N PE : Addr) (bs : List Value) (sn : List Str) (sub : List Value) (ab : Bool) (col : Option Bool) (dd : Option Addr) (k0 k1 k2 k3 k5 : Option Value) : Obj :=
  excClassObj nm q C N bs (tailX PE) true sn sub ab col dd k0 k1 k2 k3 k5 "Exception.__new__"

section
variable {M : Model} {A : Around} {E : Value → Shared → Prop} {R : Result → Shared → Prop} {h : Heap} {g : Array GenState} {d : Drawn} {t : Nat} {os : OsState} {prog : Program} {w : World}
variable {nm q : Str} {C N PE : Addr} {bs : List Value} {sn : List Str} {sub : List Value} {ab : Bool} {col : Option Bool} {dd : Option Addr} {k0 k1 k2 k3 k5 : Option Value}

theorem exc_check {rest : List Value} {Q : Unit → Shared → Prop} (hC : h.get? C = some (scriptCls nm q C N PE bs sn sub ab col dd k0 k1 k2 k3 k5))
    (hq : Q () ⟨h, g, d, t, os⟩) : wpAny M A (checkBuiltinCall "Exception.__new__" ⟨.ref C :: rest, []⟩) Q E ⟨h, g, d, t, os⟩ := by
  have F := PySem.F.excBase_Exception
  have hcont : (Value.ref C :: tailX PE).contains (.type "Exception") = true := rfl
  have hstar := F.noStar
  simp only [checkBuiltinCall, F.newKind, F.newSplit, F.newRow]
  repeat (first | refine wpAny_loadPart_at hC ?_ | (refine wpAny_isSubtype_exc hC ?_; rw [hcont]) | refine wpAny_staticBase_exc hC ?_ | refine wpAny_madeBy_exc hC ?_ | simp only [bne_self_eq_false, Bool.false_eq_true, if_false] | wp_step)
  exact hq

theorem exc_new {rest : List Value} (hC : h.get? C = some (scriptCls nm q C N PE bs sn sub ab col dd k0 k1 k2 k3 k5))
    (hq : R (.ok (.ret (.ref (h.objs.size + 1)))) ⟨(h.push { cls := .type "tuple", data := .seq rest.toArray }).push
      { cls := .ref C, data := .fields #[.ref h.objs.size, .none, .none, .none, .bool false, .none] }, g, d, t, os⟩) (hrest : rest.length ≤ sizeLine) :
    codeAny (model prog w) A (.builtin "Exception.__new__" ⟨.ref C :: rest, []⟩) R ⟨h, g, d, t, os⟩ := by
  have F := PySem.F.excBase_Exception
  have hends := F.ends
  have hcB : (Value.ref C :: tailX PE).contains (.type "Exception") = true := rfl
  have hcA : (Value.ref C :: tailX PE).contains (.type "AttributeError") = false := rfl
  have hcN : (Value.ref C :: tailX PE).contains (.type "NameError") = false := rfl
  refine codeAny_builtinAt F.entry ?_
  unfold Builtin.«BaseException.__new__»
  refine wpAt_bind ?_
  show wpAt _ _ _ (stack >>= _) _ _ _
  refine wpAt_bind (wpAt_stack fun p below => wpAt_of_wpAny ?_)
  wp_walk
  refine wpAt_of_wpAny ?_
  rw [F.owner]
  repeat (first | with_reducible refine wpAny_madeHere_exc F.canon hC ?_ | with_reducible refine wpAny_loadPart_at hC ?_ | (with_reducible refine wpAny_isSubtype_exc hC ?_; first | rw [hcB] | rw [hcA] | rw [hcN]) | wp_step)
  show R _ _
  rw [Heap.size_push]
  exact hq

variable {K : Frag}
theorem exc_type_call {rest : List Value} {fI : Addr} {Q : PySem.Fin → Shared → Prop} (hC : h.get? C = some (scriptCls nm q C N PE bs sn sub ab col dd k0 k1 k2 k3 k5)) (X : K.In h)
    (hi : findIn K (.ref C) "__init__" = some (some (.ref fI))) (hf : typeIn K (.ref fI) = some (.type "function"))
    (hq : ∀ h' e, Heap.MadeExcOf h h' e (.ref C) rest → h'.objs.size = h.objs.size + 2 → e = h.objs.size + 1 → h'.get? e = some { cls := .ref C, data := .fields #[.ref h.objs.size, .none, .none, .none, .bool false, .none] } →
      wpAny (model prog w) A (call (.ref fI) (.ref e :: rest)) (fun r s' => r = .none ∧ Q (.done (.ret (.ref e))) s') E ⟨h', g, d, t, os⟩) (hrest : rest.length ≤ sizeLine) :
    wpAny (model prog w) A (Builtin.«type.__call__» ⟨.ref C :: rest, []⟩) Q E ⟨h, g, d, t, os⟩ := by
  have F := PySem.F.excBase_Exception
  repeat (first | with_reducible refine wpAny_loadPart_at hC ?_ | with_reducible refine wpAny_madeBy_exc hC ?_ | wp_step)
  refine codeAny_call_builtin_code (Code.quiet_builtin _ F.quiet) (exc_check hC ?_)
  refine exc_new hC ?_ hrest
  show wpAny _ _ _ _ _ _
  have k₁ : ∀ b o, h.get? b = some o → ((h.push { cls := .type "tuple", data := .seq rest.toArray }).push { cls := .ref C, data := .fields #[.ref h.objs.size, .none, .none, .none, .bool false, .none] }).get? b = some o :=
    fun b o e => Heap.get?_push_of_some _ (Heap.get?_push_of_some _ e)
  have hC₁ := k₁ _ _ hC
  have X₁ : K.In ((h.push { cls := .type "tuple", data := .seq rest.toArray }).push { cls := .ref C, data := .fields #[.ref h.objs.size, .none, .none, .none, .bool false, .none] }) := X.keeps k₁
  have hget : ((h.push { cls := .type "tuple", data := .seq rest.toArray }).push
      { cls := .ref C, data := .fields #[.ref h.objs.size, .none, .none, .none, .bool false, .none] }).get? (h.objs.size + 1) = some
      { cls := .ref C, data := .fields #[.ref h.objs.size, .none, .none, .none, .bool false, .none] } := by heap_get
  have hcC : (Value.ref C :: tailX PE).contains (.ref C) = true := by simp
  unfold isInstance
  repeat (first | with_reducible refine wpAny_loadPart_at hget ?_ | (with_reducible refine wpAny_isSubtype_exc hC₁ ?_; rw [hcC]) | wp_step)
  show wpAny _ _ (typeLookup (.ref C) _) _ _ _
  refine (looks_findIn X₁ hi).here ?_
  refine wpAny_holding (wpAny_bind ((bind_fn X₁ _ hf).here ?_))
  refine wpAny_bind (wpAny_mono (hq _ (h.objs.size + 1) ⟨k₁, Heap.get?_none_of_le (Nat.le_succ _), h.objs.size, hget, Heap.get?_none_of_le (Nat.le_refl _), ?_⟩ (by simp only [Heap.size_push]) rfl hget) (fun r s' hr => ?_) fun _ _ x => x)
  · exact Heap.get?_push_of_some _ (Heap.get?_push_at rfl rfl)
  · obtain ⟨rfl, hQ⟩ := hr
    wp_walk
    exact hQ

theorem exc_call {rest : List Value} {fI : Addr} {Q : Value → Shared → Prop} (hC : h.get? C = some (scriptCls nm q C N PE bs sn sub ab col dd k0 k1 k2 k3 k5)) (X : K.In h)
    (hi : findIn K (.ref C) "__init__" = some (some (.ref fI))) (hf : typeIn K (.ref fI) = some (.type "function"))
    (hq : ∀ h' e, Heap.MadeExcOf h h' e (.ref C) rest → h'.objs.size = h.objs.size + 2 → e = h.objs.size + 1 → h'.get? e = some { cls := .ref C, data := .fields #[.ref h.objs.size, .none, .none, .none, .bool false, .none] } →
      wpAny (model prog w) (A.under (.builtin "type.__call__" ⟨.ref C :: rest, []⟩)) (call (.ref fI) (.ref e :: rest)) (fun r s' => r = .none ∧ Q (.ref e) s') E ⟨h', g, d, t, os⟩) (hrest : rest.length ≤ sizeLine) :
    wpAny (model prog w) A (call (.ref C) rest) Q E ⟨h, g, d, t, os⟩ := by
  have f1 := tc_lookup
  have f2 := tc_bind (.ref C)
  have hT : (⟨h, g, d, t, os⟩ : Shared).TypeIs (.ref C) "type" := ⟨_, hC, rfl⟩
  refine wpAny_call (codeAny_of_tree ?_)
  show wpAny _ _ (callAny (.ref C) _) _ _ _
  repeat (any_goals (first | assumption | with_reducible refine wpAny_loadPart_at hC ?_ | wp_step))
  refine ⟨rfl, ?_⟩
  exact codeAny_call_builtin_at (Code.quiet_builtin _ (by decide +kernel)) entry_typeCall (wpAny_check_type_call_sub hC (exc_type_call hC X hi hf hq hrest))
end
end Mine
end

section
set_option Elab.async false
set_option autoImplicit false
set_option linter.unusedVariables false
set_option maxRecDepth 100000
open PySem PySem.W PySem.Builtin PySem.Builtin.ObjectAttr
namespace Mine

section
variable {A : Around} {E : Value → Shared → Prop} {R : Result → Shared → Prop} {h : Heap} {g : Array GenState} {d : Drawn} {t : Nat} {os : OsState} {prog : Program} {w : World} {K : Frag}
variable {nm q : Str} {C N PE : Addr} {bs : List Value} {sn : List Str} {sub : List Value} {ab : Bool} {col : Option Bool} {dd : Option Addr} {k0 k1 k2 k3 k5 : Option Value}

theorem exc_init_check {M : Model} {e : Addr} {oe : Obj} {rest : List Value} {Q : Unit → Shared → Prop} (hC : h.get? C = some (scriptCls nm q C N PE bs sn sub ab col dd k0 k1 k2 k3 k5)) (he : h.get? e = some oe) (hcls : oe.cls = .ref C) (hq : Q () ⟨h, g, d, t, os⟩) :
    wpAny M A (checkBuiltinCall "Exception.__init__" ⟨.ref e :: rest, []⟩) Q E ⟨h, g, d, t, os⟩ := by
  have F := PySem.F.excBase_Exception
  have hcB : (Value.ref C :: tailX PE).contains (.type "Exception") = true := rfl
  have hshort := F.noStar
  simp only [checkBuiltinCall, F.initKind, F.initSplit, F.initRow]
  repeat (first | (with_reducible refine wpAny_loadPart_at he ?_; rw [hcls]) | with_reducible refine wpAny_loadPart_at hC ?_ | (with_reducible refine wpAny_isSubtype_exc hC ?_; rw [hcB]) | wp_step)
  refine wpAny_onRaise ?_
  rw [show ∀ (a b : String) (n : Nat), Bind.check ⟨.positional, "*", "Exception", .self, [⟨"args", .varPos, false⟩]⟩ a b n (List.map (fun x => x.fst) ({ pos := Value.ref e :: rest } : Args).kw) = pure () from
    fun a b n => check_star_args _ _ _ _ _ _]
  exact wpAny_pure hq

theorem exc_init {e t0 : Addr} {m : Value} {Q : Value → Shared → Prop} (hC : h.get? C = some (scriptCls nm q C N PE bs sn sub ab col dd k0 k1 k2 k3 k5))
    (he : h.get? e = some { cls := .ref C, data := .fields #[.ref t0, .none, .none, .none, .bool false, .none] })
    (hq : ∀ h', h'.get? e = some { cls := .ref C, data := .fields #[.ref h.objs.size, .none, .none, .none, .bool false, .none] } → (∀ b o, b ≠ e → h.get? b = some o → h'.get? b = some o) → Q .none ⟨h', g, d, t, os⟩) :
    wpAny (model prog w) A (call (.builtin "Exception.__init__") [.ref e, m]) Q E ⟨h, g, d, t, os⟩ := by
  have F := PySem.F.excBase_Exception
  refine wpAny_call (codeAny_call_builtin F.init.plain F.initEntry (exc_init_check hC he rfl ?_))
  wp_walk
  have he₁ := Heap.get?_push_of_some (h := h) { cls := .type "tuple", data := .seq [m].toArray } he
  refine hq _ ?_ ?_
  · rw [Heap.get?_update_self _ he₁ rfl]
    rfl
  · intro b o hb ho
    rw [Heap.get?_update_other _ _ (Ne.symm hb)]
    exact Heap.get?_push_of_some _ ho

theorem exc_store {e : Addr} {name : Str} {m : Value} {vs : Array Value} {Q : Unit → Shared → Prop} (hC : h.get? C = some (scriptCls nm q C N PE bs sn sub ab col dd k0 k1 k2 k3 k5)) (X : K.In h)
    (hK : K.lookup C = some (scriptCls nm q C N PE bs sn sub ab col dd k0 k1 k2 k3 k5)) (hs : findIn K (.ref C) "__setattr__" = some (some (.builtin "object.__setattr__"))) (hm : findIn K (.ref C) name = some none)
    (he : h.get? e = some { cls := .ref C, data := .fields vs })
    (hq : ∀ h' tk dx, h'.get? e = some { cls := .ref C, dict := some dx, data := .fields vs } → (∀ b o, b ≠ e → h.get? b = some o → h'.get? b = some o) → Q () ⟨h', g, d, tk, os⟩) :
    wpAny (model prog w) A (setAttr (.ref e) name m) Q E ⟨h, g, d, t, os⟩ := by
  have I : PySem.W.InstAt h e { cls := .ref C, data := .fields vs } C none := ⟨he, rfl, rfl, trivial⟩
  have SF := PySem.F.store_Exception
  refine set_plain X I hs ?_
  have hmro : Looks (model prog w) h (mroOf (.ref C)) (.ref C :: tailX PE) := (Looks.ld (part := none) hC).andThen .now |>.andThen .now
  have hcls : clsIn K C = some { name := nm, bases := bs, mro := .ref C :: tailX PE, ns := N, qualname := q, hasDict := true, slotNames := sn, subclasses := sub, abstract := ab, collection := col, hasDel := false } := by unfold clsIn; rw [hK]
  have subj : Looks (model prog w) h (isInstance (.ref e) (.type "object")) true := I.type.andThen (looks_mroIn X (by unfold mroIn; rw [hcls]; rfl))
  refine codeAny_call_builtin SF.slot.plain SF.entry (@check_slot (model prog w) _ _ _ "object.__setattr__" "object" "__setattr__" (.ref e) [.str name t, m] [] _ SF.kind SF.split subj (SF.args (.ref e) (.str name t) m) ?_)
  have L3 : Looks (model prog w) h (storeTaker? none) none := .now
  rw [osa_eq, refuse_eq]
  refine wpAny_bind (wpAny_bind (I.type.here (wpAny_bind (hmro.here ?_))))
  rw [show refuseLoop (.ref e) "__setattr__" (.ref C :: tailX PE) = pure () by rw [refuseLoop_ref, refuseLoop_ref]; exact SF.passes (.ref e)]
  refine wpAny_pure (wpAny_bind (I.type.here (wpAny_bind ((looks_findIn X hm).here (wpAny_bind (L3.here ?_))))))
  have hC₁ := hC
  unfold storeInOwnDict ownStreamTells ownDictForStores instanceDict
  repeat (first | with_reducible refine wpAny_loadPart_at he ?_ | with_reducible refine wpAny_loadPart_at hC ?_ | wp_step)
  dsimp only
  have hes : e ≠ h.objs.size := Nat.ne_of_lt (Heap.lt_size he)
  have he₁ : (h.push { cls := .type "dict", data := .dict #[] }).get? e = some { cls := .ref C, data := .fields vs } := Heap.get?_push_of_some _ he
  have hgd : ((h.push { cls := .type "dict", data := .dict #[] }).update e fun o => { cls := o.cls, dict := some h.objs.size, data := o.data, slots := o.slots }).get? h.objs.size = some { cls := .type "dict", data := .dict #[] } :=
    (Heap.get?_update_ne _ _ _ _ hes.symm).trans (Heap.get?_push_at rfl rfl)
  repeat (first | with_reducible refine wpAny_loadPart_at hgd ?_ | wp_step)
  refine wpAny_askSetting (wpAny_pure (wpAny_bind (wpAny_mkText (wpAny_bind (wpAny_loadPart hgd ?_)))))
  dsimp only
  rw [aRefKeyMayBeTheName_at, show (!(#[] : Array DictEntry).any (·.key.isStr name) && (#[] : Array DictEntry).any (·.refKey)) = false by simp]
  refine wpAny_updatePart hgd ?_
  have eo := putName_dict name (PyData.keyHash w.params name) (.str name (t + 1)) m [] 0
  have hgd' : ((h.push { cls := .type "dict", data := .dict #[] }).update e fun o => { cls := o.cls, dict := some h.objs.size, data := o.data, slots := o.slots }).get? h.objs.size = some (dictOf [] 0) := hgd
  have hx' : (((h.push { cls := .type "dict", data := .dict #[] }).update e fun o => { cls := o.cls, dict := some h.objs.size, data := o.data, slots := o.slots }).update h.objs.size (Obj.putName name (PyData.keyHash w.params name) (.str name (t + 1)) m)).get? h.objs.size = some (dictOf (putL name (PyData.keyHash w.params name) (.str name (t + 1)) m []) (putN name [] 0)) := by
    rw [← eo]
    exact Heap.get?_update_self _ hgd' (by rw [eo]; rfl)
  refine wpAny_bind (wpAny_lookBehind hx' (by exact pastItsLine_dict (by show 1 ≤ sizeLine + 1; lia)) ?_)
  refine wpAny_pure ?_
  refine hq _ _ h.objs.size ?_ (fun b o hb hbo => ?_)
  · rw [Heap.get?_update_other _ _ hes.symm, Heap.get?_update_self _ he₁ rfl]
  · have hbs : b ≠ h.objs.size := Nat.ne_of_lt (Heap.lt_size hbo)
    rw [Heap.get?_update_other _ _ hbs.symm, Heap.get?_update_other _ _ (Ne.symm hb)]
    exact Heap.get?_push_of_some _ hbo
end
end Mine
end

section
set_option Elab.async false
set_option autoImplicit false
set_option linter.unusedVariables false
set_option maxRecDepth 100000
open PySem PySem.W PyProof.Rows
namespace Mine

noncomputable def xExc : Str := Str.ofString "Exception"
noncomputable def xInit : Str := Str.ofString "__init__"
noncomputable def xSelf : Str := Str.ofString "self"
noncomputable def xMsg : Str := Str.ofString "message"
noncomputable def xScript : Str := Str.ofString "ScriptError"
/-- the class that is raised, as the written heap bears it -/
structure ExcOk (K : Frag) (SE : Addr) : Prop where
  obj : ∃ nm q N PE bs sn sub ab col dd k0 k1 k2 k3 k5, K.lookup SE = some (scriptCls nm q SE N PE bs sn sub ab col dd k0 k1 k2 k3 k5)
  fn : ∃ (fI : Addr) (name qual : Str) (params : Arguments) (scope : Scope) (dV kV doc pm cdv ct oc : Value) (an od : Option Addr) (osl : Array (Option Value)) (p1 p2 p3 p4 p5 p6 p7 p8 p9 p10 : Pos),
    findIn K (.ref SE) xInit = some (some (.ref fI)) ∧ typeIn K (.ref fI) = some (.type "function") ∧
    K.lookup fI = some ⟨oc, od, .func (fnOf name qual params [.Expr (.Call (.Attribute (.Name xExc p1) xInit p2) [.Name xSelf p3, .Name xMsg p4] [] p5) p6, .Assign [.Attribute (.Name xSelf p7) xMsg p8] (.Name xMsg p9) p10] scope dV kV doc pm an cdv ct), osl⟩ ∧
    codeIn K cdv qual = true ∧
    (∀ a b : Value, bindArgs (fnOf name qual params [.Expr (.Call (.Attribute (.Name xExc p1) xInit p2) [.Name xSelf p3, .Name xMsg p4] [] p5) p6, .Assign [.Attribute (.Name xSelf p7) xMsg p8] (.Name xMsg p9) p10] scope dV kV doc pm an cdv ct) ⟨[a, b], []⟩ = pure [(xSelf, a), (xMsg, b)]) ∧
    scope.kind = .function ∧ scope.isCoroutine = false ∧ scope.isGenerator = false ∧ (∀ x ∈ scope.names, x.2 ≠ .cell) ∧ scope.names.lookup xSelf = some .local ∧ scope.names.lookup xMsg = some .local ∧ scope.names.lookup xExc = some .globalImplicit ∧ (p2.endLine == p5.line) = true
  ini : findCls K (.type "Exception") (.type "type") xInit = some (.val (.builtin "Exception.__init__"))
  st : findIn K (.ref SE) "__setattr__" = some (some (.builtin "object.__setattr__"))
  ms : findIn K (.ref SE) xMsg = some none
  gl : nsIn K mainGlobals xScript = some (some (.ref SE))
  gx : nsIn K mainGlobals xExc = some none
  kp : keepIn K (.ref SE) = true

section
variable {base : Heap} {ca : Nat → Addr} {SE : Addr} {s : Shared} {prog : Program} {w : World} {K : Frag} {t : Tb} {A : Around} {EE : Value → Shared → Prop}

theorem method_typeX {T : String} {pl : Sem Bool} {name : Str} {v : Value} {Q : Value × List Value → Shared → Prop} (X : K.In s.heap) (ht : typeOf (.type T) = pure (.type "type")) (hs : Manifest.isStub T = false)
    (e : findCls K (.type T) (.type "type") name = some (.val v)) (hh : handedIn v = true) (h : Q (v, []) { s with toks := s.toks + 1 }) : wpAny (model prog w) A (getMethod (.type T) name pl) Q EE s := by
  have hstub : opaqueClassAbove (.type T) = pure none := by unfold opaqueClassAbove; dsimp only; rw [hs]; rfl
  have L0 : Looks (model prog w) s.heap (typeOf (.type T)) (.type "type") := Looks.of_pure ht
  have hg : findIn K (.type "type") "__getattribute__" = some (some (.builtin "type.__getattribute__")) := type_tga
  unfold getMethod specialOf
  refine wpAny_bind (wpAny_bind (L0.here ((looks_findIn X hg).here ?_)))
  dsimp only
  rw [if_pos canon_tga]
  refine wpAny_bind (wpAny_mono (Q := fun v => Q (v, [])) (E := EE) ?_ (fun _ _ z => wpAny_pure z) fun _ _ z => z)
  have LO : Looks (model prog w) s.heap (opaqueClassAbove (.type T)) none := Looks.of_pure hstub
  refine cls_open X LO L0 hg (looks_hook X (r := none) (by rfl)) (by show subIn K _ _ = _; rfl) e
    (wpAny_pure (by show wpAny _ _ (handedOut v) _ _ _; rw [handedOut_of hh]; exact wpAny_pure h))

theorem exc_type : typeOf (.type "Exception") = pure (.type "type") := by first | rfl | kernel_rfl | (unfold typeOf; kernel_rfl)
theorem exc_stub : Manifest.isStub "Exception" = false := by decide +kernel

theorem exc_make (G : Cx prog w K base ca SE t) (Z : ExcOk K SE) {m : Value} {Q : Value → Shared → Prop} (hb : ∀ b o, base.get? b = some o → s.heap.get? b = some o) (hd : A.depth + 5 < 1000)
    (hq : ∀ h' tk e dx t0, (∀ b o, s.heap.get? b = some o → h'.get? b = some o) → s.heap.get? e = none → h'.get? e = some { cls := .ref SE, dict := some dx, data := .fields #[.ref t0, .none, .none, .none, .bool false, .none] } → Q (.ref e) { s with heap := h', toks := tk }) :
    wpAny (model prog w) A (call (.ref SE) [m]) Q EE s := by
  obtain ⟨nm, q, N, PE, bs, sn, sub, ab, col, dd, k0, k1, k2, k3, k5, hK⟩ := Z.obj
  obtain ⟨fI, name, qual, params, scope, dV, kV, doc, pm, cdv, ct, oc, an, od, osl, p1, p2, p3, p4, p5, p6, p7, p8, p9, p10, f1, f2, f3, f4, f5, f6, f7, f8, f9, f10, f11, f12, f13⟩ := Z.fn
  obtain ⟨p, loose, mg, mb, T⟩ := G.T
  have X := G.X.keeps hb
  obtain ⟨h, g, d, tk, os⟩ := s
  dsimp only at hb X hq
  refine exc_call (X _ _ hK) X f1 f2 (fun h₁ e hM hs₁ he hg => ?_) (by show 1 ≤ sizeLine; unfold sizeLine; lia)
  obtain ⟨kM, eM, _⟩ := hM
  have X₁ := X.keeps kM
  refine wpAny_call (codeAny_call_function (A := A.under (.builtin "type.__call__" ⟨[.ref SE, m], []⟩)) ?_ (X₁ _ _ f3) rfl f7 f8 rfl (codeRec_of X₁ f4) ?_)
  · show A.depth + (Code.builtin "type.__call__" _).weight < recursionLimit
    have := tc_weight ⟨[.ref SE, m], []⟩
    have : recursionLimit = 1000 := rfl
    lia
  refine BindsTo.of_eq (f5 (.ref e) m) _ _ _ _ ?_
  refine wpAny_newFunctionEnv f9 (fun y hy => ?_) (fun h₂ hns hsb => ?_) f6
  · simp only [List.mem_cons, List.not_mem_nil, or_false] at hy
    rcases hy with rfl | rfl
    · exact f10
    · exact f11
  dsimp only at hns hsb ⊢
  have k₂ : ∀ b o, h₁.get? b = some o → h₂.get? b = some o := fun b o e => hsb.extBut b o (Nat.ne_of_lt (Heap.lt_size e)) (Heap.get?_push_of_some _ e)
  have X₂ := X₁.keeps k₂
  have kb₂ : ∀ b o, base.get? b = some o → h₂.get? b = some o := fun b o e => k₂ _ _ (kM _ _ (hb _ _ e))
  refine ⟨T.nolimit.keeps kb₂, codeAny_func ?_⟩
  obtain ⟨env, henv⟩ : ∃ env, env = newEnv scope h₁.objs.size mainGlobals [] (qual ++ ".<locals>.") (some fI) cdv none builtinsNs := ⟨_, rfl⟩
  have hk : env.scope.kind = .function := by rw [henv]; exact f6
  have hself : env.kindOf xSelf = some .local := by rw [henv]; exact f10
  have hmsg : env.kindOf xMsg = some .local := by rw [henv]; exact f11
  have hexc : env.kindOf xExc = some .globalImplicit := by rw [henv]; exact f12
  have hloc : env.locals = h₁.objs.size := by rw [henv]; rfl
  have hglo : env.globals = mainGlobals := by rw [henv]; rfl
  have hblt : env.builtins = builtinsNs := by rw [henv]; rfl
  show wpAny _ _ (execs [.Expr (.Call (.Attribute (.Name xExc p1) xInit p2) [.Name xSelf p3, .Name xMsg p4] [] p5) p6, .Assign [.Attribute (.Name xSelf p7) xMsg p8] (.Name xMsg p9) p10] (newEnv scope h₁.objs.size mainGlobals [] (qual ++ ".<locals>.") (some fI) cdv none builtinsNs)) _ _ _
  rw [← henv]
  rw [← hloc] at hns
  generalize hA' : ((A.under (.builtin "type.__call__" ⟨[.ref SE, m], []⟩)).deeper (newEnv scope h₁.objs.size mainGlobals [] (qual ++ ".<locals>.") (some fI) cdv none builtinsNs)) = A'
  have mself : ([(xSelf, Value.ref e), (xMsg, m)] : List (Str × Value)).reverse.lookup xSelf = some (.ref e) := by
    show List.lookup xSelf [(xMsg, m), (xSelf, Value.ref e)] = _
    rw [List.lookup_cons, show (xSelf == xMsg) = false by decide +kernel]
    simp
  have mmsg : ([(xSelf, Value.ref e), (xMsg, m)] : List (Str × Value)).reverse.lookup xMsg = some m := by
    show List.lookup xMsg [(xMsg, m), (xSelf, Value.ref e)] = _
    simp
  have dS : (xSelf == ("__debug__" : Str)) = false := by decide +kernel
  have dM : (xMsg == ("__debug__" : Str)) = false := by decide +kernel
  have dE : (xExc == ("__debug__" : Str)) = false := by decide +kernel
  have he₂ := k₂ _ _ hg
  have hLe : env.locals ≠ e := by
    rw [hloc]
    exact Nat.ne_of_gt (Heap.lt_size hg)
  refine wpAny_execs_cons (wpAny_Expr ?_ (by unfold interactive; rw [hk]; rfl) rfl)
  refine MethodCall_ (pl := do return (← importBound (.Name xExc p1) env).getD true) ?_ (lastArg_eq (pl := pure true) rfl f13 (by show 2 < 30; lia) rfl)
  refine Calls.Name_function_global hk hexc (Calls.loadGlobal_builtin (by rw [hglo]; exact T.g.keeps kb₂) (mg_none_of G.X T.g Z.gx) (by rw [hblt]; exact T.b.keeps kb₂) ((T.builtins xExc (by decide +kernel)).trans (show bootBuiltins xExc = some (.type "Exception") by decide +kernel)) ?_) dE
  refine method_typeX X₂ exc_type exc_stub Z.ini rfl ?_
  refine Calls.callWith_builtin rfl (Calls.evalArgs_plain (Calls.spliced_cons ?_))
  refine wpAny_Name (wpAny_loadName_local hk hself hns mself ?_) dS
  refine Calls.spliced_cons ?_
  refine wpAny_Name (wpAny_loadName_local hk hmsg hns mmsg ?_) dM
  refine Calls.spliced_nil ?_
  refine exc_init (k₂ _ _ (kM _ _ (X _ _ hK))) he₂ fun h₃ he₃ k₃ => ?_
  have hns₃ := hns.at' fun o e' => k₃ _ o hLe e'
  have kb₃ : ∀ b o, h.get? b = some o → h₃.get? b = some o := fun b o e' => k₃ b o (by rintro rfl; rw [eM] at e'; cases e') (k₂ _ _ (kM _ _ e'))
  have X₃ := X.keeps kb₃
  refine wpAny_execs_cons (wpAny_Assign_stores ?_ rfl rfl)
  refine wpAny_Name (wpAny_loadName_local hk hmsg hns₃ mmsg ?_) dM
  show wpAny _ _ (do
    let ov ← holding [m] (eval (.Name xSelf p7) env)
    standAt p8.atName
    holding [m, ov] (setAttr ov xMsg m)
    release [m, ov] []) _ _ _
  refine wpAny_bind (wpAny_holding (wpAny_Name (wpAny_loadName_local hk hself hns₃ mself ?_) dS))
  refine wpAny_bind (wpAny_standAt (wpAny_bind (wpAny_holding ?_)))
  refine exc_store (X₃ _ _ hK) X₃ hK Z.st Z.ms he₃ fun h₄ tk₄ dx he₄ k₄ => ?_
  refine wpAny_release' (wpAny_execs_nil ⟨rfl, ?_⟩)
  exact hq h₄ _ e _ _ (fun b o e' => k₄ b o (by rintro rfl; rw [eM] at e'; cases e') (kb₃ b o e')) eM he₄
end
end Mine
end

section
set_option Elab.async false
set_option autoImplicit false
set_option linter.unusedVariables false
set_option maxRecDepth 100000
open PySem PySem.W
namespace Mine
section
variable {M : Model} {A : Around} {E : Value → Shared → Prop} {env : Env}
variable {nm q : Str} {C N PE : Addr} {bs : List Value} {sn : List Str} {sub : List Value} {ab : Bool} {col : Option Bool} {dd : Option Addr} {k0 k1 k2 k3 k5 : Option Value}
theorem raise_made {s : Shared} {x : Sem Value} {Q : Flow → Shared → Prop} (hh : A.handled = none)
    (h : wpAny M A x (fun v s₁ => ∃ e dx t, v = .ref e ∧ s₁.heap.get? C = some (scriptCls nm q C N PE bs sn sub ab col dd k0 k1 k2 k3 k5) ∧
      s₁.heap.get? e = some { cls := .ref C, dict := some dx, data := .fields #[.ref t, .none, .none, .none, .bool false, .none] } ∧ E (.ref e) s₁) E s) :
    wpAny M A (raiseStmt env (some x) none) Q E s := by
  have hcB : (Value.ref C :: tailX PE).contains (.type "BaseException") = true := rfl
  unfold raiseStmt
  refine wpAny_bind (wpAny_mono h (fun v s₁ h₁ => ?_) fun _ _ x => x)
  obtain ⟨e, dx, t, rfl, hC, he, hE⟩ := h₁
  obtain ⟨hp, g, d, tk, os⟩ := s₁
  repeat (first | with_reducible refine wpAny_loadPart_at he ?_ | with_reducible refine wpAny_loadPart_at hC ?_ | (with_reducible refine wpAny_isSubtype_exc hC ?_; rw [hcB]) | wp_step)
  exact wpAny_raiseNew_none hh hE
end
end Mine
end

section
set_option Elab.async false
set_option autoImplicit false
set_option linter.unusedVariables false
set_option maxRecDepth 100000
open PySem PySem.W PyProof.Rows
namespace Mine
section
variable {base : Heap} {ca : Nat → Addr} {SE : Addr} {s : Shared} {Λ Λ₁ : Led} {ρ ρ₁ : Rho} {outer l : List Env} {S : H} {sc : Scope} {env : Env} {fr : Fr} {n m : Nat} {A : Around} {t : Tb}
variable {prog : Program} {w : World} {K : Frag} {X : H → Prop}

theorem frames_hidden {h : Heap} (hs : StackOk Λ l) (x : Holds base h Λ) {h' : Heap} (k : ∀ b o, h.get? b = some o → h'.get? b = some o) (as : List Addr) (ha : ∀ env ∈ l, ∀ a, env.frame = some a → a ∈ as) : h'.FunFrames (hideAll h as) l := by
  induction l with
  | nil => exact trivial
  | cons env l ih =>
    obtain ⟨h1, L, m, h2, h3⟩ := hs env List.mem_cons_self
    refine ⟨by rw [h1]; decide, ?_, ih (fun e he => hs e (List.mem_cons_of_mem _ he)) fun e he => ha e (List.mem_cons_of_mem _ he)⟩
    obtain ⟨o, ho, hok⟩ := x.at_ L _ h3
    exact ⟨L, o, h2, hideAll_none _ (ha env List.mem_cons_self L h2), k _ _ ho, ns_notFields hok⟩

theorem raised_new {h h' : Heap} {e dx t0 : Addr} (st : St8 base ca Λ ρ S h) (hs : StackOk Λ l) (k : ∀ b o, h.get? b = some o → h'.get? b = some o) (he : h.get? e = none)
    (hg : h'.get? e = some { cls := .ref SE, dict := some dx, data := .fields #[.ref t0, .none, .none, .none, .bool false, .none] }) : Raised base SE l e Λ h' := by
  refine ⟨hideAll h (frAddrs l), .ref t0, fun b o e' => ?_, fun b o e' => k b o (of_hideAll _ e'), fun a sp e' hn => ?_, ?_, frames_hidden hs st.holds k _ fun env he a hf => List.mem_filterMap.mpr ⟨env, he, hf⟩, .inl ⟨_, _, hg, rfl, rfl, rfl, rfl⟩⟩
  · refine hideAll_get _ (st.holds.keep b o e') fun hm => ?_
    obtain ⟨m, h1⟩ := stack_ns hs hm
    rw [st.holds.new _ _ h1] at e'; cases e'
  · obtain ⟨o, ho, hok⟩ := st.holds.at_ a sp e'
    exact ⟨o, hideAll_get _ ho hn, hok⟩
  · cases q : (hideAll h (frAddrs l)).get? e with
    | none => rfl
    | some o => have := of_hideAll _ q; rw [he] at this; cases this

theorem okX_raise (G : Cx prog w K base ca SE t) (Z : ExcOk K SE) {msg : Str} {k : Nat} {np p cpos pos : Pos} (hl : sc.names.lookup xScript = some .globalImplicit) :
    OkX base ca SE prog w t (n + 1) sc (.Raise (some (.Call (.Name xScript np) [.Constant (.str msg) k p] [] cpos)) none pos) .raise := by
  intro A env outer s Λ ρ S fr Qx Q H h
  rw [arm_exec_Raise]
  obtain ⟨nm, q, N, PE, bs, sn, sub, ab, col, dd, k0, k1, k2, k3, k5, hK⟩ := Z.obj
  refine wpAny_bind (wpAny_standAt ?_)
  refine raise_made (C := SE) (nm := nm) (q := q) (N := N) (PE := PE) (bs := bs) (sn := sn) (sub := sub) (ab := ab) (col := col) (dd := dd) (k0 := k0) (k1 := k1) (k2 := k2) (k3 := k3) (k5 := k5) H.a.handled ?_
  show wpAny _ _ (eval (.Call (.Name xScript np) [.Constant (.str msg) k p] [] cpos) env >>= fun v => standAt pos >>= fun _ => pure v) _ _ _
  refine wpAny_bind (wpAny_Call_ofName (G.global H.e.ok H.x.holds.keep Z.gl hl (by decide +kernel) ?_))
  refine callWith_K (h₀ := s.heap) (G.in_ H.x.holds) Z.kp ?_
  refine Calls.spliced_cons (wpAny_Constant_str (k := k) (pos := p) (Calls.spliced_nil ⟨G.in_ H.x.holds, ?_⟩))
  refine exc_make G Z H.x.holds.keep (by have := H.a.depth; lia) fun h' tk e dx t0 kk hn he => ?_
  refine wpAny_bind (wpAny_standAt (wpAny_pure ?_))
  have x' := H.x.keeps kk
  exact ⟨e, dx, t0, rfl, G.in_ x'.holds _ _ hK, he, h', tk, Λ, ρ, S, e, rfl, rfl, .refl H.o.z, x', raised_new H.x H.k kk hn he, h⟩
end
end Mine
end

section
set_option Elab.async false
set_option autoImplicit false
set_option linter.unusedVariables false
set_option maxRecDepth 100000
open PySem PySem.W PyProof.Rows
namespace Mine
section
variable {base : Heap} {ca : Nat → Addr} {SE : Addr} {s : Shared} {Λ Λ₁ : Led} {ρ ρ₁ : Rho} {outer l : List Env} {S : H} {sc : Scope} {env : Env} {fr : Fr} {n m : Nat} {A : Around} {t : Tb} {e : Addr}
variable {prog : Program} {w : World} {K : Frag} {X : H → Prop} {M : Model} {EE : Value → Shared → Prop}

/-- the frame at hand is noted, and the flight is ended -/
theorem raised_note {L : Addr} {Q : Unit → Shared → Prop} (hs : StackOk Λ (env :: outer)) (hL : env.frame = some L) (hA : A.frames = some (env :: outer)) (st : St8 base ca Λ ρ S s.heap) (R : Raised base SE (env :: outer) e Λ s.heap)
    (k : ∀ h₂ B a0, base.StaysIn B → (∀ a sp, Λ a = some sp → a ∉ frAddrs (env :: outer) → ∃ o, B.get? a = some o ∧ sp.ok o) → Heap.FlyingW B (env :: outer) e (.ref SE) a0 h₂ → St8 base ca Λ ρ S h₂ → Q () { s with heap := h₂ }) :
    wpAny M A (noteFrame (.ref e) env) (fun _ s₂ => wpAny M A (setFlight (.ref e) none) Q EE s₂) EE s := by
  obtain ⟨B, a0, hb, hB, hΛ, hBe, hF, hT⟩ := R
  have stop : ∀ h₁, Holds base h₁ Λ → B.StaysIn h₁ → h₁.FunFrames B (env :: outer) → h₁.TracedAtW B e (.ref SE) a0 (rawInt L) → wpAny M A (setFlight (.ref e) none) Q EE { s with heap := h₁ } := by
    intro h₁ x₁ hB₁ hF₁ ht
    refine wpAny_setFlight_noneW hB₁ hF₁ ht fun h' k1 k2 k3 k4 => ?_
    exact k h' B a0 hb hΛ ⟨k1, hBe, k2, k3⟩ ⟨holds_noted x₁ hs hb k1 hΛ fun b o hb hn => ⟨o.slots, k4 b o hb hn⟩, st.rel⟩
  rcases hT with ⟨oe, vs, he, hcls, hd, h0, h1⟩ | ht | ⟨env', r, L', hl, hL', ht⟩
  · unfold noteFrame
    simp only [hL]
    refine wpAny_bind (wpAny_field he hd h1 ?_)
    rw [if_neg (by decide)]
    refine wpAny_entryW hA hF hL he hB hBe hd (Array.getElem?_eq_some_iff.mp h1).1 h0 fun h' hN => ?_
    obtain ⟨k1, k2, k3, k4⟩ := hN
    rw [hcls] at k3
    exact stop h' (holds_noted st.holds hs hb k1 hΛ k4) k1 k2 k3
  · refine wpAny_noteFrame_onW hA hF hL ht hB hBe fun h' hN => ?_
    obtain ⟨k1, k2, k3, k4⟩ := hN
    exact stop h' (holds_noted st.holds hs hb k1 hΛ k4) k1 k2 k3
  · cases hl
    rw [hL] at hL'; cases hL'
    exact wpAny_noteFrame_againW hL ht (stop s.heap st.holds hB hF ht)

theorem okX_try (G : Cx prog w K base ca SE t) (Z : ExcOk K SE) {body : List PySem.Stmt} {body' : List St} {np hp rp cp pos : Pos} {k : Nat} (hl : sc.names.lookup xScript = some .globalImplicit) (hbody : OkXs base ca SE prog w t n sc body body') :
    OkX base ca SE prog w t (n + 1) sc (.Try body [.ExceptHandler (some (.Name xScript np)) none [.Return (some (.Constant .none k cp)) rp] hp] [] [] pos) (.tryN body') := by
  intro A env outer s Λ ρ S fr Qx Q H h
  obtain ⟨nm, q, N, PE, bs, sn, sub, ab, col, dd, k0, k1, k2, k3, k5, hK⟩ := Z.obj
  have H₀ := H.lt
  refine wpAny_Try_except (wpAny_mono (snd_exs hbody s Λ ρ S fr (fun S' => Q (some .none) (fun _ => none) S') Q H₀ h) (fun fl s₁ q => ?_) fun e' s₁ q => ?_)
  · cases fl with
    | next => exact wpAny_execs_nil q
    | ret v => exact q
    | brk => exact q
    | cont => exact q
  · obtain ⟨h₁, t₁, Λ₁, ρ₁, S₁, e, rfl, rfl, ev₁, x₁, r₁, q₁⟩ := q
    refine raised_note (s := { s with heap := h₁, toks := t₁ }) (H.k.evoOwn H.e.frame H.o ev₁) H.e.frame H.a.frames x₁ r₁ fun h₂ B a0 hb hΛ hfl x₂ => ?_
    refine wpAny_handleBy_cons (codeAny_handlers_test ?_) (by intro q; cases q)
    refine G.global H.e.ok x₂.holds.keep Z.gl hl (by decide +kernel) ?_
    obtain ⟨ob, hob, hobc⟩ := hfl.there
    have hC := G.in_ x₂.holds _ _ hK
    refine wpAny_excMatches_sub_self hC hob hobc rfl ?_
    refine codeAny_handlers_suite ?_
    refine lands_againW hfl fun h₃ hfl₃ up => ?_
    have x₃ : St8 base ca Λ₁ ρ₁ S₁ h₃ := ⟨holds_noted x₂.holds (H.k.evoOwn H.e.frame H.o ev₁) hb hfl₃.1 hΛ up, x₂.rel⟩
    refine wpAny_execs_cons (wpAny_Return_some (wpAny_Constant_none ?_))
    exact ⟨h₃, t₁, Λ₁, ρ₁, fun _ => none, S₁, rfl, ev₁, x₃, (fun _ _ _ e => by cases e), .none, rfl, q₁⟩
end
end Mine
end

section
set_option Elab.async false
set_option autoImplicit false
set_option linter.unusedVariables false
open PySem PySem.W PyProof.Rows
namespace Mine
section
variable (base : Heap) (ca : Nat → Addr) (SE : Addr) (prog : Program) (w : World) (t : Tb) (n : Nat) (sc : Scope)
/-- an expression is sound up to n -/
structure GE (pe : PySem.Expr) (e : E) : Prop where
  oe : ∀ m, m ≤ n → OkE base ca SE prog w t m sc pe e
  ot : ∀ m, m ≤ n → OkT base ca SE prog w t m sc pe e
  oa : ∀ m, m ≤ n → ∀ x k p pos, stName tab sc x = some k → OkX base ca SE prog w t m sc (.Assign [.Name x p] pe pos) (.asg k e)
  s : simpleE pe = true
noncomputable def GS (ps : PySem.Stmt) (st : St) : Prop := ∀ m, m ≤ n → OkX base ca SE prog w t m sc ps st
end
section
variable {base : Heap} {ca : Nat → Addr} {SE : Addr} {sc : Scope} {n : Nat} {t : Tb}
variable {prog : Program} {w : World} {K : Frag}

theorem okE_zero {pe : PySem.Expr} {e : E} : OkE base ca SE prog w t 0 sc pe e := by
  intro A env l s Λ ρ S fr X Q H h
  exact False.elim h
theorem okT_zero {pe : PySem.Expr} {e : E} : OkT base ca SE prog w t 0 sc pe e := by
  intro A env l s Λ ρ S fr X Q H h
  exact False.elim h
theorem okX_zero {ps : PySem.Stmt} {st : St} : OkX base ca SE prog w t 0 sc ps st := by
  intro A env outer s Λ ρ S fr Qx Q H h
  exact False.elim h
theorem leS {P : Nat → Prop} (h0 : P 0) (h : ∀ m, m < n → P (m + 1)) : ∀ m, m ≤ n → P m
  | 0, _ => h0
  | m + 1, hm => h m hm
theorem okE_no {pe : PySem.Expr} {e : E} (h : ∀ fr S X Q, ¬ ev t n e fr S X Q) : OkE base ca SE prog w t n sc pe e := by
  intro A env l s Λ ρ S fr X Q H hh
  exact (h _ _ _ _ hh).elim
theorem okT_no {pe : PySem.Expr} {e : E} (h : ∀ fr S X Q, ¬ tst t n e fr S X Q) : OkT base ca SE prog w t n sc pe e := by
  intro A env l s Λ ρ S fr X Q H hh
  exact (h _ _ _ _ hh).elim
theorem okX_no {ps : PySem.Stmt} {st : St} (h : ∀ fr S X Q, ¬ ex t n st fr S X Q) : OkX base ca SE prog w t n sc ps st := by
  intro A env outer s Λ ρ S fr Qx Q H hh
  exact (h _ _ _ _ hh).elim
theorem not_tuple {pe : PySem.Expr} (h : simpleE pe = true) {ts : List PySem.Expr} {k : Nat} {p : Pos} (env : Env) : swappedStores [.Tuple ts k p] pe env = pure none := by
  cases pe <;> first | rfl | cases h

theorem ge_mk {pe : PySem.Expr} {e : E} (hs : simpleE pe = true) (hn : notComp pe = true) (hE : ∀ m, m < n → OkE base ca SE prog w t (m + 1) sc pe e)
    (hT : ∀ m, m < n → OkE base ca SE prog w t m sc pe e → OkT base ca SE prog w t (m + 1) sc pe e) : GE base ca SE prog w t n sc pe e := by
  have h := leS (P := fun m => OkE base ca SE prog w t m sc pe e) okE_zero hE
  exact ⟨h, leS (P := fun m => OkT base ca SE prog w t m sc pe e) okT_zero fun m hm => hT m hm (h m (Nat.le_of_lt hm)), leS (fun _ _ _ _ _ => okX_zero) fun m hm x k p pos hx => okX_asg hx (fun env => swaps_no hs hn) (h m (Nat.le_of_lt hm)), hs⟩
noncomputable def otherE : E → Bool
  | .not _ | .bop _ _ | .cmp _ _ | .ite _ _ _ => false
  | _ => true
theorem tst_other {e : E} (h : otherE e = true) {fr : Fr} {S : Mine.H} {X : Mine.H → Prop} {Q : Bool → Mine.H → Prop} (q : tst t (n + 1) e fr S X Q) : ev t n e fr S X (isB Q) := by
  cases e <;> first | exact q | cases h
theorem ge_pl {pe : PySem.Expr} {e : E} (hs : simpleE pe = true) (hn : notComp pe = true) (hp : plainT pe = true) (ho : otherE e = true) (hE : ∀ m, m < n → OkE base ca SE prog w t (m + 1) sc pe e) : GE base ca SE prog w t n sc pe e :=
  ge_mk hs hn hE fun _ _ h => okT_plain hp h fun _ _ _ _ q => tst_other ho q
theorem GE.el {pe : PySem.Expr} {e : E} {m : Nat} (h : GE base ca SE prog w t n sc pe e) (hm : m < n) : OkE base ca SE prog w t m sc pe e := h.oe m (Nat.le_of_lt hm)
theorem GE.tl {pe : PySem.Expr} {e : E} {m : Nat} (h : GE base ca SE prog w t n sc pe e) (hm : m < n) : OkT base ca SE prog w t m sc pe e := h.ot m (Nat.le_of_lt hm)
theorem ges {pes : List PySem.Expr} {es : List E} {m : Nat} (h : Each (GE base ca SE prog w t n sc) pes es) (hm : m < n) : OkEs base ca SE prog w t m sc pes es := h.mono fun _ _ h => ⟨h.el hm, plainE_of h.s⟩
theorem gts {pes : List PySem.Expr} {es : List E} {m : Nat} (h : Each (GE base ca SE prog w t n sc) pes es) (hm : m < n) : Each (fun pe e => OkT base ca SE prog w t m sc pe e) pes es := h.mono fun _ _ h => h.tl hm
theorem gxs {ps : List PySem.Stmt} {sts : List St} {m : Nat} (h : Each (GS base ca SE prog w t n sc) ps sts) (hm : m < n) : OkXs base ca SE prog w t m sc ps sts := h.mono fun _ _ h => h m (Nat.le_of_lt hm)
theorem gcs {ops : List CmpOp} {pes : List PySem.Expr} {cs : List (COp × E)} {m : Nat} (h : OkCs (GE base ca SE prog w t n sc) ops pes cs) (hm : m < n) : OkCs (fun pe e => OkE base ca SE prog w t m sc pe e ∧ plainE pe = true) ops pes cs :=
  h.mono fun _ _ h => ⟨h.el hm, plainE_of h.s⟩
theorem gos {pe : Option PySem.Expr} {e : Option E} {m : Nat} (h : Opt1 (GE base ca SE prog w t n sc) pe e) (hm : m < n) : OkO base ca SE prog w t m sc pe e := by
  cases h with
  | none => exact trivial
  | some h => exact h.el hm

theorem ge_comp {csc : Scope} {elt it : PySem.Expr} {elt' it' : E} {x : Str} {k : Nat} {xp p : Pos} {ifs : List PySem.Expr} {ifs' : List E} (h1 : compOk sc csc x = true) (h2 : find tab.names x = some k) (h3 : GE base ca SE prog w t n csc elt elt') (h4 : GE base ca SE prog w t n sc it it')
    (h5 : Each (GE base ca SE prog w t n csc) ifs ifs') : GE base ca SE prog w t n sc (.ListComp elt [⟨.Name x xp, it, ifs, 0⟩] csc p) (.comp elt' k it' ifs') := by
  have h := leS (P := fun m => OkE base ca SE prog w t m sc (.ListComp elt [⟨.Name x xp, it, ifs, 0⟩] csc p) (.comp elt' k it' ifs')) okE_zero fun m hm => okE_comp (compSc_of h1) h2 (h4.el hm) (plainE_of h4.s) (h3.el hm) (gts h5 hm)
  refine ⟨h, leS (P := fun m => OkT base ca SE prog w t m sc (.ListComp elt [⟨.Name x xp, it, ifs, 0⟩] csc p) (.comp elt' k it' ifs')) okT_zero fun m hm => okT_plain rfl (h m (Nat.le_of_lt hm)) fun _ _ _ _ q => tst_other rfl q, leS (fun _ _ _ _ _ => okX_zero) fun m hm x k p pos hx => ?_, rfl⟩
  cases m with
  | zero => exact okX_no fun fr S X Q h => h
  | succ m => exact okX_asgComp hx (compSc_of h1) h2 (h4.el (Nat.lt_of_succ_lt hm)) (plainE_of h4.s) (h3.el (Nat.lt_of_succ_lt hm)) (gts h5 (Nat.lt_of_succ_lt hm))
end
end Mine
end

section
set_option Elab.async false
set_option autoImplicit false
set_option linter.unusedVariables false
open PySem PySem.W PyProof.Rows
namespace Mine
section
variable {base : Heap} {ca : Nat → Addr} {SE : Addr} {sc : Scope} {n : Nat} {t : Tb}
variable {prog : Program} {w : World} {K : Frag}

theorem rules (G : Cy prog w K base ca SE t) (Z : ExcOk K SE) (hX : ∀ m, m < n → SndX base ca SE prog w t m) : Rules (GE base ca SE prog w t n) (GS base ca SE prog w t n) where
  e_gcon h1 h2 := ge_pl rfl rfl rfl rfl fun m hm => okE_gcon G.toCx h2 h1
  e_var h1 h2 h3 := ge_pl rfl rfl rfl rfl fun m hm => okE_var h3 h1 h2
  e_none := ge_pl rfl rfl rfl rfl fun m hm => okE_none
  e_bool := ge_pl rfl rfl rfl rfl fun m hm => okE_bool
  e_int := ge_pl rfl rfl rfl rfl fun m hm => okE_int
  e_str h := ge_pl rfl rfl rfl rfl fun m hm => okE_str h
  e_neg := ge_pl rfl rfl rfl rfl fun m hm => okE_neg
  e_not h := ge_mk rfl rfl (fun m hm => okE_no fun fr S X Q q => q) fun m hm _ => okT_not (h.tl hm)
  e_pow := ge_pl rfl rfl rfl rfl fun m hm => okE_pow
  e_bin h1 h2 h3 := ge_pl rfl rfl rfl rfl fun m hm => okE_bin h1 (h2.el hm) (h3.el hm)
  e_inK h1 h2 := ge_mk rfl rfl (fun m hm => okE_inK G (h2.el hm) h1) fun m hm _ => match m, hm with
    | 0, _ => okT_no fun fr S X Q q => q
    | k + 1, hm => okT_inK G (h2.el (Nat.lt_of_succ_lt hm)) h1
  e_cmp h1 h2 := ge_mk rfl rfl (fun m hm => okE_cmp (h1.el hm) (gcs h2 hm)) fun m hm _ => okT_cmp (h1.el hm) (gcs h2 hm)
  e_bop h1 h2 := ge_mk rfl rfl (fun m hm => okE_bop (h2.mono fun _ _ h => h.el hm) h1) fun m hm _ => okT_bop (gts h2 hm)
  e_ite h1 h2 h3 := ge_mk rfl rfl (fun m hm => okE_ite (h1.tl hm) (h2.el hm) (h3.el hm)) fun m hm _ => okT_no fun fr S X Q q => q
  e_attr h1 h2 h3 := ge_pl rfl rfl rfl rfl fun m hm => okE_attr G.toCx h1 h2 (h3.el hm)
  e_slc h1 h2 h3 := ge_pl rfl rfl rfl rfl fun m hm => okE_slc (h1.el hm) (gos h2 hm) (gos h3 hm)
  e_idx h1 h2 := ge_pl rfl rfl rfl rfl fun m hm => okE_idx (h1.el hm) (h2.el hm) (fun x y => sub_idx h2.s x y)
  e_list h := ge_pl rfl rfl rfl rfl fun m hm => okE_list (ges h hm)
  e_comp h1 h2 h3 h4 h5 := ge_comp h1 h2 h3 h4 h5
  e_app h1 h2 h3 h4 := ge_pl rfl rfl rfl rfl fun m hm => okE_app h1 h2 (h3.el hm) (h4.el hm) (plainE_of h4.s)
  e_meth h1 h2 h3 h4 h5 h6 := ge_pl rfl rfl rfl rfl fun m hm => okE_meth (hX m hm) G h1 h2 h3 h4 (h5.el hm) (ges h6 hm)
  e_call h1 h2 h3 := ge_pl rfl rfl rfl rfl fun m hm => okE_call (hX m hm) G h1 h2 (ges h3 hm)
  e_new h1 h2 h3 := ge_pl rfl rfl rfl rfl fun m hm => okE_new (hX m hm) G h1 h2 (ges h3 hm)
  e_blt h1 h2 h3 := ge_pl rfl rfl rfl rfl fun m hm => okE_blt G h1 h2 (ges h3 hm)
  s_asg h1 h2 := fun m hm => h2.oa m hm _ _ _ _ h1
  s_swap h1 h2 h3 h4 h5 h6 := leS okX_zero fun m hm => okX_swap (h1.el hm) (h2.el hm) (h3.el hm) (h4.el hm) (h5.el hm) (h6.el hm) (plainE_of h5.s) (plainE_of h6.s)
  s_asgTup h1 h2 h3 := leS okX_zero fun m hm => okX_asgTup h2 h1 (ges h3 hm)
  s_unp h1 h2 := leS okX_zero fun m hm => okX_unp h1 (fun env => swaps_tup h2.s) (not_tuple h2.s) (h2.el hm)
  s_asgSlc h1 h2 h3 := leS okX_zero fun m hm => okX_asgSlc (fun env => swaps_sub h3.s) (h1.el hm) (h2.el hm) (h3.el hm)
  s_asgIdx h1 h2 h3 := leS okX_zero fun m hm => okX_asgIdx (fun env => swaps_sub h3.s) (h1.el hm) (h2.el hm) (h3.el hm)
  s_asgAttr h1 h2 h3 := leS okX_zero fun m hm => okX_asgAttr G.toCx (fun env => swaps_attr h3.s) h1 (h2.el hm) (h3.el hm)
  s_aug h1 h2 := leS okX_zero fun m hm => okX_aug (kk := .local) h1 (h2.el hm)
  s_ife h1 h2 h3 := leS okX_zero fun m hm => okX_ife (h1.tl hm) (gxs h2 hm) (gxs h3 hm)
  s_forv h1 h2 h3 := leS okX_zero fun m hm => okX_forv h1 (h2.el hm) (plainE_of h2.s) (gxs h3 hm)
  s_forp h1 h2 h3 := leS okX_zero fun m hm => okX_forp h1 (h2.el hm) (plainE_of h2.s) (gxs h3 hm)
  s_ret h := leS okX_zero fun m hm => okX_ret (h.el hm)
  s_expr h1 h2 := leS okX_zero fun m hm => okX_expr (fun env => swaps_no h2.s h1) (h2.el hm)
  s_raise h := leS okX_zero fun m hm => okX_raise G.toCx Z h
  s_tryN h1 h2 := leS okX_zero fun m hm => okX_try G.toCx Z h1 (gxs h2 hm)

theorem sound (G : Cy prog w K base ca SE t) (Z : ExcOk K SE) (n : Nat) : SndX base ca SE prog w t n := by
  induction n using Nat.strongRecOn with
  | _ n ih => exact fun sc ps st h => h _ _ (rules G Z ih) n (Nat.le_refl n)
end
end Mine
end

section
set_option autoImplicit false
namespace Mine
/-- blocks_of_unit[frame, scan] -/
noncomputable def b0 : List St := [
  .ife (.meth (.var 11) 0 []) [.ret (.con (.int 1))] [],
  .ret (.blt .sum [(.comp (.bin .mul (.attr (.idx (.attr (.var 10) 37) (.var 13)) 30) (.attr (.idx (.attr (.var 10) 37) (.var 13)) 31)) 13 (.attr (.var 11) 3) [])])]
noncomputable def p0 : List Nat := [10, 11]
/-- check_places[frame, scan] -/
noncomputable def b1 : List St := [
  .ife (.not (.cmp (.con (.int 1)) [(.le, (.blt .len [(.attr (.var 11) 3)])), (.le, (.gcon 0))])) [.raise] [],
  .asg 12 (.con (.int (-1))),
  .forv 13 (.attr (.var 11) 3) [.ife (.not (.cmp (.con (.int 0)) [(.le, (.var 13)), (.lt, (.blt .len [(.attr (.var 10) 37)]))])) [.raise] [], .ife (.cmp (.var 13) [(.le, (.var 12))]) [.raise] [], .asg 12 (.var 13)],
  .ife (.cmp (.call 0 [(.var 10), (.var 11)]) [(.gt, (.gcon 1))]) [.raise] []]
noncomputable def p1 : List Nat := [10, 11]
/-- check_slots[frame, scan] -/
noncomputable def b2 : List St := [
  .ife (.bop false [(.cmp (.blt .len [(.attr (.var 11) 4)]) [(.ne, (.blt .len [(.attr (.var 11) 3)]))]), (.cmp (.blt .len [(.attr (.var 11) 5)]) [(.ne, (.blt .len [(.attr (.var 11) 3)]))])]) [.raise] [],
  .asg 14 (.ite (.cmp (.attr (.var 10) 33) [(.eq, (.con (.str 0)))]) (.con (.int 1)) (.con (.int 3))),
  .forv 15 (.bin .add (.blt .list [(.attr (.var 11) 4)]) (.blt .list [(.attr (.var 11) 5)])) [.ife (.not (.cmp (.con (.int 0)) [(.le, (.var 15)), (.le, (.var 14))])) [.raise] []]]
noncomputable def p2 : List Nat := [10, 11]
/-- check_band[frame, scan] -/
noncomputable def b3 : List St := [
  .asg 16 (.bin .sub (.bin .mul (.attr (.var 10) 38) (.attr (.var 10) 38)) (.con (.int 1))),
  .ife (.cmp (.attr (.var 10) 33) [(.eq, (.con (.str 3)))]) [.ife (.bop false [(.not (.cmp (.con (.int 1)) [(.le, (.attr (.var 11) 6)), (.le, (.con (.int 7)))])), (.cmp (.attr (.var 11) 7) [(.ne, (.con (.int 0)))]), (.cmp (.attr (.var 11) 8) [(.ne, (.con (.int 0)))]), (.not (.cmp (.con (.int 0)) [(.le, (.attr (.var 11) 9)), (.le, (.gcon 3))]))]) [.raise] []] [.ife (.inK (.attr (.var 10) 33)) [.expr (.call 4 [(.var 11), (.var 16)])] [.ife (.bop false [(.cmp (.attr (.var 11) 6) [(.ne, (.con (.int 0)))]), (.cmp (.attr (.var 11) 7) [(.ne, (.var 16))]), (.cmp (.attr (.var 11) 8) [(.ne, (.con (.int 0)))]), (.cmp (.attr (.var 11) 9) [(.ne, (.con (.int 0)))])]) [.raise] []]]]
noncomputable def p3 : List Nat := [10, 11]
/-- check_progressive_band[scan, last] -/
noncomputable def b4 : List St := [
  .ife (.not (.cmp (.con (.int 0)) [(.le, (.attr (.var 11) 6)), (.le, (.attr (.var 11) 7)), (.le, (.var 16))])) [.raise] [],
  .ife (.bop true [(.cmp (.attr (.var 11) 6) [(.eq, (.con (.int 0)))]), (.cmp (.attr (.var 11) 7) [(.ne, (.con (.int 0)))])]) [.raise] [],
  .ife (.bop true [(.cmp (.attr (.var 11) 6) [(.ne, (.con (.int 0)))]), (.not (.meth (.var 11) 0 []))]) [.raise] [],
  .ife (.not (.cmp (.con (.int 0)) [(.le, (.attr (.var 11) 9)), (.le, (.gcon 2))])) [.raise] [],
  .ife (.bop true [(.cmp (.attr (.var 11) 8) [(.ne, (.con (.int 0)))]), (.cmp (.attr (.var 11) 8) [(.ne, (.bin .add (.attr (.var 11) 9) (.con (.int 1))))])]) [.raise] []]
noncomputable def p4 : List Nat := [11, 16]
/-- follow_script[frame, scans] -/
noncomputable def b5 : List St := [
  .asg 21 (.new 1 [(.var 10)]),
  .forv 11 (.var 20) [.expr (.call 1 [(.var 10), (.var 11)]), .expr (.call 2 [(.var 10), (.var 11)]), .expr (.call 3 [(.var 10), (.var 11)]), .expr (.meth (.var 21) 1 [(.var 10), (.var 11)])],
  .ret (.var 21)]
noncomputable def p5 : List Nat := [10, 20]
/-- check_script[frame, scans] -/
noncomputable def b6 : List St := [
  .ife (.cmp (.blt .len [(.var 20)]) [(.eq, (.con (.int 0)))]) [.raise] [],
  .expr (.call 5 [(.var 10), (.var 20)])]
noncomputable def p6 : List Nat := [10, 20]
/-- is_complete[frame, scans] -/
noncomputable def b7 : List St := [
  .ret (.meth (.call 5 [(.var 10), (.var 20)]) 2 [(.cmp (.attr (.var 10) 33) [(.eq, (.con (.str 3)))])])]
noncomputable def p7 : List Nat := [10, 20]
/-- slot_of[place] -/
noncomputable def b8 : List St := [
  .ret (.ite (.cmp (.var 13) [(.eq, (.con (.int 0)))]) (.con (.int 0)) (.con (.int 1)))]
noncomputable def p8 : List Nat := [13]
/-- scan_of[places, start, end, high, low] -/
noncomputable def b9 : List St := [
  .asg 22 (.comp (.call 8 [(.var 13)]) 13 (.var 3) []),
  .ret (.new 0 [(.var 3), (.var 22), (.blt .list [(.var 22)]), (.var 6), (.var 7), (.var 8), (.var 9)])]
noncomputable def p9 : List Nat := [3, 6, 7, 8, 9]
/-- groups[frame] -/
noncomputable def b10 : List St := [
  .asgTup [23, 24, 25] [(.list []), (.list []), (.con (.int 0))],
  .forv 13 (.blt .range [(.blt .len [(.attr (.var 10) 37)])]) [.asg 26 (.bin .mul (.attr (.idx (.attr (.var 10) 37) (.var 13)) 30) (.attr (.idx (.attr (.var 10) 37) (.var 13)) 31)), .ife (.bop true [(.cmp (.var 24) [(.ne, (.list []))]), (.bop false [(.cmp (.blt .len [(.var 24)]) [(.eq, (.gcon 0))]), (.cmp (.bin .add (.var 25) (.var 26)) [(.gt, (.gcon 1))])])]) [.expr (.app (.var 23) (.var 24)), .asgTup [24, 25] [(.list []), (.con (.int 0))]] [], .asg 24 (.bin .add (.var 24) (.list [(.var 13)])), .aug 25 (.var 26)],
  .expr (.app (.var 23) (.var 24)),
  .ret (.var 23)]
noncomputable def p10 : List Nat := [10]
/-- sequential_script[frame] -/
noncomputable def b11 : List St := [
  .asg 16 (.bin .sub (.bin .mul (.attr (.var 10) 38) (.attr (.var 10) 38)) (.con (.int 1))),
  .ret (.comp (.call 9 [(.var 3), (.con (.int 0)), (.var 16), (.con (.int 0)), (.con (.int 0))]) 3 (.call 10 [(.var 10)]) [])]
noncomputable def p11 : List Nat := [10]
/-- dc_scans[frame, high, low] -/
noncomputable def b12 : List St := [
  .ret (.comp (.call 9 [(.var 3), (.con (.int 0)), (.con (.int 0)), (.var 8), (.var 9)]) 3 (.call 10 [(.var 10)]) [])]
noncomputable def p12 : List Nat := [10, 8, 9]
/-- ac_scans[places, start, end, high, low] -/
noncomputable def b13 : List St := [
  .ife (.cmp (.var 6) [(.gt, (.var 7))]) [.ret (.list [])] [],
  .ret (.comp (.call 9 [(.list [(.var 13)]), (.var 6), (.var 7), (.var 8), (.var 9)]) 13 (.var 3) [])]
noncomputable def p13 : List Nat := [3, 6, 7, 8, 9]
/-- colour_script[frame] -/
noncomputable def b14 : List St := [
  .asg 16 (.bin .sub (.bin .mul (.attr (.var 10) 38) (.attr (.var 10) 38)) (.con (.int 1))),
  .asg 27 (.blt .min [(.gcon 5), (.var 16)]),
  .asg 23 (.bin .add (.bin .add (.call 12 [(.var 10), (.con (.int 0)), (.con (.int 1))]) (.call 13 [(.list [(.con (.int 0))]), (.con (.int 1)), (.var 27), (.con (.int 0)), (.con (.int 2))])) (.call 13 [(.list [(.con (.int 2)), (.con (.int 1))]), (.con (.int 1)), (.var 16), (.con (.int 0)), (.con (.int 1))])),
  .asg 23 (.bin .add (.bin .add (.var 23) (.call 13 [(.list [(.con (.int 0))]), (.bin .add (.var 27) (.con (.int 1))), (.var 16), (.con (.int 0)), (.con (.int 2))])) (.call 13 [(.list [(.con (.int 0))]), (.con (.int 1)), (.var 16), (.con (.int 2)), (.con (.int 1))])),
  .ret (.bin .add (.bin .add (.var 23) (.call 12 [(.var 10), (.con (.int 1)), (.con (.int 0))])) (.call 13 [(.list [(.con (.int 2)), (.con (.int 1)), (.con (.int 0))]), (.con (.int 1)), (.var 16), (.con (.int 1)), (.con (.int 0))]))]
noncomputable def p14 : List Nat := [10]
/-- plain_script[frame] -/
noncomputable def b15 : List St := [
  .asg 16 (.bin .sub (.bin .mul (.attr (.var 10) 38) (.attr (.var 10) 38)) (.con (.int 1))),
  .asg 27 (.blt .min [(.gcon 5), (.var 16)]),
  .asg 3 (.blt .list [(.blt .range [(.blt .len [(.attr (.var 10) 37)])])]),
  .asg 23 (.bin .add (.bin .add (.call 12 [(.var 10), (.con (.int 0)), (.con (.int 1))]) (.call 13 [(.var 3), (.con (.int 1)), (.var 27), (.con (.int 0)), (.con (.int 2))])) (.call 13 [(.var 3), (.bin .add (.var 27) (.con (.int 1))), (.var 16), (.con (.int 0)), (.con (.int 2))])),
  .asg 23 (.bin .add (.var 23) (.call 13 [(.var 3), (.con (.int 1)), (.var 16), (.con (.int 2)), (.con (.int 1))])),
  .ret (.bin .add (.bin .add (.var 23) (.call 12 [(.var 10), (.con (.int 1)), (.con (.int 0))])) (.call 13 [(.var 3), (.con (.int 1)), (.var 16), (.con (.int 1)), (.con (.int 0))]))]
noncomputable def p15 : List Nat := [10]
/-- progressive_script[frame] -/
noncomputable def b16 : List St := [
  .ife (.cmp (.blt .len [(.attr (.var 10) 37)]) [(.eq, (.con (.int 3)))]) [.ret (.call 14 [(.var 10)])] [],
  .ret (.call 15 [(.var 10)])]
noncomputable def p16 : List Nat := [10]
/-- _law_pool[script, k] -/
noncomputable def b17 : List St := [
  .asg 41 (.con (.int 0)),
  .ife (.cmp (.var 0) [(.lt, (.blt .len [(.var 40)]))]) [.asg 41 (.idx (.var 40) (.var 0))] [],
  .asg 42 (.blt .max [(.blt .int [(.var 41)]), (.blt .int [(.bin .sub (.con (.int (-1))) (.var 41))])]),
  .asg 43 (.bin .mod (.blt .int [(.bin .mul (.bin .add (.bin .add (.bin .add (.bin .mod (.blt .int [(.var 42)]) (.con (.int 2147483629))) (.bin .mul (.bin .mul (.con (.int 7919)) (.var 0)) (.var 0))) (.bin .mul (.con (.int 31)) (.var 0))) (.con (.int 17))) (.con (.int 48271)))]) (.con (.int 2147483647))),
  .ret (.list [(.bin .mul (.var 42) (.blt .int [(.cmp (.var 42) [(.ge, (.con (.int 1000000000000000000)))])])), (.var 43)])]
noncomputable def p17 : List Nat := [40, 0]
/-- _law_take[source, top] -/
noncomputable def b18 : List St := [
  .ife (.cmp (.idx (.var 44) (.con (.int 0))) [(.gt, (.con (.int 0)))]) [.asg 46 (.bin .mod (.blt .int [(.idx (.var 44) (.con (.int 0)))]) (.var 45)), .asgIdx (.var 44) (.con (.int 0)) (.bin .fdiv (.idx (.var 44) (.con (.int 0))) (.var 45)), .ret (.var 46)] [],
  .asgIdx (.var 44) (.con (.int 1)) (.bin .mod (.blt .int [(.bin .add (.bin .mul (.idx (.var 44) (.con (.int 1))) (.con (.int 39373))) (.con (.int 7)))]) (.con (.int 2147483647))),
  .ret (.bin .mod (.blt .int [(.bin .fdiv (.bin .mod (.blt .int [(.bin .mul (.idx (.var 44) (.con (.int 1))) (.idx (.var 44) (.con (.int 1))))]) (.con (.int 2147483629))) (.con (.int 32)))]) (.var 45))]
noncomputable def p18 : List Nat := [44, 45]
/-- _law_one[source, things] -/
noncomputable def b19 : List St := [
  .ret (.idx (.var 47) (.call 18 [(.var 44), (.blt .len [(.var 47)])]))]
noncomputable def p19 : List Nat := [44, 47]
/-- _law_frame[source, kind] -/
noncomputable def b20 : List St := [
  .asg 25 (.call 19 [(.var 44), (.list [(.con (.int 1)), (.con (.int 1)), (.con (.int 2)), (.con (.int 2)), (.con (.int 3)), (.con (.int 5))])]),
  .asg 37 (.comp (.new 2 [(.bin .add (.con (.int 7)) (.var 13)), (.bin .add (.con (.int 1)) (.call 18 [(.var 44), (.con (.int 3))])), (.bin .add (.con (.int 1)) (.call 18 [(.var 44), (.con (.int 2))])), (.con (.int 0))]) 13 (.blt .range [(.var 25)]) []),
  .ret (.new 3 [(.var 33), (.con (.int 8)), (.con (.int 3)), (.con (.int 3)), (.var 37), (.con (.int 2))])]
noncomputable def p20 : List Nat := [44, 33]
/-- _law_groups[frame] -/
noncomputable def b21 : List St := [
  .asg 23 (.list [(.list [])]),
  .forv 13 (.blt .range [(.blt .len [(.attr (.var 10) 37)])]) [.asg 48 (.comp (.idx (.attr (.var 10) 37) (.var 51)) 51 (.bin .add (.idx (.var 23) (.con (.int (-1)))) (.list [(.var 13)])) []), .ife (.bop false [(.cmp (.blt .len [(.var 48)]) [(.eq, (.con (.int 5)))]), (.bop true [(.cmp (.blt .len [(.var 48)]) [(.gt, (.con (.int 1)))]), (.cmp (.blt .sum [(.comp (.bin .mul (.attr (.var 57) 30) (.attr (.var 57) 31)) 57 (.var 48) [])]) [(.gt, (.con (.int 10)))])])]) [.expr (.app (.var 23) (.list []))] [], .expr (.app (.idx (.var 23) (.con (.int (-1)))) (.var 13))],
  .ret (.var 23)]
noncomputable def p21 : List Nat := [10]
/-- _law_plain[scan] -/
noncomputable def b22 : List St := [
  .ret (.list [(.blt .list [(.attr (.var 11) 3)]), (.blt .list [(.attr (.var 11) 4)]), (.blt .list [(.attr (.var 11) 5)]), (.attr (.var 11) 6), (.attr (.var 11) 7), (.attr (.var 11) 8), (.attr (.var 11) 9)])]
noncomputable def p22 : List Nat := [11]
/-- _law_drawn[source, frame] -/
noncomputable def b23 : List St := [
  .asgTup [16, 23] [(.bin .sub (.bin .mul (.attr (.var 10) 38) (.attr (.var 10) 38)) (.con (.int 1))), (.list [])],
  .forv 3 (.call 21 [(.var 10)]) [.asg 45 (.call 18 [(.var 44), (.con (.int 2))]), .forv 9 (.blt .range [(.var 45), (.con (.int (-1))), (.con (.int (-1)))]) [.expr (.app (.var 23) (.list [(.var 3), (.con (.int 0)), (.con (.int 0)), (.ite (.cmp (.var 9) [(.eq, (.var 45))]) (.con (.int 0)) (.bin .add (.var 9) (.con (.int 1)))), (.var 9)]))]],
  .forv 13 (.blt .range [(.blt .len [(.attr (.var 10) 37)])]) [.asg 27 (.bin .add (.con (.int 1)) (.call 18 [(.var 44), (.var 16)])), .forp [6, 7] (.list [(.list [(.con (.int 1)), (.var 27)]), (.list [(.bin .add (.var 27) (.con (.int 1))), (.var 16)])]) [.asg 45 (.call 18 [(.var 44), (.con (.int 2))]), .forv 9 (.blt .range [(.var 45), (.con (.int (-1))), (.con (.int (-1)))]) [.ife (.cmp (.var 6) [(.le, (.var 7))]) [.expr (.app (.var 23) (.list [(.list [(.var 13)]), (.var 6), (.var 7), (.ite (.cmp (.var 9) [(.eq, (.var 45))]) (.con (.int 0)) (.bin .add (.var 9) (.con (.int 1)))), (.var 9)]))] []]]],
  .ret (.comp (.bin .add (.list [(.idx (.var 57) (.con (.int 0))), (.bin .mul (.list [(.con (.int 0))]) (.blt .len [(.idx (.var 57) (.con (.int 0)))])), (.bin .mul (.list [(.con (.int 0))]) (.blt .len [(.idx (.var 57) (.con (.int 0)))]))]) (.slc (.var 57) (some (.con (.int 1))) none)) 57 (.var 23) [])]
noncomputable def p23 : List Nat := [44, 10]
/-- _law_spoilt[source, rows] -/
noncomputable def b24 : List St := [
  .asgTup [49, 18] [(.comp (.blt .list [(.var 17)]) 17 (.var 49) []), (.call 18 [(.var 44), (.blt .len [(.var 49)])])],
  .asg 50 (.call 18 [(.var 44), (.con (.int 8))]),
  .ife (.cmp (.var 50) [(.lt, (.con (.int 4)))]) [.asgIdx (.idx (.var 49) (.var 18)) (.bin .add (.con (.int 3)) (.var 50)) (.bin .add (.idx (.idx (.var 49) (.var 18)) (.bin .add (.con (.int 3)) (.var 50))) (.call 19 [(.var 44), (.ite (.cmp (.var 50) [(.eq, (.con (.int 3)))]) (.list [(.con (.int 1)), (.con (.int (-1))), (.con (.int 2)), (.con (.int 13)), (.con (.int 14))]) (.list [(.con (.int 1)), (.con (.int (-1))), (.con (.int 2))]))]))] [.ife (.cmp (.var 50) [(.eq, (.con (.int 4)))]) [.asg 49 (.bin .add (.slc (.var 49) none (some (.var 18))) (.slc (.var 49) (some (.bin .add (.var 18) (.con (.int 1)))) none))] [.ife (.cmp (.var 50) [(.eq, (.con (.int 5)))]) [.asg 49 (.bin .add (.bin .add (.slc (.var 49) none (some (.var 18))) (.list [(.idx (.var 49) (.var 18))])) (.slc (.var 49) (some (.var 18)) none))] [.ife (.cmp (.var 50) [(.eq, (.con (.int 6)))]) [.asg 51 (.call 18 [(.var 44), (.blt .len [(.var 49)])]), .swap (.var 49) (.var 18) (.var 49) (.var 51) (.idx (.var 49) (.var 51)) (.idx (.var 49) (.var 18))] [.asg 3 (.call 19 [(.var 44), (.list [(.list []), (.list [(.con (.int 3))]), (.list [(.con (.int 1)), (.con (.int 0))]), (.list [(.con (.int 0)), (.con (.int 0))]), (.list [(.con (.int 0))]), (.list [(.con (.int 2))]), (.bin .add (.idx (.idx (.var 49) (.var 18)) (.con (.int 0))) (.list [(.con (.int 1))]))])]), .asgSlc (.idx (.var 49) (.var 18)) none (some (.con (.int 3))) (.list [(.var 3), (.bin .mul (.list [(.con (.int 0))]) (.blt .len [(.var 3)])), (.bin .mul (.list [(.call 19 [(.var 44), (.list [(.con (.int 0)), (.con (.int 1)), (.con (.int 2)), (.con (.int 4)), (.con (.int (-1)))])])]) (.blt .len [(.var 3)]))])]]]],
  .ret (.var 49)]
noncomputable def p24 : List Nat := [44, 49]
/-- _law_is_scan[frame, row] -/
noncomputable def b25 : List St := [
  .unp [3, 4, 5, 6, 7, 8, 9] (.var 17),
  .ife (.bop false [(.not (.cmp (.con (.int 1)) [(.le, (.blt .len [(.var 3)])), (.le, (.con (.int 4)))])), (.cmp (.comp (.var 13) 13 (.var 3) [(.cmp (.var 13) [(.notin, (.blt .range [(.blt .len [(.attr (.var 10) 37)])]))])]) [(.ne, (.list []))])]) [.ret (.con (.bool false))] [],
  .ife (.cmp (.comp (.var 18) 18 (.blt .range [(.con (.int 1)), (.blt .len [(.var 3)])]) [(.cmp (.idx (.var 3) (.var 18)) [(.le, (.idx (.var 3) (.bin .sub (.var 18) (.con (.int 1)))))])]) [(.ne, (.list []))]) [.ret (.con (.bool false))] [],
  .asg 48 (.comp (.idx (.attr (.var 10) 37) (.var 13)) 13 (.var 3) []),
  .ife (.bop true [(.cmp (.blt .len [(.var 48)]) [(.gt, (.con (.int 1)))]), (.cmp (.blt .sum [(.comp (.bin .mul (.attr (.var 57) 30) (.attr (.var 57) 31)) 57 (.var 48) [])]) [(.gt, (.con (.int 10)))])]) [.ret (.con (.bool false))] [],
  .asgTup [14, 16] [(.ite (.cmp (.attr (.var 10) 33) [(.eq, (.con (.str 0)))]) (.con (.int 1)) (.con (.int 3))), (.bin .sub (.bin .mul (.attr (.var 10) 38) (.attr (.var 10) 38)) (.con (.int 1)))],
  .ife (.cmp (.comp (.var 15) 15 (.bin .add (.var 4) (.var 5)) [(.bop false [(.cmp (.var 15) [(.lt, (.con (.int 0)))]), (.cmp (.var 15) [(.gt, (.var 14))])])]) [(.ne, (.list []))]) [.ret (.con (.bool false))] [],
  .ife (.cmp (.attr (.var 10) 33) [(.ne, (.con (.str 2)))]) [.ret (.cmp (.list [(.var 6), (.var 7), (.var 8), (.var 9)]) [(.eq, (.list [(.con (.int 0)), (.var 16), (.con (.int 0)), (.con (.int 0))]))])] [],
  .ife (.cmp (.var 6) [(.eq, (.con (.int 0)))]) [.asg 52 (.cmp (.var 7) [(.eq, (.con (.int 0)))])] [.asg 52 (.bop true [(.cmp (.blt .len [(.var 3)]) [(.eq, (.con (.int 1)))]), (.cmp (.con (.int 0)) [(.lt, (.var 6)), (.le, (.var 7)), (.le, (.var 16))])])],
  .ret (.bop true [(.var 52), (.cmp (.con (.int 0)) [(.le, (.var 9)), (.le, (.con (.int 13)))]), (.cmp (.var 8) [(.isin, (.list [(.con (.int 0)), (.bin .add (.var 9) (.con (.int 1)))]))])])]
noncomputable def p25 : List Nat := [10, 17]
/-- _law_told[rows, place, at] -/
noncomputable def b26 : List St := [
  .ret (.comp (.list [(.var 0), (.idx (.idx (.var 49) (.var 0)) (.con (.int 5))), (.idx (.idx (.var 49) (.var 0)) (.con (.int 6)))]) 0 (.blt .range [(.blt .len [(.var 49)])]) [(.bop true [(.cmp (.var 13) [(.isin, (.idx (.idx (.var 49) (.var 0)) (.con (.int 0))))]), (.cmp (.idx (.idx (.var 49) (.var 0)) (.con (.int 3))) [(.le, (.var 18)), (.le, (.idx (.idx (.var 49) (.var 0)) (.con (.int 4))))])])])]
noncomputable def p26 : List Nat := [49, 13, 18]
/-- _law_judged[frame, rows] -/
noncomputable def b27 : List St := [
  .ife (.bop false [(.cmp (.var 49) [(.eq, (.list []))]), (.cmp (.comp (.var 17) 17 (.var 49) [(.not (.call 25 [(.var 10), (.var 17)]))]) [(.ne, (.list []))])]) [.ret (.con .none)] [],
  .asg 53 (.con (.bool true)),
  .forv 13 (.blt .range [(.blt .len [(.attr (.var 10) 37)])]) [.asg 54 (.call 26 [(.var 49), (.var 13), (.con (.int 0))]), .forv 18 (.blt .range [(.bin .mul (.attr (.var 10) 38) (.attr (.var 10) 38))]) [.asg 48 (.call 26 [(.var 49), (.var 13), (.var 18)]), .forv 0 (.blt .range [(.blt .len [(.var 48)])]) [.ife (.bop false [(.cmp (.idx (.idx (.var 48) (.var 0)) (.con (.int 1))) [(.ne, (.ite (.cmp (.var 0) [(.eq, (.con (.int 0)))]) (.con (.int 0)) (.idx (.idx (.var 48) (.bin .sub (.var 0) (.con (.int 1)))) (.con (.int 2)))))]), (.bop true [(.cmp (.var 0) [(.gt, (.con (.int 0)))]), (.cmp (.idx (.idx (.var 48) (.var 0)) (.con (.int 1))) [(.eq, (.con (.int 0)))])])]) [.ret (.con .none)] []], .ife (.bop true [(.cmp (.var 48) [(.ne, (.list []))]), (.bop false [(.cmp (.var 54) [(.eq, (.list []))]), (.cmp (.idx (.idx (.var 54) (.con (.int 0))) (.con (.int 0))) [(.gt, (.idx (.idx (.var 48) (.con (.int 0))) (.con (.int 0))))])])]) [.ret (.con .none)] [], .asg 53 (.bop true [(.var 53), (.cmp (.var 48) [(.ne, (.list []))]), (.cmp (.idx (.idx (.var 48) (.con (.int (-1)))) (.con (.int 2))) [(.eq, (.con (.int 0)))])])]],
  .ret (.var 53)]
noncomputable def p27 : List Nat := [10, 49]
/-- _law_answer[frame, rows] -/
noncomputable def b28 : List St := [
  .asg 20 (.comp (.new 0 [(.idx (.var 17) (.con (.int 0))), (.idx (.var 17) (.con (.int 1))), (.idx (.var 17) (.con (.int 2))), (.idx (.var 17) (.con (.int 3))), (.idx (.var 17) (.con (.int 4))), (.idx (.var 17) (.con (.int 5))), (.idx (.var 17) (.con (.int 6)))]) 17 (.var 49) []),
  .tryN [.expr (.call 6 [(.var 10), (.var 20)])],
  .ret (.call 7 [(.var 10), (.var 20)])]
noncomputable def p28 : List Nat := [10, 49]
/-- law[script] -/
noncomputable def b29 : List St := [
  .forv 0 (.blt .range [(.con (.int 1))]) [.asg 44 (.call 17 [(.var 40), (.var 0)]), .asg 10 (.call 20 [(.var 44), (.call 19 [(.var 44), (.list [(.con (.str 0)), (.con (.str 1)), (.con (.str 2)), (.con (.str 2)), (.con (.str 2))])])]), .ife (.cmp (.attr (.var 10) 33) [(.ne, (.con (.str 2)))]) [.asg 49 (.comp (.call 22 [(.var 11)]) 11 (.call 11 [(.var 10)]) [])] [.ife (.cmp (.call 18 [(.var 44), (.con (.int 2))]) [(.eq, (.con (.int 0)))]) [.asg 49 (.comp (.call 22 [(.var 11)]) 11 (.call 16 [(.var 10)]) [])] [.asg 49 (.call 23 [(.var 44), (.var 10)])]], .ife (.cmp (.call 28 [(.var 10), (.var 49)]) [(.ne, (.call 27 [(.var 10), (.var 49)]))]) [.ret (.con (.bool false))] [], .asg 55 (.call 24 [(.var 44), (.var 49)]), .ife (.cmp (.call 28 [(.var 10), (.var 55)]) [(.ne, (.call 27 [(.var 10), (.var 55)]))]) [.ret (.con (.bool false))] []],
  .ret (.con (.bool true))]
noncomputable def p29 : List Nat := [40]
/-- Scan.__init__[self, places, dc_slots, ac_slots, start, end, high, low] -/
noncomputable def b30 : List St := [
  .asgAttr (.var 1) 3 (.var 3),
  .asgAttr (.var 1) 4 (.var 4),
  .asgAttr (.var 1) 5 (.var 5),
  .asgAttr (.var 1) 6 (.var 6),
  .asgAttr (.var 1) 7 (.var 7),
  .asgAttr (.var 1) 8 (.var 8),
  .asgAttr (.var 1) 9 (.var 9)]
noncomputable def p30 : List Nat := [1, 3, 4, 5, 6, 7, 8, 9]
/-- Scan.is_alone[self] -/
noncomputable def b31 : List St := [
  .ret (.cmp (.blt .len [(.attr (.var 1) 3)]) [(.eq, (.con (.int 1)))])]
noncomputable def p31 : List Nat := [1]
/-- ScriptState.__init__[self, frame] -/
noncomputable def b32 : List St := [
  .asgAttr (.var 1) 56 (.comp (.bin .mul (.list [(.gcon 4)]) (.bin .mul (.attr (.var 10) 38) (.attr (.var 10) 38))) 39 (.attr (.var 10) 37) [])]
noncomputable def p32 : List Nat := [1, 10]
/-- ScriptState.follow[self, frame, scan] -/
noncomputable def b33 : List St := [
  .asg 16 (.bin .sub (.bin .mul (.attr (.var 10) 38) (.attr (.var 10) 38)) (.con (.int 1))),
  .asg 6 (.ite (.cmp (.attr (.var 10) 33) [(.eq, (.con (.str 3)))]) (.con (.int 0)) (.attr (.var 11) 6)),
  .forv 13 (.attr (.var 11) 3) [.asg 17 (.idx (.attr (.var 1) 56) (.var 13)), .ife (.bop true [(.cmp (.var 6) [(.gt, (.con (.int 0)))]), (.cmp (.idx (.var 17) (.con (.int 0))) [(.eq, (.gcon 4))])]) [.raise] [], .forv 18 (.blt .range [(.var 6), (.bin .add (.blt .min [(.attr (.var 11) 7), (.var 16)]) (.con (.int 1)))]) [.ife (.bop true [(.cmp (.attr (.var 11) 8) [(.eq, (.con (.int 0)))]), (.cmp (.idx (.var 17) (.var 18)) [(.ne, (.gcon 4))])]) [.raise] [], .ife (.bop true [(.cmp (.attr (.var 11) 8) [(.ne, (.con (.int 0)))]), (.cmp (.idx (.var 17) (.var 18)) [(.ne, (.attr (.var 11) 8))])]) [.raise] [], .asgIdx (.var 17) (.var 18) (.attr (.var 11) 9)]]]
noncomputable def p33 : List Nat := [1, 10, 11]
/-- ScriptState.is_complete[self, is_lossless] -/
noncomputable def b34 : List St := [
  .forv 17 (.attr (.var 1) 56) [.forv 9 (.var 17) [.ife (.bop false [(.cmp (.var 9) [(.eq, (.gcon 4))]), (.bop true [(.cmp (.var 9) [(.ne, (.con (.int 0)))]), (.not (.var 19))])]) [.ret (.con (.bool false))] []]],
  .ret (.con (.bool true))]
noncomputable def p34 : List Nat := [1, 19]
/-- Component.__init__[self, ident, across, down, quant] -/
noncomputable def b35 : List St := [
  .asgAttr (.var 1) 29 (.var 29),
  .asgAttr (.var 1) 30 (.var 30),
  .asgAttr (.var 1) 31 (.var 31),
  .asgAttr (.var 1) 32 (.var 32)]
noncomputable def p35 : List Nat := [1, 29, 30, 31, 32]
/-- Frame.__init__[self, kind, precision, height, width, components, n] -/
noncomputable def b36 : List St := [
  .asgAttr (.var 1) 33 (.var 33),
  .asgAttr (.var 1) 34 (.var 34),
  .asgAttr (.var 1) 35 (.var 35),
  .asgAttr (.var 1) 36 (.var 36),
  .asgAttr (.var 1) 37 (.var 37),
  .asgAttr (.var 1) 38 (.var 38)]
noncomputable def p36 : List Nat := [1, 33, 34, 35, 36, 37, 38]

noncomputable def T0 : Tb where
  fn k := match k with
    | 0 => some (p0, b0)
    | 1 => some (p1, b1)
    | 2 => some (p2, b2)
    | 3 => some (p3, b3)
    | 4 => some (p4, b4)
    | 5 => some (p5, b5)
    | 6 => some (p6, b6)
    | 7 => some (p7, b7)
    | 8 => some (p8, b8)
    | 9 => some (p9, b9)
    | 10 => some (p10, b10)
    | 11 => some (p11, b11)
    | 12 => some (p12, b12)
    | 13 => some (p13, b13)
    | 14 => some (p14, b14)
    | 15 => some (p15, b15)
    | 16 => some (p16, b16)
    | 17 => some (p17, b17)
    | 18 => some (p18, b18)
    | 19 => some (p19, b19)
    | 20 => some (p20, b20)
    | 21 => some (p21, b21)
    | 22 => some (p22, b22)
    | 23 => some (p23, b23)
    | 24 => some (p24, b24)
    | 25 => some (p25, b25)
    | 26 => some (p26, b26)
    | 27 => some (p27, b27)
    | 28 => some (p28, b28)
    | 29 => some (p29, b29)
    | 30 => some (p30, b30)
    | 31 => some (p31, b31)
    | 32 => some (p32, b32)
    | 33 => some (p33, b33)
    | 34 => some (p34, b34)
    | 35 => some (p35, b35)
    | 36 => some (p36, b36)
    | _ => none
  init c := match c with
    | 0 => 30 | 1 => 32 | 2 => 35 | _ => 36
  mth c m := match c, m with
    | 0, 0 => some 31 | 1, 1 => some 33 | 1, 2 => some 34 | _, _ => none
  gval k := match k with
    | 0 => .int 4 | 1 => .int 10 | 2 => .int 13 | 3 => .int 15 | 4 => .int (-1) | _ => .int 5
end Mine
end

section
set_option Elab.async false
set_option autoImplicit false
set_option linter.unusedVariables false
set_option maxRecDepth 100000
open PySem PySem.W PyProof.Rows
namespace Mine

noncomputable def isAbs : Option (Option Value) → Bool
  | some none => true
  | _ => false
theorem isAbs_spec {x : Option (Option Value)} (h : isAbs x = true) : x = some none := by
  unfold isAbs at h; split at h
  · rfl
  · cases h
theorem len1 {α : Type} {P : List α → Prop} (h : ∀ a, P [a]) : ∀ l : List α, l.length = 1 → P l
  | [a], _ => h a
  | [], e => by simp at e
  | _ :: _ :: _, e => by simp at e
theorem lenS {α : Type} {n : Nat} {P : List α → Prop} (h : ∀ a l, l.length = n → P (a :: l)) : ∀ l : List α, l.length = n + 1 → P l
  | [], e => by simp at e
  | a :: l, e => h a l (by simpa using e)
theorem len0 {α : Type} {P : List α → Prop} (h : P []) : ∀ l : List α, l.length = 0 → P l
  | [], _ => h
  | _ :: _, e => by simp at e

noncomputable def psOk (sc : Scope) (ps : List Nat) : Bool := ps.all fun p => decide (p < tab.names.length) && (sc.names.lookup (nm p) == some .local || sc.names.lookup (nm p) == some .cell)
noncomputable def noFree (sc : Scope) : Bool := sc.names.all fun y => y.2 != .free
theorem psOk_spec {sc : Scope} {ps : List Nat} (h : psOk sc ps = true) : ∀ p ∈ ps, p < tab.names.length ∧ (sc.names.lookup (nm p) = some .local ∨ sc.names.lookup (nm p) = some .cell) := by
  intro p hp
  have := List.all_eq_true.mp h p hp
  simpa using this
theorem noFree_spec {sc : Scope} (h : noFree sc = true) : ∀ x, sc.names.lookup x ≠ some .free := by
  intro x hx
  have := List.all_eq_true.mp h _ (mem_of_lookup hx)
  simp at this

theorem fnOk_mk {K : Frag} {a : Addr} {ps : List Nat} {body : List St} {name qual : Str} {params : Arguments} {bp : List PySem.Stmt} {scope : Scope} {dV kV doc pm cdv ct oc : Value} {an od : Option Addr} {osl : Array (Option Value)}
    (h1 : K.lookup a = some ⟨oc, od, .func (fnOf name qual params bp scope dV kV doc pm an cdv ct), osl⟩) (h2 : codeIn K cdv qual = true) (h3 : trB 60 scope bp = some body)
    (h4 : ∀ args : List Value, args.length = ps.length → bindArgs (fnOf name qual params bp scope dV kV doc pm an cdv ct) ⟨args, []⟩ = pure ((ps.map nm).zip args))
    (h5 : scope.kind = .function) (h6 : scope.isCoroutine = false) (h7 : scope.isGenerator = false) (h8 : psOk scope ps = true) (h9 : noFree scope = true) (h10 : typeIn K (.ref a) = some (.type "function")) (h11 : keepIn K (.ref a) = true) : FnOk K a ps body :=
  ⟨name, qual, params, bp, scope, dV, kV, doc, pm, cdv, ct, oc, an, od, osl, h1, h2, trB_spec h3, h4, h5, h6, h7, psOk_spec h8, noFree_spec h9, h10, h11⟩

noncomputable def ca0 : Nat → Addr
  | 0 => 84 | 1 => 151 | 2 => 255 | _ => 321
noncomputable def clsChk (K : Frag) (c : Nat) : Bool := hasDictIn K (ca0 c) && plainGet K (ca0 c) "" && plainOver K (ca0 c) && makesIn K (ca0 c) && (List.range tab.names.length).all fun a => isAbs (findIn K (.ref (ca0 c)) (nm a))
noncomputable def ClsOk (K : Frag) (c : Nat) : Prop := (hasDictIn K (ca0 c) = true ∧ plainGet K (ca0 c) "" = true ∧ findIn K (.ref (ca0 c)) "__setattr__" = some (some (.builtin "object.__setattr__")) ∧ plainOver K (ca0 c) = true ∧ makesIn K (ca0 c) = true) ∧ ∀ a, a < tab.names.length → findIn K (.ref (ca0 c)) (nm a) = some none
theorem clsChk_spec {K : Frag} {c : Nat} (h : clsChk K c = true) (hs : findIn K (.ref (ca0 c)) "__setattr__" = some (some (.builtin "object.__setattr__"))) : ClsOk K c := by
  unfold clsChk at h
  simp only [Bool.and_eq_true] at h
  obtain ⟨⟨⟨⟨h1, h2⟩, h3⟩, h4⟩, h5⟩ := h
  exact ⟨⟨h1, h2, hs, h3, h4⟩, fun a ha => isAbs_spec (List.all_eq_true.mp h5 a (List.mem_range.mpr ha))⟩
theorem lt_cases {Q : Nat → Prop} : ∀ (n : Nat), (∀ k, k < n → Q k) → Q n → ∀ k, k < n + 1 → Q k := fun n h1 h2 k hk => by
  rcases Nat.lt_or_ge k n with h | h
  · exact h1 k h
  · have : k = n := by lia
    subst this; exact h2
theorem blt_all {K : Frag} (h : (["len", "max", "min", "int", "sum", "range", "list"].all fun x => isAbs (nsIn K mainGlobals (Str.ofString x))) = true) : ∀ x b, bltOf x = some b → nsIn K mainGlobals x = some none := by
  intro x b hb
  obtain rfl := blt_name hb
  have g := List.all_eq_true.mp h
  cases b
  · exact isAbs_spec (g "len" (by decide))
  · exact isAbs_spec (g "max" (by decide))
  · exact isAbs_spec (g "min" (by decide))
  · exact isAbs_spec (g "int" (by decide))
  · exact isAbs_spec (g "sum" (by decide))
  · exact isAbs_spec (g "range" (by decide))
  · exact isAbs_spec (g "list" (by decide))

/-- what the written heap must bear -/
structure HF (K : Frag) : Prop where
  gcs : ∀ k x, tab.gcs[k]? = some x → ∃ i u, nsIn K mainGlobals x = some (some (.int i u)) ∧ T0.gval k = .int i
  blts : ∀ x b, bltOf x = some b → nsIn K mainGlobals x = some none
  ck : ∀ k, k < 4 → ClsOk K k
  fns : ∀ k x, tab.fns[k]? = some x → ∃ ps body a, T0.fn k = some (ps, body) ∧ nsIn K mainGlobals x = some (some (.ref a)) ∧ FnOk K a ps body
  newc : ∀ k x, tab.cls[k]? = some x → nsIn K mainGlobals x = some (some (.ref (ca0 k))) ∧ keepIn K (.ref (ca0 k)) = true
  init : ∀ k, k < 4 → ∃ ps body a, T0.fn (T0.init k) = some (ps, body) ∧ findIn K (.ref (ca0 k)) "__init__" = some (some (.ref a)) ∧ FnOk K a ps body
  mths : ∀ c m f x, T0.mth c m = some f → tab.meths[m]? = some x → ∃ ps body a, T0.fn f = some (ps, body) ∧ findIn K (.ref (ca0 c)) x = some (some (.ref a)) ∧ FnOk K a ps body
  prg : ∃ pt u v n d sl, nsIn K mainGlobals progName = some (some (.ref pt)) ∧ K.lookup pt = some ⟨.type "tuple", d, .seq #[.str (sm 2) u, .str (sm 4) v] n, sl⟩
  exc : ExcOk K 51
  nol : (K.all fun p => match p.2.cls with
    | .type T => T != "list"
    | _ => true) = true
theorem cy0 {K : Frag} (hf : HF K) {prog : Program} {w : World} {base : Heap} (X : K.In base) (T : ∃ p loose mg mb, TopRead p loose mg mb base) : Cy prog w K base ca0 51 T0 :=
  { X := X, T := T, gcs := hf.gcs, blts := hf.blts, cls := fun k h => (hf.ck k h).1, attrs := fun k h => (hf.ck k h).2, fns := hf.fns, newc := hf.newc, init := hf.init, mths := hf.mths, prg := hf.prg }
end Mine
end

section
set_option Elab.async false
set_option autoImplicit false
set_option linter.unusedVariables false
set_option maxRecDepth 100000
open PySem PySem.W PyProof.Rows
namespace Mine

noncomputable def noLists (K : Frag) : Bool := K.all fun p => match p.2.cls with
  | .type T => T != "list"
  | _ => true
theorem lookup_mem {α : Type} {l : List (Nat × α)} {x : Nat} {v : α} (h : l.lookup x = some v) : (x, v) ∈ l := by
  induction l with
  | nil => cases h
  | cons y r ih =>
    rw [List.lookup_cons] at h
    cases hb : x == y.1 with
    | true => rw [hb] at h; cases h; rw [beq_iff_eq.mp hb]; exact List.mem_cons_self
    | false => rw [hb] at h; exact List.mem_cons_of_mem _ (ih h)
theorem noLists_spec {K : Frag} (h : noLists K = true) {a : Addr} {o : Obj} (e : K.lookup a = some o) : o.cls ≠ .type "list" := by
  intro hc
  have := List.all_eq_true.mp h _ (lookup_mem e)
  simp only [hc] at this
  simp at this

theorem ints_arg {Λ : Led} {ρ : Rho} {vs : List Value} {ns : List Int} (h : IntsAre vs ns) : Each (VRel Λ ρ) (ns.map V.int) vs := by
  induction h with
  | nil => exact .nil
  | cons i t _ ih => exact .cons ⟨t, rfl⟩ ih

theorem ns_hide {h : Heap} {a b : Addr} {m : Str → Option Value} {o : Obj} {vs : Array Value} {n : Nat} (ho : h.get? a = some o) (hd : o.data = .seq vs n) (x : h.Ns b m) : (h.hide a).Ns b m := by
  obtain ⟨o', es, ep, e, r⟩ := x
  refine ⟨o', es, ep, ?_, r⟩
  rw [Heap.hide_ne _ (by rintro rfl; rw [ho] at e; cases e; rw [hd] at r; cases r.1)]
  exact e

theorem glue {K : Frag} (hf : HF K) {prog : Program} {w : World} {s₁ : Shared} {a fa : Addr} {cd : Value} {vs : List Value} {ns : List Int} {h₁ : Heap} {tk : Nat} {name : Str} {scope : Scope} {bp : List PySem.Stmt} {n : Nat}
    (KX : K.In s₁.heap) (T : ∃ p loose mg mb, TopRead p loose mg mb s₁.heap) (hL : s₁.heap.IsList a vs.toArray) (hI : IntsAre vs ns)
    (F : PyProof.Rows.Fr s₁.heap s₁.heap.objs.size h₁ fun x => List.lookup x [(Str.ofString "script", Value.ref a)].reverse)
    (htr : trB 60 scope bp = some b29) (hk : scope.kind = .function) (hp : scope.names.lookup (nm 40) = some .local) (hc : (scope.names.all fun y => y.2 != .cell && y.2 != .free) = true) (hn : n ≤ 220)
    (core : exs (fun s fr S Q => ex T0 n s fr S F0 Q) b29 (bind0 p29 [.ref 0]) [.arg (ns.map V.int)] (fin fun v _ => v = .bool true)) :
    wpAny (model prog w) (callerA.deeper (envOf name scope s₁.heap.objs.size fa cd)) (execs bp (envOf name scope s₁.heap.objs.size fa cd))
      (fun fl s' => fl = .ret (.bool true) ∧ (∀ b o, s₁.heap.get? b = some o → s'.heap.get? b = some o) ∧ s'.gens = s₁.gens ∧ s'.os = s₁.os) (fun _ _ => False) { heap := h₁, gens := s₁.gens, drawn := s₁.drawn, toks := tk, os := s₁.os } := by
  obtain ⟨o, ho, hcl, k, hd⟩ := hL
  have hlt := Heap.lt_size ho
  have hne : a ≠ s₁.heap.objs.size := Nat.ne_of_lt hlt
  have KB : K.In (s₁.heap.hide a) := by
    intro b ob e
    have hb : b ≠ a := by
      rintro rfl
      have := KX _ _ e
      rw [ho] at this; cases this
      exact noLists_spec (hf.nol) e hcl
    rw [Heap.hide_ne _ hb]
    exact KX b ob e
  have TB : ∃ p loose mg mb, TopRead p loose mg mb (s₁.heap.hide a) := by
    obtain ⟨p, loose, mg, mb, T⟩ := T
    obtain ⟨mc, h1, h2⟩ := T.nolimit
    exact ⟨p, loose, mg, mb, ns_hide ho hd T.g, ns_hide ho hd T.b, ⟨mc, ns_hide ho hd h1, h2⟩, T.builtins, T.free⟩
  obtain ⟨env, henv⟩ : ∃ env, env = envOf name scope s₁.heap.objs.size fa cd := ⟨_, rfl⟩
  rw [← henv]
  have hloc : env.locals = s₁.heap.objs.size := by rw [henv]; rfl
  have hfr : env.frame = some env.locals := by rw [henv]; rfl
  have hcells : env.cells = [] := by rw [henv]; rfl
  have hsc : env.scope = scope := by rw [henv]; rfl
  have noc : ∀ x, scope.names.lookup x ≠ some .cell ∧ scope.names.lookup x ≠ some .free := by
    intro x
    constructor <;> (intro e; have := List.all_eq_true.mp hc _ (mem_of_lookup e); simp at this)
  let Λ : Led := fun b => if b = a then some (.arg (vs, o)) else if b = s₁.heap.objs.size then some (.ns fun x => List.lookup x [(Str.ofString "script", Value.ref a)].reverse) else none
  have Λa : Λ a = some (.arg (vs, o)) := if_pos rfl
  have ΛL : Λ s₁.heap.objs.size = some (.ns fun x => List.lookup x [(Str.ofString "script", Value.ref a)].reverse) := by show (if _ then _ else _) = _; rw [if_neg (Ne.symm hne), if_pos rfl]
  have Λspec : ∀ b sp, Λ b = some sp → b = a ∨ b = s₁.heap.objs.size := by
    intro b sp e
    by_cases h1 : b = a
    · exact .inl h1
    · by_cases h2 : b = s₁.heap.objs.size
      · exact .inr h2
      · have : Λ b = none := by show (if _ then _ else _) = _; rw [if_neg h1, if_neg h2]
        rw [this] at e; cases e
  have own_iff : ∀ b, own env b → b = s₁.heap.objs.size := by
    rintro b (h | ⟨n, h⟩)
    · rw [h, hloc]
    · rw [hcells] at h; cases h
  have st : St8 (s₁.heap.hide a) ca0 Λ [(a, a)] [.arg (ns.map V.int)] h₁ := by
    refine ⟨⟨fun b ob e => F.keep _ _ (Heap.of_hide e), fun b sp e => ?_, fun b sp e => ?_⟩, rfl, fun i ob e => ?_, fun i j c d h1 h2 e => ?_, fun i j c d h1 h2 e => ?_⟩
    · rcases Λspec b sp e with rfl | rfl
      · rw [Λa] at e; cases e
        exact ⟨o, F.keep _ _ ho, rfl, hcl, k, hd⟩
      · rw [ΛL] at e; cases e
        exact ns_spec F.ns
    · rcases Λspec b sp e with rfl | rfl
      · exact Heap.hide_self _ _
      · rw [Heap.hide_ne _ (Ne.symm hne)]; exact at_size _
    · cases i with
      | succ i => simp at e
      | zero =>
        simp only [List.getElem?_cons_zero, Option.some.injEq] at e
        subst e
        exact ⟨(a, a), rfl, (vs, o), Λa, ints_arg hI, rfl⟩
    · cases i <;> cases j <;> simp_all
    · cases i <;> cases j <;> simp_all
  have he : FnEnv scope env := by
    refine ⟨hsc, hk, by rw [henv]; rfl, by rw [henv]; rfl, hfr, fun x hx => absurd hx (noc x).1, fun x => (noc x).2, by rw [hcells]; exact .nil⟩
  have hfo : FrameOk Λ env := ⟨⟨_, by rw [hloc]; exact ΛL⟩, fun n c h => by rw [hcells] at h; cases h⟩
  have hso : StackOk Λ [env] := by
    intro e he
    rw [List.mem_singleton] at he
    subst he
    exact ⟨by rw [hsc]; exact hk, _, _, hfr, by rw [hloc]; exact ΛL⟩
  have hrel : FrRel scope Λ [(a, a)] env (bind0 p29 [.ref 0]) := by
    intro y v kk e hy hl hg
    have hy40 : y = 40 ∧ v = .ref 0 := by
      unfold bind0 p29 upds upds upd at e
      split at e
      · rename_i q; cases e; exact ⟨q, rfl⟩
      · cases e
    obtain ⟨rfl, rfl⟩ := hy40
    refine ⟨.ref a, ⟨(a, a), rfl, rfl⟩, .inl ⟨by unfold Env.kindOf; rw [hsc]; exact hp, _, by rw [hloc]; exact ΛL, ?_⟩⟩
    show List.lookup (nm 40) [(Str.ofString "script", Value.ref a)] = _
    rw [List.lookup_cons, show (nm 40 == Str.ofString "script") = true by decide +kernel]
  have S := sound (cy0 hf (prog := prog) (w := w) KB TB) (hf.exc) n
  refine wpAny_mono (snd_exs (outer := []) (A := callerA.deeper env) (S.each (trB_spec htr)) { heap := h₁, gens := s₁.gens, drawn := s₁.drawn, toks := tk, os := s₁.os } Λ [(a, a)] _ _ F0 _ ⟨⟨rfl, rfl, ?_, ?_⟩, he, hfo, hso, hrel, st⟩ core) (fun fl s' q => ?_) (fun e s' q => px_false q)
  · show 1 + claimMargin + 1 + 3 * n + 5 < 1000
    have : claimMargin = 300 := rfl
    lia
  · show 4 + 3 + 6 * n + 100 < 9900
    lia
  · obtain ⟨h', tk', Λ', ρ', fr', S', rfl, ev, x, hf, q⟩ := q
    refine ⟨?_, fun b ob e => ?_, rfl, rfl⟩
    · cases fl with
      | next => exact absurd q (by intro q; cases q)
      | ret v' =>
        obtain ⟨v, hv, q⟩ := q
        have : v = .bool true := q
        subst this
        cases hv; rfl
      | brk => exact q.elim
      | cont => exact q.elim
    · by_cases hb : b = a
      · subst hb
        rw [ho] at e; cases e
        have h1 := ev.pres _ _ Λa rfl (fun h => hne (own_iff _ h))
        obtain ⟨o', ho', h2, _⟩ := x.holds.at_ _ _ h1
        rw [h2] at ho'; exact ho'
      · exact x.holds.keep _ _ (by rw [Heap.hide_ne _ hb]; exact e)
end Mine
end

section
set_option autoImplicit false
set_option linter.unusedVariables false
namespace Mine.L
open Mine

/-! rows of facts, in one step -/
inductive An3 (p0 p1 p2 : Prop) : Prop where
  | mk (h0 : p0) (h1 : p1) (h2 : p2)
inductive An4 (p0 p1 p2 p3 : Prop) : Prop where
  | mk (h0 : p0) (h1 : p1) (h2 : p2) (h3 : p3)
inductive An5 (p0 p1 p2 p3 p4 : Prop) : Prop where
  | mk (h0 : p0) (h1 : p1) (h2 : p2) (h3 : p3) (h4 : p4)
inductive An6 (p0 p1 p2 p3 p4 p5 : Prop) : Prop where
  | mk (h0 : p0) (h1 : p1) (h2 : p2) (h3 : p3) (h4 : p4) (h5 : p5)
inductive An7 (p0 p1 p2 p3 p4 p5 p6 : Prop) : Prop where
  | mk (h0 : p0) (h1 : p1) (h2 : p2) (h3 : p3) (h4 : p4) (h5 : p5) (h6 : p6)
inductive An8 (p0 p1 p2 p3 p4 p5 p6 p7 : Prop) : Prop where
  | mk (h0 : p0) (h1 : p1) (h2 : p2) (h3 : p3) (h4 : p4) (h5 : p5) (h6 : p6) (h7 : p7)
inductive An11 (p0 p1 p2 p3 p4 p5 p6 p7 p8 p9 p10 : Prop) : Prop where
  | mk (h0 : p0) (h1 : p1) (h2 : p2) (h3 : p3) (h4 : p4) (h5 : p5) (h6 : p6) (h7 : p7) (h8 : p8) (h9 : p9) (h10 : p10)
inductive An12 (p0 p1 p2 p3 p4 p5 p6 p7 p8 p9 p10 p11 : Prop) : Prop where
  | mk (h0 : p0) (h1 : p1) (h2 : p2) (h3 : p3) (h4 : p4) (h5 : p5) (h6 : p6) (h7 : p7) (h8 : p8) (h9 : p9) (h10 : p10) (h11 : p11)
inductive Xn2 {α0 α1 : Type} (p : α0 → α1 → Prop) : Prop where
  | mk (x0 : α0) (x1 : α1) (h : p x0 x1)
inductive Xn3 {α0 α1 α2 : Type} (p : α0 → α1 → α2 → Prop) : Prop where
  | mk (x0 : α0) (x1 : α1) (x2 : α2) (h : p x0 x1 x2)
inductive Xn4 {α0 α1 α2 α3 : Type} (p : α0 → α1 → α2 → α3 → Prop) : Prop where
  | mk (x0 : α0) (x1 : α1) (x2 : α2) (x3 : α3) (h : p x0 x1 x2 x3)
inductive Xn5 {α0 α1 α2 α3 α4 : Type} (p : α0 → α1 → α2 → α3 → α4 → Prop) : Prop where
  | mk (x0 : α0) (x1 : α1) (x2 : α2) (x3 : α3) (x4 : α4) (h : p x0 x1 x2 x3 x4)
inductive Xn6 {α0 α1 α2 α3 α4 α5 : Type} (p : α0 → α1 → α2 → α3 → α4 → α5 → Prop) : Prop where
  | mk (x0 : α0) (x1 : α1) (x2 : α2) (x3 : α3) (x4 : α4) (x5 : α5) (h : p x0 x1 x2 x3 x4 x5)

/-! the heap: index 1 is the source -/
noncomputable def Src (S : H) : Prop := ∃ x y : Int, S[1]? = some (.list [.int x, .int y])
noncomputable def Keep (b : Nat) (S S' : H) : Prop := ∀ (i : Nat) (o : O), b ≤ i → S[i]? = some o → S'[i]? = some o
structure Ext (S S' : H) : Prop where
  len : S.length ≤ S'.length
  get : Keep 2 S S'
  src : Src S → Src S'
noncomputable def Ob (b : Nat) (S : H) (i : Nat) (o : O) : Prop := b ≤ i ∧ S[i]? = some o

theorem Src.len {S : H} (h : Src S) : 2 ≤ S.length := by
  obtain ⟨x, y, h⟩ := h
  have := (List.getElem?_eq_some_iff.mp h).1
  lia
theorem Src.push {S : H} (h : Src S) (o : O) : Src (S ++ [o]) := by
  have hl := h.len
  obtain ⟨x, y, h⟩ := h
  exact ⟨x, y, by rw [List.getElem?_append_left (by lia)]; exact h⟩
theorem Ob.lt {b i : Nat} {S : H} {o : O} (h : Ob b S i o) : i < S.length := (List.getElem?_eq_some_iff.mp h.2).1
theorem Ob.get {b i : Nat} {S : H} {o : O} (h : Ob b S i o) : S[i]? = some o := h.2
theorem Ob.le {b c i : Nat} {S : H} {o : O} (h : Ob b S i o) (hc : c ≤ b) : Ob c S i o := ⟨Nat.le_trans hc h.1, h.2⟩
theorem Ob.keep {b i : Nat} {S S' : H} {o : O} (h : Ob b S i o) (k : Keep b S S') : Ob b S' i o := ⟨h.1, k i o h.1 h.2⟩
theorem Keep.le {b c : Nat} {S S' : H} (k : Keep b S S') (h : b ≤ c) : Keep c S S' := fun i o hi e => k i o (Nat.le_trans h hi) e
theorem Ext.keep {b : Nat} {S S' : H} (k : Ext S S') (h : 2 ≤ b) : Keep b S S' := k.get.le h
theorem Ob.ext {b i : Nat} {S S' : H} {o : O} (h : Ob b S i o) (k : Ext S S') (hb : 2 ≤ b) : Ob b S' i o := h.keep (k.keep hb)
theorem Ext.refl {S : H} : Ext S S := ⟨Nat.le_refl _, fun _ _ _ e => e, id⟩
theorem Ext.trans {S S' S'' : H} (a : Ext S S') (b : Ext S' S'') : Ext S S'' := ⟨Nat.le_trans a.len b.len, fun i o h e => b.get i o h (a.get i o h e), fun h => b.src (a.src h)⟩
theorem Ext.push1 {S : H} (o : O) : Ext S (S ++ [o]) := ⟨by simp, fun i o' _ e => by rw [List.getElem?_append_left (List.getElem?_eq_some_iff.mp e).1]; exact e, fun h => h.push o⟩
theorem Ext.push {S S' : H} (a : Ext S S') (o : O) : Ext S (S' ++ [o]) := a.trans (.push1 o)
theorem Ext.set {S S' : H} (a : Ext S S') {k : Nat} (h : S.length ≤ k) (o : O) : Ext S (S'.set k o) := by
  refine ⟨by simpa using a.len, fun i o' hi e => ?_, fun hs => ?_⟩
  · have := (List.getElem?_eq_some_iff.mp e).1
    rw [List.getElem?_set_ne (by lia)]
    exact a.get i o' hi e
  · have hl := hs.len
    obtain ⟨x, y, e⟩ := a.src hs
    exact ⟨x, y, by rw [List.getElem?_set_ne (by lia)]; exact e⟩
theorem Ob.new {b : Nat} {S : H} {o : O} (h : b ≤ S.length) : Ob b (S ++ [o]) S.length o := ⟨h, by simp⟩
theorem Ob.push {b i : Nat} {S : H} {o o' : O} (h : Ob b S i o) : Ob b (S ++ [o']) i o := ⟨h.1, by rw [List.getElem?_append_left h.lt]; exact h.2⟩
theorem Ob.set_self {b i : Nat} {S : H} {o o' : O} (h : Ob b S i o) : Ob b (S.set i o') i o' := ⟨h.1, by rw [List.getElem?_set_self h.lt]⟩
theorem Ob.set_ne {b i k : Nat} {S : H} {o o' : O} (h : Ob b S i o) (hk : i ≠ k) : Ob b (S.set k o') i o := ⟨h.1, by rw [List.getElem?_set_ne (Ne.symm hk)]; exact h.2⟩
theorem Ob.inj {b c i : Nat} {S : H} {o o' : O} (h : Ob b S i o) (h' : Ob c S i o') : o = o' := by
  have := h.2.symm.trans h'.2; cases this; rfl

/-! the rules, one a construct -/
noncomputable def isB (Q : Bool → H → Prop) (v : V) (S : H) : Prop := match v with
  | .bool b => Q b S
  | _ => False
noncomputable def callF (t : Tb) (n f : Nat) (vs : List V) (S : H) (X : H → Prop) (Q : V → H → Prop) : Prop := match t.fn f with
  | some (ps, body) => ps.length = vs.length ∧ exs (fun s fr S Q => ex t n s fr S X Q) body (bind0 ps vs) S (fin Q)
  | none => False
noncomputable def lstK (Q : V → H → Prop) (vs : List V) (S : H) : Prop := vs.length ≤ 100 ∧ Q (.ref S.length) (S ++ [.list vs])
noncomputable def appK (t : Tb) (n : Nat) (a : E) (fr : Fr) (X : H → Prop) (Q : V → H → Prop) (v : V) (S : H) : Prop := match v with
  | .ref k => (match S[k]? with
    | some (.list _) => ev t n a fr S X fun y S2 => appD k y S2 fun S3 => Q .none S3
    | _ => False)
  | _ => False
noncomputable def methK (t : Tb) (n m : Nat) (args : List E) (fr : Fr) (X : H → Prop) (Q : V → H → Prop) (v : V) (S1 : H) : Prop := match v with
  | .ref k => (match S1[k]? with
    | some (.inst c _) => (match t.mth c m with
      | some f => evs (fun e S Q => ev t n e fr S X Q) args S1 fun vs S2 => (match t.fn f with
        | some (ps, body) => ps.length = vs.length + 1 ∧ exs (fun s fr S Q => ex t n s fr S X Q) body (bind0 ps (.ref k :: vs)) S2 (fin Q)
        | none => False)
      | none => False)
    | _ => False)
  | _ => False
noncomputable def compK (t : Tb) (n : Nat) (elt : E) (x : Nat) (ifs : List E) (fr : Fr) (Q : V → H → Prop) (v : V) (S1 : H) : Prop := match items v S1 with
  | some vs => vs.length ≤ LIM ∧ compL (fun fr S Q => bools (fun e S Q => tst t n e fr S F0 Q) true ifs S Q) (fun fr S Q => ev t n elt fr S F0 Q) x S1.length v vs fr vs (S1 ++ [.list []]) fun S2 => Q (.ref S1.length) S2
  | none => False
noncomputable def forI (bnd : Fr → V → H → (Fr → Prop) → Prop) (body : Fr → H → (Option V → Fr → H → Prop) → Prop) (fr : Fr) (Q : Option V → Fr → H → Prop) (v : V) (S1 : H) : Prop := match items v S1 with
  | some vs => vs.length ≤ LIM ∧ forL bnd body v vs vs fr S1 Q
  | none => False
noncomputable def seqK (f : St → Fr → H → (Option V → Fr → H → Prop) → Prop) (r : List St) (Q : Option V → Fr → H → Prop) (fl : Option V) (fr : Fr) (S : H) : Prop := match fl with
  | none => exs f r fr S Q
  | some v => Q (some v) fr S
noncomputable def exprK (Q : Option V → Fr → H → Prop) (fr : Fr) (v : V) (S : H) : Prop := Q none fr S
noncomputable def strK (Q : V → H → Prop) (v : V) (S : H) : Prop := match v with
  | .str k => Q (.bool (k == 2 || k == 4)) S
  | _ => False
noncomputable def augK (Q : Option V → Fr → H → Prop) (fr : Fr) (x : Nat) (a : Int) (v : V) (S : H) : Prop := match v with
  | .int b => Q none (upd fr x (.int (a + b))) S
  | _ => False
noncomputable def slcK (Q : H → Prop) (vo v : V) (vh : V) (S : H) : Prop := match vh with
  | .int h => setS vo h v S Q
  | _ => False

section
variable {t : Tb} {n : Nat} {fr : Fr} {S : H} {X : H → Prop} {Q : V → H → Prop} {B : Bool → H → Prop} {R : Option V → Fr → H → Prop}

theorem s_var {x : Nat} {v : V} (h : fr x = some v) (q : Q v S) : ev t (n + 1) (.var x) fr S X Q := by show (match fr x with | some v => Q v S | none => False); rw [h]; exact q
theorem s_con {v : V} (q : Q v S) : ev t (n + 1) (.con v) fr S X Q := q
theorem s_gcon {k : Nat} {v : V} (h : t.gval k = v) (q : Q v S) : ev t (n + 1) (.gcon k) fr S X Q := by subst h; exact q
theorem s_bin {op : BOp} {a b : E} (q : ev t n a fr S X fun va S1 => ev t n b fr S1 X fun vb S2 => binop op va vb S2 Q) : ev t (n + 1) (.bin op a b) fr S X Q := q
theorem s_cmp {a : E} {cs : List (COp × E)} (q : ev t n a fr S X fun va S1 => chain (fun e S Q => ev t n e fr S X Q) va cs S1 fun b S2 => Q (.bool b) S2) : ev t (n + 1) (.cmp a cs) fr S X Q := q
theorem s_bop {c : Bool} {es : List E} (q : bools (fun e S Q => ev t n e fr S X (isB Q)) c es S fun b S' => Q (.bool b) S') : ev t (n + 1) (.bop c es) fr S X Q := q
theorem s_ite {c a b : E} (q : tst t n c fr S X fun g S1 => if g then ev t n a fr S1 X Q else ev t n b fr S1 X Q) : ev t (n + 1) (.ite c a b) fr S X Q := q
theorem s_attr {o : E} {a : Nat} (q : ev t n o fr S X fun v S1 => getA v a S1 fun r => Q r S1) : ev t (n + 1) (.attr o a) fr S X Q := q
theorem s_idx {o i : E} (q : ev t n o fr S X fun vo S1 => ev t n i fr S1 X fun vi S2 => getI vo vi S2 fun r => Q r S2) : ev t (n + 1) (.idx o i) fr S X Q := q
theorem s_slc {o : E} {lo hi : Option E} (q : ev t n o fr S X fun vo S1 => evo (fun e S Q => ev t n e fr S X Q) lo S1 fun vl S2 => evo (fun e S Q => ev t n e fr S X Q) hi S2 fun vh S3 => getS vo vl vh S3 Q) : ev t (n + 1) (.slc o lo hi) fr S X Q := q
theorem s_list {es : List E} (q : evs (fun e S Q => ev t n e fr S X Q) es S (lstK Q)) : ev t (n + 1) (.list es) fr S X Q := q
theorem s_lstK {vs : List V} (h : vs.length ≤ 100) (q : Q (.ref S.length) (S ++ [.list vs])) : lstK Q vs S := ⟨h, q⟩
theorem s_comp {elt it : E} {x : Nat} {ifs : List E} (q : ev t n it fr S X (compK t n elt x ifs fr Q)) : ev t (n + 1) (.comp elt x it ifs) fr S X Q := q
theorem s_call {f : Nat} {args : List E} (q : evs (fun e S Q => ev t n e fr S X Q) args S fun vs S1 => callF t n f vs S1 X Q) : ev t (n + 1) (.call f args) fr S X Q := q
theorem s_new {c : Nat} {args : List E} (q : evs (fun e S Q => ev t n e fr S X Q) args S fun vs S1 => callF t n (t.init c) (.ref S1.length :: vs) (S1 ++ [.inst c []]) F0 fun r S2 => r = .none ∧ Q (.ref S1.length) S2) : ev t (n + 1) (.new c args) fr S X Q := q
theorem s_meth {o : E} {m : Nat} {args : List E} (q : ev t n o fr S X (methK t n m args fr X Q)) : ev t (n + 1) (.meth o m args) fr S X Q := q
theorem s_methK {k c m f : Nat} {as : List (Nat × V)} {args : List E} {b : Nat} (h : Ob b S k (.inst c as)) (hm : t.mth c m = some f) (q : evs (fun e S Q => ev t n e fr S X Q) args S fun vs S1 => callF t n f (.ref k :: vs) S1 X Q) : methK t n m args fr X Q (.ref k) S := by
  unfold methK; simp only [h.2, hm]; exact q
theorem s_app {o a : E} (q : ev t n o fr S X (appK t n a fr X Q)) : ev t (n + 1) (.app o a) fr S X Q := q
theorem s_appK {k b : Nat} {a : E} {vs : List V} (h : Ob b S k (.list vs)) (q : ev t n a fr S X fun y S2 => appD k y S2 fun S3 => Q .none S3) : appK t n a fr X Q (.ref k) S := by unfold appK; simp only [h.2]; exact q
theorem s_blt {b : Blt} {args : List E} (q : evs (fun e S Q => ev t n e fr S X Q) args S fun vs S1 => bltop b vs S1 Q) : ev t (n + 1) (.blt b args) fr S X Q := q
theorem s_inK {e : E} (q : ev t n e fr S X (strK Q)) : ev t (n + 1) (.inK e) fr S X Q := q
theorem s_strK {k : Nat} (q : Q (.bool (k == 2 || k == 4)) S) : strK Q (.str k) S := q

theorem t_not {a : E} (q : tst t n a fr S X fun b S1 => B (!b) S1) : tst t (n + 1) (.not a) fr S X B := q
theorem t_bop {c : Bool} {es : List E} (q : bools (fun e S Q => tst t n e fr S X Q) c es S B) : tst t (n + 1) (.bop c es) fr S X B := q
theorem t_cmp {a : E} {cs : List (COp × E)} (q : ev t n a fr S X fun va S1 => chain (fun e S Q => ev t n e fr S X Q) va cs S1 B) : tst t (n + 1) (.cmp a cs) fr S X B := q
theorem t_var {x : Nat} (q : ev t n (.var x) fr S X (isB B)) : tst t (n + 1) (.var x) fr S X B := q
theorem t_call {f : Nat} {args : List E} (q : ev t n (.call f args) fr S X (isB B)) : tst t (n + 1) (.call f args) fr S X B := q
theorem t_meth {o : E} {m : Nat} {args : List E} (q : ev t n (.meth o m args) fr S X (isB B)) : tst t (n + 1) (.meth o m args) fr S X B := q
theorem t_inK {e : E} (q : ev t n (.inK e) fr S X (isB B)) : tst t (n + 1) (.inK e) fr S X B := q
theorem s_isB {b : Bool} (q : B b S) : isB B (.bool b) S := q

theorem x_asg {x : Nat} {e : E} (q : ev t n e fr S X fun v S1 => R none (upd fr x v) S1) : ex t (n + 1) (.asg x e) fr S X R := q
theorem x_asgIdx {o i e : E} (q : ev t n e fr S X fun v S1 => ev t n o fr S1 X fun vo S2 => ev t n i fr S2 X fun vi S3 => setI vo vi v S3 fun S4 => R none fr S4) : ex t (n + 1) (.asgIdx o i e) fr S X R := q
theorem x_asgSlc {o hi e : E} (q : ev t n e fr S X fun v S1 => ev t n o fr S1 X fun vo S2 => ev t n hi fr S2 X (slcK (fun S4 => R none fr S4) vo v)) : ex t (n + 1) (.asgSlc o none (some hi) e) fr S X R := q
theorem x_slcK {P : H → Prop} {vo v : V} {h : Int} (q : setS vo h v S P) : slcK P vo v (.int h) S := q
theorem x_asgAttr {o e : E} {a : Nat} (q : ev t n e fr S X fun v S1 => ev t n o fr S1 X fun vo S2 => setA vo a v S2 fun S3 => R none fr S3) : ex t (n + 1) (.asgAttr o a e) fr S X R := q
theorem x_asgTup {xs : List Nat} {es : List E} (q : evs (fun e S Q => ev t n e fr S X Q) es S fun vs S1 => xs.length ≤ 100 ∧ xs.length = vs.length ∧ xs.Nodup ∧ R none (upds fr xs vs) S1) : ex t (n + 1) (.asgTup xs es) fr S X R := q
theorem x_swap {o1 i1 o2 i2 e1 e2 : E} (q : ev t n e1 fr S X fun v1 S1 => ev t n e2 fr S1 X fun v2 S2 =>
        ev t n o1 fr S2 X fun vo1 S3 => ev t n i1 fr S3 X fun vi1 S4 => setI vo1 vi1 v1 S4 fun S5 =>
        ev t n o2 fr S5 X fun vo2 S6 => ev t n i2 fr S6 X fun vi2 S7 => setI vo2 vi2 v2 S7 fun S8 => R none fr S8) : ex t (n + 1) (.swap o1 i1 o2 i2 e1 e2) fr S X R := q
theorem x_unp {xs : List Nat} {e : E} (q : ev t n e fr S X fun v S1 => bndN xs fr v S1 fun fr' => R none fr' S1) : ex t (n + 1) (.unp xs e) fr S X R := q
theorem x_bndN {xs : List Nat} {k b : Nat} {ws : List V} {P : Fr → Prop} (h : Ob b S k (.list ws)) (hl : ws.length = xs.length) (hx : xs.length ≤ 100) (q : P (upds fr xs ws)) : bndN xs fr (.ref k) S P := by
  unfold bndN; simp only [h.2]; exact ⟨hl, hx, q⟩
theorem x_aug {x : Nat} {a : Int} {e : E} (h : fr x = some (.int a)) (q : ev t n e fr S X (augK R fr x a)) : ex t (n + 1) (.aug x e) fr S X R := by
  show (match fr x with | some (.int a) => ev t n e fr S X (fun v S1 => match v with | .int b => R none (upd fr x (.int (a + b))) S1 | _ => False) | _ => False)
  rw [h]; exact q
theorem x_augK {x : Nat} {a b : Int} (q : R none (upd fr x (.int (a + b))) S) : augK R fr x a (.int b) S := q
theorem x_ife {c : E} {a b : List St} (q : tst t n c fr S X fun g S1 => if g then exs (fun s fr S Q => ex t n s fr S X Q) a fr S1 R else exs (fun s fr S Q => ex t n s fr S X Q) b fr S1 R) : ex t (n + 1) (.ife c a b) fr S X R := q
theorem x_forv {x : Nat} {it : E} {body : List St} (q : ev t n it fr S X (forI (bnd1 x) (fun fr S Q => exs (fun s fr S Q => ex t n s fr S X Q) body fr S Q) fr R)) : ex t (n + 1) (.forv x it body) fr S X R := q
theorem x_forp {xs : List Nat} {it : E} {body : List St} (q : ev t n it fr S X (forI (bndN xs) (fun fr S Q => exs (fun s fr S Q => ex t n s fr S X Q) body fr S Q) fr R)) : ex t (n + 1) (.forp xs it body) fr S X R := q
theorem x_ret {e : E} (q : ev t n e fr S X fun v S1 => R (some v) fr S1) : ex t (n + 1) (.ret e) fr S X R := q
theorem x_expr {e : E} (q : ev t n e fr S X (exprK R fr)) : ex t (n + 1) (.expr e) fr S X R := q
theorem x_exprK {v : V} (q : R none fr S) : exprK R fr v S := q
theorem x_raise (q : X S) : ex t (n + 1) .raise fr S X R := q
theorem x_try {body : List St} (q : exs (fun s fr S Q' => ex t n s fr S (fun S' => R (some .none) (fun _ => none) S') Q') body fr S R) : ex t (n + 1) (.tryN body) fr S X R := q

theorem x_nil {f : St → Fr → H → (Option V → Fr → H → Prop) → Prop} (q : R none fr S) : exs f [] fr S R := q
theorem x_cons {s : St} {r : List St} (q : ex t n s fr S X (seqK (fun s fr S Q => ex t n s fr S X Q) r R)) : exs (fun s fr S Q => ex t n s fr S X Q) (s :: r) fr S R := by
  exact q
theorem x_seqN {f : St → Fr → H → (Option V → Fr → H → Prop) → Prop} {r : List St} (q : exs f r fr S R) : seqK f r R none fr S := q
theorem x_seqS {f : St → Fr → H → (Option V → Fr → H → Prop) → Prop} {r : List St} {v : V} (q : R (some v) fr S) : seqK f r R (some v) fr S := q
theorem x_finS {v : V} (q : Q v S) : fin Q (some v) fr S := q
theorem x_finN (q : Q .none S) : fin Q none fr S := q

theorem s_evs0 {f : E → H → (V → H → Prop) → Prop} {P : List V → H → Prop} (q : P [] S) : evs f [] S P := q
theorem s_evs1 {e : E} {r : List E} {P : List V → H → Prop} (q : ev t n e fr S X fun v S1 => evs (fun e S Q => ev t n e fr S X Q) r S1 fun vs S2 => P (v :: vs) S2) : evs (fun e S Q => ev t n e fr S X Q) (e :: r) S P := q
theorem s_evoN {f : E → H → (V → H → Prop) → Prop} {P : Option V → H → Prop} (q : P none S) : evo f none S P := q
theorem s_evoS {e : E} {P : Option V → H → Prop} (q : ev t n e fr S X fun v S1 => P (some v) S1) : evo (fun e S Q => ev t n e fr S X Q) (some e) S P := q
theorem s_ch1 {va : V} {op : COp} {e : E} (q : ev t n e fr S X fun vb S1 => cmpop op va vb S1 fun b => B b S1) : chain (fun e S Q => ev t n e fr S X Q) va [(op, e)] S B := q
theorem s_ch2 {va : V} {op : COp} {e : E} {c : COp × E} {r : List (COp × E)} (q : ev t n e fr S X fun vb S1 => cmpop op va vb S1 fun b => if b then chain (fun e S Q => ev t n e fr S X Q) vb (c :: r) S1 B else B false S1) : chain (fun e S Q => ev t n e fr S X Q) va ((op, e) :: c :: r) S B := by
  exact q
theorem s_bo0 {f : E → H → (Bool → H → Prop) → Prop} {c : Bool} (q : B c S) : bools f c [] S B := q
theorem s_boT {c : Bool} {e : E} {r : List E} (q : tst t n e fr S X fun b S1 => if b = c then bools (fun e S Q => tst t n e fr S X Q) c r S1 B else B b S1) : bools (fun e S Q => tst t n e fr S X Q) c (e :: r) S B := q
theorem s_boE {c : Bool} {e : E} {r : List E} (q : ev t n e fr S X (isB fun b S1 => if b = c then bools (fun e S Q => ev t n e fr S X (isB Q)) c r S1 B else B b S1)) : bools (fun e S Q => ev t n e fr S X (isB Q)) c (e :: r) S B := q
end

section
variable {S : H} {Q : V → H → Prop} {P : H → Prop} {C : Bool → Prop} {b b' : Nat}
theorem o_add {i j : Int} (q : Q (.int (i + j)) S) : binop .add (.int i) (.int j) S Q := BinR.addI q
theorem o_sub {i j : Int} (q : Q (.int (i - j)) S) : binop .sub (.int i) (.int j) S Q := BinR.sub q
theorem o_mul {i j : Int} (h : i.natAbs < 2 ^ 63 ∨ j.natAbs < 2 ^ 63) (q : Q (.int (i * j)) S) : binop .mul (.int i) (.int j) S Q := BinR.mulI h q
theorem o_fdiv {i j : Int} (h : 0 < j) (h2 : j < 1073741824) (q : Q (.int (i / j)) S) : binop .fdiv (.int i) (.int j) S Q := BinR.fdiv h h2 q
theorem o_mod {i j : Int} (h : 0 < j) (q : Q (.int (i % j)) S) : binop .mod (.int i) (.int j) S Q := BinR.mod h q
theorem o_addL {k l : Nat} {vs ws : List V} (h1 : Ob b S k (.list vs)) (h2 : Ob b' S l (.list ws)) (hl : vs.length + ws.length ≤ LIM) (q : Q (.ref S.length) (S ++ [.list (vs ++ ws)])) : binop .add (.ref k) (.ref l) S Q := BinR.addL h1.2 h2.2 hl q
theorem o_mulL {k : Nat} {n : Int} {v : V} (h1 : Ob b S k (.list [v])) (h0 : 0 ≤ n) (hl : n ≤ 1000) (q : Q (.ref S.length) (S ++ [.list (List.replicate n.toNat v)])) : binop .mul (.ref k) (.int n) S Q := BinR.mulL h1.2 h0 hl q
theorem o_len {k : Nat} {vs : List V} (h : Ob b S k (.list vs)) (hl : vs.length ≤ LIM) (q : Q (.int vs.length) S) : bltop .len [.ref k] S Q := BltR.len h.2 hl q
theorem o_max {i j : Int} (q : Q (.int (if i < j then j else i)) S) : bltop .max [.int i, .int j] S Q := BltR.max q
theorem o_min {i j : Int} (q : Q (.int (if j < i then j else i)) S) : bltop .min [.int i, .int j] S Q := BltR.min q
theorem o_intI {i : Int} (q : Q (.int i) S) : bltop .int [.int i] S Q := BltR.intI q
theorem o_intB {c : Bool} (q : Q (.int (if c then 1 else 0)) S) : bltop .int [.bool c] S Q := BltR.intB q
theorem o_sum {k : Nat} {ns : List Int} {vs : List V} (h : Ob b S k (.list vs)) (hl : vs.length ≤ 1000) (hn : intsO vs = some ns) (hb : ∀ i ∈ ns, i.natAbs ≤ 1000000) (q : Q (.int ns.sum) S) : bltop .sum [.ref k] S Q := BltR.sum h.2 hl hn hb q
theorem o_range1 {n : Int} (h : n.natAbs ≤ 1000000) (q : Q (.rng 0 n 1) S) : bltop .range [.int n] S Q := BltR.range1 h q
theorem o_range2 {m n : Int} (h0 : m.natAbs ≤ 1000000) (h : n.natAbs ≤ 1000000) (q : Q (.rng m n 1) S) : bltop .range [.int m, .int n] S Q := BltR.range2 h0 h q
theorem o_range3 {m n : Int} (h0 : m.natAbs ≤ 1000000) (h : n.natAbs ≤ 1000000) (q : Q (.rng m n (-1)) S) : bltop .range [.int m, .int n, .int (-1)] S Q := BltR.range3 h0 h q
theorem o_listL {k : Nat} {vs : List V} (h : Ob b S k (.list vs)) (hl : vs.length ≤ LIM) (q : Q (.ref S.length) (S ++ [.list vs])) : bltop .list [.ref k] S Q := BltR.listL h.2 hl q
theorem o_listR {lo hi : Int} (h0 : lo.natAbs ≤ 1000000) (h1 : hi.natAbs ≤ 1000000) (h2 : rngLen lo hi 1 ≤ 1000) (q : Q (.ref S.length) (S ++ [.list (rngItems lo hi 1)])) : bltop .list [.rng lo hi 1] S Q := BltR.listR h0 h1 h2 q

theorem k_eqI {i j : Int} (q : C (decide (i = j))) : cmpop .eq (.int i) (.int j) S C := CmpR.eq (.ii q)
theorem k_eqS {i j : Nat} (q : C (decide (i = j))) : cmpop .eq (.str i) (.str j) S C := CmpR.eq (.ss q)
theorem k_neI {i j : Int} (q : C (decide (i ≠ j))) : cmpop .ne (.int i) (.int j) S C := by
  rw [decide_not] at q; exact CmpR.ne (.ii q)
theorem k_neS {i j : Nat} (q : C (decide (i ≠ j))) : cmpop .ne (.str i) (.str j) S C := by
  rw [decide_not] at q; exact CmpR.ne (.ss q)
theorem k_lt {i j : Int} (q : C (decide (i < j))) : cmpop .lt (.int i) (.int j) S C := CmpR.lt q
theorem k_le {i j : Int} (q : C (decide (i ≤ j))) : cmpop .le (.int i) (.int j) S C := CmpR.le q
theorem k_gt {i j : Int} (q : C (decide (j < i))) : cmpop .gt (.int i) (.int j) S C := CmpR.gt q
theorem k_ge {i j : Int} (q : C (decide (j ≤ i))) : cmpop .ge (.int i) (.int j) S C := CmpR.ge q
theorem eqE {k l : Nat} {vs : List V} (h1 : S[k]? = some (.list vs)) (h2 : S[l]? = some (.list [])) (hl : vs.length ≤ LIM) (q : C (decide (vs = []))) : EqR S C (.ref k) (.ref l) := by
  cases vs with
  | nil => exact .ll h1 h2 hl hl rfl rfl rfl q
  | cons a r => exact .ln h1 h2 hl (Nat.zero_le _) (Nat.succ_ne_zero _) (by rw [decide_eq_false (List.cons_ne_nil a r)] at q; exact q)
/-- a list against the empty one -/
theorem k_eqE {k l : Nat} {vs : List V} (h1 : Ob b S k (.list vs)) (h2 : Ob b' S l (.list [])) (hl : vs.length ≤ LIM) (q : C (decide (vs = []))) : cmpop .eq (.ref k) (.ref l) S C := .eq (eqE h1.2 h2.2 hl q)
theorem k_neE {k l : Nat} {vs : List V} (h1 : Ob b S k (.list vs)) (h2 : Ob b' S l (.list [])) (hl : vs.length ≤ LIM) (q : C (decide (vs ≠ []))) : cmpop .ne (.ref k) (.ref l) S C := .ne (eqE h1.2 h2.2 hl (by rw [decide_not] at q; exact q))
/-- two lists of ints of one length -/
theorem k_eqL {k l : Nat} {vs ws : List V} {x y : List Int} (h1 : Ob b S k (.list vs)) (h2 : Ob b' S l (.list ws)) (hv : intsO vs = some x) (hw : intsO ws = some y) (hlen : vs.length = ws.length) (hl : vs.length ≤ LIM) (q : C (decide (x = y))) : cmpop .eq (.ref k) (.ref l) S C := by
  refine CmpR.eq (.ll h1.2 h2.2 hl (hlen ▸ hl) hlen hv hw ?_)
  rw [show (x == y) = decide (x = y) from Bool.eq_iff_iff.mpr (beq_iff_eq.trans decide_eq_true_iff.symm)]; exact q
theorem k_isin {i : Int} {k : Nat} {vs : List V} {ns : List Int} (h : Ob b S k (.list vs)) (hl : vs.length ≤ LIM) (hv : intsO vs = some ns) (q : C (decide (i ∈ ns))) : cmpop .isin (.int i) (.ref k) S C := by
  refine CmpR.isin h.2 hl hv ?_
  rw [show ns.contains i = decide (i ∈ ns) from Bool.eq_iff_iff.mpr (List.contains_iff_mem.trans decide_eq_true_iff.symm)]; exact q
theorem k_notin {i lo hi : Int} (q : C (decide (¬ (lo ≤ i ∧ i < hi)))) : cmpop .notin (.int i) (.rng lo hi 1) S C := by
  refine CmpR.notin ?_
  rw [← Bool.decide_and, ← decide_not]; exact q

theorem g_attr {k c a : Nat} {as : List (Nat × V)} {v : V} {W : V → Prop} (h : Ob b S k (.inst c as)) (ha : as.lookup a = some v) (q : W v) : getA (.ref k) a S W := GetAR.mk h.2 ha q
theorem g_idx {k : Nat} {j : Int} {vs : List V} {v : V} {W : V → Prop} (h : Ob b S k (.list vs)) (hl : vs.length ≤ LIM) (hv : nth vs j = some v) (q : W v) : getI (.ref k) (.int j) S W := GetIR.list h.2 hl hv q
theorem g_setI {k : Nat} {j : Int} {vs : List V} {v : V} (h : Ob b S k (.list vs)) (hl : vs.length ≤ LIM) (h0 : 0 ≤ j) (h1 : j < vs.length) (q : P (S.set k (.list (vs.set j.toNat v)))) : setI (.ref k) (.int j) v S P := SetIR.mk h.2 hl h0 h1 q
theorem g_setA {k c a : Nat} {as : List (Nat × V)} {v : V} (h : Ob b S k (.inst c as)) (hl : as.length ≤ 100) (q : P (S.set k (.inst c (putA as a v)))) : setA (.ref k) a v S P := SetAR.mk h.2 hl q
theorem g_setL {c a : Nat} {as : List (Nat × V)} {v : V} (hl : as.length ≤ 100) (q : P (S ++ [.inst c (putA as a v)])) : setA (.ref S.length) a v (S ++ [.inst c as]) P := by
  refine SetAR.mk (List.getElem?_concat_length ..) hl ?_
  rw [show (S ++ [O.inst c as]).set S.length (.inst c (putA as a v)) = S ++ [.inst c (putA as a v)] by rw [List.set_append_right _ _ (Nat.le_refl _), Nat.sub_self]; rfl]; exact q
theorem g_app {k : Nat} {y : V} {ys : List V} (h : Ob b S k (.list ys)) (hl : ys.length ≤ LIM) (q : P (S.set k (.list (ys ++ [y])))) : appD k y S P := AppR.mk h.2 hl q
theorem g_slcH {k : Nat} {h : Int} {vs : List V} (hk : Ob b S k (.list vs)) (hl : vs.length ≤ LIM) (h0 : 0 ≤ h) (h1 : h ≤ LIM) (q : Q (.ref S.length) (S ++ [.list (vs.take h.toNat)])) : getS (.ref k) none (some (.int h)) S Q := GetSR.to hk.2 hl h0 h1 q
theorem g_slcL {k : Nat} {l : Int} {vs : List V} (hk : Ob b S k (.list vs)) (hl : vs.length ≤ LIM) (h0 : 0 ≤ l) (h1 : l ≤ LIM) (q : Q (.ref S.length) (S ++ [.list (vs.drop l.toNat)])) : getS (.ref k) (some (.int l)) none S Q := GetSR.fro hk.2 hl h0 h1 q
theorem g_setS {k l : Nat} {h : Int} {vs ws : List V} (hk : Ob b S k (.list vs)) (hl : Ob b' S l (.list ws)) (h1 : vs.length ≤ 1000) (h2 : ws.length ≤ 1000) (h3 : 0 ≤ h) (h4 : h ≤ 1000) (hne : k ≠ l) (q : P (S.set k (.list (ws ++ vs.drop h.toNat)))) : setS (.ref k) h (.ref l) S P := SetSR.mk hk.2 hl.2 h1 h2 h3 h4 hne q
end

theorem x_tupK {xs : List Nat} {vs : List V} {P : Prop} (h1 : xs.length ≤ 100) (h2 : xs.length = vs.length) (h3 : xs.Nodup) (q : P) : xs.length ≤ 100 ∧ xs.length = vs.length ∧ xs.Nodup ∧ P := ⟨h1, h2, h3, q⟩

/-! tests -/
section
variable {p : Prop} [Decidable p] {A B : Prop}
theorem i_d (h1 : p → A) (h2 : ¬ p → B) : if decide p = true then A else B := by
  by_cases h : p
  · rw [if_pos (decide_eq_true h)]; exact h1 h
  · rw [if_neg (by simpa using h)]; exact h2 h
theorem i_df (h1 : ¬ p → A) (h2 : p → B) : if decide p = false then A else B := by
  by_cases h : p
  · rw [if_neg (by simpa using h)]; exact h2 h
  · rw [if_pos (decide_eq_false h)]; exact h1 h
theorem i_n (h1 : ¬ p → A) (h2 : p → B) : if (!decide p) = true then A else B := by
  by_cases h : p
  · rw [if_neg (by simpa using h)]; exact h2 h
  · rw [if_pos (by simpa using h)]; exact h1 h
theorem i_nf (h1 : p → A) (h2 : ¬ p → B) : if (!decide p) = false then A else B := by
  by_cases h : p
  · rw [if_pos (by simpa using h)]; exact h1 h
  · rw [if_neg (by simpa using h)]; exact h2 h
theorem i_tt (q : A) : if true = true then A else B := by simpa using q
theorem i_tf (q : B) : if true = false then A else B := by simpa using q
theorem i_ft (q : B) : if false = true then A else B := by simpa using q
theorem i_ff (q : A) : if false = false then A else B := by simpa using q
theorem i_nt (q : B) : if (!true) = true then A else B := by simpa using q
theorem i_nff (q : A) : if (!false) = true then A else B := by simpa using q
theorem i_ntf (q : A) : if (!true) = false then A else B := by simpa using q
theorem i_nf2 (q : B) : if (!false) = false then A else B := by simpa using q
end

/-! items -/
theorem items_list {S : H} {k b : Nat} {vs : List V} (h : Ob b S k (.list vs)) : items (.ref k) S = some vs := by unfold items; simp only [h.2]
theorem items_rng {S : H} {lo hi st : Int} (h0 : lo.natAbs ≤ 1000000) (h1 : hi.natAbs ≤ 1000000) (hs : st = 1 ∨ st = -1) : items (.rng lo hi st) S = some (rngItems lo hi st) := by
  unfold items; exact if_pos ⟨h0, h1, hs⟩
theorem rngItems_len (lo hi st : Int) : (rngItems lo hi st).length = rngLen lo hi st := by simp [rngItems]
theorem rngLen_lim {lo hi st : Int} (h0 : lo.natAbs ≤ 1000) (h1 : hi.natAbs ≤ 1000) : rngLen lo hi st ≤ LIM := by unfold rngLen LIM; split <;> lia

/-! loops -/
section
variable {body : Fr → H → (Option V → Fr → H → Prop) → Prop} {bnd : Fr → V → H → (Fr → Prop) → Prop} {src : V} {vs0 : List V} {Q : Option V → Fr → H → Prop}
theorem for_inv (I : List V → Fr → H → Prop) (hi : ∀ l fr S, I l fr S → items src S = some vs0) (he : ∀ fr S, I [] fr S → Q none fr S)
    (hs : ∀ v r fr S, I (v :: r) fr S → ∀ K : Option V → Fr → H → Prop, (∀ fr' S', I r fr' S' → K none fr' S') → (∀ u fr' S', Q (some u) fr' S' → K (some u) fr' S') → bnd fr v S fun fr1 => body fr1 S K) :
    ∀ (l : List V) (fr : Fr) (S : H), I l fr S → forL bnd body src vs0 l fr S Q
  | [], fr, S, h => And.intro (hi _ _ _ h) (he _ _ h)
  | v :: r, fr, S, h => by
    refine And.intro (hi _ _ _ h) (hs v r fr S h _ (fun fr' S' h' => ?_) (fun u fr' S' h' => h'))
    exact for_inv I hi he hs r fr' S' h'
theorem forI_list {k b : Nat} {vs : List V} {fr : Fr} {S : H} (h : Ob b S k (.list vs)) (hl : vs.length ≤ LIM) (q : forL bnd body (.ref k) vs vs fr S Q) : forI bnd body fr Q (.ref k) S := by
  unfold forI; simp only [items_list h]; exact ⟨hl, q⟩
theorem forI_rng {lo hi st : Int} {fr : Fr} {S : H} (h0 : lo.natAbs ≤ 1000) (h1 : hi.natAbs ≤ 1000) (hs : st = 1 ∨ st = -1) (q : forL bnd body (.rng lo hi st) (rngItems lo hi st) (rngItems lo hi st) fr S Q) : forI bnd body fr Q (.rng lo hi st) S := by
  unfold forI; simp only [items_rng (S := S) (Nat.le_trans h0 (by decide)) (Nat.le_trans h1 (by decide)) hs]
  exact ⟨by rw [rngItems_len]; exact rngLen_lim h0 h1, q⟩
end

end Mine.L
end

section
set_option autoImplicit false
set_option linter.unusedVariables false
namespace Mine.L
open Mine

section
variable {tests : Fr → H → (Bool → H → Prop) → Prop} {elt : Fr → H → (V → H → Prop) → Prop} {x : Nat} {src : V} {vs0 : List V} {fr : Fr} {S : H} {Q : H → Prop}
theorem set_last {o o' : O} : (S ++ [o]).set S.length o' = S ++ [o'] := by rw [List.set_append_right _ _ (Nat.le_refl _)]; simp

theorem comp_pure_ (p : V → Bool) (g : V → V) (hit : ∀ S', Ext S S' → items src S' = some vs0) (hl : vs0.length ≤ LIM) (hs : Src S)
    (step : ∀ v ∈ vs0, ∀ S', Ext S S' → Src S' → (∀ K : Bool → H → Prop, K (p v) S' → tests (upd fr x v) S' K) ∧ (p v = true → ∀ K : V → H → Prop, K (g v) S' → elt (upd fr x v) S' K))
    (q : Q (S ++ [.list ((vs0.filter p).map g)])) : ∀ (l o : List V), (∃ d, d ++ l = vs0 ∧ o = (d.filter p).map g) → compL tests elt x S.length src vs0 fr l (S ++ [.list o]) Q
  | [], o, ⟨d, hd, ho⟩ => by
    refine And.intro (hit _ (.push1 _)) ?_
    rw [List.append_nil] at hd; subst hd ho; exact q
  | v :: r, o, ⟨d, hd, ho⟩ => by
    refine And.intro (hit _ (.push1 _)) ?_
    obtain ⟨s1, s2⟩ := step v (by rw [← hd]; simp) (S ++ [.list o]) (.push1 _) (hs.push _)
    refine s1 _ ?_
    cases hp : p v with
    | false =>
      simp only [Bool.false_eq_true, if_false]
      exact comp_pure_ p g hit hl hs step q r o ⟨d ++ [v], by simp [← hd], by simp [List.filter_append, hp, ho]⟩
    | true =>
      simp only [if_true]
      refine s2 hp _ ?_
      have hlen : o.length ≤ LIM := by
        rw [ho, List.length_map]
        refine Nat.le_trans (List.length_filter_le _ _) (Nat.le_trans ?_ hl)
        rw [← hd]; simp
      refine g_app (b := 0) ⟨Nat.zero_le _, by simp⟩ hlen ?_
      rw [set_last]
      exact comp_pure_ p g hit hl hs step q r _ ⟨d ++ [v], by simp [← hd], by simp [List.filter_append, hp, ho]⟩

theorem comp_gen_ (p : V → Bool) (R : H → V → V → Prop) (hit : ∀ S', Ext S S' → items src S' = some vs0) (hl : vs0.length ≤ LIM)
    (hR : ∀ S1 S2 v y, Keep (S.length + 1) S1 S2 → R S1 v y → R S2 v y) (hs : Src S)
    (step : ∀ v ∈ vs0, ∀ S', Ext S S' → Src S' → S.length < S'.length → ∀ K : Bool → H → Prop,
      (p v = false → ∀ S'', Ext S' S'' → K false S'') →
      (p v = true → ∀ S'', Ext S' S'' → Src S'' → (∀ KK : V → H → Prop, (∀ y S3, Ext S'' S3 → R S3 v y → KK y S3) → elt (upd fr x v) S'' KK) → K true S'') →
      (p v = true → ∀ S'', Ext S' S'' → Src S'' → ∀ KK : V → H → Prop, (∀ y S3, Ext S'' S3 → R S3 v y → KK y S3) → elt (upd fr x v) S'' KK) ∧ tests (upd fr x v) S' K)
    (q : ∀ S' outs, Ext S S' → Ob 2 S' S.length (.list outs) → Each (R S') (vs0.filter p) outs → Q S') :
    ∀ (l : List V) (S' : H) (o : List V), Ext S S' → Ob 2 S' S.length (.list o) → (∃ d, d ++ l = vs0 ∧ Each (R S') (d.filter p) o) → compL tests elt x S.length src vs0 fr l S' Q
  | [], S', o, e, ho, ⟨d, hd, ha⟩ => by
    refine And.intro (hit _ e) ?_
    rw [List.append_nil] at hd; subst hd; exact q _ _ e ho ha
  | v :: r, S', o, e, ho, ⟨d, hd, ha⟩ => by
    refine And.intro (hit _ e) ?_
    refine (step v (by rw [← hd]; simp) S' e (e.src hs) ho.lt _ (fun hp S'' e' => ?_) (fun hp S'' e' hs' helt => ?_)).2
    · simp only [Bool.false_eq_true, if_false]
      exact comp_gen_ p R hit hl hR hs step q r S'' o (e.trans e') (ho.ext e' (Nat.le_refl _)) ⟨d ++ [v], by simp [← hd], by
        rw [List.filter_append, List.filter_cons, hp]; simpa using ha.mono fun a b h => hR _ _ _ _ (e'.keep (by have := hs.len; lia)) h⟩
    · simp only [if_true]
      refine helt _ fun y S3 e3 hy => ?_
      have ho3 := (ho.ext e' (Nat.le_refl _)).ext e3 (Nat.le_refl _)
      have hlen : o.length ≤ LIM := by
        rw [← ha.len]
        refine Nat.le_trans (List.length_filter_le _ _) (Nat.le_trans ?_ hl)
        rw [← hd]; simp
      refine g_app ho3 hlen ?_
      have kk : Keep (S.length + 1) S3 (S3.set S.length (.list (o ++ [y]))) := fun i o' hi e => by rw [List.getElem?_set_ne (by lia)]; exact e
      have k1 : Keep (S.length + 1) S' S3 := (e'.trans e3).keep (by have := hs.len; lia)
      refine comp_gen_ p R hit hl hR hs step q r _ (o ++ [y]) (((e.trans e').trans e3).set (Nat.le_refl _) _) ho3.set_self ⟨d ++ [v], by simp [← hd], ?_⟩
      rw [List.filter_append, List.filter_cons, hp]
      exact (ha.mono fun a b h => hR _ _ _ _ kk (hR _ _ _ _ k1 h)).append (.cons (hR _ _ _ _ kk hy) .nil)

theorem comp_fresh_ (R : H → V → Nat → Prop) (hit : ∀ S', Ext S S' → items src S' = some vs0) (hl : vs0.length ≤ LIM)
    (hR : ∀ S1 S2 v y, Keep (S.length + 1) S1 S2 → R S1 v y → R S2 v y) (hs : Src S) (ht : ∀ fr S' K, K true S' → tests fr S' K)
    (step : ∀ v ∈ vs0, ∀ S', Ext S S' → Src S' → S.length < S'.length → ∀ KK : V → H → Prop, (∀ y S3, Ext S' S3 → S'.length ≤ y → y < S3.length → R S3 v y → KK (.ref y) S3) → elt (upd fr x v) S' KK)
    (q : ∀ S' qs, Ext S S' → Ob 2 S' S.length (.list (qs.map V.ref)) → Each (R S') vs0 qs → qs.Nodup → (∀ y ∈ qs, S.length < y) → Q S') :
    ∀ (l : List V) (S' : H) (qs : List Nat), Ext S S' → Ob 2 S' S.length (.list (qs.map V.ref)) → qs.Nodup → (∀ y ∈ qs, S.length < y ∧ y < S'.length) → (∃ d, d ++ l = vs0 ∧ Each (R S') d qs) → compL tests elt x S.length src vs0 fr l S' Q
  | [], S', qs, e, ho, hn, hb, ⟨d, hd, ha⟩ => by
    refine And.intro (hit _ e) ?_
    rw [List.append_nil] at hd; subst hd; exact q _ _ e ho ha hn fun y hy => (hb y hy).1
  | v :: r, S', qs, e, ho, hn, hb, ⟨d, hd, ha⟩ => by
    refine And.intro (hit _ e) ?_
    refine ht _ _ _ ?_
    simp only [if_true]
    refine step v (by rw [← hd]; simp) S' e (e.src hs) ho.lt _ fun y S3 e3 h1 h2 hy => ?_
    have ho3 := ho.ext e3 (Nat.le_refl _)
    have hlen : (qs.map V.ref).length ≤ LIM := by
      rw [List.length_map, ← ha.len]
      refine Nat.le_trans ?_ hl
      rw [← hd]; simp
    refine g_app ho3 hlen ?_
    have kk : Keep (S.length + 1) S3 (S3.set S.length (.list (qs.map V.ref ++ [.ref y]))) := fun i o' hi e => by rw [List.getElem?_set_ne (by lia)]; exact e
    have k1 : Keep (S.length + 1) S' S3 := e3.keep (by have := hs.len; lia)
    have hy0 := ho.lt
    refine comp_fresh_ R hit hl hR hs ht step q r _ (qs ++ [y]) ((e.trans e3).set (Nat.le_refl _) _) (by rw [List.map_append]; exact ho3.set_self) ?_ ?_ ⟨d ++ [v], by simp [← hd], ?_⟩
    · rw [List.nodup_append]
      refine ⟨hn, by simp, fun a ha b hb' => ?_⟩
      rw [List.mem_singleton] at hb'
      have := (hb a ha).2
      lia
    · intro z hz
      rw [List.mem_append, List.mem_singleton] at hz
      rw [List.length_set]
      have := e3.len
      rcases hz with hz | rfl
      · have := hb z hz; lia
      · lia
    · exact (ha.mono fun a b h => hR _ _ _ _ kk (hR _ _ _ _ k1 h)).append (.cons (hR _ _ _ _ kk hy) .nil)
end

section
variable {t : Tb} {n : Nat} {elt : E} {x : Nat} {ifs : List E} {fr : Fr} {src : V} {vs0 : List V} {S : H} {Q : V → H → Prop}
theorem compK_pure (p : V → Bool) (g : V → V) (hit : ∀ S', Ext S S' → items src S' = some vs0) (hl : vs0.length ≤ LIM) (hs : Src S)
    (step : ∀ v ∈ vs0, ∀ S', Ext S S' → Src S' → (∀ K : Bool → H → Prop, K (p v) S' → bools (fun e S Q => tst t n e (upd fr x v) S F0 Q) true ifs S' K) ∧ (p v = true → ∀ K : V → H → Prop, K (g v) S' → ev t n elt (upd fr x v) S' F0 K))
    (q : Q (.ref S.length) (S ++ [.list ((vs0.filter p).map g)])) : compK t n elt x ifs fr Q src S := by
  unfold compK; simp only [hit S .refl]
  exact ⟨hl, comp_pure_ (tests := fun fr S Q => bools (fun e S Q => tst t n e fr S F0 Q) true ifs S Q) (elt := fun fr S Q => ev t n elt fr S F0 Q) p g hit hl hs step q vs0 [] ⟨[], rfl, rfl⟩⟩
theorem compK_gen (p : V → Bool) (R : H → V → V → Prop) (hit : ∀ S', Ext S S' → items src S' = some vs0) (hl : vs0.length ≤ LIM)
    (hR : ∀ S1 S2 v y, Keep (S.length + 1) S1 S2 → R S1 v y → R S2 v y) (hs : Src S)
    (st1 : ∀ v ∈ vs0, ∀ S', Ext S S' → Src S' → S.length < S'.length → ∀ K : Bool → H → Prop, (∀ S'', Ext S' S'' → K (p v) S'') → bools (fun e S Q => tst t n e (upd fr x v) S F0 Q) true ifs S' K)
    (st2 : ∀ v ∈ vs0, p v = true → ∀ S', Ext S S' → Src S' → S.length < S'.length → ∀ KK : V → H → Prop, (∀ y S3, Ext S' S3 → R S3 v y → KK y S3) → ev t n elt (upd fr x v) S' F0 KK)
    (q : ∀ S' outs, Ext S S' → Ob 2 S' S.length (.list outs) → Each (R S') (vs0.filter p) outs → Q (.ref S.length) S') : compK t n elt x ifs fr Q src S := by
  unfold compK; simp only [hit S .refl]
  refine ⟨hl, comp_gen_ (tests := fun fr S Q => bools (fun e S Q => tst t n e fr S F0 Q) true ifs S Q) (elt := fun fr S Q => ev t n elt fr S F0 Q) p R hit hl hR hs (fun v hv S' e hs' hk K kf kt => ?_) q vs0 _ [] (.push1 _) (Ob.new hs.len) ⟨[], rfl, .nil⟩⟩
  have helt : p v = true → ∀ S'', Ext S' S'' → Src S'' → ∀ KK : V → H → Prop, (∀ y S3, Ext S'' S3 → R S3 v y → KK y S3) → ev t n elt (upd fr x v) S'' F0 KK :=
    fun hp S'' e' hs'' => st2 v hv hp S'' (e.trans e') hs'' (Nat.lt_of_lt_of_le hk e'.len)
  refine ⟨helt, st1 v hv S' e hs' hk K fun S'' e' => ?_⟩
  cases hp : p v with
  | false => exact kf hp S'' e'
  | true => exact kt hp S'' e' (e'.src hs') (helt hp S'' e' (e'.src hs'))
theorem compK_fresh (R : H → V → Nat → Prop) (hit : ∀ S', Ext S S' → items src S' = some vs0) (hl : vs0.length ≤ LIM)
    (hR : ∀ S1 S2 v y, Keep (S.length + 1) S1 S2 → R S1 v y → R S2 v y) (hs : Src S)
    (step : ∀ v ∈ vs0, ∀ S', Ext S S' → Src S' → S.length < S'.length → ∀ KK : V → H → Prop, (∀ y S3, Ext S' S3 → S'.length ≤ y → y < S3.length → R S3 v y → KK (.ref y) S3) → ev t n elt (upd fr x v) S' F0 KK)
    (q : ∀ S' qs, Ext S S' → Ob 2 S' S.length (.list (qs.map V.ref)) → Each (R S') vs0 qs → qs.Nodup → (∀ y ∈ qs, S.length < y) → Q (.ref S.length) S') : compK t n elt x [] fr Q src S := by
  unfold compK; simp only [hit S .refl]
  exact ⟨hl, comp_fresh_ (tests := fun fr S Q => bools (fun e S Q => tst t n e fr S F0 Q) true [] S Q) (elt := fun fr S Q => ev t n elt fr S F0 Q) R hit hl hR hs (fun fr S' K h => s_bo0 h) step q vs0 _ [] (.push1 _) (Ob.new hs.len) .nil (by simp) ⟨[], rfl, .nil⟩⟩
end
theorem s_g0 {n : Nat} {fr : Fr} {S : H} {X : H → Prop} {Q : V → H → Prop} (q : Q (.int 4) S) : ev T0 (n + 1) (.gcon 0) fr S X Q := s_gcon rfl q
theorem s_g1 {n : Nat} {fr : Fr} {S : H} {X : H → Prop} {Q : V → H → Prop} (q : Q (.int 10) S) : ev T0 (n + 1) (.gcon 1) fr S X Q := s_gcon rfl q
theorem s_g2 {n : Nat} {fr : Fr} {S : H} {X : H → Prop} {Q : V → H → Prop} (q : Q (.int 13) S) : ev T0 (n + 1) (.gcon 2) fr S X Q := s_gcon rfl q
theorem s_g3 {n : Nat} {fr : Fr} {S : H} {X : H → Prop} {Q : V → H → Prop} (q : Q (.int 15) S) : ev T0 (n + 1) (.gcon 3) fr S X Q := s_gcon rfl q
theorem s_g4 {n : Nat} {fr : Fr} {S : H} {X : H → Prop} {Q : V → H → Prop} (q : Q (.int (-1)) S) : ev T0 (n + 1) (.gcon 4) fr S X Q := s_gcon rfl q
theorem s_g5 {n : Nat} {fr : Fr} {S : H} {X : H → Prop} {Q : V → H → Prop} (q : Q (.int 5) S) : ev T0 (n + 1) (.gcon 5) fr S X Q := s_gcon rfl q

section
variable {t : Tb} {n : Nat} {fr : Fr} {S : H} {X : H → Prop} {B : Bool → H → Prop} {e : E} {r : List E}
theorem s_boTt (q : tst t n e fr S X fun b S1 => if b = true then bools (fun e S Q => tst t n e fr S X Q) true r S1 B else B false S1) : bools (fun e S Q => tst t n e fr S X Q) true (e :: r) S B := by
  refine s_boT ?_
  have : (fun (b : Bool) (S1 : H) => if b = true then bools (fun e S Q => tst t n e fr S X Q) true r S1 B else B b S1) = fun b S1 => if b = true then bools (fun e S Q => tst t n e fr S X Q) true r S1 B else B false S1 := by
    funext b S1; cases b <;> rfl
  rw [this]; exact q
theorem s_boTf (q : tst t n e fr S X fun b S1 => if b = false then bools (fun e S Q => tst t n e fr S X Q) false r S1 B else B true S1) : bools (fun e S Q => tst t n e fr S X Q) false (e :: r) S B := by
  refine s_boT ?_
  have : (fun (b : Bool) (S1 : H) => if b = false then bools (fun e S Q => tst t n e fr S X Q) false r S1 B else B b S1) = fun b S1 => if b = false then bools (fun e S Q => tst t n e fr S X Q) false r S1 B else B true S1 := by
    funext b S1; cases b <;> rfl
  rw [this]; exact q
theorem s_boEt (q : ev t n e fr S X (isB fun b S1 => if b = true then bools (fun e S Q => ev t n e fr S X (isB Q)) true r S1 B else B false S1)) : bools (fun e S Q => ev t n e fr S X (isB Q)) true (e :: r) S B := by
  refine s_boE ?_
  have : (fun (b : Bool) (S1 : H) => if b = true then bools (fun e S Q => ev t n e fr S X (isB Q)) true r S1 B else B b S1) = fun b S1 => if b = true then bools (fun e S Q => ev t n e fr S X (isB Q)) true r S1 B else B false S1 := by
    funext b S1; cases b <;> rfl
  rw [this]; exact q
theorem s_boEf (q : ev t n e fr S X (isB fun b S1 => if b = false then bools (fun e S Q => ev t n e fr S X (isB Q)) false r S1 B else B true S1)) : bools (fun e S Q => ev t n e fr S X (isB Q)) false (e :: r) S B := by
  refine s_boE ?_
  have : (fun (b : Bool) (S1 : H) => if b = false then bools (fun e S Q => ev t n e fr S X (isB Q)) false r S1 B else B b S1) = fun b S1 => if b = false then bools (fun e S Q => ev t n e fr S X (isB Q)) false r S1 B else B true S1 := by
    funext b S1; cases b <;> rfl
  rw [this]; exact q
end
theorem Ob.ext' {i : Nat} {S S' : H} {o : O} (k : Ext S S') (h : Ob 2 S i o) : Ob 2 S' i o := h.ext k (Nat.le_refl _)
end Mine.L
end

section
set_option autoImplicit false
set_option linter.unusedVariables false
namespace Mine.L

structure Row where
  pl : List Int
  dc : List Int
  ac : List Int
  st : Int
  en : Int
  hi : Int
  lo : Int
deriving Inhabited
structure Fm where
  kind : Nat
  comps : List (Int × Int)

noncomputable def Row.Wf (R : Row) : Prop := R.dc.length = R.pl.length ∧ R.ac.length = R.pl.length ∧ R.pl.length ≤ 500
noncomputable def compOf (F : Fm) (p : Int) : Int × Int := F.comps.getD p.toNat (0, 0)
noncomputable def blocks (F : Fm) (pl : List Int) : Int := (pl.map fun p => (compOf F p).1 * (compOf F p).2).sum
noncomputable def most (F : Fm) : Int := if F.kind = 0 then 1 else 3

structure Places (F : Fm) (R : Row) : Prop where
  len : 1 ≤ R.pl.length ∧ R.pl.length ≤ 4
  rng : ∀ p ∈ R.pl, 0 ≤ p ∧ p < F.comps.length
  inc : R.pl.Pairwise (· < ·)
  blk : 1 < R.pl.length → blocks F R.pl ≤ 10
noncomputable def Slots (F : Fm) (R : Row) : Prop := ∀ s ∈ R.dc ++ R.ac, 0 ≤ s ∧ s ≤ most F
structure Prog (R : Row) : Prop where
  rng : 0 ≤ R.st ∧ R.st ≤ R.en ∧ R.en ≤ 3
  dc : R.st = 0 → R.en = 0
  ac : R.st ≠ 0 → R.pl.length = 1
  low : 0 ≤ R.lo ∧ R.lo ≤ 13
  fin : R.hi ≠ 0 → R.hi = R.lo + 1
noncomputable def Band (F : Fm) (R : Row) : Prop := if F.kind = 2 then Prog R else R.st = 0 ∧ R.en = 3 ∧ R.hi = 0 ∧ R.lo = 0
structure Valid (F : Fm) (R : Row) : Prop where
  places : Places F R
  slots : Slots F R
  band : Band F R

abbrev Kn := Nat → Nat → Int
noncomputable def kn0 : Kn := fun _ _ => -1
noncomputable def FollowOk (kn : Kn) (R : Row) : Prop := ∀ p ∈ R.pl, (0 < R.st → kn p.toNat 0 ≠ -1) ∧ ∀ a : Nat, a < 4 → R.st ≤ a → (a : Int) ≤ R.en → (R.hi = 0 → kn p.toNat a = -1) ∧ (R.hi ≠ 0 → kn p.toNat a = R.hi)
abbrev Cov (R : Row) (p a : Nat) : Prop := (p : Int) ∈ R.pl ∧ R.st ≤ a ∧ (a : Int) ≤ R.en
noncomputable def tell (kn : Kn) (R : Row) : Kn := fun p a => if Cov R p a then R.lo else kn p a
inductive Run (F : Fm) : Kn → List Row → Kn → Prop where
  | nil {kn} : Run F kn [] kn
  | cons {kn R r kn'} : Valid F R → FollowOk kn R → Run F (tell kn R) r kn' → Run F kn (R :: r) kn'

noncomputable def told (rows : List Row) (p a : Nat) : List (Nat × Int × Int) :=
  ((List.range rows.length).filter fun k => decide (Cov (rows.getD k default) p a)).map fun k => (k, (rows.getD k default).hi, (rows.getD k default).lo)
noncomputable def JOk (l : List (Nat × Int × Int)) : Prop := ∀ k x, l[k]? = some x → (k = 0 → x.2.1 = 0) ∧ (∀ j y, k = j + 1 → l[j]? = some y → x.2.1 = y.2.2 ∧ x.2.1 ≠ 0)
noncomputable def JDc (f l : List (Nat × Int × Int)) : Prop := ∀ x r, l = x :: r → ∃ y s, f = y :: s ∧ y.1 ≤ x.1
noncomputable def JGood (m : Nat) (rows : List Row) : Prop := ∀ p, p < m → ∀ a, a < 4 → JOk (told rows p a) ∧ JDc (told rows p 0) (told rows p a)
noncomputable def lastLo (l : List (Nat × Int × Int)) : Int := match l.getLast? with
  | some x => x.2.2
  | none => -1
noncomputable def JDone (m : Nat) (rows : List Row) : Prop := ∀ p, p < m → ∀ a, a < 4 → lastLo (told rows p a) = 0

theorem told_nil (p a : Nat) : told [] p a = [] := rfl
theorem told_snoc (rows : List Row) (R : Row) (p a : Nat) : told (rows ++ [R]) p a = told rows p a ++ (if Cov R p a then [(rows.length, R.hi, R.lo)] else []) := by
  unfold told
  rw [List.length_append, List.length_singleton, List.range_succ, List.filter_append, List.map_append]
  congr 1
  · have h : ∀ k ∈ List.range rows.length, (rows ++ [R]).getD k default = rows.getD k default := fun k hk => by
      rw [List.getD_eq_getElem?_getD, List.getD_eq_getElem?_getD, List.getElem?_append_left (List.mem_range.mp hk)]
    have e : (List.range rows.length).filter (fun k => decide (Cov ((rows ++ [R]).getD k default) p a)) = (List.range rows.length).filter (fun k => decide (Cov (rows.getD k default) p a)) :=
      List.filter_congr fun k hk => by rw [h k hk]
    rw [e]
    refine List.map_congr_left fun k hk => ?_
    rw [h k (List.mem_filter.mp hk).1]
  · have h : (rows ++ [R]).getD rows.length default = R := by simp
    rw [List.filter_cons, h]
    by_cases hc : Cov R p a
    · simp [hc]
    · simp [hc]
theorem told_lt (rows : List Row) (p a : Nat) : ∀ x ∈ told rows p a, x.1 < rows.length := by
  intro x hx
  unfold told at hx
  obtain ⟨k, hk, rfl⟩ := List.mem_map.mp hx
  exact List.mem_range.mp (List.mem_filter.mp hk).1
theorem told_low {F : Fm} {rows : List Row} (hv : ∀ R ∈ rows, Valid F R) (p a : Nat) : ∀ x ∈ told rows p a, 0 ≤ x.2.2 := by
  intro x hx
  unfold told at hx
  obtain ⟨k, hk, rfl⟩ := List.mem_map.mp hx
  have hk' := List.mem_range.mp (List.mem_filter.mp hk).1
  have h := (hv (rows.getD k default) (by rw [List.getD_eq_getElem?_getD, List.getElem?_eq_getElem hk']; exact List.getElem_mem hk')).band
  unfold Band at h
  split at h
  · exact h.low.1
  · show 0 ≤ (rows.getD k default).lo; rw [h.2.2.2]; exact Int.le_refl _

theorem lastLo_nil : lastLo [] = -1 := rfl
theorem lastLo_snoc (l : List (Nat × Int × Int)) (x : Nat × Int × Int) : lastLo (l ++ [x]) = x.2.2 := by unfold lastLo; simp
theorem lastLo_neg {l : List (Nat × Int × Int)} (h : ∀ x ∈ l, 0 ≤ x.2.2) (e : lastLo l = -1) : l = [] := by
  unfold lastLo at e
  split at e
  · rename_i x hx
    have := h x (List.mem_of_getLast? hx)
    lia
  · rename_i hx
    exact List.getLast?_eq_none_iff.mp hx

theorem jok_snoc {l : List (Nat × Int × Int)} {x : Nat × Int × Int} : JOk (l ++ [x]) ↔ JOk l ∧ (l = [] → x.2.1 = 0) ∧ (l ≠ [] → x.2.1 = lastLo l ∧ x.2.1 ≠ 0) := by
  constructor
  · intro h
    refine ⟨fun k y hy => ⟨fun hk => (h k y (by rw [List.getElem?_append_left (List.getElem?_eq_some_iff.mp hy).1]; exact hy)).1 hk, fun j z hj hz => ?_⟩, fun e => ?_, fun e => ?_⟩
    · exact (h k y (by rw [List.getElem?_append_left (List.getElem?_eq_some_iff.mp hy).1]; exact hy)).2 j z hj (by rw [List.getElem?_append_left (List.getElem?_eq_some_iff.mp hz).1]; exact hz)
    · subst e; exact (h 0 x rfl).1 rfl
    · have h2 := h l.length x (by simp)
      obtain ⟨j, hj⟩ : ∃ j, l.length = j + 1 := ⟨l.length - 1, by have := List.length_pos_iff.mpr e; lia⟩
      have hjl : j < l.length := by lia
      have := h2.2 j l[j] hj (by rw [List.getElem?_append_left hjl]; exact List.getElem?_eq_getElem hjl)
      unfold lastLo
      rw [List.getLast?_eq_getElem?, show l.length - 1 = j by lia, List.getElem?_eq_getElem hjl]
      exact this
  · rintro ⟨h1, h2, h3⟩ k y hy
    rw [List.getElem?_append] at hy
    split at hy
    · rename_i hk
      refine ⟨(h1 k y hy).1, fun j z hj hz => (h1 k y hy).2 j z hj ?_⟩
      rw [List.getElem?_append_left (by lia)] at hz; exact hz
    · rename_i hk
      have hk0 : k - l.length = 0 := by
        cases q : k - l.length with
        | zero => rfl
        | succ n => rw [q] at hy; simp at hy
      rw [hk0] at hy
      have hyx : x = y := by simpa using hy
      subst hyx
      have hkl : k = l.length := by lia
      refine ⟨fun e => h2 (List.length_eq_zero_iff.mp (by lia)), fun j z hj hz => ?_⟩
      have hne : l ≠ [] := by rintro rfl; simp at hkl; lia
      have hjl : j < l.length := by lia
      rw [List.getElem?_append_left hjl] at hz
      have := h3 hne
      unfold lastLo at this
      rw [List.getLast?_eq_getElem?, show l.length - 1 = j by lia, hz] at this
      exact this

theorem run_snoc {F : Fm} {kn kn' : Kn} {rows : List Row} {R : Row} : Run F kn (rows ++ [R]) kn' ↔ ∃ k1, Run F kn rows k1 ∧ Valid F R ∧ FollowOk k1 R ∧ kn' = tell k1 R := by
  induction rows generalizing kn with
  | nil =>
    constructor
    · rintro (_ | ⟨h1, h2, h3⟩); cases h3; exact ⟨kn, .nil, h1, h2, rfl⟩
    · rintro ⟨k1, h0, h1, h2, rfl⟩; cases h0; exact .cons h1 h2 .nil
  | cons a r ih =>
    constructor
    · rintro (_ | ⟨h1, h2, h3⟩)
      obtain ⟨k1, q1, q2, q3, q4⟩ := ih.mp h3
      exact ⟨k1, .cons h1 h2 q1, q2, q3, q4⟩
    · rintro ⟨k1, h0, h1, h2, rfl⟩
      cases h0 with
      | cons q1 q2 q3 => exact .cons q1 q2 (ih.mpr ⟨k1, q3, h1, h2, rfl⟩)

theorem cov_st {F : Fm} {R : Row} (hv : Valid F R) {p : Int} (hp : p ∈ R.pl) : ((p.toNat : Nat) : Int) = p := by
  have := (hv.places.rng p hp).1; lia

theorem step_iff {F : Fm} {rows : List Row} {R : Row} {kn : Kn} (hv : ∀ R ∈ rows, Valid F R) (hR : Valid F R) (hg : JGood F.comps.length rows) (hk : ∀ p, p < F.comps.length → ∀ a, a < 4 → kn p a = lastLo (told rows p a)) :
    FollowOk kn R ↔ JGood F.comps.length (rows ++ [R]) := by
  have band := hR.band
  have hst : 0 ≤ R.st ∧ R.st ≤ R.en ∧ R.en ≤ 3 := by
    unfold Band at band
    split at band
    · exact band.rng
    · obtain ⟨h1, h2, _⟩ := band; lia
  constructor
  · intro hf p hp a ha
    obtain ⟨g1, g2⟩ := hg p hp a ha
    rw [told_snoc, told_snoc]
    by_cases hc : Cov R p a
    · rw [if_pos hc]
      obtain ⟨c1, c2, c3⟩ := hc
      obtain ⟨f1, f2⟩ := hf p c1
      have f2' := f2 a ha c2 c3
      rw [Int.toNat_natCast] at f1 f2'
      rw [hk p hp a ha] at f2'
      rw [hk p hp 0 (by decide)] at f1
      have hlow := told_low hv p a
      have hlow0 := told_low hv p 0
      have n1 : R.hi = 0 → told rows p a = [] := fun h => lastLo_neg hlow (f2'.1 h)
      have n2 : R.hi ≠ 0 → told rows p a ≠ [] := fun h e => by
        have := f2'.2 h
        rw [e, lastLo_nil] at this
        unfold Band at band
        split at band
        · have h1 := band.fin h; have h2 := band.low.1; lia
        · exact h band.2.2.1
      refine ⟨jok_snoc.mpr ⟨g1, fun e => ?_, fun e => ?_⟩, ?_⟩
      · by_cases h : R.hi = 0
        · exact h
        · exact absurd e (n2 h)
      · have h : R.hi ≠ 0 := fun h => e (n1 h)
        exact ⟨(f2'.2 h).symm, h⟩
      · -- DC first
        by_cases hs : 0 < R.st
        · have hne : told rows p 0 ≠ [] := fun e => f1 hs (by rw [e]; rfl)
          intro x r hx
          obtain ⟨y, s, hy⟩ : ∃ y s, told rows p 0 = y :: s := by
            cases q : told rows p 0 with
            | nil => exact absurd q hne
            | cons y s => exact ⟨y, s, rfl⟩
          rw [hy]
          refine ⟨y, _, rfl, ?_⟩
          have ylt : y.1 < rows.length := told_lt rows p 0 y (by rw [hy]; exact List.mem_cons_self)
          cases q : told rows p a with
          | nil => rw [q] at hx; cases hx; exact Nat.le_of_lt ylt
          | cons z t =>
            rw [q] at hx; cases hx
            obtain ⟨y', s', hy', hle⟩ := g2 _ _ q
            rw [hy] at hy'; cases hy'; exact hle
        · by_cases ha0 : a = 0
          · subst ha0
            rw [if_pos ⟨c1, c2, c3⟩]
            intro x r hx
            exact ⟨x, r, hx, Nat.le_refl _⟩
          · unfold Band at band
            split at band
            · have := band.dc (by lia); lia
            · obtain ⟨b1, b2, b3, b4⟩ := band
              have hc0 : Cov R p 0 := ⟨c1, by lia, by lia⟩
              rw [if_pos hc0]
              have f0 := (f2 0 (by decide) (by lia) (by lia)).1 b3
              rw [Int.toNat_natCast, hk p hp 0 (by decide)] at f0
              rw [n1 b3, lastLo_neg hlow0 f0]
              intro x r hx
              cases hx
              exact ⟨_, _, rfl, Nat.le_refl _⟩
    · rw [if_neg hc, List.append_nil]
      refine ⟨g1, fun x r hx => ?_⟩
      obtain ⟨y, s, hy, hle⟩ := g2 x r hx
      exact ⟨y, _, by rw [hy]; rfl, hle⟩
  · intro hg' p hp
    have hpr := hR.places.rng p hp
    have hpe : ((p.toNat : Nat) : Int) = p := by lia
    have hpm : p.toNat < F.comps.length := by lia
    have key : ∀ a : Nat, a < 4 → R.st ≤ a → (a : Int) ≤ R.en → (told rows p.toNat a = [] → R.hi = 0) ∧ (told rows p.toNat a ≠ [] → R.hi = lastLo (told rows p.toNat a) ∧ R.hi ≠ 0) := by
      intro a ha h1 h2
      have := (hg' p.toNat hpm a ha).1
      rw [told_snoc, if_pos ⟨by rw [hpe]; exact hp, h1, h2⟩] at this
      exact (jok_snoc.mp this).2
    refine ⟨fun hs => ?_, fun a ha h1 h2 => ⟨fun h => ?_, fun h => ?_⟩⟩
    · have hsn : (R.st.toNat : Int) = R.st := by lia
      have hc : Cov R p.toNat R.st.toNat := ⟨by rw [hpe]; exact hp, by lia, by lia⟩
      have := (hg' p.toNat hpm R.st.toNat (by lia)).2
      rw [told_snoc, told_snoc, if_pos hc, if_neg (fun q : Cov R p.toNat 0 => by have := q.2.1; lia), List.append_nil] at this
      rw [hk _ hpm 0 (by decide)]
      intro e
      rw [lastLo_neg (told_low hv _ _) e] at this
      cases q : told rows p.toNat R.st.toNat with
      | nil => rw [q] at this; obtain ⟨_, _, h, _⟩ := this _ _ rfl; cases h
      | cons z t => rw [q] at this; obtain ⟨_, _, h, _⟩ := this _ _ rfl; cases h
    · rw [hk _ hpm a ha]
      obtain ⟨k1, k2⟩ := key a ha h1 h2
      by_cases e : told rows p.toNat a = []
      · rw [e]; rfl
      · exact absurd h (k2 e).2
    · rw [hk _ hpm a ha]
      obtain ⟨k1, k2⟩ := key a ha h1 h2
      by_cases e : told rows p.toNat a = []
      · exact absurd (k1 e) h
      · exact (k2 e).1.symm

theorem good_pre {m : Nat} {rows : List Row} {R : Row} (h : JGood m (rows ++ [R])) : JGood m rows := by
  intro p hp a ha
  obtain ⟨h1, h2⟩ := h p hp a ha
  rw [told_snoc] at h1
  rw [told_snoc, told_snoc] at h2
  have g1 : JOk (told rows p a) := by
    split at h1
    · exact (jok_snoc.mp h1).1
    · rw [List.append_nil] at h1; exact h1
  refine ⟨g1, fun x r hx => ?_⟩
  obtain ⟨y, s, hy, hle⟩ := h2 x (r ++ (if Cov R p a then [(rows.length, R.hi, R.lo)] else [])) (by rw [hx]; rfl)
  have xlt : x.1 < rows.length := told_lt rows p a x (by rw [hx]; exact List.mem_cons_self)
  cases q : told rows p 0 with
  | nil =>
    rw [q] at hy
    split at hy
    · cases hy; simp only at hle; lia
    · cases hy
  | cons z t => rw [q] at hy; cases hy; exact ⟨_, _, rfl, hle⟩

theorem snoc_ind {P : List Row → Prop} (h0 : P []) (h1 : ∀ l R, P l → P (l ++ [R])) : ∀ l, P l := by
  intro l
  have : ∀ l : List Row, P l.reverse := fun l => by
    induction l with
    | nil => exact h0
    | cons a r ih => rw [List.reverse_cons]; exact h1 _ _ ih
  have := this l.reverse
  rwa [List.reverse_reverse] at this

theorem law_plain (F : Fm) (rows : List Row) :
    ((∃ kn, Run F kn0 rows kn) ↔ (∀ R ∈ rows, Valid F R) ∧ JGood F.comps.length rows) ∧
    (∀ kn, Run F kn0 rows kn → ∀ p, p < F.comps.length → ∀ a, a < 4 → kn p a = lastLo (told rows p a)) := by
  induction rows using snoc_ind with
  | h0 =>
    refine ⟨⟨fun _ => ⟨fun _ h => (by simp at h), fun p _ a _ => ⟨fun k x h => (by rw [told_nil] at h; simp at h), fun x r h => (by rw [told_nil] at h; cases h)⟩⟩, fun _ => ⟨kn0, .nil⟩⟩, fun kn h p _ a _ => ?_⟩
    cases h; rfl
  | h1 l R ih =>
    obtain ⟨i1, i2⟩ := ih
    refine ⟨⟨?_, ?_⟩, ?_⟩
    · rintro ⟨kn, h⟩
      obtain ⟨k1, r1, v, f, rfl⟩ := run_snoc.mp h
      obtain ⟨hv, hg⟩ := i1.mp ⟨k1, r1⟩
      refine ⟨fun R' hR' => ?_, (step_iff hv v hg (i2 k1 r1)).mp f⟩
      rcases List.mem_append.mp hR' with q | q
      · exact hv R' q
      · rw [List.mem_singleton] at q; rw [q]; exact v
    · rintro ⟨hv, hg⟩
      have hv' : ∀ R' ∈ l, Valid F R' := fun R' h => hv R' (List.mem_append_left _ h)
      have hR : Valid F R := hv R (List.mem_append_right _ List.mem_cons_self)
      have hg' := good_pre hg
      obtain ⟨k1, r1⟩ := i1.mpr ⟨hv', hg'⟩
      exact ⟨_, run_snoc.mpr ⟨k1, r1, hR, (step_iff hv' hR hg' (i2 k1 r1)).mpr hg, rfl⟩⟩
    · intro kn h p hp a ha
      obtain ⟨k1, r1, v, f, rfl⟩ := run_snoc.mp h
      rw [told_snoc]
      unfold tell
      by_cases hc : Cov R p a
      · rw [if_pos hc, if_pos hc, lastLo_snoc]
      · rw [if_neg hc, if_neg hc, List.append_nil]; exact i2 k1 r1 p hp a ha
end Mine.L
end

section
set_option autoImplicit false
namespace Mine.L
open Mine
local macro_rules | `(tactic| get_elem_tactic_extensible) => `(tactic| with_unfolding_all first | assumption | exact Ob.new (Nat.zero_le _) | exact Ob.new (by lia) | (refine' Ob.push ?kk; case kk => get_elem_tactic_extensible) | (refine' Ob.ext' ?ke ?kk; (case ke => assumption); (case kk => get_elem_tactic_extensible)))
local macro_rules | `(tactic| none_booked) => `(tactic| with_reducible first
  | (refine' s_var ?k1 ?_; (case k1 => with_unfolding_all first | rfl | assumption))
  | (refine' g_attr ?k1 ?k2 ?_; (case k1 => get_elem_tactic_extensible); (case k2 => with_unfolding_all rfl))
  | (refine' o_len ?k1 ?k2 ?_; (case k1 => get_elem_tactic_extensible); (case k2 => with_unfolding_all first | assumption | ((try simp only [List.length_map, List.length_cons, List.length_nil]); unfold LIM; lia)))
  | refine s_lstK (by with_unfolding_all exact Nat.le_of_ble_eq_true rfl) ?_
  | refine x_tupK (by decide) (by with_unfolding_all rfl) (by decide) ?_
  | (refine' o_mul ?k1 ?_; (case k1 => first | exact .inl (by decide) | exact .inr (by decide))))
theorem callF_of {t : Tb} {n k : Nat} {ps : List Nat} {body : List St} {vs : List V} {S : H} {X : H → Prop} {Q : V → H → Prop} (h : t.fn k = some (ps, body)) (hl : ps.length = vs.length)
    (q : exs (fun s fr S Q => ex t n s fr S X Q) body (bind0 ps vs) S (fin Q)) : callF t n k vs S X Q := by
  unfold callF; simp only [h]; exact ⟨hl, q⟩

/-! what lies in the heap -/
inductive CompAt (S : H) (v : V) (c : Int × Int) : Prop where
  | mk (q : _) (i : _) (hh1 : v = .ref q) (hh2 : Ob 2 S q (.inst 2 [(29, .int i), (30, .int c.1), (31, .int c.2), (32, .int 0)]))
noncomputable def Fm.Ok (F : Fm) : Prop := F.comps.length ≤ 5 ∧ F.kind ≤ 2 ∧ ∀ c ∈ F.comps, 0 ≤ c.1 ∧ c.1 ≤ 10 ∧ 0 ≤ c.2 ∧ c.2 ≤ 10
inductive FrameAt (S : H) (f : Nat) (F : Fm) : Prop where
  | mk (hh1 : F.Ok) (cl : _) (refs : _) (hh2 : Ob 2 S f (.inst 3 [(33, .str F.kind), (34, .int 8), (35, .int 3), (36, .int 3), (37, .ref cl), (38, .int 2)])) (hh3 : Ob 2 S cl (.list refs)) (hh4 : Each (CompAt S) refs F.comps)
inductive ScanAt (S : H) (s : Nat) (R : Row) : Prop where
  | mk (p : _) (d : _) (a : _) (hh1 : Ob 2 S s (.inst 0 [(3, .ref p), (4, .ref d), (5, .ref a), (6, .int R.st), (7, .int R.en), (8, .int R.hi), (9, .int R.lo)])) (hh2 : Ob 2 S p (.list (R.pl.map V.int))) (hh3 : Ob 2 S d (.list (R.dc.map V.int))) (hh4 : Ob 2 S a (.list (R.ac.map V.int)))
inductive RowN (b : Nat) (S : H) (s : Nat) (R : Row) : Prop where
  | mk (p : _) (d : _) (a : _) (hh1 : Ob b S s (.list [.ref p, .ref d, .ref a, .int R.st, .int R.en, .int R.hi, .int R.lo])) (hh2 : Ob b S p (.list (R.pl.map V.int))) (hh3 : Ob b S d (.list (R.dc.map V.int))) (hh4 : Ob b S a (.list (R.ac.map V.int)))
abbrev RowAt (S : H) (s : Nat) (R : Row) : Prop := RowN 2 S s R
theorem CompAt.ext {S S' : H} {v : V} {c : Int × Int} (h : CompAt S v c) (e : Ext S S') : CompAt S' v c := by
  obtain ⟨q, i, h1, h2⟩ := h; exact ⟨q, i, h1, h2.ext e (Nat.le_refl _)⟩
theorem FrameAt.ext {S S' : H} {f : Nat} {F : Fm} (h : FrameAt S f F) (e : Ext S S') : FrameAt S' f F := by
  obtain ⟨h0, cl, refs, h1, h2, h3⟩ := h; exact ⟨h0, cl, refs, h1.ext e (Nat.le_refl _), h2.ext e (Nat.le_refl _), h3.mono fun _ _ h => h.ext e⟩
theorem ScanAt.ext {S S' : H} {s : Nat} {R : Row} (h : ScanAt S s R) (e : Ext S S') : ScanAt S' s R := by
  obtain ⟨p, d, a, h1, h2, h3, h4⟩ := h; exact ⟨p, d, a, h1.ext e (Nat.le_refl _), h2.ext e (Nat.le_refl _), h3.ext e (Nat.le_refl _), h4.ext e (Nat.le_refl _)⟩
theorem RowAt.ext {S S' : H} {s : Nat} {R : Row} (h : RowAt S s R) (e : Ext S S') : RowAt S' s R := by
  obtain ⟨p, d, a, h1, h2, h3, h4⟩ := h; exact ⟨p, d, a, h1.ext e (Nat.le_refl _), h2.ext e (Nat.le_refl _), h3.ext e (Nat.le_refl _), h4.ext e (Nat.le_refl _)⟩

theorem intsO_map (l : List Int) : intsO (l.map V.int) = some l := by
  induction l with
  | nil => rfl
  | cons a r ih => simp [intsO, ih]
theorem nth_nat {vs : List V} {j : Int} (h : 0 ≤ j) : nth vs j = vs[j.toNat]? := by unfold nth; rw [if_pos h]

section
variable {n : Nat} {S : H} {X : H → Prop} {Q : V → H → Prop} {F : Fm} {R : Row} {f s : Nat}

theorem c_slot_of {p : Int} (q : Q (.int (if p = 0 then 0 else 1)) S) : callF T0 (n + 10) 8 [.int p] S X Q := by
  refine callF_of (show T0.fn 8 = some (p8, b8) from rfl) rfl ?_
  unfold b8
  with_reducible refine x_cons (x_ret (s_ite (t_cmp ?_)))
  none_booked
  with_reducible refine s_ch1 (s_con (k_eqI ?_))
  refine i_d (fun h => ?_) (fun h => ?_)
  · with_reducible refine s_con (x_seqS (x_finS ?_))
    rw [if_pos h] at q; exact q
  · with_reducible refine s_con (x_seqS (x_finS ?_))
    rw [if_neg h] at q; exact q

theorem c_is_alone (hs : ScanAt S s R) (hw : R.Wf) (q : Q (.bool (decide (R.pl.length = 1))) S) : callF T0 (n + 10) 31 [.ref s] S X Q := by
  obtain ⟨p, d, a, h1, h2, h3, h4⟩ := hs
  have := hw.2.2
  refine callF_of (show T0.fn 31 = some (p31, b31) from rfl) rfl ?_
  unfold b31
  with_reducible refine x_cons (x_ret (s_cmp (s_blt (s_evs1 (s_attr ?_)))))
  none_booked
  none_booked
  with_reducible refine s_evs0 ?_
  none_booked
  with_reducible refine s_ch1 (s_con (k_eqI (x_seqS (x_finS ?_))))
  have e : decide ((((R.pl.map V.int).length : Nat) : Int) = 1) = decide (R.pl.length = 1) := by
    rw [List.length_map]; exact decide_eq_decide.mpr (by lia)
  rw [e]; exact q

/-- the component at a place -/
theorem comp_at {cl : Nat} {refs : List V} (hF : F.Ok) (h3 : Each (CompAt S) refs F.comps) {p : Int} (h0 : 0 ≤ p) (h1 : p < F.comps.length) :
    ∃ q i, nth refs p = some (.ref q) ∧ Ob 2 S q (.inst 2 [(29, .int i), (30, .int (compOf F p).1), (31, .int (compOf F p).2), (32, .int 0)]) ∧ 0 ≤ (compOf F p).1 ∧ (compOf F p).1 ≤ 10 ∧ 0 ≤ (compOf F p).2 ∧ (compOf F p).2 ≤ 10 := by
  have hlt : p.toNat < F.comps.length := by lia
  have e : F.comps[p.toNat]? = some (compOf F p) := by unfold compOf; rw [List.getD_eq_getElem?_getD, List.getElem?_eq_getElem hlt]; rfl
  obtain ⟨v, hv, q, i, rfl, hq⟩ := h3.getR e
  have hm := hF.2.2 _ (List.mem_of_getElem? e)
  exact ⟨q, i, by rw [nth_nat h0]; exact hv, hq, hm⟩
theorem small_mul {a b : Int} (h1 : 0 ≤ a) (h2 : a ≤ 10) (h3 : 0 ≤ b) (h4 : b ≤ 10) : (a * b).natAbs ≤ 100 := by
  rw [Int.natAbs_mul]
  have : a.natAbs ≤ 10 := by lia
  have : b.natAbs ≤ 10 := by lia
  exact Nat.le_trans (Nat.mul_le_mul ‹_› ‹_›) (by decide)

theorem c_blocks (hS : Src S) (hf : FrameAt S f F) (hs : ScanAt S s R) (hw : R.Wf) (hr : ∀ p ∈ R.pl, 0 ≤ p ∧ p < F.comps.length) (k1 : R.pl.length = 1 → Q (.int 1) S) (k2 : R.pl.length ≠ 1 → ∀ S', Ext S S' → Q (.int (blocks F R.pl)) S') :
    callF T0 (n + 30) 0 [.ref f, .ref s] S X Q := by
  obtain ⟨hF, cl, refs, f1, f2, f3⟩ := id hf
  obtain ⟨p, d, a, h1, h2, h3, h4⟩ := id hs
  have hw3 := hw.2.2
  have hl := hS.len
  refine callF_of (show T0.fn 0 = some (p0, b0) from rfl) rfl ?_
  unfold b0
  with_reducible refine x_cons (x_ife (t_meth (s_meth ?_)))
  none_booked
  refine s_methK h1 (show T0.mth 0 0 = some 31 from rfl) ?_
  with_reducible refine s_evs0 ?_
  refine c_is_alone hs hw ?_
  with_reducible refine s_isB ?_
  refine i_d (fun h => ?_) (fun h => ?_)
  · with_reducible refine x_cons (x_ret (s_con (x_seqS (x_seqS (x_finS ?_)))))
    exact k1 h
  · with_reducible refine x_nil (x_seqN (x_cons (x_ret (s_blt (s_evs1 (s_comp (s_attr ?_)))))))
    none_booked
    none_booked
    refine compK_pure (fun _ => true) (fun v => match v with | .int p => .int ((compOf F p).1 * (compOf F p).2) | _ => .none) (fun S' e => items_list (h2.ext e (Nat.le_refl _))) (by rw [List.length_map]; unfold LIM; lia) hS (fun v hv S' e hs' => ⟨fun K hk => s_bo0 hk, fun _ K hk => ?_⟩) ?_
    · obtain ⟨pp, hpp, rfl⟩ := List.mem_map.mp hv
      obtain ⟨r1, r2⟩ := hr pp hpp
      obtain ⟨qc, i, hn, hq, b1, b2, b3, b4⟩ := comp_at (cl := cl) hF f3 r1 r2
      have hq' := hq.ext e (Nat.le_refl _)
      have f1' := f1.ext e (Nat.le_refl _)
      have f2' := f2.ext e (Nat.le_refl _)
      have hrl : refs.length ≤ LIM := by rw [f3.len]; have := hF.1; unfold LIM; lia
      with_reducible refine s_bin (s_attr (s_idx (s_attr ?_)))
      none_booked
      none_booked
      none_booked
      refine g_idx f2' hrl hn ?_
      none_booked
      with_reducible refine s_attr (s_idx (s_attr ?_))
      none_booked
      none_booked
      none_booked
      refine g_idx f2' hrl hn ?_
      none_booked
      exact o_mul (.inl (by lia)) hk
    · with_reducible refine s_evs0 ?_
      have e1 : (((R.pl.map V.int).filter fun _ => true).map fun v => match v with | .int p => V.int ((compOf F p).1 * (compOf F p).2) | _ => .none) = (R.pl.map fun p => (compOf F p).1 * (compOf F p).2).map V.int := by
        rw [List.filter_eq_self.mpr (fun _ _ => rfl), List.map_map, List.map_map]; rfl
      rw [e1]
      refine o_sum (ns := R.pl.map fun p => (compOf F p).1 * (compOf F p).2) (Ob.new (Nat.zero_le _)) (by simp; lia) (intsO_map _) (fun i hi => ?_) ?_
      · obtain ⟨pp, hpp, rfl⟩ := List.mem_map.mp hi
        obtain ⟨r1, r2⟩ := hr pp hpp
        obtain ⟨qc, i, hn, hq, b1, b2, b3, b4⟩ := comp_at (cl := cl) hF f3 r1 r2
        have := small_mul b1 b2 b3 b4
        lia
      · with_reducible refine x_seqS (x_finS ?_)
        exact k2 h _ (.push1 _)
end

section
variable {n : Nat} {S : H} {X : H → Prop} {Q : V → H → Prop} {F : Fm} {R : Row} {f s : Nat}

theorem c_check_places (hS : Src S) (hf : FrameAt S f F) (hs : ScanAt S s R) (hw : R.Wf) (x : ¬ Places F R → ∀ S', Ext S S' → X S') (k : Places F R → ∀ S', Ext S S' → Q .none S') :
    callF T0 (n + 50) 1 [.ref f, .ref s] S X Q := by
  obtain ⟨hF, cl, refs, f1, f2, f3⟩ := id hf
  obtain ⟨p, d, a, h1, h2, h3, h4⟩ := id hs
  have hw3 := hw.2.2
  have hl := hS.len
  have hcl : refs.length ≤ 5 := by rw [f3.len]; exact hF.1
  refine callF_of (show T0.fn 1 = some (p1, b1) from rfl) rfl ?_
  unfold b1
  with_reducible refine x_cons (x_ife (t_not (t_cmp (s_con (s_ch2 (s_blt (s_evs1 (s_attr ?_))))))))
  none_booked
  none_booked
  with_reducible refine s_evs0 ?_
  none_booked
  with_reducible refine k_le ?_
  refine i_d (fun c1 => ?_) (fun c1 => ?_)
  rotate_left
  · with_reducible refine i_nff (x_cons (x_raise ?_))
    refine x (fun h => c1 ?_) _ .refl
    have := h.len; simp only [List.length_map]; lia
  with_reducible refine s_ch1 (s_g0 (k_le ?_))
  refine i_n (fun c2 => ?_) (fun c2 => ?_)
  · with_reducible refine x_cons (x_raise ?_)
    refine x (fun h => c2 ?_) _ .refl
    have := h.len; simp only [List.length_map]; lia
  with_reducible refine x_nil (x_seqN (x_cons (x_asg (s_con (x_seqN (x_cons (x_forv (s_attr ?_))))))))
  none_booked
  none_booked
  simp only [List.length_map] at c1 c2
  refine forI_list h2 (by rw [List.length_map]; unfold LIM; lia) ?_
  refine for_inv (fun l fr S' => An4 (S' = S) (fr 10 = some (.ref f)) (fr 11 = some (.ref s)) (Xn3 fun (dn : List Int) (rest : List Int) (ahead : Int) => An7 (dn ++ rest = R.pl) (l = rest.map V.int) (fr 12 = some (.int ahead)) (∀ q ∈ dn, 0 ≤ q ∧ q < F.comps.length) (dn.Pairwise (· < ·)) (∀ q ∈ dn, q ≤ ahead) (ahead = -1 ∨ ahead ∈ dn))) ?_ ?_ ?_ _ _ _ ⟨rfl, rfl, rfl, [], R.pl, -1, rfl, rfl, rfl, by simp, .nil, by simp, .inl rfl⟩
  · rintro l fr S' ⟨rfl, _⟩; exact items_list h2
  · rintro fr S' ⟨rfl, e10, e11, dn, rest, ahead, hd, hr, e12, g1, g2, g3, g4⟩
    have : rest = [] := by cases rest with | nil => rfl | cons => cases hr
    subst this
    rw [List.append_nil] at hd
    subst hd
    with_reducible refine x_seqN (x_cons (x_ife (t_cmp (s_call (s_evs1 ?_)))))
    none_booked
    with_reducible refine s_evs1 ?_
    none_booked
    with_reducible refine s_evs0 ?_
    have pl : R.pl.length = 1 ∨ R.pl.length ≠ 1 := by lia
    have done : (1 < R.pl.length → blocks F R.pl ≤ 10) → Places F R := fun hb => ⟨⟨by lia, by lia⟩, g1, g2, hb⟩
    refine c_blocks hS hf hs hw g1 (fun h => ?_) (fun h S' e => ?_)
    · with_reducible refine s_ch1 (s_g1 (k_gt ?_))
      refine i_d (fun c => ?_) (fun c => ?_)
      · lia
      · with_reducible refine x_nil (x_seqN (x_nil (x_finN ?_)))
        exact k (done fun q => by lia) _ .refl
    · with_reducible refine s_ch1 (s_g1 (k_gt ?_))
      refine i_d (fun c => ?_) (fun c => ?_)
      · with_reducible refine x_cons (x_raise ?_)
        refine x (fun h' => ?_) _ e
        have := h'.blk (by lia)
        lia
      · with_reducible refine x_nil (x_seqN (x_nil (x_finN ?_)))
        exact k (done fun q => by lia) _ e
  · rintro v r fr S' ⟨rfl, e10, e11, dn, rest, ahead, hd, hr, e12, g1, g2, g3, g4⟩ K kn ks
    cases rest with
    | nil => cases hr
    | cons pp rest =>
      rw [List.map_cons] at hr
      cases hr
      show exs _ _ (upd fr 13 (.int pp)) _ _
      have hmem : pp ∈ R.pl := by rw [← hd]; simp
      with_reducible refine x_cons (x_ife (t_not (t_cmp (s_con (s_ch2 ?_)))))
      none_booked
      with_reducible refine k_le ?_
      refine i_d (fun c3 => ?_) (fun c3 => ?_)
      rotate_left
      · with_reducible refine i_nff (x_cons (x_raise ?_))
        exact x (fun h => c3 (h.rng pp hmem).1) _ .refl
      with_reducible refine s_ch1 (s_blt (s_evs1 (s_attr ?_)))
      none_booked
      none_booked
      with_reducible refine s_evs0 ?_
      none_booked
      with_reducible refine k_lt ?_
      refine i_n (fun c4 => ?_) (fun c4 => ?_)
      · with_reducible refine x_cons (x_raise ?_)
        exact x (fun h => c4 (by rw [f3.len]; exact (h.rng pp hmem).2)) _ .refl
      with_reducible refine x_nil (x_seqN (x_cons (x_ife (t_cmp ?_))))
      none_booked
      with_reducible refine s_ch1 ?_
      none_booked
      with_reducible refine k_le ?_
      refine i_d (fun c5 => ?_) (fun c5 => ?_)
      · with_reducible refine x_cons (x_raise ?_)
        refine x (fun h => ?_) _ .refl
        rcases g4 with rfl | g4
        · lia
        · have := h.inc
          rw [← hd] at this
          have := (List.pairwise_append.mp this).2.2 ahead g4 pp (by simp)
          lia
      with_reducible refine x_nil (x_seqN (x_cons (x_asg ?_)))
      none_booked
      with_reducible refine x_seqN (x_nil ?_)
      refine kn _ _ ⟨rfl, e10, e11, dn ++ [pp], rest, pp, by rw [← hd]; simp, rfl, rfl, fun q hq => ?_, ?_, fun q hq => ?_, .inr (by simp)⟩
      · rcases List.mem_append.mp hq with hq | hq
        · exact g1 q hq
        · rw [List.mem_singleton] at hq; subst hq; rw [f3.len] at c4; exact ⟨c3, c4⟩
      · rw [List.pairwise_append]
        refine ⟨g2, by simp, fun y hy z hz => ?_⟩
        rw [List.mem_singleton] at hz; subst hz
        have := g3 y hy; lia
      · rcases List.mem_append.mp hq with hq | hq
        · have := g3 q hq; lia
        · rw [List.mem_singleton] at hq; lia

theorem c_check_slots (hS : Src S) (hf : FrameAt S f F) (hs : ScanAt S s R) (hw : R.Wf) (x : ¬ Slots F R → ∀ S', Ext S S' → X S') (k : Slots F R → ∀ S', Ext S S' → Q .none S') :
    callF T0 (n + 50) 2 [.ref f, .ref s] S X Q := by
  obtain ⟨hF, cl, refs, f1, f2, f3⟩ := id hf
  obtain ⟨p, d, a, h1, h2, h3, h4⟩ := id hs
  obtain ⟨w1, w2, w3⟩ := id hw
  have hl := hS.len
  refine callF_of (show T0.fn 2 = some (p2, b2) from rfl) rfl ?_
  unfold b2
  with_reducible refine x_cons (x_ife (t_bop (s_boTf (t_cmp (s_blt (s_evs1 (s_attr ?_)))))))
  none_booked
  none_booked
  with_reducible refine s_evs0 ?_
  none_booked
  with_reducible refine s_ch1 (s_blt (s_evs1 (s_attr ?_)))
  none_booked
  none_booked
  with_reducible refine s_evs0 ?_
  none_booked
  with_reducible refine k_neI ?_
  refine i_df (fun c1 => ?_) (fun c1 => ?_)
  rotate_left
  · exact absurd (by simp only [List.length_map]; lia) c1
  with_reducible refine s_boTf (t_cmp (s_blt (s_evs1 (s_attr ?_))))
  none_booked
  none_booked
  with_reducible refine s_evs0 ?_
  none_booked
  with_reducible refine s_ch1 (s_blt (s_evs1 (s_attr ?_)))
  none_booked
  none_booked
  with_reducible refine s_evs0 ?_
  none_booked
  with_reducible refine k_neI ?_
  refine i_df (fun c2 => ?_) (fun c2 => ?_)
  rotate_left
  · exact absurd (by simp only [List.length_map]; lia) c2
  have loop : ∀ (m : Int) (S1 : H) (fr : Fr) (l : Nat), m = most F → Ext S S1 → Ob 0 S1 l (.list ((R.dc ++ R.ac).map V.int)) → fr 14 = some (.int m) →
      forI (bnd1 15) (fun fr S Q => exs (fun s fr S Q => ex T0 (n + 49) s fr S X Q) [.ife (.not (.cmp (.con (.int 0)) [(.le, (.var 15)), (.le, (.var 14))])) [.raise] []] fr S Q) fr (seqK (fun s fr S Q => ex T0 (n + 50) s fr S X Q) [] (fin Q)) (.ref l) S1 := by
    intro m S1 fr l hm e hl' h14
    subst hm
    refine forI_list hl' (by rw [List.length_map, List.length_append]; unfold LIM; lia) ?_
    refine for_inv (fun l fr S' => An3 (S' = S1) (fr 14 = some (.int (most F))) (Xn2 fun (dn : List Int) (rest : List Int) => An3 (dn ++ rest = R.dc ++ R.ac) (l = rest.map V.int) (∀ q ∈ dn, 0 ≤ q ∧ q ≤ most F))) ?_ ?_ ?_ _ _ _ ⟨rfl, h14, [], R.dc ++ R.ac, rfl, rfl, by simp⟩
    · rintro l fr S' ⟨rfl, _⟩; exact items_list hl'
    · rintro fr S' ⟨rfl, e14, dn, rest, hd, hr, g1⟩
      have : rest = [] := by cases rest with | nil => rfl | cons => cases hr
      subst this
      rw [List.append_nil] at hd
      subst hd
      with_reducible refine x_seqN (x_nil (x_finN ?_))
      exact k g1 _ e
    · rintro v r fr S' ⟨rfl, e14, dn, rest, hd, hr, g1⟩ K kn ks
      cases rest with
      | nil => cases hr
      | cons pp rest =>
        rw [List.map_cons] at hr
        cases hr
        show exs _ _ (upd fr 15 (.int pp)) _ _
        have hmem : pp ∈ R.dc ++ R.ac := by rw [← hd]; simp
        with_reducible refine x_cons (x_ife (t_not (t_cmp (s_con (s_ch2 ?_)))))
        none_booked
        with_reducible refine k_le ?_
        refine i_d (fun c3 => ?_) (fun c3 => ?_)
        rotate_left
        · with_reducible refine i_nff (x_cons (x_raise ?_))
          exact x (fun h => c3 (h pp hmem).1) _ e
        with_reducible refine s_ch1 ?_
        none_booked
        with_reducible refine k_le ?_
        refine i_n (fun c4 => ?_) (fun c4 => ?_)
        · with_reducible refine x_cons (x_raise ?_)
          exact x (fun h => c4 (h pp hmem).2) _ e
        with_reducible refine x_nil (x_seqN (x_nil ?_))
        refine kn _ _ ⟨rfl, e14, dn ++ [pp], rest, by rw [← hd]; simp, rfl, fun q hq => ?_⟩
        rcases List.mem_append.mp hq with hq | hq
        · exact g1 q hq
        · rw [List.mem_singleton] at hq; subst hq; exact ⟨c3, c4⟩
  have fin1 : ∀ (m : Int), m = most F → ∀ (fr : Fr), fr 11 = some (.ref s) → exs (fun s fr S Q => ex T0 (n + 50) s fr S X Q) [.forv 15 (.bin .add (.blt .list [(.attr (.var 11) 4)]) (.blt .list [(.attr (.var 11) 5)])) [.ife (.not (.cmp (.con (.int 0)) [(.le, (.var 15)), (.le, (.var 14))])) [.raise] []]] (upd fr 14 (.int m)) S (fin Q) := by
    intro m hm fr e11
    with_reducible refine x_cons (x_forv (s_bin (s_blt (s_evs1 (s_attr ?_)))))
    none_booked
    none_booked
    with_reducible refine s_evs0 ?_
    refine o_listL h3 (by rw [List.length_map]; unfold LIM; lia) ?_
    with_reducible refine s_blt (s_evs1 (s_attr ?_))
    none_booked
    none_booked
    with_reducible refine s_evs0 ?_
    refine o_listL (h4.push) (by rw [List.length_map]; unfold LIM; lia) ?_
    refine o_addL (b := 0) (b' := 0) (Ob.push (Ob.new (Nat.zero_le _))) (Ob.new (Nat.zero_le _)) (by simp only [List.length_map]; unfold LIM; lia) ?_
    refine loop m _ _ _ hm (((Ext.push1 _).push _).push _) ?_ rfl
    rw [← List.map_append]
    exact Ob.new (Nat.zero_le _)
  with_reducible refine s_bo0 (i_ft (x_nil (x_seqN (x_cons (x_asg (s_ite (t_cmp (s_attr ?_))))))))
  none_booked
  none_booked
  with_reducible refine s_ch1 (s_con (k_eqS ?_))
  refine i_d (fun c3 => ?_) (fun c3 => ?_)
  · refine s_con (x_seqN ?_)
    refine fin1 1 (by unfold most; rw [if_pos c3]) _ ?_
    rfl
  · refine s_con (x_seqN ?_)
    refine fin1 3 (by unfold most; rw [if_neg c3]) _ ?_
    rfl

theorem c_check_prog (hs : ScanAt S s R) (hw : R.Wf) (x : ¬ Prog R → X S) (k : Prog R → Q .none S) : callF T0 (n + 50) 4 [.ref s, .int 3] S X Q := by
  obtain ⟨p, d, a, h1, h2, h3, h4⟩ := id hs
  refine callF_of (show T0.fn 4 = some (p4, b4) from rfl) rfl ?_
  unfold b4
  have rest1 : (0 ≤ R.st ∧ R.st ≤ R.en ∧ R.en ≤ 3) → (R.st = 0 → R.en = 0) → (R.st ≠ 0 → R.pl.length = 1) → ∀ (fr : Fr), fr 11 = some (.ref s) → exs (fun s fr S Q => ex T0 (n + 50) s fr S X Q) [
      .ife (.not (.cmp (.con (.int 0)) [(.le, (.attr (.var 11) 9)), (.le, (.gcon 2))])) [.raise] [],
      .ife (.bop true [(.cmp (.attr (.var 11) 8) [(.ne, (.con (.int 0)))]), (.cmp (.attr (.var 11) 8) [(.ne, (.bin .add (.attr (.var 11) 9) (.con (.int 1))))])]) [.raise] []] fr S (fin Q) := by
    intro r1 r2 r3 fr e11
    with_reducible refine x_cons (x_ife (t_not (t_cmp (s_con (s_ch2 (s_attr ?_))))))
    none_booked
    none_booked
    with_reducible refine k_le ?_
    refine i_d (fun c => ?_) (fun c => ?_)
    rotate_left
    · with_reducible refine i_nff (x_cons (x_raise ?_))
      exact x fun h => c h.low.1
    with_reducible refine s_ch1 (s_g2 (k_le ?_))
    refine i_n (fun c' => ?_) (fun c' => ?_)
    · with_reducible refine x_cons (x_raise ?_)
      exact x fun h => c' h.low.2
    with_reducible refine x_nil (x_seqN (x_cons (x_ife (t_bop (s_boTt (t_cmp (s_attr ?_)))))))
    none_booked
    none_booked
    with_reducible refine s_ch1 (s_con (k_neI ?_))
    refine i_d (fun c2 => ?_) (fun c2 => ?_)
    · with_reducible refine s_boTt (t_cmp (s_attr ?_))
      none_booked
      none_booked
      with_reducible refine s_ch1 (s_bin (s_attr ?_))
      none_booked
      none_booked
      with_reducible refine s_con (o_add (k_neI ?_))
      refine i_d (fun c3 => ?_) (fun c3 => ?_)
      · with_reducible refine s_bo0 (i_tt (x_cons (x_raise ?_)))
        exact x fun h => c3 (h.fin c2)
      · with_reducible refine i_ft (x_nil (x_seqN (x_nil (x_finN ?_))))
        exact k ⟨r1, r2, r3, ⟨c, c'⟩, fun _ => by lia⟩
    · with_reducible refine i_ft (x_nil (x_seqN (x_nil (x_finN ?_))))
      exact k ⟨r1, r2, r3, ⟨c, c'⟩, fun h => absurd h c2⟩
  have rest2 : (0 ≤ R.st ∧ R.st ≤ R.en ∧ R.en ≤ 3) → (R.st = 0 → R.en = 0) → ∀ (fr : Fr), fr 11 = some (.ref s) → exs (fun s fr S Q => ex T0 (n + 50) s fr S X Q) [
      .ife (.bop true [(.cmp (.attr (.var 11) 6) [(.ne, (.con (.int 0)))]), (.not (.meth (.var 11) 0 []))]) [.raise] [],
      .ife (.not (.cmp (.con (.int 0)) [(.le, (.attr (.var 11) 9)), (.le, (.gcon 2))])) [.raise] [],
      .ife (.bop true [(.cmp (.attr (.var 11) 8) [(.ne, (.con (.int 0)))]), (.cmp (.attr (.var 11) 8) [(.ne, (.bin .add (.attr (.var 11) 9) (.con (.int 1))))])]) [.raise] []] fr S (fin Q) := by
    intro r1 r2 fr e11
    refine x_cons ?_
    with_reducible refine x_ife (t_bop (s_boTt (t_cmp (s_attr ?_))))
    none_booked
    none_booked
    with_reducible refine s_ch1 (s_con (k_neI ?_))
    refine i_d (fun c => ?_) (fun c => ?_)
    · with_reducible refine s_boTt (t_not (t_meth (s_meth ?_)))
      none_booked
      refine s_methK h1 (show T0.mth 0 0 = some 31 from rfl) ?_
      with_reducible refine s_evs0 ?_
      refine c_is_alone hs hw ?_
      with_reducible refine s_isB ?_
      refine i_n (fun c2 => ?_) (fun c2 => ?_)
      · with_reducible refine s_bo0 (i_tt (x_cons (x_raise ?_)))
        exact x fun h => c2 (h.ac c)
      · refine i_ft (x_nil (x_seqN ?_))
        exact rest1 r1 r2 (fun _ => c2) fr e11
    · refine i_ft (x_nil (x_seqN ?_))
      exact rest1 r1 r2 (fun h => absurd h c) fr e11
  with_reducible refine x_cons (x_ife (t_not (t_cmp (s_con (s_ch2 (s_attr ?_))))))
  none_booked
  none_booked
  with_reducible refine k_le ?_
  refine i_d (fun c1 => ?_) (fun c1 => ?_)
  rotate_left
  · with_reducible refine i_nff (x_cons (x_raise ?_))
    exact x fun h => c1 h.rng.1
  with_reducible refine s_ch2 (s_attr ?_)
  none_booked
  none_booked
  with_reducible refine k_le ?_
  refine i_d (fun c2 => ?_) (fun c2 => ?_)
  rotate_left
  · with_reducible refine i_nff (x_cons (x_raise ?_))
    exact x fun h => c2 h.rng.2.1
  with_reducible refine s_ch1 ?_
  none_booked
  with_reducible refine k_le ?_
  refine i_n (fun c3 => ?_) (fun c3 => ?_)
  · with_reducible refine x_cons (x_raise ?_)
    exact x fun h => c3 h.rng.2.2
  refine x_nil (x_seqN (x_cons ?_))
  with_reducible refine x_ife (t_bop (s_boTt (t_cmp (s_attr ?_))))
  none_booked
  none_booked
  with_reducible refine s_ch1 (s_con (k_eqI ?_))
  refine i_d (fun c4 => ?_) (fun c4 => ?_)
  · with_reducible refine s_boTt (t_cmp (s_attr ?_))
    none_booked
    none_booked
    with_reducible refine s_ch1 (s_con (k_neI ?_))
    refine i_d (fun c5 => ?_) (fun c5 => ?_)
    · with_reducible refine s_bo0 (i_tt (x_cons (x_raise ?_)))
      exact x fun h => c5 (h.dc c4)
    · refine i_ft (x_nil (x_seqN ?_))
      exact rest2 ⟨c1, c2, c3⟩ (fun _ => by lia) _ rfl
  · refine i_ft (x_nil (x_seqN ?_))
    exact rest2 ⟨c1, c2, c3⟩ (fun h => absurd h c4) _ rfl
end

section
variable {n : Nat} {S : H} {X : H → Prop} {Q : V → H → Prop} {F : Fm} {R : Row} {f s : Nat}

theorem c_check_band (hf : FrameAt S f F) (hs : ScanAt S s R) (hw : R.Wf) (x : ¬ Band F R → X S) (k : Band F R → Q .none S) : callF T0 (n + 70) 3 [.ref f, .ref s] S X Q := by
  obtain ⟨hF, cl, refs, f1, f2, f3⟩ := id hf
  obtain ⟨p, d, a, h1, h2, h3, h4⟩ := id hs
  have hk := hF.2.1
  refine callF_of (show T0.fn 3 = some (p3, b3) from rfl) rfl ?_
  unfold b3
  with_reducible refine x_cons (x_asg (s_bin (s_bin (s_attr ?_))))
  none_booked
  none_booked
  with_reducible refine s_attr ?_
  none_booked
  none_booked
  none_booked
  with_reducible refine s_con (o_sub (x_seqN (x_cons (x_ife (t_cmp (s_attr ?_))))))
  none_booked
  none_booked
  with_reducible refine s_ch1 (s_con (k_eqS ?_))
  refine i_d (fun c => absurd c (by lia)) (fun _ => ?_)
  with_reducible refine x_cons (x_ife (t_inK (s_inK (s_attr ?_))))
  none_booked
  none_booked
  with_reducible refine s_strK (s_isB ?_)
  by_cases hp : F.kind = 2
  · have e : (F.kind == 2 || F.kind == 4) = true := by rw [hp]; rfl
    rw [e]
    with_reducible refine i_tt (x_cons (x_expr (s_call (s_evs1 ?_))))
    none_booked
    with_reducible refine s_evs1 ?_
    none_booked
    with_reducible refine s_evs0 ?_
    refine c_check_prog hs hw (fun h => x fun hb => h ?_) (fun h => ?_)
    · unfold Band at hb; rw [if_pos hp] at hb; exact hb
    · with_reducible refine x_exprK (x_seqN (x_nil (x_seqN (x_nil (x_seqN (x_nil (x_finN ?_)))))))
      exact k (by unfold Band; rw [if_pos hp]; exact h)
  · have e : (F.kind == 2 || F.kind == 4) = false := by
      have h4' : F.kind ≠ 4 := by lia
      simp [hp, h4']
    rw [e]
    have no : ∀ h : ¬ (R.st = 0 ∧ R.en = 3 ∧ R.hi = 0 ∧ R.lo = 0), X S := fun h => x fun hb => h (by unfold Band at hb; rw [if_neg hp] at hb; exact hb)
    with_reducible refine i_ft (x_cons (x_ife (t_bop (s_boTf (t_cmp (s_attr ?_))))))
    none_booked
    none_booked
    with_reducible refine s_ch1 (s_con (k_neI ?_))
    refine i_df (fun c1 => ?_) (fun c1 => ?_)
    rotate_left
    · with_reducible refine i_tt (x_cons (x_raise ?_))
      exact no fun h => c1 h.1
    with_reducible refine s_boTf (t_cmp (s_attr ?_))
    none_booked
    none_booked
    with_reducible refine s_ch1 ?_
    none_booked
    with_reducible refine k_neI ?_
    refine i_df (fun c2 => ?_) (fun c2 => ?_)
    rotate_left
    · with_reducible refine i_tt (x_cons (x_raise ?_))
      exact no fun h => c2 (by lia)
    with_reducible refine s_boTf (t_cmp (s_attr ?_))
    none_booked
    none_booked
    with_reducible refine s_ch1 (s_con (k_neI ?_))
    refine i_df (fun c3 => ?_) (fun c3 => ?_)
    rotate_left
    · with_reducible refine i_tt (x_cons (x_raise ?_))
      exact no fun h => c3 h.2.2.1
    with_reducible refine s_boTf (t_cmp (s_attr ?_))
    none_booked
    none_booked
    with_reducible refine s_ch1 (s_con (k_neI ?_))
    refine i_df (fun c4 => ?_) (fun c4 => ?_)
    rotate_left
    · with_reducible refine i_tt (x_cons (x_raise ?_))
      exact no fun h => c4 h.2.2.2
    with_reducible refine s_bo0 (i_ft (x_nil (x_seqN (x_nil (x_seqN (x_nil (x_seqN (x_nil (x_finN ?_)))))))))
    exact k (by unfold Band; rw [if_neg hp]; lia)

/-! the state of a script: rows of four, each its own -/
structure KnX (b : Nat) (S : H) (s kl : Nat) (qs : List Nat) (m : Nat) (kn : Kn) : Prop where
  inst : Ob 2 S s (.inst 1 [(56, .ref kl)])
  known : Ob 2 S kl (.list (qs.map V.ref))
  len : qs.length = m
  nd : qs.Nodup
  fresh : ∀ q ∈ qs, b ≤ q
  row : ∀ (i q : Nat), qs[i]? = some q → Ob 2 S q (.list ((List.range 4).map fun a => V.int (kn i a)))
noncomputable def KnAt (b : Nat) (S : H) (s : Nat) (m : Nat) (kn : Kn) : Prop := ∃ (kl : Nat) (qs : List Nat), KnX b S s kl qs m kn
theorem KnX.kn {b s m kl : Nat} {qs : List Nat} {kn kn' : Kn} (h : KnX b S s kl qs m kn) (e : ∀ p a, p < m → a < 4 → kn' p a = kn p a) : KnX b S s kl qs m kn' := by
  refine ⟨h.inst, h.known, h.len, h.nd, h.fresh, fun i q hq => ?_⟩
  have hi : i < m := by rw [← h.len]; exact (List.getElem?_eq_some_iff.mp hq).1
  have : ((List.range 4).map fun a => V.int (kn' i a)) = (List.range 4).map fun a => V.int (kn i a) := List.map_congr_left fun a ha => by rw [e i a hi (List.mem_range.mp ha)]
  rw [this]; exact h.row i q hq
theorem KnX.ext {b s m kl : Nat} {qs : List Nat} {S' : H} {kn : Kn} (h : KnX b S s kl qs m kn) (e : Ext S S') : KnX b S' s kl qs m kn :=
  ⟨h.inst.ext e (Nat.le_refl _), h.known.ext e (Nat.le_refl _), h.len, h.nd, h.fresh, fun i q hq => (h.row i q hq).ext e (Nat.le_refl _)⟩
theorem KnAt.ext {b : Nat} {S' : H} {s m : Nat} {kn : Kn} (h : KnAt b S s m kn) (e : Ext S S') : KnAt b S' s m kn := by
  obtain ⟨kl, qs, h⟩ := h; exact ⟨kl, qs, h.ext e⟩

theorem set_map (kn : Nat → Int) (j : Nat) (v : Int) : ((List.range 4).map fun a => V.int (kn a)).set j (.int v) = (List.range 4).map fun a => V.int (if a = j then v else kn a) := by
  apply List.ext_getElem?
  intro i
  rw [List.getElem?_set]
  by_cases h : j = i
  · subst h
    by_cases hl : j < 4
    · simp [hl]
    · simp [hl]
  · rw [if_neg h]
    simp only [List.getElem?_map]
    by_cases hl : i < 4
    · rw [List.getElem?_range hl]; simp [Ne.symm h]
    · simp [List.getElem?_eq_none (show (List.range 4).length ≤ i by simp; lia)]

/-- a row of the state is stored into -/
theorem KnX.set {b s m kl : Nat} {qs : List Nat} {kn : Kn} {i q j : Nat} {v : Int} (h : KnX b S s kl qs m kn) (hq : qs[i]? = some q) :
    KnX b (S.set q (.list (((List.range 4).map fun a => V.int (kn i a)).set j (.int v)))) s kl qs m (fun p a => if p = i ∧ a = j then v else kn p a) := by
  have hm := List.mem_of_getElem? hq
  have hs : s ∉ qs := fun hm' => by
    obtain ⟨i', hi'⟩ := List.getElem?_of_mem hm'
    exact absurd (h.inst.inj (h.row i' s hi')) (by simp)
  have hk : kl ∉ qs := fun hm' => by
    obtain ⟨i', hi'⟩ := List.getElem?_of_mem hm'
    have := h.known.inj (h.row i' kl hi')
    injection this with this
    have h0 := congrArg (fun l => l[0]?) this
    simp at h0
  refine ⟨h.inst.set_ne (by rintro rfl; exact hs hm), h.known.set_ne (by rintro rfl; exact hk hm), h.len, h.nd, h.fresh, fun i' q' hq' => ?_⟩
  by_cases hi : i' = i
  · subst hi
    rw [hq] at hq'; cases hq'
    have := (h.row i' q hq).set_self (o' := .list (((List.range 4).map fun a => V.int (kn i' a)).set j (.int v)))
    have e : ((List.range 4).map fun a => V.int (if i' = i' ∧ a = j then v else kn i' a)) = ((List.range 4).map fun a => V.int (kn i' a)).set j (.int v) := by
      rw [set_map]; simp
    rw [e]; exact this
  · have e : ((List.range 4).map fun a => V.int (if i' = i ∧ a = j then v else kn i' a)) = (List.range 4).map fun a => V.int (kn i' a) := by simp [hi]
    rw [e]
    refine (h.row i' q' hq').set_ne ?_
    rintro rfl
    have g1 := (List.getElem?_eq_some_iff.mp hq).2
    have g2 := (List.getElem?_eq_some_iff.mp hq').2
    exact hi ((List.getElem_inj h.nd).mp (g2.trans g1.symm))
theorem nth_row {kn : Nat → Int} {a : Nat} (ha : a < 4) : nth ((List.range 4).map fun a => V.int (kn a)) (a : Int) = some (.int (kn a)) := by
  rw [nth_nat (Int.natCast_nonneg a)]
  simp [ha]

theorem rng_cons {lo hi : Int} (h : lo < hi) : rngItems lo hi 1 = .int lo :: rngItems (lo + 1) hi 1 := by
  unfold rngItems rngLen
  rw [if_pos rfl, if_pos rfl, show (hi - lo).toNat = (hi - (lo + 1)).toNat + 1 by lia, List.range_succ_eq_map, List.map_cons, List.map_map]
  congr 1
  · simp
  · refine List.map_congr_left fun i _ => ?_
    simp only [Function.comp_apply, Nat.succ_eq_add_one]
    congr 1; lia
theorem rng_nil {lo hi : Int} (h : hi ≤ lo) : rngItems lo hi 1 = [] := by
  unfold rngItems rngLen
  rw [if_pos rfl, show (hi - lo).toNat = 0 by lia]; rfl

theorem c_follow {S0 : H} {st : Nat} {kn : Kn} (hS0 : Src S0) (e : Ext S0 S) (hf : FrameAt S0 f F) (hs : ScanAt S0 s R) (hw : R.Wf) (hv : Valid F R) (hk : KnAt S0.length S st F.comps.length kn)
    (x : ¬ FollowOk kn R → ∀ S', Ext S0 S' → X S') (k : FollowOk kn R → ∀ S', Ext S0 S' → KnAt S0.length S' st F.comps.length (tell kn R) → Q .none S') : callF T0 (n + 60) 33 [.ref st, .ref f, .ref s] S X Q := by
  obtain ⟨hF, cl, refs, f1, f2, f3⟩ := id hf
  obtain ⟨p, d, a, h1, h2, h3, h4⟩ := id hs
  obtain ⟨kl, qs, hx⟩ := hk
  have hkd := hF.2.1
  have hw3 := hw.2.2
  have hst : 0 ≤ R.st ∧ R.st ≤ R.en ∧ R.en ≤ 3 := by
    have band := hv.band
    unfold Band at band
    split at band
    · exact band.rng
    · obtain ⟨b1, b2, _⟩ := band; lia
  refine callF_of (show T0.fn 33 = some (p33, b33) from rfl) rfl ?_
  unfold b33
  have g1 := f1.ext e (Nat.le_refl _)
  have s1 := h1.ext e (Nat.le_refl _)
  have s2 := h2.ext e (Nat.le_refl _)
  with_reducible refine x_cons (x_asg (s_bin (s_bin (s_attr ?_))))
  none_booked
  none_booked
  with_reducible refine s_attr ?_
  none_booked
  none_booked
  none_booked
  with_reducible refine s_con (o_sub (x_seqN (x_cons (x_asg (s_ite (t_cmp (s_attr ?_)))))))
  none_booked
  none_booked
  with_reducible refine s_ch1 (s_con (k_eqS ?_))
  refine i_d (fun c => absurd c (by lia)) (fun _ => ?_)
  with_reducible refine s_attr ?_
  none_booked
  none_booked
  with_reducible refine x_seqN (x_cons (x_forv (s_attr ?_)))
  none_booked
  none_booked
  refine forI_list s2 (by rw [List.length_map]; unfold LIM; lia) ?_
  refine for_inv (fun l fr S' => An7 (Ext S0 S') (fr 1 = some (.ref st)) (fr 10 = some (.ref f)) (fr 11 = some (.ref s)) (fr 16 = some (.int (2 * 2 - 1))) (fr 6 = some (.int R.st)) (Xn3 fun (dn : List Int) (rest : List Int) (kn' : Kn) => An5 (dn ++ rest = R.pl) (l = rest.map V.int) (KnX S0.length S' st kl qs F.comps.length kn') (∀ p a, p < F.comps.length → a < 4 → kn' p a = if (p : Int) ∈ dn ∧ R.st ≤ (a : Int) ∧ (a : Int) ≤ R.en then R.lo else kn p a) (∀ q ∈ dn, (0 < R.st → kn q.toNat 0 ≠ -1) ∧ ∀ a : Nat, a < 4 → R.st ≤ a → (a : Int) ≤ R.en → (R.hi = 0 → kn q.toNat a = -1) ∧ (R.hi ≠ 0 → kn q.toNat a = R.hi)))) ?_ ?_ ?_ _ _ _
    ⟨e, rfl, rfl, rfl, rfl, rfl, [], R.pl, kn, rfl, rfl, hx, by simp, by simp⟩
  · rintro l fr S' ⟨e', _⟩; exact items_list (h2.ext e' (Nat.le_refl _))
  · rintro fr S' ⟨e', _, _, _, _, _, dn, rest, kn', hd, hr, hx', hkn, hok⟩
    have : rest = [] := by cases rest with | nil => rfl | cons => cases hr
    subst this
    rw [List.append_nil] at hd
    subst hd
    with_reducible refine x_seqN (x_nil (x_finN ?_))
    refine k hok _ e' ⟨kl, qs, hx'.kn fun p a hp ha => ?_⟩
    rw [hkn p a hp ha]
    unfold tell Cov; rfl
  · rintro v r fr S' ⟨e', e1, e10, e11, e16, e6, dn, rest, kn', hd, hr, hx', hkn, hok⟩ K kn1 ks
    cases rest with
    | nil => cases hr
    | cons pp rest =>
      rw [List.map_cons] at hr
      cases hr
      show exs _ _ (upd fr 13 (.int pp)) _ _
      have hmem : pp ∈ R.pl := by rw [← hd]; simp
      have hpr := hv.places.rng pp hmem
      have hpe : ((pp.toNat : Nat) : Int) = pp := by lia
      have hpm : pp.toNat < F.comps.length := by lia
      have hnd : pp ∉ dn := fun hq => by
        have := hv.places.inc
        rw [← hd] at this
        have := (List.pairwise_append.mp this).2.2 pp hq pp (by simp)
        lia
      have hkp : ∀ a, a < 4 → kn' pp.toNat a = kn pp.toNat a := fun a ha => by
        rw [hkn _ a hpm ha, if_neg]
        rintro ⟨h, _⟩
        rw [hpe] at h; exact hnd h
      have hql : pp.toNat < qs.length := by rw [hx'.len]; exact hpm
      have hq : qs[pp.toNat]? = some (qs[pp.toNat]) := List.getElem?_eq_getElem hql
      generalize hqe : qs[pp.toNat] = q at hq
      have hrow := hx'.row _ _ hq
      have i1 := hx'.inst
      have i2 := hx'.known
      have hml : qs.length ≤ 5 := by rw [hx'.len]; exact hF.1
      have hnth : nth (qs.map V.ref) pp = some (.ref q) := by rw [nth_nat hpr.1, List.getElem?_map, hq]; rfl
      have g1' := f1.ext e' (Nat.le_refl _)
      have s1' := h1.ext e' (Nat.le_refl _)
      have bad : ∀ {P : Prop}, P → (FollowOk kn R → ¬ P) → ∀ S'', Ext S0 S'' → X S'' := fun hP h S'' e'' => x (fun hfo => h hfo hP) S'' e''
      with_reducible refine x_cons (x_asg (s_idx (s_attr ?_)))
      none_booked
      none_booked
      none_booked
      refine g_idx i2 (by rw [List.length_map]; unfold LIM; lia) hnth ?_
      have inner : (0 < R.st → kn pp.toNat 0 ≠ -1) → exs (fun s fr S Q => ex T0 (n + 59) s fr S X Q) [.forv 18 (.blt .range [(.var 6), (.bin .add (.blt .min [(.attr (.var 11) 7), (.var 16)]) (.con (.int 1)))]) [.ife (.bop true [(.cmp (.attr (.var 11) 8) [(.eq, (.con (.int 0)))]), (.cmp (.idx (.var 17) (.var 18)) [(.ne, (.gcon 4))])]) [.raise] [], .ife (.bop true [(.cmp (.attr (.var 11) 8) [(.ne, (.con (.int 0)))]), (.cmp (.idx (.var 17) (.var 18)) [(.ne, (.attr (.var 11) 8))])]) [.raise] [], .asgIdx (.var 17) (.var 18) (.attr (.var 11) 9)]]
          (upd (upd fr 13 (.int pp)) 17 (.ref q)) S' K := by
        intro hdc
        have hmin : (if (2 * 2 - 1 : Int) < R.en then 2 * 2 - 1 else R.en) = R.en := if_neg (by lia)
        with_reducible refine x_cons (x_forv (s_blt (s_evs1 ?_)))
        none_booked
        with_reducible refine s_evs1 (s_bin (s_blt (s_evs1 (s_attr ?_))))
        none_booked
        none_booked
        with_reducible refine s_evs1 ?_
        none_booked
        with_reducible refine s_evs0 (o_min (s_con (o_add (s_evs0 ?_))))
        rw [hmin]
        refine o_range2 (by lia) (by lia) ?_
        refine forI_rng (by lia) (by lia) (.inl rfl) ?_
        refine for_inv (fun l fr S'' => An8 (Ext S0 S'') (fr 1 = some (.ref st)) (fr 10 = some (.ref f)) (fr 11 = some (.ref s)) (fr 16 = some (.int (2 * 2 - 1))) (fr 6 = some (.int R.st)) (fr 17 = some (.ref q)) (Xn2 fun (c : Int) (kn'' : Kn) => An6 (R.st ≤ c) (c ≤ R.en + 1) (l = rngItems c (R.en + 1) 1) (KnX S0.length S'' st kl qs F.comps.length kn'') (∀ (p' a' : Nat), kn'' p' a' = if p' = pp.toNat ∧ R.st ≤ (a' : Int) ∧ (a' : Int) < c then R.lo else kn' p' a') (∀ a' : Nat, R.st ≤ (a' : Int) → (a' : Int) < c → (R.hi = 0 → kn pp.toNat a' = -1) ∧ (R.hi ≠ 0 → kn pp.toNat a' = R.hi)))) ?_ ?_ ?_ _ _ _
          ⟨e', e1, e10, e11, e16, e6, rfl, R.st, kn', by lia, by lia, rfl, hx', fun p' a' => by rw [if_neg (by lia)], fun a' h1 h2 => by lia⟩
        · rintro l fr S'' _; exact items_rng (by lia) (by lia) (.inl rfl)
        · rintro fr S'' ⟨e'', a1, a10, a11, a16, a6, a17, c, kn'', b1, b2, hl, hx'', hkn'', hok''⟩
          have hc : c = R.en + 1 := by
            rcases Int.lt_or_le c (R.en + 1) with h | h
            · rw [rng_cons h] at hl; cases hl
            · lia
          subst hc
          with_reducible refine x_seqN (x_nil ?_)
          refine kn1 _ _ ⟨e'', a1, a10, a11, a16, a6, dn ++ [pp], rest, kn'', by rw [← hd]; simp, rfl, hx'', fun p' a' hp' ha' => ?_, fun q' hq' => ?_⟩
          · rw [hkn'']
            by_cases hpp : p' = pp.toNat
            · subst hpp
              by_cases hr' : R.st ≤ (a' : Int) ∧ (a' : Int) ≤ R.en
              · rw [if_pos ⟨rfl, by lia, by lia⟩, if_pos ⟨by rw [hpe]; simp, hr'⟩]
              · rw [if_neg (by lia), if_neg (fun h => hr' h.2), hkp a' ha']
            · rw [if_neg (fun h => hpp h.1), hkn _ _ hp' ha']
              have e9 : (p' : Int) ∈ dn ++ [pp] ↔ (p' : Int) ∈ dn := by
                rw [List.mem_append, List.mem_singleton]
                exact ⟨fun h => h.resolve_right (fun h => by lia), .inl⟩
              simp only [e9]
          · rcases List.mem_append.mp hq' with hq' | hq'
            · exact hok q' hq'
            · rw [List.mem_singleton] at hq'; subst hq'
              exact ⟨hdc, fun a' h1 h2 h3 => hok'' a' h2 (by lia)⟩
        · rintro v r fr S'' ⟨e'', a1, a10, a11, a16, a6, a17, c, kn'', b1, b2, hl, hx'', hkn'', hok''⟩ K' kn2 ks'
          have hc : c < R.en + 1 := by
            rcases Int.lt_or_le c (R.en + 1) with h | h
            · exact h
            · rw [rng_nil h] at hl; cases hl
          rw [rng_cons hc] at hl
          cases hl
          obtain ⟨cn, hcn⟩ : ∃ cn : Nat, c = (cn : Int) := ⟨c.toNat, by lia⟩
          subst hcn
          have hcn4 : cn < 4 := by lia
          show exs _ _ (upd fr 18 (.int (cn : Int))) _ _
          have s1'' := h1.ext e'' (Nat.le_refl _)
          have hrow'' := hx''.row _ _ hq
          have hval : kn'' pp.toNat cn = kn pp.toNat cn := by rw [hkn'', if_neg (by lia), hkp cn hcn4]
          have hrl : ((List.range 4).map fun a => V.int (kn'' pp.toNat a)).length ≤ LIM := by simp [LIM]
          have store : ((R.hi = 0 → kn pp.toNat cn = -1) ∧ (R.hi ≠ 0 → kn pp.toNat cn = R.hi)) → exs (fun s fr S Q => ex T0 (n + 58) s fr S X Q) [.asgIdx (.var 17) (.var 18) (.attr (.var 11) 9)] (upd fr 18 (.int (cn : Int))) S'' K' := by
            intro hok9
            with_reducible refine x_cons (x_asgIdx (s_attr ?_))
            none_booked
            none_booked
            none_booked
            none_booked
            refine g_setI hrow'' hrl (by lia) (by simp; lia) ?_
            with_reducible refine x_seqN (x_nil ?_)
            rw [Int.toNat_natCast]
            have hn := hx''.set (j := cn) (v := R.lo) hq
            refine kn2 _ _ ⟨e''.set (hx''.fresh q (List.mem_of_getElem? hq)) _, a1, a10, a11, a16, a6, a17, (cn : Int) + 1, _, by lia, by lia, rfl, hn, fun p' a' => ?_, fun a' h1 h2 => ?_⟩
            · rw [hkn'']
              by_cases hpp : p' = pp.toNat
              · subst hpp
                by_cases hac : a' = cn
                · subst hac
                  rw [if_pos ⟨rfl, rfl⟩, if_pos ⟨rfl, by lia, by lia⟩]
                · rw [if_neg (fun h => hac h.2)]
                  by_cases hr' : R.st ≤ (a' : Int) ∧ (a' : Int) < cn
                  · rw [if_pos ⟨rfl, hr'⟩, if_pos ⟨rfl, by lia, by lia⟩]
                  · rw [if_neg (fun h => hr' h.2), if_neg (fun h => hr' ⟨h.2.1, by lia⟩)]
              · rw [if_neg (fun h => hpp h.1), if_neg (fun h => hpp h.1), if_neg (fun h => hpp h.1)]
            · by_cases hac : a' = cn
              · subst hac; exact hok9
              · exact hok'' a' h1 (by lia)
          have bad' : ¬ ((R.hi = 0 → kn pp.toNat cn = -1) ∧ (R.hi ≠ 0 → kn pp.toNat cn = R.hi)) → X S'' := fun h => x (fun hfo => h ((hfo pp hmem).2 cn hcn4 b1 (by lia))) S'' e''
          have second : (R.hi = 0 → kn pp.toNat cn = -1) → exs (fun s fr S Q => ex T0 (n + 58) s fr S X Q) [.ife (.bop true [(.cmp (.attr (.var 11) 8) [(.ne, (.con (.int 0)))]), (.cmp (.idx (.var 17) (.var 18)) [(.ne, (.attr (.var 11) 8))])]) [.raise] [], .asgIdx (.var 17) (.var 18) (.attr (.var 11) 9)] (upd fr 18 (.int (cn : Int))) S'' K' := by
            intro hz
            with_reducible refine x_cons (x_ife (t_bop (s_boTt (t_cmp (s_attr ?_)))))
            none_booked
            none_booked
            with_reducible refine s_ch1 (s_con (k_neI ?_))
            refine i_d (fun c1 => ?_) (fun c1 => ?_)
            · with_reducible refine s_boTt (t_cmp (s_idx ?_))
              none_booked
              none_booked
              refine g_idx hrow'' hrl (nth_row hcn4) ?_
              with_reducible refine s_ch1 (s_attr ?_)
              none_booked
              none_booked
              with_reducible refine k_neI ?_
              refine i_d (fun c2 => ?_) (fun c2 => ?_)
              · with_reducible refine s_bo0 (i_tt (x_cons (x_raise ?_)))
                rw [hval] at c2
                exact bad' fun h => c2 (h.2 c1)
              · refine i_ft (x_nil (x_seqN ?_))
                rw [hval] at c2
                exact store ⟨hz, fun _ => by lia⟩
            · refine i_ft (x_nil (x_seqN ?_))
              exact store ⟨hz, fun h => absurd h c1⟩
          with_reducible refine x_cons (x_ife (t_bop (s_boTt (t_cmp (s_attr ?_)))))
          none_booked
          none_booked
          with_reducible refine s_ch1 (s_con (k_eqI ?_))
          refine i_d (fun c1 => ?_) (fun c1 => ?_)
          · with_reducible refine s_boTt (t_cmp (s_idx ?_))
            none_booked
            none_booked
            refine g_idx hrow'' hrl (nth_row hcn4) ?_
            with_reducible refine s_ch1 (s_g4 (k_neI ?_))
            refine i_d (fun c2 => ?_) (fun c2 => ?_)
            · with_reducible refine s_bo0 (i_tt (x_cons (x_raise ?_)))
              rw [hval] at c2
              exact bad' fun h => c2 (h.1 c1)
            · refine i_ft (x_nil (x_seqN ?_))
              rw [hval] at c2
              exact second fun _ => by lia
          · refine i_ft (x_nil (x_seqN ?_))
            exact second fun h => absurd h c1
      with_reducible refine x_seqN (x_cons (x_ife (t_bop (s_boTt (t_cmp ?_)))))
      none_booked
      with_reducible refine s_ch1 (s_con (k_gt ?_))
      refine i_d (fun c => ?_) (fun c => ?_)
      · with_reducible refine s_boTt (t_cmp (s_idx ?_))
        none_booked
        with_reducible refine s_con ?_
        refine g_idx hrow (by simp [LIM]) (nth_row (a := 0) (by decide)) ?_
        with_reducible refine s_ch1 (s_g4 (k_eqI ?_))
        refine i_d (fun c2 => ?_) (fun c2 => ?_)
        · with_reducible refine s_bo0 (i_tt (x_cons (x_raise ?_)))
          rw [hkp 0 (by decide)] at c2
          exact x (fun hfo => (hfo pp hmem).1 c c2) _ e'
        · refine i_ft (x_nil (x_seqN ?_))
          rw [hkp 0 (by decide)] at c2
          exact inner fun _ => c2
      · refine i_ft (x_nil (x_seqN ?_))
        exact inner fun h => absurd h c
end

theorem run_app {F : Fm} {r : List Row} {k' : Kn} {l : List Row} : ∀ {kn : Kn}, Run F kn (l ++ r) k' ↔ ∃ k1, Run F kn l k1 ∧ Run F k1 r k' := by
  induction l with
  | nil => exact fun {kn} => ⟨fun h => ⟨kn, .nil, h⟩, fun ⟨k1, h0, h⟩ => by cases h0; exact h⟩
  | cons a l ih =>
    intro kn
    constructor
    · intro h
      cases h with
      | cons q1 q2 q3 => obtain ⟨k1, r1, r2⟩ := ih.mp q3; exact ⟨k1, .cons q1 q2 r1, r2⟩
    · intro ⟨k1, h0, h⟩
      cases h0 with
      | cons q1 q2 q3 => exact .cons q1 q2 (ih.mpr ⟨k1, q3, h⟩)
theorem run_det {F : Fm} {l : List Row} {kn k1 : Kn} (h : Run F kn l k1) : ∀ {k2 : Kn}, Run F kn l k2 → k1 = k2 := by
  induction h with
  | nil => intro k2 h'; cases h'; rfl
  | cons _ _ _ ih => intro k2 h'; cases h' with | cons _ _ h' => exact ih h'

inductive ScansAt (S : H) (r : Nat) (rows : List Row) : Prop where
  | mk (hh1 : rows.length ≤ 10000) (hh2 : (∀ R ∈ rows, R.Wf)) (refs : List Nat) (hh3 : Ob 2 S r (.list (refs.map V.ref))) (hh4 : Each (ScanAt S) refs rows)
theorem ScansAt.ext {S S' : H} {r : Nat} {rows : List Row} (h : ScansAt S r rows) (e : Ext S S') : ScansAt S' r rows := by
  obtain ⟨h0, h1, refs, h2, h3⟩ := h; exact ⟨h0, h1, refs, h2.ext e (Nat.le_refl _), h3.mono fun _ _ h => h.ext e⟩

section
variable {n : Nat} {S : H} {X : H → Prop} {Q : V → H → Prop} {F : Fm} {R : Row} {f s : Nat} {rows : List Row}

theorem c_new_state (hS : Src S) (hf : FrameAt S f F) (k : ∀ S', Ext S S' → KnAt S.length S' S.length F.comps.length kn0 → Q .none S') : callF T0 (n + 40) 32 [.ref S.length, .ref f] (S ++ [.inst 1 []]) X Q := by
  obtain ⟨hF, cl, refs, f1, f2, f3⟩ := id hf
  have hl := hS.len
  have hrl : refs.length ≤ 5 := by rw [f3.len]; exact hF.1
  refine callF_of (show T0.fn 32 = some (p32, b32) from rfl) rfl ?_
  unfold b32
  have hi : Ob 2 (S ++ [O.inst 1 []]) S.length (.inst 1 []) := Ob.new hl
  have f1' := f1.push (o' := .inst 1 [])
  have f2' := f2.push (o' := .inst 1 [])
  have hS1 := hS.push (.inst 1 [])
  generalize hS1e : S ++ [O.inst 1 []] = S1 at *
  have e1 : Ext S S1 := by rw [← hS1e]; exact .push1 _
  have hlen : S1.length = S.length + 1 := by rw [← hS1e]; simp
  with_reducible refine x_cons (x_asgAttr (s_comp (s_attr ?_)))
  none_booked
  none_booked
  refine compK_fresh (fun S3 v y => Ob (S1.length + 1) S3 y (.list (List.replicate 4 (.int (-1))))) (fun S' e => items_list (f2'.ext e (Nat.le_refl _))) (by unfold LIM; lia) (fun _ _ _ _ kk h => h.keep kk) hS1 (fun v hv S' e hs' hk KK kk => ?_) (fun S' qs e ho ha hn hb => ?_)
  · have f1'' := f1'.ext e (Nat.le_refl _)
    with_reducible refine s_bin (s_list (s_evs1 (s_g4 (s_evs0 ?_))))
    none_booked
    with_reducible refine s_bin (s_attr ?_)
    none_booked
    none_booked
    with_reducible refine s_attr ?_
    none_booked
    none_booked
    none_booked
    refine o_mulL (b := 0) (Ob.new (Nat.zero_le _)) (by decide) (by decide) ?_
    refine kk _ _ ((Ext.push1 _).push _) (by simp) (by simp) ?_
    exact Ob.new (by simp; lia)
  · have hi' := hi.ext e (Nat.le_refl _)
    none_booked
    refine g_setA hi' (by simp) ?_
    with_reducible refine x_seqN (x_nil (x_finN ?_))
    refine k _ ((e1.trans e).set (Nat.le_refl _) _) ⟨S1.length, qs, hi'.set_self, ho.set_ne (by lia), by rw [← f3.len, ha.len], hn, fun q hq => by have := hb q hq; lia, fun i q hq => ?_⟩
    obtain ⟨v, hv, hR⟩ := ha.getR hq
    have hm := hb q (List.mem_of_getElem? hq)
    exact (hR.le (by lia)).set_ne (by lia)

theorem c_state_done {b st m : Nat} {kn : Kn} (hk : KnAt b S st m kn) (hm : m ≤ 5) (k1 : (∀ p, p < m → ∀ a, a < 4 → kn p a = 0) → Q (.bool true) S) (k0 : ¬ (∀ p, p < m → ∀ a, a < 4 → kn p a = 0) → Q (.bool false) S) :
    callF T0 (n + 40) 34 [.ref st, .bool false] S X Q := by
  obtain ⟨kl, qs, hx⟩ := hk
  have h1 := hx.inst
  have h2 := hx.known
  have hql := hx.len
  refine callF_of (show T0.fn 34 = some (p34, b34) from rfl) rfl ?_
  unfold b34
  with_reducible refine x_cons (x_forv (s_attr ?_))
  none_booked
  none_booked
  refine forI_list h2 (by rw [List.length_map]; unfold LIM; lia) ?_
  refine for_inv (fun l fr S' => An3 (S = S') (fr 19 = some (.bool false)) (Xn2 fun (dn : List Nat) (rest : List Nat) => An3 (dn ++ rest = qs) (l = rest.map V.ref) (∀ p, p < dn.length → ∀ a, a < 4 → kn p a = 0))) ?_ ?_ ?_ _ _ _ ⟨rfl, rfl, [], qs, rfl, rfl, by simp⟩
  · rintro l fr S' ⟨rfl, _⟩; exact items_list h2
  · rintro fr S' ⟨rfl, e19, dn, rest, hd, hr, hz⟩
    have : rest = [] := by cases rest with | nil => rfl | cons => cases hr
    subst this
    rw [List.append_nil] at hd
    subst hd
    with_reducible refine x_seqN (x_cons (x_ret (s_con (x_seqS (x_finS ?_)))))
    exact k1 fun p hp => hz p (by lia)
  · rintro v r fr S' ⟨rfl, e19, dn, rest, hd, hr, hz⟩ K kn1 ks
    cases rest with
    | nil => cases hr
    | cons q rest =>
      rw [List.map_cons] at hr
      cases hr
      show exs _ _ (upd fr 17 (.ref q)) _ _
      have hq : qs[dn.length]? = some q := by rw [← hd]; simp
      have hrow := hx.row _ _ hq
      have hdm : dn.length < m := by rw [← hql, ← hd]; simp
      with_reducible refine x_cons (x_forv ?_)
      none_booked
      refine forI_list hrow (by simp [LIM]) ?_
      refine for_inv (fun l fr S' => An3 (S = S') (fr 19 = some (.bool false)) (Xn2 fun (dn' : List Nat) (rest' : List Nat) => An3 (dn' ++ rest' = List.range 4) (l = rest'.map (fun a => V.int (kn dn.length a))) (∀ a ∈ dn', kn dn.length a = 0))) ?_ ?_ ?_ _ _ _ ⟨rfl, e19, [], List.range 4, rfl, rfl, by simp⟩
      · rintro l fr S' ⟨rfl, _⟩; exact items_list hrow
      · rintro fr S' ⟨rfl, e19', dn', rest', hd', hr', hz'⟩
        have : rest' = [] := by cases rest' with | nil => rfl | cons => cases hr'
        subst this
        rw [List.append_nil] at hd'
        subst hd'
        with_reducible refine x_seqN (x_nil ?_)
        refine kn1 _ _ ⟨rfl, e19', dn ++ [q], rest, by rw [← hd]; simp, rfl, fun p hp a ha => ?_⟩
        rw [List.length_append, List.length_singleton] at hp
        by_cases hpd : p = dn.length
        · subst hpd; exact hz' a (List.mem_range.mpr ha)
        · exact hz p (by lia) a ha
      · rintro v r fr S' ⟨rfl, e19', dn', rest', hd', hr', hz'⟩ K' kn2 ks'
        cases rest' with
        | nil => cases hr'
        | cons a rest' =>
          rw [List.map_cons] at hr'
          cases hr'
          show exs _ _ (upd fr 9 (.int (kn dn.length a))) _ _
          have ha4 : a < 4 := List.mem_range.mp (by rw [← hd']; simp)
          have bad : kn dn.length a ≠ 0 → K' (some (.bool false)) (upd fr 9 (.int (kn dn.length a))) S := fun h =>
            ks' _ _ _ (x_seqS (ks _ _ _ (x_seqS (x_finS (k0 fun hall => h (hall _ hdm a ha4))))))
          with_reducible refine x_cons (x_ife (t_bop (s_boTf (t_cmp ?_))))
          none_booked
          with_reducible refine s_ch1 (s_g4 (k_eqI ?_))
          refine i_df (fun c1 => ?_) (fun c1 => ?_)
          rotate_left
          · with_reducible refine i_tt (x_cons (x_ret (s_con (x_seqS (x_seqS ?_)))))
            exact bad (by lia)
          with_reducible refine s_boTf (t_bop (s_boTt (t_cmp ?_)))
          none_booked
          with_reducible refine s_ch1 (s_con (k_neI ?_))
          refine i_d (fun c2 => ?_) (fun c2 => ?_)
          · with_reducible refine s_boTt (t_not (t_var ?_))
            none_booked
            with_reducible refine s_isB (i_nff (s_bo0 (i_tf (i_tt (x_cons (x_ret (s_con (x_seqS (x_seqS ?_)))))))))
            exact bad c2
          · with_reducible refine i_ff (s_bo0 (i_ft (x_nil (x_seqN (x_nil ?_)))))
            exact kn2 _ _ ⟨rfl, e19', dn' ++ [a], rest', by rw [← hd']; simp, rfl, fun y hy => by
              rcases List.mem_append.mp hy with hy | hy
              · exact hz' y hy
              · rw [List.mem_singleton] at hy; subst hy; lia⟩

theorem c_follow_script {r : Nat} (hS : Src S) (hf : FrameAt S f F) (hr : ScansAt S r rows) (x : (¬ ∃ kn, Run F kn0 rows kn) → ∀ S', Ext S S' → X S')
    (k : ∀ kn, Run F kn0 rows kn → ∀ S' st, Ext S S' → KnAt S.length S' st F.comps.length kn → Q (.ref st) S') : callF T0 (n + 90) 5 [.ref f, .ref r] S X Q := by
  obtain ⟨h0, hw, refs, r1, r2⟩ := id hr
  have hl := hS.len
  refine callF_of (show T0.fn 5 = some (p5, b5) from rfl) rfl ?_
  unfold b5
  with_reducible refine x_cons (x_asg (s_new (s_evs1 ?_)))
  none_booked
  with_reducible refine s_evs0 ?_
  show callF T0 _ 32 _ _ _ _
  refine c_new_state hS hf fun S1 e1 hk1 => ⟨rfl, ?_⟩
  have r1' := r1.ext e1 (Nat.le_refl _)
  with_reducible refine x_seqN (x_cons (x_forv ?_))
  none_booked
  refine forI_list r1' (by rw [List.length_map, r2.len]; unfold LIM; lia) ?_
  refine for_inv (fun l fr S' => An4 (Ext S S') (fr 10 = some (.ref f)) (fr 21 = some (.ref S.length)) (Xn4 fun (dn : List Row) (rest : List Row) (refs' : List Nat) (kn : Kn) => An5 (dn ++ rest = rows) (l = refs'.map V.ref) (Each (ScanAt S) refs' rest) (Run F kn0 dn kn) (KnAt S.length S' S.length F.comps.length kn))) ?_ ?_ ?_ _ _ _
    ⟨e1, rfl, rfl, [], rows, refs, kn0, rfl, rfl, r2, .nil, hk1⟩
  · rintro l fr S' ⟨e, _⟩; exact items_list (r1.ext e (Nat.le_refl _))
  · rintro fr S' ⟨e, e10, e21, dn, rest, refs', kn, hd, hl', ha, hrun, hk⟩
    have : refs' = [] := by cases refs' with | nil => rfl | cons => cases hl'
    subst this
    cases ha
    rw [List.append_nil] at hd
    subst hd
    with_reducible refine x_seqN (x_cons (x_ret ?_))
    none_booked
    with_reducible refine x_seqS (x_finS ?_)
    exact k kn hrun _ _ e hk
  · rintro v r' fr S' ⟨e, e10, e21, dn, rest, refs', kn, hd, hl', ha, hrun, hk⟩ K kn1 ks
    cases ha with
    | nil => cases hl'
    | @cons q R refs' rest hq ha =>
      rw [List.map_cons] at hl'
      cases hl'
      show exs _ _ (upd fr 11 (.ref q)) _ _
      have hRw : R.Wf := hw R (by rw [← hd]; simp)
      have nv : ¬ Valid F R → ¬ ∃ kn, Run F kn0 rows kn := by
        rintro h ⟨k', hk'⟩
        rw [← hd] at hk'
        obtain ⟨k1, q1, q2⟩ := run_app.mp hk'
        cases q2 with
        | cons v _ _ => exact h v
      have nf : ¬ FollowOk kn R → ¬ ∃ kn, Run F kn0 rows kn := by
        rintro h ⟨k', hk'⟩
        rw [← hd] at hk'
        obtain ⟨k1, q1, q2⟩ := run_app.mp hk'
        cases q2 with
        | cons _ v _ => rw [run_det q1 hrun] at v; exact h v
      with_reducible refine x_cons (x_expr (s_call (s_evs1 ?_)))
      none_booked
      with_reducible refine s_evs1 ?_
      none_booked
      with_reducible refine s_evs0 ?_
      refine c_check_places (hS := e.src hS) (hf.ext e) (hq.ext e) hRw (fun h S2 e2 => x (nv fun hv => h hv.places) _ (e.trans e2)) (fun hp S2 e2 => ?_)
      have e' := e.trans e2
      with_reducible refine x_exprK (x_seqN (x_cons (x_expr (s_call (s_evs1 ?_)))))
      none_booked
      with_reducible refine s_evs1 ?_
      none_booked
      with_reducible refine s_evs0 ?_
      refine c_check_slots (hS := e'.src hS) (hf.ext e') (hq.ext e') hRw (fun h S3 e3 => x (nv fun hv => h hv.slots) _ (e'.trans e3)) (fun hsl S3 e3 => ?_)
      have e'' := e'.trans e3
      with_reducible refine x_exprK (x_seqN (x_cons (x_expr (s_call (s_evs1 ?_)))))
      none_booked
      with_reducible refine s_evs1 ?_
      none_booked
      with_reducible refine s_evs0 ?_
      refine c_check_band (hf.ext e'') (hq.ext e'') hRw (fun h => x (nv fun hv => h hv.band) _ e'') (fun hb => ?_)
      have hk3 := (hk.ext e2).ext e3
      obtain ⟨kl, qs, hx⟩ := id hk3
      have hi := hx.inst
      with_reducible refine x_exprK (x_seqN (x_cons (x_expr (s_meth ?_))))
      none_booked
      refine s_methK hi (show T0.mth 1 1 = some 33 from rfl) ?_
      with_reducible refine s_evs1 ?_
      none_booked
      with_reducible refine s_evs1 ?_
      none_booked
      with_reducible refine s_evs0 ?_
      refine c_follow hS e'' hf hq hRw ⟨hp, hsl, hb⟩ hk3 (fun h S4 e4 => x (nf h) _ e4) (fun hfo S4 e4 hk4 => ?_)
      with_reducible refine x_exprK (x_seqN (x_nil ?_))
      exact kn1 _ _ ⟨e4, e10, e21, dn ++ [R], rest, refs', tell kn R, by rw [← hd]; simp, rfl, ha, run_snoc.mpr ⟨kn, hrun, ⟨hp, hsl, hb⟩, hfo, rfl⟩, hk4⟩

theorem c_check_script {r : Nat} (hS : Src S) (hf : FrameAt S f F) (hr : ScansAt S r rows) (x : (rows = [] ∨ ¬ ∃ kn, Run F kn0 rows kn) → ∀ S', Ext S S' → X S')
    (k : rows ≠ [] → (∃ kn, Run F kn0 rows kn) → ∀ S', Ext S S' → Q .none S') : callF T0 (n + 110) 6 [.ref f, .ref r] S X Q := by
  obtain ⟨h0, hw, refs, r1, r2⟩ := id hr
  have hrl := r2.len
  refine callF_of (show T0.fn 6 = some (p6, b6) from rfl) rfl ?_
  unfold b6
  with_reducible refine x_cons (x_ife (t_cmp (s_blt (s_evs1 ?_))))
  none_booked
  with_reducible refine s_evs0 ?_
  none_booked
  with_reducible refine s_ch1 (s_con (k_eqI ?_))
  refine i_d (fun c => ?_) (fun c => ?_)
  · with_reducible refine x_cons (x_raise ?_)
    refine x (.inl ?_) _ .refl
    rw [List.length_map] at c
    exact List.length_eq_zero_iff.mp (by lia)
  · have hne : rows ≠ [] := by
      rintro rfl
      rw [List.length_map, hrl] at c
      exact c rfl
    with_reducible refine x_nil (x_seqN (x_cons (x_expr (s_call (s_evs1 ?_)))))
    none_booked
    with_reducible refine s_evs1 ?_
    none_booked
    with_reducible refine s_evs0 ?_
    refine c_follow_script hS hf hr (fun h S' e => x (.inr h) _ e) (fun kn h S' st e _ => ?_)
    with_reducible refine x_exprK (x_seqN (x_nil (x_finN ?_)))
    exact k hne ⟨kn, h⟩ _ e

theorem c_is_complete {r : Nat} (hS : Src S) (hf : FrameAt S f F) (hr : ScansAt S r rows) {kn : Kn} (hrun : Run F kn0 rows kn)
    (k1 : (∀ p, p < F.comps.length → ∀ a, a < 4 → kn p a = 0) → ∀ S', Ext S S' → Q (.bool true) S') (k0 : ¬ (∀ p, p < F.comps.length → ∀ a, a < 4 → kn p a = 0) → ∀ S', Ext S S' → Q (.bool false) S') :
    callF T0 (n + 110) 7 [.ref f, .ref r] S X Q := by
  obtain ⟨hF, cl, refs, f1, f2, f3⟩ := id hf
  refine callF_of (show T0.fn 7 = some (p7, b7) from rfl) rfl ?_
  unfold b7
  with_reducible refine x_cons (x_ret (s_meth (s_call (s_evs1 ?_))))
  none_booked
  with_reducible refine s_evs1 ?_
  none_booked
  with_reducible refine s_evs0 ?_
  refine c_follow_script hS hf hr (fun h => absurd ⟨kn, hrun⟩ h) (fun kn' h S' st e hk => ?_)
  cases run_det hrun h
  obtain ⟨kl, qs, hx⟩ := id hk
  have hi := hx.inst
  have f1' := f1.ext e (Nat.le_refl _)
  refine s_methK hi (show T0.mth 1 2 = some 34 from rfl) ?_
  with_reducible refine s_evs1 (s_cmp (s_attr ?_))
  none_booked
  none_booked
  with_reducible refine s_ch1 (s_con (k_eqS (s_evs0 ?_)))
  have hkind : decide (F.kind = 3) = false := decide_eq_false (by have := hF.2.1; lia)
  rw [hkind]
  refine c_state_done hk hF.1 (fun h => ?_) (fun h => ?_)
  · with_reducible refine x_seqS (x_finS ?_)
    exact k1 h _ e
  · with_reducible refine x_seqS (x_finS ?_)
    exact k0 h _ e
end

section
variable {n : Nat} {S : H} {X : H → Prop} {Q : V → H → Prop} {F : Fm} {R : Row} {f s p d a : Nat} {fr : Fr}

structure RowFr (fr : Fr) (f p d a : Nat) (R : Row) : Prop where
  e10 : fr 10 = some (.ref f)
  e3 : fr 3 = some (.ref p)
  e4 : fr 4 = some (.ref d)
  e5 : fr 5 = some (.ref a)
  e6 : fr 6 = some (.int R.st)
  e7 : fr 7 = some (.int R.en)
  e8 : fr 8 = some (.int R.hi)
  e9 : fr 9 = some (.int R.lo)
theorem RowFr.upd {f p d a : Nat} {x : Nat} {v : V} (h : RowFr fr f p d a R) (hx : x ≠ 10 ∧ x ≠ 3 ∧ x ≠ 4 ∧ x ≠ 5 ∧ x ≠ 6 ∧ x ≠ 7 ∧ x ≠ 8 ∧ x ≠ 9) : RowFr (upd fr x v) f p d a R := by
  obtain ⟨h1, h2, h3, h4, h5, h6, h7, h8⟩ := hx
  have u : ∀ y w, fr y = some w → x ≠ y → Mine.upd fr x v y = some w := fun y w e hn => by unfold Mine.upd; rw [if_neg (Ne.symm hn)]; exact e
  exact ⟨u _ _ h.e10 h1, u _ _ h.e3 h2, u _ _ h.e4 h3, u _ _ h.e5 h4, u _ _ h.e6 h5, u _ _ h.e7 h6, u _ _ h.e8 h7, u _ _ h.e9 h8⟩

/-- the band of a progressive scan -/
theorem is_scan_8 (hS : Src S) (hp : Ob 2 S p (.list (R.pl.map V.int))) (hw : R.Wf) (h : RowFr fr f p d a R) (h16 : fr 16 = some (.int (2 * 2 - 1)))
    (k1 : Prog R → ∀ S', Ext S S' → Q (.bool true) S') (k0 : ¬ Prog R → ∀ S', Ext S S' → Q (.bool false) S') : exs (fun s fr S Q => ex T0 (n + 60) s fr S X Q) (b25.drop 8) fr S (fin Q) := by
  obtain ⟨e10, e3, e4, e5, e6, e7, e8, e9⟩ := h
  have hl := hS.len
  have hw3 := hw.2.2
  have last : ∀ (b : Bool), (b = true → (0 ≤ R.st ∧ R.st ≤ R.en ∧ R.en ≤ 3) ∧ (R.st = 0 → R.en = 0) ∧ (R.st ≠ 0 → R.pl.length = 1)) → (b = false → ¬ Prog R) →
      exs (fun s fr S Q => ex T0 (n + 60) s fr S X Q) (b25.drop 9) (upd fr 52 (.bool b)) S (fin Q) := by
    intro b hb1 hb0
    show exs _ (_ :: b25.drop 10) _ _ _
    with_reducible refine x_cons (x_ret (s_bop (s_boEt ?_)))
    none_booked
    with_reducible refine s_isB ?_
    cases b with
    | false =>
      with_reducible refine i_ft (x_seqS (x_finS ?_))
      exact k0 (hb0 rfl) _ .refl
    | true =>
      obtain ⟨r1, r2, r3⟩ := hb1 rfl
      with_reducible refine i_tt (s_boEt (s_cmp (s_con (s_ch2 ?_))))
      none_booked
      with_reducible refine k_le ?_
      refine i_d (fun c1 => ?_) (fun c1 => ?_)
      rotate_left
      · with_reducible refine s_isB (i_ft (x_seqS (x_finS ?_)))
        exact k0 (fun h => c1 h.low.1) _ .refl
      with_reducible refine s_ch1 (s_con (k_le (s_isB ?_)))
      refine i_d (fun c2 => ?_) (fun c2 => ?_)
      rotate_left
      · with_reducible refine x_seqS (x_finS ?_)
        exact k0 (fun h => c2 h.low.2) _ .refl
      with_reducible refine s_boEt (s_cmp ?_)
      none_booked
      with_reducible refine s_ch1 (s_list (s_evs1 (s_con (s_evs1 (s_bin ?_)))))
      none_booked
      with_reducible refine s_con (o_add (s_evs0 ?_))
      none_booked
      refine k_isin (b := 0) (ns := [0, R.lo + 1]) (Ob.new (Nat.zero_le _)) (by simp [LIM]) rfl ?_
      with_reducible refine s_isB ?_
      refine i_d (fun c3 => ?_) (fun c3 => ?_)
      · with_reducible refine s_bo0 (x_seqS (x_finS ?_))
        refine k1 ⟨r1, r2, r3, ⟨c1, c2⟩, fun h => ?_⟩ _ (.push1 _)
        rcases List.mem_cons.mp c3 with q | q
        · exact absurd q h
        · simpa using q
      · with_reducible refine x_seqS (x_finS ?_)
        refine k0 (fun h => c3 ?_) _ (.push1 _)
        by_cases q : R.hi = 0
        · simp [q]
        · simp [h.fin q]
  show exs _ (_ :: b25.drop 9) _ _ _
  generalize b25.drop 9 = tl at last ⊢
  with_reducible refine x_cons (x_ife (t_cmp ?_))
  none_booked
  with_reducible refine s_ch1 (s_con (k_eqI ?_))
  refine i_d (fun c1 => ?_) (fun c1 => ?_)
  · with_reducible refine x_cons (x_asg (s_cmp ?_))
    none_booked
    with_reducible refine s_ch1 (s_con (k_eqI (x_seqN (x_nil (x_seqN ?_)))))
    refine last _ (fun h => ?_) (fun h hg => ?_)
    · have := of_decide_eq_true h; lia
    · have := of_decide_eq_false h; exact this (hg.dc c1)
  · with_reducible refine x_cons (x_asg (s_bop (s_boEt (s_cmp (s_blt (s_evs1 ?_))))))
    none_booked
    with_reducible refine s_evs0 ?_
    none_booked
    with_reducible refine s_ch1 (s_con (k_eqI (s_isB ?_)))
    refine i_d (fun c2 => ?_) (fun c2 => ?_)
    rotate_left
    · with_reducible refine x_seqN (x_nil (x_seqN ?_))
      refine last false (fun h => by cases h) (fun _ hg => c2 ?_)
      have := hg.ac c1
      simp [this]
    simp only [List.length_map] at c2
    with_reducible refine s_boEt (s_cmp (s_con (s_ch2 ?_)))
    none_booked
    with_reducible refine k_lt ?_
    refine i_d (fun c3 => ?_) (fun c3 => ?_)
    rotate_left
    · with_reducible refine s_isB (i_ft (x_seqN (x_nil (x_seqN ?_))))
      exact last false (fun h => by cases h) (fun _ hg => c3 (by have := hg.rng.1; lia))
    with_reducible refine s_ch2 ?_
    none_booked
    with_reducible refine k_le ?_
    refine i_d (fun c4 => ?_) (fun c4 => ?_)
    rotate_left
    · with_reducible refine s_isB (i_ft (x_seqN (x_nil (x_seqN ?_))))
      exact last false (fun h => by cases h) (fun _ hg => c4 hg.rng.2.1)
    with_reducible refine s_ch1 ?_
    none_booked
    with_reducible refine k_le (s_isB ?_)
    refine i_d (fun c5 => ?_) (fun c5 => ?_)
    · with_reducible refine s_bo0 (x_seqN (x_nil (x_seqN ?_)))
      exact last true (fun _ => ⟨⟨by lia, c4, by lia⟩, fun h => absurd h c1, fun _ => by lia⟩) (fun h => by cases h)
    · with_reducible refine x_seqN (x_nil (x_seqN ?_))
      exact last false (fun h => by cases h) (fun _ hg => c5 (by have := hg.rng.2.2; lia))

theorem filt_nil {l : List Int} {p : V → Bool} : ((l.map V.int).filter p).map id = [] ↔ ∀ s ∈ l, p (.int s) = false := by
  rw [List.map_id]
  constructor
  · intro h s hs
    have := List.filter_eq_nil_iff.mp h (.int s) (List.mem_map.mpr ⟨s, hs, rfl⟩)
    simpa using this
  · intro h
    refine List.filter_eq_nil_iff.mpr fun v hv => ?_
    obtain ⟨s, hs, rfl⟩ := List.mem_map.mp hv
    rw [h s hs]; decide
theorem filt_len {l : List Int} {p : V → Bool} : (((l.map V.int).filter p).map id).length ≤ l.length := by
  rw [List.length_map]
  refine Nat.le_trans (List.length_filter_le _ _) ?_
  rw [List.length_map]; exact Nat.le_refl _

theorem is_scan_7 (hS : Src S) (hf : FrameAt S f F) (hp : Ob 2 S p (.list (R.pl.map V.int))) (hw : R.Wf) (h : RowFr fr f p d a R) (h16 : fr 16 = some (.int (2 * 2 - 1)))
    (k1 : Band F R → ∀ S', Ext S S' → Q (.bool true) S') (k0 : ¬ Band F R → ∀ S', Ext S S' → Q (.bool false) S') : exs (fun s fr S Q => ex T0 (n + 60) s fr S X Q) (b25.drop 7) fr S (fin Q) := by
  obtain ⟨hF, cl, refs, f1, f2, f3⟩ := id hf
  have hl := hS.len
  have next := is_scan_8 (n := n) (X := X) (Q := Q) hS hp hw h h16
  obtain ⟨e10, e3, e4, e5, e6, e7, e8, e9⟩ := h
  show exs _ (_ :: b25.drop 8) _ _ _
  generalize b25.drop 8 = tl at next ⊢
  with_reducible refine x_cons (x_ife (t_cmp (s_attr ?_)))
  none_booked
  none_booked
  with_reducible refine s_ch1 (s_con (k_neS ?_))
  refine i_d (fun c1 => ?_) (fun c1 => ?_)
  · with_reducible refine x_cons (x_ret (s_cmp (s_list (s_evs1 ?_))))
    none_booked
    with_reducible refine s_evs1 ?_
    none_booked
    with_reducible refine s_evs1 ?_
    none_booked
    with_reducible refine s_evs1 ?_
    none_booked
    with_reducible refine s_evs0 ?_
    none_booked
    with_reducible refine s_ch1 (s_list (s_evs1 (s_con (s_evs1 ?_))))
    none_booked
    with_reducible refine s_evs1 (s_con (s_evs1 (s_con (s_evs0 ?_))))
    none_booked
    refine k_eqL (b := 0) (b' := 0) (x := [R.st, R.en, R.hi, R.lo]) (y := [0, 2 * 2 - 1, 0, 0]) (Ob.push (Ob.new (Nat.zero_le _))) (Ob.new (Nat.zero_le _)) rfl rfl rfl (by simp [LIM]) ?_
    have hb : Band F R ↔ [R.st, R.en, R.hi, R.lo] = [0, 2 * 2 - 1, 0, 0] := by
      unfold Band; rw [if_neg c1]; simp
    by_cases hq : [R.st, R.en, R.hi, R.lo] = [0, 2 * 2 - 1, 0, 0]
    · rw [decide_eq_true hq]
      with_reducible refine x_seqS (x_seqS (x_finS ?_))
      exact k1 (hb.mpr hq) _ ((Ext.push1 _).push _)
    · rw [decide_eq_false hq]
      with_reducible refine x_seqS (x_seqS (x_finS ?_))
      exact k0 (fun h => hq (hb.mp h)) _ ((Ext.push1 _).push _)
  · have hk : F.kind = 2 := by lia
    with_reducible refine x_nil (x_seqN ?_)
    exact next (fun h => k1 (by unfold Band; rw [if_pos hk]; exact h)) fun h => k0 fun hb => h (by unfold Band at hb; rw [if_pos hk] at hb; exact hb)

theorem is_scan_5 (hS : Src S) (hf : FrameAt S f F) (hp : Ob 2 S p (.list (R.pl.map V.int))) (hd : Ob 2 S d (.list (R.dc.map V.int))) (ha : Ob 2 S a (.list (R.ac.map V.int))) (hw : R.Wf) (h : RowFr fr f p d a R) (hpl : Places F R)
    (k1 : Valid F R → ∀ S', Ext S S' → Q (.bool true) S') (k0 : ¬ Valid F R → ∀ S', Ext S S' → Q (.bool false) S') : exs (fun s fr S Q => ex T0 (n + 60) s fr S X Q) (b25.drop 5) fr S (fin Q) := by
  obtain ⟨hF, cl, refs, f1, f2, f3⟩ := id hf
  obtain ⟨w1, w2, w3⟩ := id hw
  have hl := hS.len
  have slots : ∀ m : Int, m = most F → exs (fun s fr S Q => ex T0 (n + 60) s fr S X Q) (b25.drop 6) (upds fr [14, 16] [.int m, .int (2 * 2 - 1)]) S (fin Q) := by
    intro m hm
    have h' : RowFr (upds fr [14, 16] [.int m, .int (2 * 2 - 1)]) f p d a R := (h.upd (by decide)).upd (by decide)
    have next : Slots F R → ∀ S1, Ext S S1 → exs (fun s fr S Q => ex T0 (n + 60) s fr S X Q) (b25.drop 7) (upds fr [14, 16] [.int m, .int (2 * 2 - 1)]) S1 (fin Q) := fun hs S1 e =>
      is_scan_7 (e.src hS) (hf.ext e) (hp.ext e (Nat.le_refl _)) hw h' rfl (fun hb S' e' => k1 ⟨hpl, hs, hb⟩ _ (e.trans e')) (fun hb S' e' => k0 (fun hv => hb hv.band) _ (e.trans e'))
    obtain ⟨e10, e3, e4, e5, e6, e7, e8, e9⟩ := h'
    have e14 : upds fr [14, 16] [.int m, .int (2 * 2 - 1)] 14 = some (.int m) := rfl
    generalize upds fr [14, 16] [.int m, .int (2 * 2 - 1)] = fr1 at *
    show exs _ (_ :: b25.drop 7) _ _ _
    generalize b25.drop 7 = tl at next ⊢
    with_reducible refine x_cons (x_ife (t_cmp (s_comp (s_bin ?_))))
    none_booked
    none_booked
    refine o_addL hd ha (by simp only [List.length_map]; unfold LIM; lia) ?_
    rw [← List.map_append]
    refine compK_pure (fun v => match v with | .int s => decide (s < 0 ∨ m < s) | _ => false) id (fun S' e => items_list ((Ob.new hl).ext e (Nat.le_refl _))) (by rw [List.length_map, List.length_append]; unfold LIM; lia) (hS.push _) (fun v hv S' e hs' => ?_) ?_
    · obtain ⟨s, hs, rfl⟩ := List.mem_map.mp hv
      refine ⟨fun K hk => ?_, fun _ K hk => ?_⟩
      · with_reducible refine s_boTt (t_bop (s_boTf (t_cmp ?_)))
        none_booked
        with_reducible refine s_ch1 (s_con (k_lt ?_))
        refine i_df (fun c1 => ?_) (fun c1 => ?_)
        · with_reducible refine s_boTf (t_cmp ?_)
          none_booked
          with_reducible refine s_ch1 ?_
          none_booked
          with_reducible refine k_gt ?_
          refine i_df (fun c2 => ?_) (fun c2 => ?_)
          · with_reducible refine s_bo0 (i_ft ?_)
            have e9 : decide (s < 0 ∨ m < s) = false := decide_eq_false (by lia)
            simp only [e9] at hk; exact hk
          · with_reducible refine i_tt (s_bo0 ?_)
            have e9 : decide (s < 0 ∨ m < s) = true := decide_eq_true (by lia)
            simp only [e9] at hk; exact hk
        · with_reducible refine i_tt (s_bo0 ?_)
          have e9 : decide (s < 0 ∨ m < s) = true := decide_eq_true (by lia)
          simp only [e9] at hk; exact hk
      · none_booked
        exact hk
    · with_reducible refine s_ch1 (s_list (s_evs0 ?_))
      none_booked
      refine k_neE (b := 0) (b' := 0) (Ob.push (Ob.new (Nat.zero_le _))) (Ob.new (Nat.zero_le _)) (Nat.le_trans filt_len (by rw [List.length_append]; unfold LIM; lia)) ?_
      have hsl : Slots F R ↔ ((((R.dc ++ R.ac).map V.int).filter fun v => match v with | .int s => decide (s < 0 ∨ m < s) | _ => false).map id) = [] := by
        rw [filt_nil]
        unfold Slots
        rw [← hm]
        exact ⟨fun h s hs => decide_eq_false (by have := h s hs; lia), fun h s hs => by have := of_decide_eq_false (h s hs); lia⟩
      refine i_d (fun c => ?_) (fun c => ?_)
      · with_reducible refine x_cons (x_ret (s_con (x_seqS (x_seqS (x_finS ?_)))))
        exact k0 (fun hv => c (hsl.mp hv.slots)) _ (((Ext.push1 _).push _).push _)
      · with_reducible refine x_nil (x_seqN ?_)
        exact next (hsl.mpr (Decidable.not_not.mp c)) _ (((Ext.push1 _).push _).push _)
  show exs _ (_ :: b25.drop 6) _ _ _
  obtain ⟨e10, e3, e4, e5, e6, e7, e8, e9⟩ := h
  generalize b25.drop 6 = tl at slots ⊢
  with_reducible refine x_cons (x_asgTup (s_evs1 (s_ite (t_cmp (s_attr ?_)))))
  none_booked
  none_booked
  with_reducible refine s_ch1 (s_con (k_eqS ?_))
  refine i_d (fun c1 => ?_) (fun c1 => ?_)
  · with_reducible refine s_con (s_evs1 (s_bin (s_bin (s_attr ?_))))
    none_booked
    none_booked
    with_reducible refine s_attr ?_
    none_booked
    none_booked
    none_booked
    with_reducible refine s_con (o_sub (s_evs0 ?_))
    none_booked
    with_reducible refine x_seqN ?_
    exact slots 1 (by unfold most; rw [if_pos c1])
  · with_reducible refine s_con (s_evs1 (s_bin (s_bin (s_attr ?_))))
    none_booked
    none_booked
    with_reducible refine s_attr ?_
    none_booked
    none_booked
    none_booked
    with_reducible refine s_con (o_sub (s_evs0 ?_))
    none_booked
    with_reducible refine x_seqN ?_
    exact slots 3 (by unfold most; rw [if_neg c1])

noncomputable def rngInts (lo hi : Int) : List Int := (List.range (rngLen lo hi 1)).map fun (i : Nat) => lo + 1 * (i : Int)
theorem rngItems_eq (lo hi : Int) : rngItems lo hi 1 = (rngInts lo hi).map V.int := by unfold rngItems rngInts; rw [List.map_map]; rfl
theorem mem_rngInts {lo hi x : Int} : x ∈ rngInts lo hi ↔ lo ≤ x ∧ x < hi := by
  unfold rngInts rngLen
  rw [if_pos rfl, List.mem_map]
  constructor
  · rintro ⟨i, hi', rfl⟩
    have := List.mem_range.mp hi'
    lia
  · rintro ⟨h1, h2⟩
    exact ⟨(x - lo).toNat, List.mem_range.mpr (by lia), by lia⟩
theorem rngInts_len {lo hi : Int} : (rngInts lo hi).length = (hi - lo).toNat := by unfold rngInts rngLen; rw [if_pos rfl]; simp

theorem inc_of (l : List Int) (h : ∀ i, i + 1 < l.length → l.getD i 0 < l.getD (i + 1) 0) : l.Pairwise (· < ·) := by
  induction l with
  | nil => exact .nil
  | cons a r ih =>
    have ih := ih fun i hi => h (i + 1) (Nat.succ_lt_succ hi)
    cases r with
    | nil => exact .cons (fun x hx => by cases hx) .nil
    | cons b r =>
      have hab : a < b := h 0 (Nat.succ_lt_succ (Nat.succ_pos _))
      refine List.pairwise_cons.mpr ⟨fun x hx => ?_, ih⟩
      rcases List.mem_cons.mp hx with rfl | hx
      · exact hab
      · exact Int.lt_trans hab ((List.pairwise_cons.mp ih).1 x hx)
theorem of_inc {l : List Int} (h : l.Pairwise (· < ·)) (i : Nat) (hi : i + 1 < l.length) : l.getD i 0 < l.getD (i + 1) 0 := by
  have := List.pairwise_iff_getElem.mp h i (i + 1) (by lia) hi (by lia)
  rw [List.getD_eq_getElem?_getD, List.getD_eq_getElem?_getD, List.getElem?_eq_getElem hi, List.getElem?_eq_getElem (show i < l.length by lia)]
  exact this

noncomputable def prodAt (S : H) (v : V) : Int := match v with
  | .ref q => (match S[q]? with
    | some (.inst _ [_, (_, .int x), (_, .int y), _]) => x * y
    | _ => 0)
  | _ => 0

theorem is_scan_3 (hS : Src S) (hf : FrameAt S f F) (hp : Ob 2 S p (.list (R.pl.map V.int))) (hd : Ob 2 S d (.list (R.dc.map V.int))) (ha : Ob 2 S a (.list (R.ac.map V.int))) (hw : R.Wf) (h : RowFr fr f p d a R)
    (hlen : 1 ≤ R.pl.length ∧ R.pl.length ≤ 4) (hr : ∀ p ∈ R.pl, 0 ≤ p ∧ p < F.comps.length) (hinc : R.pl.Pairwise (· < ·))
    (k1 : Valid F R → ∀ S', Ext S S' → Q (.bool true) S') (k0 : ¬ Valid F R → ∀ S', Ext S S' → Q (.bool false) S') : exs (fun s fr S Q => ex T0 (n + 60) s fr S X Q) (b25.drop 3) fr S (fin Q) := by
  obtain ⟨hF, cl, refs, f1, f2, f3⟩ := id hf
  obtain ⟨w1, w2, w3⟩ := id hw
  have hl := hS.len
  have hrl : refs.length ≤ LIM := by rw [f3.len]; have := hF.1; unfold LIM; lia
  have h' : ∀ v, RowFr (upd fr 48 v) f p d a R := fun v => h.upd (by decide)
  have next : (1 < R.pl.length → blocks F R.pl ≤ 10) → ∀ v S1, Ext S S1 → exs (fun s fr S Q => ex T0 (n + 60) s fr S X Q) (b25.drop 5) (upd fr 48 v) S1 (fin Q) := fun hb v S1 e =>
    is_scan_5 (e.src hS) (hf.ext e) (hp.ext e (Nat.le_refl _)) (hd.ext e (Nat.le_refl _)) (ha.ext e (Nat.le_refl _)) hw (h' v) ⟨hlen, hr, hinc, hb⟩ (fun hv S' e' => k1 hv _ (e.trans e')) (fun hv S' e' => k0 hv _ (e.trans e'))
  obtain ⟨e10, e3, e4, e5, e6, e7, e8, e9⟩ := h
  show exs _ (_ :: _ :: b25.drop 5) _ _ _
  generalize b25.drop 5 = tl at next ⊢
  with_reducible refine x_cons (x_asg (s_comp ?_))
  none_booked
  refine compK_pure (fun _ => true) (fun v => match v with | .int p => refs.getD p.toNat .none | _ => .none) (fun S' e => items_list (hp.ext e (Nat.le_refl _))) (by rw [List.length_map]; unfold LIM; lia) hS (fun v hv S' e hs' => ⟨fun K hk => s_bo0 hk, fun _ K hk => ?_⟩) ?_
  · obtain ⟨pp, hpp, rfl⟩ := List.mem_map.mp hv
    obtain ⟨r1, r2⟩ := hr pp hpp
    obtain ⟨qc, i, hn, hq, _⟩ := comp_at (cl := cl) hF f3 r1 r2
    have f1' := f1.ext e (Nat.le_refl _)
    have f2' := f2.ext e (Nat.le_refl _)
    with_reducible refine s_idx (s_attr ?_)
    none_booked
    none_booked
    none_booked
    refine g_idx f2' hrl hn ?_
    have : refs.getD pp.toNat .none = .ref qc := by rw [nth_nat r1] at hn; rw [List.getD_eq_getElem?_getD, hn]; rfl
    simp only [this] at hk
    exact hk
  · have et : (((R.pl.map V.int).filter fun _ => true).map fun v => match v with | .int p => refs.getD p.toNat V.none | _ => .none) = R.pl.map fun p => refs.getD p.toNat V.none := by
      rw [List.filter_eq_self.mpr (fun _ _ => rfl), List.map_map]; rfl
    rw [et]
    have ho : Ob 2 (S ++ [O.list (R.pl.map fun p => refs.getD p.toNat V.none)]) S.length (.list (R.pl.map fun p => refs.getD p.toNat V.none)) := Ob.new hl
    have eS : Ext S (S ++ [O.list (R.pl.map fun p => refs.getD p.toNat V.none)]) := .push1 _
    have hS1 : Src (S ++ [O.list (R.pl.map fun p => refs.getD p.toNat V.none)]) := hS.push _
    generalize S ++ [O.list (R.pl.map fun p => refs.getD p.toNat V.none)] = S1 at *
    have hl1 := hS1.len
    with_reducible refine x_seqN (x_cons (x_ife (t_bop (s_boTt (t_cmp (s_blt (s_evs1 ?_)))))))
    none_booked
    with_reducible refine s_evs0 ?_
    none_booked
    with_reducible refine s_ch1 (s_con (k_gt ?_))
    refine i_d (fun c1 => ?_) (fun c1 => ?_)
    · simp only [List.length_map] at c1
      with_reducible refine s_boTt (t_cmp (s_blt (s_evs1 (s_comp ?_))))
      none_booked
      have hprod : ∀ pp ∈ R.pl, ∃ qc i, refs.getD pp.toNat V.none = .ref qc ∧ Ob 2 S qc (.inst 2 [(29, .int i), (30, .int (compOf F pp).1), (31, .int (compOf F pp).2), (32, .int 0)]) ∧ prodAt S (refs.getD pp.toNat V.none) = (compOf F pp).1 * (compOf F pp).2 ∧ ((compOf F pp).1 * (compOf F pp).2).natAbs ≤ 100 ∧ (compOf F pp).1.natAbs < 2 ^ 63 := by
        intro pp hpp
        obtain ⟨r1, r2⟩ := hr pp hpp
        obtain ⟨qc, i, hn, hq, b1, b2, b3, b4⟩ := comp_at (cl := cl) hF f3 r1 r2
        have e9 : refs.getD pp.toNat V.none = .ref qc := by rw [nth_nat r1] at hn; rw [List.getD_eq_getElem?_getD, hn]; rfl
        refine ⟨qc, i, e9, hq, ?_, small_mul b1 b2 b3 b4, by lia⟩
        rw [e9]; unfold prodAt; simp only [hq.2]
      refine compK_pure (fun _ => true) (fun v => .int (prodAt S v)) (fun S' e => items_list (ho.ext e (Nat.le_refl _))) (by rw [List.length_map]; unfold LIM; lia) hS1 (fun v hv S' e hs' => ⟨fun K hk => s_bo0 hk, fun _ K hk => ?_⟩) ?_
      · obtain ⟨pp, hpp, rfl⟩ := List.mem_map.mp hv
        obtain ⟨qc, i, q1, q2, q3, q4, q5⟩ := hprod pp hpp
        have q2' := (q2.ext eS (Nat.le_refl _)).ext e (Nat.le_refl _)
        rw [q3] at hk
        rw [q1]
        with_reducible refine s_bin (s_attr ?_)
        none_booked
        none_booked
        with_reducible refine s_attr ?_
        none_booked
        none_booked
        exact o_mul (.inl q5) hk
      · have e2 : ((R.pl.map fun p => refs.getD p.toNat V.none).filter fun _ => true).map (fun v => V.int (prodAt S v)) = (R.pl.map fun p => (compOf F p).1 * (compOf F p).2).map V.int := by
          rw [List.filter_eq_self.mpr (fun _ _ => rfl), List.map_map, List.map_map]
          refine List.map_congr_left fun pp hpp => ?_
          obtain ⟨qc, i, q1, q2, q3, q4, q5⟩ := hprod pp hpp
          show V.int (prodAt S (refs.getD pp.toNat V.none)) = _
          rw [q3]; rfl
        rw [e2]
        with_reducible refine s_evs0 ?_
        refine o_sum (b := 0) (ns := R.pl.map fun p => (compOf F p).1 * (compOf F p).2) (Ob.new (Nat.zero_le _)) (by simp; lia) (intsO_map _) (fun i hi => ?_) ?_
        · obtain ⟨pp, hpp, rfl⟩ := List.mem_map.mp hi
          obtain ⟨qc, i, q1, q2, q3, q4, q5⟩ := hprod pp hpp
          lia
        · with_reducible refine s_ch1 (s_con (k_gt ?_))
          refine i_d (fun c2 => ?_) (fun c2 => ?_)
          · with_reducible refine s_bo0 (i_tt (x_cons (x_ret (s_con (x_seqS (x_seqS (x_finS ?_)))))))
            refine k0 (fun hv => ?_) _ (eS.push _)
            have := hv.places.blk (by lia)
            unfold blocks at this
            lia
          · with_reducible refine i_ft (x_nil (x_seqN ?_))
            exact next (fun _ => by unfold blocks; lia) _ _ (eS.push _)
    · simp only [List.length_map] at c1
      with_reducible refine i_ft (x_nil (x_seqN ?_))
      exact next (fun h => by lia) _ _ eS

theorem is_scan_1 (hS : Src S) (hf : FrameAt S f F) (hp : Ob 2 S p (.list (R.pl.map V.int))) (hd : Ob 2 S d (.list (R.dc.map V.int))) (ha : Ob 2 S a (.list (R.ac.map V.int))) (hw : R.Wf) (h : RowFr fr f p d a R)
    (k1 : Valid F R → ∀ S', Ext S S' → Q (.bool true) S') (k0 : ¬ Valid F R → ∀ S', Ext S S' → Q (.bool false) S') : exs (fun s fr S Q => ex T0 (n + 60) s fr S X Q) (b25.drop 1) fr S (fin Q) := by
  obtain ⟨hF, cl, refs, f1, f2, f3⟩ := id hf
  obtain ⟨w1, w2, w3⟩ := id hw
  have hl := hS.len
  have hrl : refs.length ≤ LIM := by rw [f3.len]; have := hF.1; unfold LIM; lia
  have next : (1 ≤ R.pl.length ∧ R.pl.length ≤ 4) → (∀ p ∈ R.pl, 0 ≤ p ∧ p < F.comps.length) → R.pl.Pairwise (· < ·) → ∀ S1, Ext S S1 → exs (fun s fr S Q => ex T0 (n + 60) s fr S X Q) (b25.drop 3) fr S1 (fin Q) := fun q1 q2 q3 S1 e =>
    is_scan_3 (e.src hS) (hf.ext e) (hp.ext e (Nat.le_refl _)) (hd.ext e (Nat.le_refl _)) (ha.ext e (Nat.le_refl _)) hw h q1 q2 q3 (fun hv S' e' => k1 hv _ (e.trans e')) (fun hv S' e' => k0 hv _ (e.trans e'))
  have second : (1 ≤ R.pl.length ∧ R.pl.length ≤ 4) → (∀ p ∈ R.pl, 0 ≤ p ∧ p < F.comps.length) → ∀ S1, Ext S S1 → exs (fun s fr S Q => ex T0 (n + 60) s fr S X Q) (b25.drop 2) fr S1 (fin Q) := by
    intro q1 q2 S1 e
    have hS1 := e.src hS
    have hp1 := hp.ext e (Nat.le_refl _)
    have hl1 := hS1.len
    have next' := fun q3 S2 e2 => next q1 q2 q3 S2 (e.trans e2)
    obtain ⟨e10, e3, e4, e5, e6, e7, e8, e9⟩ := h
    show exs _ (_ :: b25.drop 3) _ _ _
    generalize b25.drop 3 = tl at next' ⊢
    with_reducible refine x_cons (x_ife (t_cmp (s_comp (s_blt (s_evs1 (s_con (s_evs1 (s_blt (s_evs1 ?_)))))))))
    none_booked
    with_reducible refine s_evs0 ?_
    none_booked
    with_reducible refine s_evs0 ?_
    refine o_range2 (by lia) (by simp; lia) ?_
    rw [List.length_map]
    refine compK_pure (fun v => match v with | .int x => decide (R.pl.getD x.toNat 0 ≤ R.pl.getD (x - 1).toNat 0) | _ => false) id (fun S' e => items_rng (by lia) (by lia) (.inl rfl)) (by rw [rngItems_len]; exact rngLen_lim (by lia) (by lia)) hS1 (fun v hv S' e' hs' => ?_) ?_
    · rw [rngItems_eq] at hv
      obtain ⟨x, hx, rfl⟩ := List.mem_map.mp hv
      have hx' := mem_rngInts.mp hx
      have hp2 := hp1.ext e' (Nat.le_refl _)
      have hpl : (R.pl.map V.int).length ≤ LIM := by rw [List.length_map]; unfold LIM; lia
      have n1 : ∀ y : Int, 0 ≤ y → y < R.pl.length → nth (R.pl.map V.int) y = some (.int (R.pl.getD y.toNat 0)) := fun y h0 h1 => by
        rw [nth_nat h0, List.getElem?_map, List.getD_eq_getElem?_getD, List.getElem?_eq_getElem (show y.toNat < R.pl.length by lia)]; rfl
      refine ⟨fun K hk => ?_, fun _ K hk => ?_⟩
      · with_reducible refine s_boTt (t_cmp (s_idx ?_))
        none_booked
        none_booked
        refine g_idx hp2 hpl (n1 x (by lia) (by lia)) ?_
        with_reducible refine s_ch1 (s_idx ?_)
        none_booked
        with_reducible refine s_bin ?_
        none_booked
        with_reducible refine s_con (o_sub ?_)
        refine g_idx hp2 hpl (n1 (x - 1) (by lia) (by lia)) ?_
        with_reducible refine k_le ?_
        refine i_d (fun c1 => ?_) (fun c1 => ?_)
        · with_reducible refine s_bo0 ?_
          simp only [decide_eq_true c1] at hk; exact hk
        · skip
          simp only [decide_eq_false c1] at hk; exact hk
      · none_booked
        exact hk
    · rw [rngItems_eq]
      with_reducible refine s_ch1 (s_list (s_evs0 ?_))
      none_booked
      refine k_neE (b := 0) (b' := 0) (Ob.push (Ob.new (Nat.zero_le _))) (Ob.new (Nat.zero_le _)) (Nat.le_trans filt_len (by rw [rngInts_len]; unfold LIM; lia)) ?_
      have hinc : R.pl.Pairwise (· < ·) ↔ (((rngInts 1 (R.pl.length : Int)).map V.int).filter fun v => match v with | .int x => decide (R.pl.getD x.toNat 0 ≤ R.pl.getD (x - 1).toNat 0) | _ => false).map id = [] := by
        rw [filt_nil]
        constructor
        · intro hi x hx
          have hx' := mem_rngInts.mp hx
          refine decide_eq_false ?_
          have := of_inc hi (x - 1).toNat (by lia)
          rw [show (x - 1).toNat + 1 = x.toNat by lia] at this
          lia
        · intro hh
          refine inc_of _ fun i hi => ?_
          have := of_decide_eq_false (hh ((i : Int) + 1) (mem_rngInts.mpr (by lia)))
          rw [show ((i : Int) + 1).toNat = i + 1 by lia, show ((i : Int) + 1 - 1).toNat = i by lia] at this
          lia
      refine i_d (fun c => ?_) (fun c => ?_)
      · with_reducible refine x_cons (x_ret (s_con (x_seqS (x_seqS (x_finS ?_)))))
        exact k0 (fun hv => c (hinc.mp hv.places.inc)) _ ((e.push _).push _)
      · with_reducible refine x_nil (x_seqN ?_)
        exact next' (hinc.mpr (Decidable.not_not.mp c)) _ ((Ext.push1 _).push _)
  obtain ⟨e10, e3, e4, e5, e6, e7, e8, e9⟩ := h
  show exs _ (_ :: b25.drop 2) _ _ _
  generalize b25.drop 2 = tl at second ⊢
  with_reducible refine x_cons (x_ife (t_bop (s_boTf (t_not (t_cmp (s_con (s_ch2 (s_blt (s_evs1 ?_)))))))))
  none_booked
  with_reducible refine s_evs0 ?_
  none_booked
  with_reducible refine k_le ?_
  refine i_d (fun c1 => ?_) (fun c1 => ?_)
  rotate_left
  · with_reducible refine i_nf2 (i_tt (x_cons (x_ret (s_con (x_seqS (x_seqS (x_finS ?_)))))))
    simp only [List.length_map] at c1
    exact k0 (fun hv => c1 (by have := hv.places.len; lia)) _ .refl
  with_reducible refine s_ch1 (s_con (k_le ?_))
  refine i_nf (fun c2 => ?_) (fun c2 => ?_)
  rotate_left
  · with_reducible refine i_tt (x_cons (x_ret (s_con (x_seqS (x_seqS (x_finS ?_))))))
    simp only [List.length_map] at c2
    exact k0 (fun hv => c2 (by have := hv.places.len; lia)) _ .refl
  simp only [List.length_map] at c1 c2
  with_reducible refine s_boTf (t_cmp (s_comp ?_))
  none_booked
  refine compK_pure (fun v => match v with | .int x => decide (¬ (0 ≤ x ∧ x < (refs.length : Int))) | _ => false) id (fun S' e => items_list (hp.ext e (Nat.le_refl _))) (by rw [List.length_map]; unfold LIM; lia) hS (fun v hv S' e' hs' => ?_) ?_
  · obtain ⟨x, hx, rfl⟩ := List.mem_map.mp hv
    have f1' := f1.ext e' (Nat.le_refl _)
    have f2' := f2.ext e' (Nat.le_refl _)
    refine ⟨fun K hk => ?_, fun _ K hk => ?_⟩
    · with_reducible refine s_boTt (t_cmp ?_)
      none_booked
      with_reducible refine s_ch1 (s_blt (s_evs1 (s_blt (s_evs1 (s_attr ?_)))))
      none_booked
      none_booked
      with_reducible refine s_evs0 ?_
      none_booked
      with_reducible refine s_evs0 ?_
      have := hF.1
      refine o_range1 (n := (refs.length : Int)) (by rw [f3.len]; lia) ?_
      with_reducible refine k_notin ?_
      refine i_d (fun c1 => ?_) (fun c1 => ?_)
      · with_reducible refine s_bo0 ?_
        simp only [decide_eq_true c1] at hk; exact hk
      · skip
        simp only [decide_eq_false c1] at hk; exact hk
    · none_booked
      exact hk
  · with_reducible refine s_ch1 (s_list (s_evs0 ?_))
    none_booked
    refine k_neE (b := 0) (b' := 0) (Ob.push (Ob.new (Nat.zero_le _))) (Ob.new (Nat.zero_le _)) (Nat.le_trans filt_len (by unfold LIM; lia)) ?_
    have hrg : (∀ x ∈ R.pl, 0 ≤ x ∧ x < F.comps.length) ↔ ((R.pl.map V.int).filter fun v => match v with | .int x => decide (¬ (0 ≤ x ∧ x < (refs.length : Int))) | _ => false).map id = [] := by
      rw [filt_nil, f3.len]
      exact ⟨fun h x hx => decide_eq_false (fun hn => hn (h x hx)), fun h x hx => Decidable.not_not.mp (of_decide_eq_false (h x hx))⟩
    refine i_df (fun c => ?_) (fun c => ?_)
    · with_reducible refine s_bo0 (i_ft (x_nil (x_seqN ?_)))
      exact second (by lia) (hrg.mpr (Decidable.not_not.mp c)) _ ((Ext.push1 _).push _)
    · with_reducible refine i_tt (x_cons (x_ret (s_con (x_seqS (x_seqS (x_finS ?_))))))
      exact k0 (fun hv => c (hrg.mp hv.places.rng)) _ ((Ext.push1 _).push _)

theorem c_is_scan {q : Nat} (hS : Src S) (hf : FrameAt S f F) (hq : RowAt S q R) (hw : R.Wf)
    (k1 : Valid F R → ∀ S', Ext S S' → Q (.bool true) S') (k0 : ¬ Valid F R → ∀ S', Ext S S' → Q (.bool false) S') : callF T0 (n + 60) 25 [.ref f, .ref q] S X Q := by
  obtain ⟨p, d, a, h1, h2, h3, h4⟩ := hq
  refine callF_of (show T0.fn 25 = some (p25, b25) from rfl) rfl ?_
  show exs _ (_ :: b25.drop 1) _ _ _
  have next : exs (fun s fr S Q => ex T0 (n + 60) s fr S X Q) (b25.drop 1) (upds (bind0 p25 [.ref f, .ref q]) [3, 4, 5, 6, 7, 8, 9] [.ref p, .ref d, .ref a, .int R.st, .int R.en, .int R.hi, .int R.lo]) S (fin Q) :=
    is_scan_1 hS hf h2 h3 h4 hw ⟨rfl, rfl, rfl, rfl, rfl, rfl, rfl, rfl⟩ k1 k0
  generalize b25.drop 1 = tl at next ⊢
  with_reducible refine x_cons (x_unp ?_)
  none_booked
  refine x_bndN h1 rfl (by decide) ?_
  with_reducible refine x_seqN ?_
  exact next
end

inductive RowsAt (S : H) (r : Nat) (rows : List Row) : Prop where
  | mk (hh1 : rows.length ≤ 1000) (hh2 : (∀ R ∈ rows, R.Wf)) (refs : List Nat) (hh3 : Ob 2 S r (.list (refs.map V.ref))) (hh4 : Each (RowAt S) refs rows)
theorem RowsAt.ext {S S' : H} {r : Nat} {rows : List Row} (h : RowsAt S r rows) (e : Ext S S') : RowsAt S' r rows := by
  obtain ⟨h0, h1, refs, h2, h3⟩ := h; exact ⟨h0, h1, refs, h2.ext e (Nat.le_refl _), h3.mono fun _ _ h => h.ext e⟩
theorem Each.flipmap {α β γ δ : Type} {R : α → β → Prop} {T : β → δ → Prop} {f : γ → α} {g : γ → δ} (h : ∀ c b, R (f c) b → T b (g c)) {l : List γ} : ∀ {m : List β}, Each R (l.map f) m → Each T m (l.map g) := by
  induction l with
  | nil => intro m q; cases q; exact .nil
  | cons c l ih => intro m q; cases q with | cons x r => exact .cons (h _ _ x) (ih r)
theorem map_int_inj : ∀ {l m : List Int}, l.map V.int = m.map V.int → l = m
  | [], [], _ => rfl
  | [], _ :: _, h => by cases h
  | _ :: _, [], h => by cases h
  | a :: l, b :: m, h => by
    injection h with h1 h2
    injection h1 with h1
    rw [h1, map_int_inj h2]
theorem RowAt.inj {S : H} {q : Nat} {R R' : Row} (h : RowAt S q R) (h' : RowAt S q R') : R = R' := by
  obtain ⟨p, d, a, h1, h2, h3, h4⟩ := h
  obtain ⟨p', d', a', h1', h2', h3', h4'⟩ := h'
  have e := h1.inj h1'
  simp only [O.list.injEq, List.cons.injEq, V.ref.injEq, V.int.injEq, and_true] at e
  obtain ⟨rfl, rfl, rfl, e4, e5, e6, e7⟩ := e
  have g2 := h2.inj h2'
  have g3 := h3.inj h3'
  have g4 := h4.inj h4'
  injection g2 with g2
  injection g3 with g3
  injection g4 with g4
  cases R; cases R'
  simp only at *
  rw [map_int_inj g2, map_int_inj g3, map_int_inj g4, e4, e5, e6, e7]

inductive ToldAt (S : H) (l : Nat) (t : List (Nat × Int × Int)) : Prop where
  | mk (refs : List V) (hh1 : Ob 2 S l (.list refs)) (hh2 : Each (fun v (x : Nat × Int × Int) => ∃ q, v = .ref q ∧ Ob 2 S q (.list [.int (x.1 : Int), .int x.2.1, .int x.2.2])) refs t)
theorem ToldAt.ext {S S' : H} {l : Nat} {t : List (Nat × Int × Int)} (h : ToldAt S l t) (e : Ext S S') : ToldAt S' l t := by
  obtain ⟨refs, h1, h2⟩ := h
  exact ⟨refs, h1.ext e (Nat.le_refl _), h2.mono fun _ _ ⟨q, q1, q2⟩ => ⟨q, q1, q2.ext e (Nat.le_refl _)⟩⟩
theorem told_len (rows : List Row) (p a : Nat) : (told rows p a).length ≤ rows.length := by
  unfold told
  rw [List.length_map]
  refine Nat.le_trans (List.length_filter_le _ _) ?_
  simp

section
variable {n : Nat} {S : H} {X : H → Prop} {Q : V → H → Prop} {F : Fm} {R : Row} {f r : Nat} {rows : List Row}

/-- the row at an index -/
theorem row_at {refs : List Nat} (h3 : Each (RowAt S) refs rows) {k : Nat} (hk : k < rows.length) : ∃ q, nth (refs.map V.ref) (k : Int) = some (.ref q) ∧ RowAt S q (rows.getD k default) := by
  have e : rows[k]? = some (rows.getD k default) := by rw [List.getD_eq_getElem?_getD, List.getElem?_eq_getElem hk]; rfl
  obtain ⟨q, hq, hR⟩ := h3.getR e
  exact ⟨q, by rw [nth_nat (Int.natCast_nonneg k), List.getElem?_map, Int.toNat_natCast, hq]; rfl, hR⟩

theorem c_told {p a : Nat} (hS : Src S) (hr : RowsAt S r rows) (k : ∀ S' l, Ext S S' → ToldAt S' l (told rows p a) → Q (.ref l) S') : callF T0 (n + 40) 26 [.ref r, .int (p : Int), .int (a : Int)] S X Q := by
  obtain ⟨h0, hw, refs, h2, h3⟩ := id hr
  have hl := hS.len
  have hrl : (refs.map V.ref).length ≤ LIM := by rw [List.length_map, h3.len]; unfold LIM; lia
  refine callF_of (show T0.fn 26 = some (p26, b26) from rfl) rfl ?_
  unfold b26
  with_reducible refine x_cons (x_ret (s_comp (s_blt (s_evs1 (s_blt (s_evs1 ?_))))))
  none_booked
  with_reducible refine s_evs0 ?_
  none_booked
  with_reducible refine s_evs0 ?_
  have hlen : (((refs.map V.ref).length : Nat) : Int) = (rows.length : Int) := by rw [List.length_map, h3.len]
  rw [hlen]
  refine o_range1 (by lia) ?_
  refine compK_gen (fun v => match v with | .int k => decide (Cov (rows.getD k.toNat default) p a) | _ => false)
    (fun S3 v y => ∃ q, y = .ref q ∧ ∃ k : Nat, v = .int (k : Int) ∧ Ob (S.length + 1) S3 q (.list [.int (k : Int), .int (rows.getD k default).hi, .int (rows.getD k default).lo]))
    (fun S' e => items_rng (by lia) (by lia) (.inl rfl)) (by rw [rngItems_len]; exact rngLen_lim (by lia) (by lia)) (fun _ _ v y kk ⟨q, h1, k, h2, h3⟩ => ⟨q, h1, k, h2, h3.keep kk⟩) hS (fun v hv S' e hs' hk K kk => ?_) (fun v hv hpv S' e hs' hk KK kk => ?_) (fun S' outs e ho ha => ?_)
  · rw [rngItems_eq] at hv
    obtain ⟨x, hx, rfl⟩ := List.mem_map.mp hv
    have hx' := mem_rngInts.mp hx
    obtain ⟨kx, rfl⟩ : ∃ kx : Nat, x = (kx : Int) := ⟨x.toNat, by lia⟩
    obtain ⟨q, hq1, pp, dd, aa, g1, g2, g3, g4⟩ := row_at h3 (k := kx) (by lia)
    have h2' := h2.ext e (Nat.le_refl _)
    have g1' := g1.ext e (Nat.le_refl _)
    have g2' := g2.ext e (Nat.le_refl _)
    have hRw := (hw (rows.getD kx default) (by rw [List.getD_eq_getElem?_getD, List.getElem?_eq_getElem (show kx < rows.length by lia)]; exact List.getElem_mem _)).2.2
    simp only [Int.toNat_natCast] at kk
    have g5 : ∀ {W : V → Prop} (j : Nat) (w : V), [V.ref pp, .ref dd, .ref aa, .int (rows.getD kx default).st, .int (rows.getD kx default).en, .int (rows.getD kx default).hi, .int (rows.getD kx default).lo][j]? = some w → W w → getI (.ref q) (.int (j : Int)) S' W := fun j w hj hW => g_idx g1' (by simp [LIM]) (by rw [nth_nat (Int.natCast_nonneg j), Int.toNat_natCast]; exact hj) hW
    with_reducible refine s_boTt (t_bop (s_boTt (t_cmp ?_)))
    none_booked
    with_reducible refine s_ch1 (s_idx (s_idx ?_))
    none_booked
    none_booked
    refine g_idx h2' hrl hq1 ?_
    with_reducible refine s_con ?_
    refine g5 0 (.ref pp) rfl ?_
    refine k_isin g2' (by rw [List.length_map]; unfold LIM; lia) (intsO_map _) ?_
    refine i_d (fun c1 => ?_) (fun c1 => ?_)
    rotate_left
    · with_reducible refine i_ft ?_
      rw [decide_eq_false (fun h : Cov _ p a => c1 h.1)] at kk
      exact kk _ .refl
    with_reducible refine s_boTt (t_cmp (s_idx (s_idx ?_)))
    none_booked
    none_booked
    refine g_idx h2' hrl hq1 ?_
    with_reducible refine s_con ?_
    refine g5 3 _ rfl ?_
    with_reducible refine s_ch2 ?_
    none_booked
    with_reducible refine k_le ?_
    refine i_d (fun c2 => ?_) (fun c2 => ?_)
    rotate_left
    · with_reducible refine i_ft (i_ft ?_)
      rw [decide_eq_false (fun h : Cov _ p a => c2 h.2.1)] at kk
      exact kk _ .refl
    with_reducible refine s_ch1 (s_idx (s_idx ?_))
    none_booked
    none_booked
    refine g_idx h2' hrl hq1 ?_
    with_reducible refine s_con ?_
    refine g5 4 _ rfl ?_
    with_reducible refine k_le ?_
    refine i_d (fun c3 => ?_) (fun c3 => ?_)
    · with_reducible refine s_bo0 (i_tt (s_bo0 ?_))
      rw [decide_eq_true (show Cov _ p a from ⟨c1, c2, c3⟩)] at kk
      exact kk _ .refl
    · with_reducible refine i_ft ?_
      rw [decide_eq_false (fun h : Cov _ p a => c3 h.2.2)] at kk
      exact kk _ .refl
  · rw [rngItems_eq] at hv
    obtain ⟨x, hx, rfl⟩ := List.mem_map.mp hv
    have hx' := mem_rngInts.mp hx
    obtain ⟨kx, rfl⟩ : ∃ kx : Nat, x = (kx : Int) := ⟨x.toNat, by lia⟩
    obtain ⟨q, hq1, pp, dd, aa, g1, g2, g3, g4⟩ := row_at h3 (k := kx) (by lia)
    have h2' := h2.ext e (Nat.le_refl _)
    have g1' := g1.ext e (Nat.le_refl _)
    have g5 : ∀ {W : V → Prop} (j : Nat) (w : V), [V.ref pp, .ref dd, .ref aa, .int (rows.getD kx default).st, .int (rows.getD kx default).en, .int (rows.getD kx default).hi, .int (rows.getD kx default).lo][j]? = some w → W w → getI (.ref q) (.int (j : Int)) S' W := fun j w hj hW => g_idx g1' (by simp [LIM]) (by rw [nth_nat (Int.natCast_nonneg j), Int.toNat_natCast]; exact hj) hW
    with_reducible refine s_list (s_evs1 ?_)
    none_booked
    with_reducible refine s_evs1 (s_idx (s_idx ?_))
    none_booked
    none_booked
    refine g_idx h2' hrl hq1 ?_
    with_reducible refine s_con ?_
    refine g5 5 _ rfl ?_
    with_reducible refine s_evs1 (s_idx (s_idx ?_))
    none_booked
    none_booked
    refine g_idx h2' hrl hq1 ?_
    with_reducible refine s_con ?_
    refine g5 6 _ rfl ?_
    with_reducible refine s_evs0 ?_
    none_booked
    exact kk _ _ (.push1 _) ⟨_, rfl, kx, rfl, Ob.new (by lia)⟩
  · with_reducible refine x_seqS (x_finS ?_)
    refine k S' _ e ⟨outs, ho, ?_⟩
    have eL : (rngItems 0 (rows.length : Int) 1).filter (fun v => match v with | .int k => decide (Cov (rows.getD k.toNat default) p a) | _ => false) = ((List.range rows.length).filter fun k => decide (Cov (rows.getD k default) p a)).map fun (k : Nat) => V.int (k : Int) := by
      have e1 : rngItems 0 (rows.length : Int) 1 = (List.range rows.length).map fun (k : Nat) => V.int (k : Int) := by
        unfold rngItems rngLen
        rw [if_pos rfl, show ((rows.length : Int) - 0).toNat = rows.length by lia]
        refine List.map_congr_left fun i _ => ?_
        congr 1; lia
      rw [e1, List.filter_map]
      congr 1
    rw [eL] at ha
    unfold told
    refine Each.flipmap (fun c b h => ?_) ha
    obtain ⟨q, rfl, k', hk', ho'⟩ := h
    injection hk' with hk'
    have : c = k' := by lia
    subst this
    exact ⟨q, rfl, ho'.le (by lia)⟩
end

section
variable {n : Nat} {S : H} {X : H → Prop} {Q : V → H → Prop} {F : Fm} {R : Row} {f r : Nat} {rows : List Row}

/-- of one place and one coefficient: judged so far -/
noncomputable def JAt (rows : List Row) (p a : Nat) : Prop := JOk (told rows p a) ∧ JDc (told rows p 0) (told rows p a)
theorem lastLo_get {l : List (Nat × Int × Int)} (h : l ≠ []) : ∃ x, l[l.length - 1]? = some x ∧ lastLo l = x.2.2 := by
  have hl := List.length_pos_iff.mpr h
  refine ⟨l[l.length - 1]'(by lia), List.getElem?_eq_getElem (by lia), ?_⟩
  unfold lastLo
  rw [List.getLast?_eq_getElem?, List.getElem?_eq_getElem (by lia)]

/-- the row of tests of one coefficient -/
theorem judged_k {l1 : Nat} {t : List (Nat × Int × Int)} {fr : Fr} {R : Option V → Fr → H → Prop} (hS : Src S) (ht : ToldAt S l1 t) (htl : t.length ≤ 1000) (e48 : fr 48 = some (.ref l1))
    (kB : ¬ JOk t → ∀ fr', R (some .none) fr' S) (kG : JOk t → ∀ fr', (∀ y, y ≠ 0 → fr' y = fr y) → R none fr' S) :
    ex T0 (n + 50) (.forv 0 (.blt .range [(.blt .len [(.var 48)])]) [.ife (.bop false [(.cmp (.idx (.idx (.var 48) (.var 0)) (.con (.int 1))) [(.ne, (.ite (.cmp (.var 0) [(.eq, (.con (.int 0)))]) (.con (.int 0)) (.idx (.idx (.var 48) (.bin .sub (.var 0) (.con (.int 1)))) (.con (.int 2)))))]), (.bop true [(.cmp (.var 0) [(.gt, (.con (.int 0)))]), (.cmp (.idx (.idx (.var 48) (.var 0)) (.con (.int 1))) [(.eq, (.con (.int 0)))])])]) [.ret (.con .none)] []]) fr S X R := by
  obtain ⟨refs, g1, g2⟩ := id ht
  have hrl := g2.len
  have hrl' : refs.length ≤ LIM := by rw [hrl]; unfold LIM; lia
  with_reducible refine x_forv (s_blt (s_evs1 (s_blt (s_evs1 ?_))))
  none_booked
  with_reducible refine s_evs0 ?_
  none_booked
  with_reducible refine s_evs0 ?_
  rw [hrl]
  refine o_range1 (by lia) ?_
  refine forI_rng (by lia) (by lia) (.inl rfl) ?_
  refine for_inv (fun l fr' S' => An3 (S = S') (∀ y, y ≠ 0 → fr' y = fr y) (∃ k : Nat, An3 (k ≤ t.length) (l = rngItems (k : Int) (t.length : Int) 1) (∀ k' x, k' < k → t[k']? = some x → (k' = 0 → x.2.1 = 0) ∧ (∀ j y, k' = j + 1 → t[j]? = some y → x.2.1 = y.2.2 ∧ x.2.1 ≠ 0)))) ?_ ?_ ?_ _ _ _
    ⟨rfl, fun _ _ => rfl, 0, Nat.zero_le _, rfl, fun k' x h => by lia⟩
  · rintro l fr' S' ⟨rfl, _⟩; exact items_rng (by lia) (by lia) (.inl rfl)
  · rintro fr' S' ⟨rfl, hfr, k, hk, hl, hok⟩
    have hkt : k = t.length := by
      rcases Nat.lt_or_ge k t.length with h | h
      · rw [rng_cons (by lia)] at hl; cases hl
      · lia
    subst hkt
    exact kG (fun k x hx => hok k x (List.getElem?_eq_some_iff.mp hx).1 hx) _ hfr
  · rintro v rr fr' S' ⟨rfl, hfr, k, hk, hl, hok⟩ K kn ks
    have hkt : k < t.length := by
      rcases Nat.lt_or_ge k t.length with h | h
      · exact h
      · rw [rng_nil (by lia)] at hl; cases hl
    rw [rng_cons (by lia)] at hl
    cases hl
    show exs _ _ (upd fr' 0 (.int (k : Int))) _ _
    have e48' : fr' 48 = some (.ref l1) := by rw [hfr 48 (by decide)]; exact e48
    obtain ⟨x, hx⟩ : ∃ x, t[k]? = some x := ⟨_, List.getElem?_eq_getElem hkt⟩
    obtain ⟨v0, hv0, q, rfl, hq⟩ := g2.getR hx
    have hnth : nth refs (k : Int) = some (.ref q) := by rw [nth_nat (Int.natCast_nonneg k), Int.toNat_natCast]; exact hv0
    have g5 : ∀ {W : V → Prop} {q : Nat} {x : Nat × Int × Int} (hq : Ob 2 S q (.list [.int (x.1 : Int), .int x.2.1, .int x.2.2])) (j : Nat) (w : V), [V.int (x.1 : Int), .int x.2.1, .int x.2.2][j]? = some w → W w → getI (.ref q) (.int (j : Int)) S W := fun hq j w hj hW => g_idx hq (by simp [LIM]) (by rw [nth_nat (Int.natCast_nonneg j), Int.toNat_natCast]; exact hj) hW
    have bad : ¬ ((k = 0 → x.2.1 = 0) ∧ (∀ j y, k = j + 1 → t[j]? = some y → x.2.1 = y.2.2 ∧ x.2.1 ≠ 0)) → K (some .none) (upd fr' 0 (.int (k : Int))) S := fun h =>
      ks _ _ _ (kB (fun hj => h (hj k x hx)) _)
    have good : ((k = 0 → x.2.1 = 0) ∧ (∀ j y, k = j + 1 → t[j]? = some y → x.2.1 = y.2.2 ∧ x.2.1 ≠ 0)) → K none (upd fr' 0 (.int (k : Int))) S := fun h => by
      refine kn _ _ ⟨rfl, fun y hy => ?_, k + 1, hkt, by simp, fun k' x' hk' hx' => ?_⟩
      · unfold upd; rw [if_neg hy]; exact hfr y hy
      · by_cases hkk : k' = k
        · subst hkk; rw [hx] at hx'; cases hx'; exact h
        · exact hok k' x' (by lia) hx'
    have tail : (x.2.1 = if k = 0 then 0 else (t.getD (k - 1) (0, 0, 0)).2.2) → bools (fun e S Q => tst T0 (n + 47) e (upd fr' 0 (.int (k : Int))) S X Q) false [(.bop true [(.cmp (.var 0) [(.gt, (.con (.int 0)))]), (.cmp (.idx (.idx (.var 48) (.var 0)) (.con (.int 1))) [(.eq, (.con (.int 0)))])])] S
        fun g S1 => if g = true then exs (fun s fr S Q => ex T0 (n + 48) s fr S X Q) [.ret (.con .none)] (upd fr' 0 (.int (k : Int))) S1 (seqK (fun s fr S Q => ex T0 (n + 49) s fr S X Q) [] K) else exs (fun s fr S Q => ex T0 (n + 48) s fr S X Q) [] (upd fr' 0 (.int (k : Int))) S1 (seqK (fun s fr S Q => ex T0 (n + 49) s fr S X Q) [] K) := by
      intro heq
      with_reducible refine s_boTf (t_bop (s_boTt (t_cmp ?_)))
      none_booked
      with_reducible refine s_ch1 (s_con (k_gt ?_))
      refine i_d (fun c1 => ?_) (fun c1 => ?_)
      · with_reducible refine s_boTt (t_cmp (s_idx (s_idx ?_)))
        none_booked
        none_booked
        refine g_idx g1 hrl' hnth ?_
        with_reducible refine s_con ?_
        refine g5 hq 1 _ rfl ?_
        with_reducible refine s_ch1 (s_con (k_eqI ?_))
        refine i_d (fun c2 => ?_) (fun c2 => ?_)
        · with_reducible refine s_bo0 (i_tf (i_tt (x_cons (x_ret (s_con (x_seqS (x_seqS ?_)))))))
          refine bad fun h => ?_
          obtain ⟨y, hy⟩ : ∃ y, t[k - 1]? = some y := ⟨_, List.getElem?_eq_getElem (by lia)⟩
          exact (h.2 (k - 1) y (by lia) hy).2 c2
        · with_reducible refine i_ff (s_bo0 (i_ft (x_nil (x_seqN (x_nil ?_)))))
          refine good ⟨fun h => by lia, fun j y hj hy => ⟨?_, c2⟩⟩
          rw [if_neg (by lia)] at heq
          rw [heq, List.getD_eq_getElem?_getD, show k - 1 = j by lia, hy]; rfl
      · with_reducible refine i_ff (s_bo0 (i_ft (x_nil (x_seqN (x_nil ?_)))))
        refine good ⟨fun h => ?_, fun j y hj hy => by lia⟩
        rw [if_pos h] at heq; exact heq
    with_reducible refine x_cons (x_ife (t_bop (s_boTf (t_cmp (s_idx (s_idx ?_))))))
    none_booked
    none_booked
    refine g_idx g1 hrl' hnth ?_
    with_reducible refine s_con ?_
    refine g5 hq 1 _ rfl ?_
    with_reducible refine s_ch1 (s_ite (t_cmp ?_))
    none_booked
    with_reducible refine s_ch1 (s_con (k_eqI ?_))
    refine i_d (fun c1 => ?_) (fun c1 => ?_)
    · have hk0 : k = 0 := by lia
      subst hk0
      with_reducible refine s_con (k_neI ?_)
      refine i_df (fun c2 => ?_) (fun c2 => ?_)
      · exact tail (by rw [if_pos rfl]; lia)
      · with_reducible refine i_tt (x_cons (x_ret (s_con (x_seqS (x_seqS ?_)))))
        exact bad fun h => c2 (h.1 rfl)
    · have hk0 : k ≠ 0 := by lia
      obtain ⟨y, hy⟩ : ∃ y, t[k - 1]? = some y := ⟨_, List.getElem?_eq_getElem (by lia)⟩
      obtain ⟨v1, hv1, q1, rfl, hq1⟩ := g2.getR hy
      have hnth1 : nth refs ((k : Int) - 1) = some (.ref q1) := by rw [nth_nat (by lia), show ((k : Int) - 1).toNat = k - 1 by lia]; exact hv1
      with_reducible refine s_idx (s_idx ?_)
      none_booked
      with_reducible refine s_bin ?_
      none_booked
      with_reducible refine s_con (o_sub ?_)
      refine g_idx g1 hrl' hnth1 ?_
      with_reducible refine s_con ?_
      refine g5 hq1 2 _ rfl ?_
      with_reducible refine k_neI ?_
      refine i_df (fun c2 => ?_) (fun c2 => ?_)
      · refine tail ?_
        rw [if_neg hk0, List.getD_eq_getElem?_getD, hy]
        exact Decidable.not_not.mp c2
      · with_reducible refine i_tt (x_cons (x_ret (s_con (x_seqS (x_seqS ?_)))))
        exact bad fun h => c2 (h.2 (k - 1) y (by lia) hy).1
end

section
variable {n : Nat} {S : H} {X : H → Prop} {Q : V → H → Prop} {F : Fm} {R : Row} {f r : Nat} {rows : List Row}

/-- what follows the tests of one coefficient -/
theorem judged_t {l0 l1 : Nat} {t0 t : List (Nat × Int × Int)} {fr : Fr} {K : Option V → Fr → H → Prop} {b : Bool} (hS : Src S) (ht0 : ToldAt S l0 t0) (ht : ToldAt S l1 t) (htl0 : t0.length ≤ 1000) (htl : t.length ≤ 1000) (e48 : fr 48 = some (.ref l1)) (e54 : fr 54 = some (.ref l0)) (e53 : fr 53 = some (.bool b))
    (kB : ¬ JDc t0 t → ∀ S', Ext S S' → K (some .none) fr S') (kG : JDc t0 t → ∀ S' b', Ext S S' → (b' = true ↔ b = true ∧ lastLo t = 0) → K none (upd fr 53 (.bool b')) S') :
    exs (fun s fr S Q => ex T0 (n + 60) s fr S X Q) [.ife (.bop true [(.cmp (.var 48) [(.ne, (.list []))]), (.bop false [(.cmp (.var 54) [(.eq, (.list []))]), (.cmp (.idx (.idx (.var 54) (.con (.int 0))) (.con (.int 0))) [(.gt, (.idx (.idx (.var 48) (.con (.int 0))) (.con (.int 0))))])])]) [.ret (.con .none)] [], .asg 53 (.bop true [(.var 53), (.cmp (.var 48) [(.ne, (.list []))]), (.cmp (.idx (.idx (.var 48) (.con (.int (-1)))) (.con (.int 2))) [(.eq, (.con (.int 0)))])])] fr S K := by
  obtain ⟨refs0, a1, a2⟩ := id ht0
  obtain ⟨refs, g1, g2⟩ := id ht
  have hl := hS.len
  have hrl := g2.len
  have hrl0 := a2.len
  have hrl' : refs.length ≤ LIM := by rw [hrl]; unfold LIM; lia
  have hrl0' : refs0.length ≤ LIM := by rw [hrl0]; unfold LIM; lia
  have nilt : refs = [] ↔ t = [] := by rw [← List.length_eq_zero_iff, ← List.length_eq_zero_iff, hrl]
  have nilt0 : refs0 = [] ↔ t0 = [] := by rw [← List.length_eq_zero_iff, ← List.length_eq_zero_iff, hrl0]
  have g5 : ∀ {S' : H} {W : V → Prop} {q : Nat} {x : Nat × Int × Int} (hq : Ob 2 S' q (.list [.int (x.1 : Int), .int x.2.1, .int x.2.2])) (j : Nat) (w : V), [V.int (x.1 : Int), .int x.2.1, .int x.2.2][j]? = some w → W w → getI (.ref q) (.int (j : Int)) S' W := fun hq j w hj hW => g_idx hq (by simp [LIM]) (by rw [nth_nat (Int.natCast_nonneg j), Int.toNat_natCast]; exact hj) hW
  -- the end
  have last : JDc t0 t → ∀ S1, Ext S S1 → exs (fun s fr S Q => ex T0 (n + 60) s fr S X Q) [.asg 53 (.bop true [(.var 53), (.cmp (.var 48) [(.ne, (.list []))]), (.cmp (.idx (.idx (.var 48) (.con (.int (-1)))) (.con (.int 2))) [(.eq, (.con (.int 0)))])])] fr S1 K := by
    intro hj S1 e
    have g1' := g1.ext e (Nat.le_refl _)
    with_reducible refine x_cons (x_asg (s_bop (s_boEt ?_)))
    none_booked
    with_reducible refine s_isB ?_
    cases b with
    | false =>
      with_reducible refine i_ft (x_seqN (x_nil ?_))
      exact kG hj _ _ e (by simp)
    | true =>
      with_reducible refine i_tt (s_boEt (s_cmp ?_))
      none_booked
      with_reducible refine s_ch1 (s_list (s_evs0 ?_))
      none_booked
      refine k_neE (b := 2) (b' := 0) g1'.push (Ob.new (Nat.zero_le _)) hrl' ?_
      refine i_d (fun c1 => ?_) (fun c1 => ?_)
      · with_reducible refine s_boEt (s_cmp (s_idx (s_idx ?_)))
        none_booked
        with_reducible refine s_con ?_
        have htn : t ≠ [] := fun h => c1 (nilt.mpr h)
        have htp := List.length_pos_iff.mpr htn
        obtain ⟨x, hx, hlo⟩ := lastLo_get htn
        obtain ⟨v0, hv0, q, rfl, hq⟩ := g2.getR hx
        have hnth : nth refs (-1) = some (.ref q) := by
          unfold nth
          rw [if_neg (by lia), if_pos (by lia), show ((refs.length : Int) + -1).toNat = t.length - 1 by lia]; exact hv0
        have hq' := (hq.ext e (Nat.le_refl _)).push (o' := .list [])
        refine g_idx g1'.push hrl' hnth ?_
        with_reducible refine s_con ?_
        refine g5 hq' 2 _ rfl ?_
        with_reducible refine s_ch1 (s_con (k_eqI (s_isB ?_)))
        refine i_d (fun c2 => ?_) (fun c2 => ?_)
        · with_reducible refine s_bo0 (x_seqN (x_nil ?_))
          exact kG hj _ _ (e.push _) (by rw [hlo]; simp [c2])
        · with_reducible refine x_seqN (x_nil ?_)
          exact kG hj _ _ (e.push _) (by rw [hlo]; simp [c2])
      · with_reducible refine x_seqN (x_nil ?_)
        have htn : t = [] := nilt.mp (Decidable.not_not.mp c1)
        exact kG hj _ _ (e.push _) (by rw [htn, lastLo_nil]; simp)
  generalize hT : [St.asg 53 (.bop true [(.var 53), (.cmp (.var 48) [(.ne, (.list []))]), (.cmp (.idx (.idx (.var 48) (.con (.int (-1)))) (.con (.int 2))) [(.eq, (.con (.int 0)))])])] = tl at last ⊢
  with_reducible refine x_cons (x_ife (t_bop (s_boTt (t_cmp ?_))))
  none_booked
  with_reducible refine s_ch1 (s_list (s_evs0 ?_))
  none_booked
  refine k_neE (b := 2) (b' := 0) g1.push (Ob.new (Nat.zero_le _)) hrl' ?_
  refine i_d (fun c1 => ?_) (fun c1 => ?_)
  · have htn : t ≠ [] := fun h => c1 (nilt.mpr h)
    obtain ⟨x, rr, hxr⟩ : ∃ x rr, t = x :: rr := by cases t with | nil => exact absurd rfl htn | cons x rr => exact ⟨x, rr, rfl⟩
    obtain ⟨v0, hv0, q, rfl, hq⟩ := g2.getR (show t[0]? = some x by rw [hxr]; rfl)
    have hnth : nth refs 0 = some (.ref q) := hv0
    with_reducible refine s_boTt (t_bop (s_boTf (t_cmp ?_)))
    none_booked
    with_reducible refine s_ch1 (s_list (s_evs0 ?_))
    none_booked
    refine k_eqE (b := 2) (b' := 0) a1.push.push (Ob.new (Nat.zero_le _)) hrl0' ?_
    refine i_df (fun c2 => ?_) (fun c2 => ?_)
    · have htn0 : t0 ≠ [] := fun h => c2 (nilt0.mpr h)
      obtain ⟨y, ss, hys⟩ : ∃ y ss, t0 = y :: ss := by cases t0 with | nil => exact absurd rfl htn0 | cons x rr => exact ⟨x, rr, rfl⟩
      obtain ⟨v1, hv1, q1, rfl, hq1⟩ := a2.getR (show t0[0]? = some y by rw [hys]; rfl)
      have hnth1 : nth refs0 0 = some (.ref q1) := hv1
      have hq' := hq.push (o' := .list []) |>.push (o' := .list [])
      have hq1' := hq1.push (o' := .list []) |>.push (o' := .list [])
      have jd : JDc t0 t ↔ y.1 ≤ x.1 := by
        constructor
        · intro h
          obtain ⟨y', s', h1, h2⟩ := h x rr hxr
          rw [hys] at h1; cases h1; exact h2
        · intro h x' r' hx'
          rw [hxr] at hx'; cases hx'
          exact ⟨y, ss, hys, h⟩
      with_reducible refine s_boTf (t_cmp (s_idx (s_idx ?_)))
      none_booked
      with_reducible refine s_con ?_
      refine g_idx a1.push.push hrl0' hnth1 ?_
      with_reducible refine s_con ?_
      refine g5 hq1' 0 _ rfl ?_
      with_reducible refine s_ch1 (s_idx (s_idx ?_))
      none_booked
      with_reducible refine s_con ?_
      refine g_idx g1.push.push hrl' hnth ?_
      with_reducible refine s_con ?_
      refine g5 hq' 0 _ rfl ?_
      with_reducible refine k_gt ?_
      refine i_df (fun c3 => ?_) (fun c3 => ?_)
      · with_reducible refine s_bo0 (i_ft (i_ft (x_nil (x_seqN ?_))))
        exact last (jd.mpr (by lia)) _ ((Ext.push1 _).push _)
      · with_reducible refine i_tt (s_bo0 (i_tt (x_cons (x_ret (s_con (x_seqS (x_seqS ?_)))))))
        exact kB (fun h => by have := jd.mp h; lia) _ ((Ext.push1 _).push _)
    · have htn0 : t0 = [] := nilt0.mp c2
      with_reducible refine i_tt (s_bo0 (i_tt (x_cons (x_ret (s_con (x_seqS (x_seqS ?_)))))))
      refine kB (fun h => ?_) _ ((Ext.push1 _).push _)
      obtain ⟨y', s', h1, h2⟩ := h x rr hxr
      rw [htn0] at h1; cases h1
  · have htn : t = [] := nilt.mp (Decidable.not_not.mp c1)
    with_reducible refine i_ft (x_nil (x_seqN ?_))
    exact last (fun x r h => by rw [htn] at h; cases h) _ (.push1 _)

noncomputable def bodyAt : List St := [.asg 48 (.call 26 [(.var 49), (.var 13), (.var 18)]), .forv 0 (.blt .range [(.blt .len [(.var 48)])]) [.ife (.bop false [(.cmp (.idx (.idx (.var 48) (.var 0)) (.con (.int 1))) [(.ne, (.ite (.cmp (.var 0) [(.eq, (.con (.int 0)))]) (.con (.int 0)) (.idx (.idx (.var 48) (.bin .sub (.var 0) (.con (.int 1)))) (.con (.int 2)))))]), (.bop true [(.cmp (.var 0) [(.gt, (.con (.int 0)))]), (.cmp (.idx (.idx (.var 48) (.var 0)) (.con (.int 1))) [(.eq, (.con (.int 0)))])])]) [.ret (.con .none)] []], .ife (.bop true [(.cmp (.var 48) [(.ne, (.list []))]), (.bop false [(.cmp (.var 54) [(.eq, (.list []))]), (.cmp (.idx (.idx (.var 54) (.con (.int 0))) (.con (.int 0))) [(.gt, (.idx (.idx (.var 48) (.con (.int 0))) (.con (.int 0))))])])]) [.ret (.con .none)] [], .asg 53 (.bop true [(.var 53), (.cmp (.var 48) [(.ne, (.list []))]), (.cmp (.idx (.idx (.var 48) (.con (.int (-1)))) (.con (.int 2))) [(.eq, (.con (.int 0)))])])]

theorem upd_get {fr fr' : Fr} {x y : Nat} {v w : V} (h : fr y = some w) (hxy : y ≠ x) : upd fr x v y = some w := by unfold upd; rw [if_neg hxy]; exact h

/-- one coefficient -/
theorem judged_at {l0 p a : Nat} {fr : Fr} {K : Option V → Fr → H → Prop} {b : Bool} (hS : Src S) (hr : RowsAt S r rows) (ht0 : ToldAt S l0 (told rows p 0)) (e49 : fr 49 = some (.ref r)) (e13 : fr 13 = some (.int (p : Int))) (e18 : fr 18 = some (.int (a : Int))) (e54 : fr 54 = some (.ref l0)) (e53 : fr 53 = some (.bool b))
    (kB : ¬ JAt rows p a → ∀ fr' S', Ext S S' → K (some .none) fr' S') (kG : JAt rows p a → ∀ fr' S' b', Ext S S' → fr' 53 = some (.bool b') → (b' = true ↔ b = true ∧ lastLo (told rows p a) = 0) → (∀ y, y ≠ 0 → y ≠ 48 → y ≠ 53 → fr' y = fr y) → K none fr' S') :
    exs (fun s fr S Q => ex T0 (n + 60) s fr S X Q) bodyAt fr S K := by
  unfold bodyAt
  have hl0 : (told rows p 0).length ≤ 1000 := Nat.le_trans (told_len _ _ _) hr.1
  have hl1 : (told rows p a).length ≤ 1000 := Nat.le_trans (told_len _ _ _) hr.1
  with_reducible refine x_cons (x_asg (s_call (s_evs1 ?_)))
  none_booked
  with_reducible refine s_evs1 ?_
  none_booked
  with_reducible refine s_evs1 ?_
  none_booked
  with_reducible refine s_evs0 ?_
  refine c_told hS hr fun S1 l1 e ht => ?_
  refine x_seqN (x_cons ?_)
  refine judged_k (e.src hS) ht hl1 (by rfl) (fun h fr' => x_seqS (kB (fun hj => h hj.1) _ _ e)) (fun hj fr' hfr => x_seqN ?_)
  refine judged_t (e.src hS) (ht0.ext e) ht hl0 hl1 (by rw [hfr 48 (by decide)]; rfl) (by rw [hfr 54 (by decide)]; exact e54) (by rw [hfr 53 (by decide)]; exact e53) (fun h S2 e2 => kB (fun hj => h hj.2) _ _ (e.trans e2)) (fun h S2 b' e2 hb' => ?_)
  refine kG ⟨hj, h⟩ _ _ b' (e.trans e2) rfl hb' (fun y h0 h1 h2 => ?_)
  show (if y = 53 then _ else fr' y) = _
  rw [if_neg h2, hfr y h0]
  show (if y = 48 then _ else fr y) = _
  rw [if_neg h1]

/-- one place -/
theorem judged_p {p : Nat} {fr : Fr} {K : Option V → Fr → H → Prop} {b : Bool} (hS : Src S) (hf : FrameAt S f F) (hr : RowsAt S r rows) (e10 : fr 10 = some (.ref f)) (e49 : fr 49 = some (.ref r)) (e13 : fr 13 = some (.int (p : Int))) (e53 : fr 53 = some (.bool b))
    (kB : ¬ (∀ a, a < 4 → JAt rows p a) → ∀ fr' S', Ext S S' → K (some .none) fr' S') (kG : (∀ a, a < 4 → JAt rows p a) → ∀ fr' S' b', Ext S S' → fr' 10 = some (.ref f) → fr' 49 = some (.ref r) → fr' 53 = some (.bool b') → (b' = true ↔ b = true ∧ ∀ a, a < 4 → lastLo (told rows p a) = 0) → K none fr' S') :
    exs (fun s fr S Q => ex T0 (n + 70) s fr S X Q) [.asg 54 (.call 26 [(.var 49), (.var 13), (.con (.int 0))]), .forv 18 (.blt .range [(.bin .mul (.attr (.var 10) 38) (.attr (.var 10) 38))]) bodyAt] fr S K := by
  obtain ⟨hF, cl, refs, f1, f2, f3⟩ := id hf
  generalize hB : bodyAt = body
  with_reducible refine x_cons (x_asg (s_call (s_evs1 ?_)))
  none_booked
  with_reducible refine s_evs1 ?_
  none_booked
  with_reducible refine s_evs1 (s_con (s_evs0 ?_))
  refine c_told (a := 0) hS hr fun S1 l0 e ht0 => ?_
  have f1' := f1.ext e (Nat.le_refl _)
  have u10 : upd fr 54 (.ref l0) 10 = some (.ref f) := upd_get (fr' := fr) e10 (by decide)
  have u49 : upd fr 54 (.ref l0) 49 = some (.ref r) := upd_get (fr' := fr) e49 (by decide)
  have u13 : upd fr 54 (.ref l0) 13 = some (.int (p : Int)) := upd_get (fr' := fr) e13 (by decide)
  have u53 : upd fr 54 (.ref l0) 53 = some (.bool b) := upd_get (fr' := fr) e53 (by decide)
  have u54 : upd fr 54 (.ref l0) 54 = some (.ref l0) := rfl
  generalize upd fr 54 (.ref l0) = fr1 at *
  with_reducible refine x_seqN (x_cons (x_forv (s_blt (s_evs1 (s_bin (s_attr ?_))))))
  none_booked
  none_booked
  with_reducible refine s_attr ?_
  none_booked
  none_booked
  none_booked
  with_reducible refine s_evs0 ?_
  refine o_range1 (by decide) ?_
  refine forI_rng (by decide) (by decide) (.inl rfl) ?_
  refine for_inv (fun l fr' S' => An6 (Ext S1 S') (fr' 10 = some (.ref f)) (fr' 49 = some (.ref r)) (fr' 13 = some (.int (p : Int))) (fr' 54 = some (.ref l0)) (Xn2 fun (a : Nat) (b' : Bool) => An5 (a ≤ 4) (l = rngItems (a : Int) (2 * 2) 1) (fr' 53 = some (.bool b')) (∀ a', a' < a → JAt rows p a') (b' = true ↔ b = true ∧ ∀ a', a' < a → lastLo (told rows p a') = 0))) ?_ ?_ ?_ _ _ _
    ⟨.refl, u10, u49, u13, u54, 0, b, by lia, rfl, u53, fun a' h => by lia, by constructor <;> intro h <;> simp_all⟩
  · rintro l fr' S' _; exact items_rng (by decide) (by decide) (.inl rfl)
  · rintro fr' S' ⟨e', a10, a49, a13, a54, a, b', ha, hl, a53, hj, hb⟩
    have : a = 4 := by
      rcases Int.lt_or_le (a : Int) (2 * 2) with h | h
      · rw [rng_cons h] at hl; cases hl
      · lia
    subst this
    with_reducible refine x_seqN (x_nil ?_)
    exact kG hj _ _ b' (e.trans e') a10 a49 a53 hb
  · rintro v rr fr' S' ⟨e', a10, a49, a13, a54, a, b', ha, hl, a53, hj, hb⟩ K' kn ks
    have ha4 : (a : Int) < 2 * 2 := by
      rcases Int.lt_or_le (a : Int) (2 * 2) with h | h
      · exact h
      · rw [rng_nil h] at hl; cases hl
    rw [rng_cons ha4] at hl
    cases hl
    subst hB
    show exs _ _ (upd fr' 18 (.int (a : Int))) _ _
    refine judged_at (e'.src (e.src hS)) ((hr.ext e).ext e') (ht0.ext e') (upd_get (fr' := fr') a49 (by decide)) (upd_get (fr' := fr') a13 (by decide)) rfl (upd_get (fr' := fr') a54 (by decide)) (upd_get (fr' := fr') a53 (by decide))
      (fun h fr2 S2 e2 => ks _ _ _ (x_seqS (kB (fun hall => h (hall a (by lia))) _ _ ((e.trans e').trans e2)))) (fun h fr2 S2 b2 e2 h53 hb2 hfr => ?_)
    have keep : ∀ y, y ≠ 0 → y ≠ 48 → y ≠ 53 → y ≠ 18 → fr2 y = fr' y := fun y h0 h1 h2 h3 => by
      rw [hfr y h0 h1 h2]; unfold upd; rw [if_neg h3]
    refine kn _ _ ⟨e'.trans e2, by rw [keep 10 (by decide) (by decide) (by decide) (by decide)]; exact a10, by rw [keep 49 (by decide) (by decide) (by decide) (by decide)]; exact a49, by rw [keep 13 (by decide) (by decide) (by decide) (by decide)]; exact a13, by rw [keep 54 (by decide) (by decide) (by decide) (by decide)]; exact a54, a + 1, b2, by lia, by simp, h53, fun a' h' => ?_, ?_⟩
    · by_cases q : a' = a
      · subst q; exact h
      · exact hj a' (by lia)
    · rw [hb2, hb]
      constructor
      · rintro ⟨⟨h1, h2⟩, h3⟩
        refine ⟨h1, fun a' h' => ?_⟩
        by_cases q : a' = a
        · subst q; exact h3
        · exact h2 a' (by lia)
      · rintro ⟨h1, h2⟩
        exact ⟨⟨h1, fun a' h' => h2 a' (by lia)⟩, h2 a (by lia)⟩
end

section
variable {n : Nat} {S : H} {X : H → Prop} {Q : V → H → Prop} {F : Fm} {R : Row} {f r : Nat} {rows : List Row}

theorem jgood_at {m : Nat} : JGood m rows ↔ ∀ p, p < m → ∀ a, a < 4 → JAt rows p a := Iff.rfl

theorem judged_2 {fr : Fr} (hS : Src S) (hf : FrameAt S f F) (hr : RowsAt S r rows) (e10 : fr 10 = some (.ref f)) (e49 : fr 49 = some (.ref r))
    (kN : ¬ JGood F.comps.length rows → ∀ S', Ext S S' → Q .none S') (kB : JGood F.comps.length rows → ∀ b, (b = true ↔ JDone F.comps.length rows) → ∀ S', Ext S S' → Q (.bool b) S') :
    exs (fun s fr S Q => ex T0 (n + 80) s fr S X Q) (b27.drop 1) fr S (fin Q) := by
  obtain ⟨hF, cl, refs, f1, f2, f3⟩ := id hf
  have hrl : refs.length ≤ LIM := by rw [f3.len]; have := hF.1; unfold LIM; lia
  have hm := hF.1
  show exs _ [_, .forv 13 _ [_, .forv 18 _ bodyAt], _] _ _ _
  generalize hB : [St.asg 54 (.call 26 [(.var 49), (.var 13), (.con (.int 0))]), .forv 18 (.blt .range [(.bin .mul (.attr (.var 10) 38) (.attr (.var 10) 38))]) bodyAt] = body
  with_reducible refine x_cons (x_asg (s_con (x_seqN (x_cons (x_forv (s_blt (s_evs1 (s_blt (s_evs1 (s_attr ?_))))))))))
  none_booked
  none_booked
  with_reducible refine s_evs0 ?_
  none_booked
  with_reducible refine s_evs0 ?_
  rw [f3.len]
  refine o_range1 (by lia) ?_
  refine forI_rng (by lia) (by lia) (.inl rfl) ?_
  refine for_inv (fun l fr' S' => An4 (Ext S S') (fr' 10 = some (.ref f)) (fr' 49 = some (.ref r)) (Xn2 fun (c : Nat) (b' : Bool) => An5 (c ≤ F.comps.length) (l = rngItems (c : Int) (F.comps.length : Int) 1) (fr' 53 = some (.bool b')) (∀ p, p < c → ∀ a, a < 4 → JAt rows p a) (b' = true ↔ ∀ p, p < c → ∀ a, a < 4 → lastLo (told rows p a) = 0))) ?_ ?_ ?_ _ _ _
    ⟨.refl, upd_get (fr' := fr) e10 (by decide), upd_get (fr' := fr) e49 (by decide), 0, true, by lia, rfl, rfl, fun p h => by lia, ⟨fun _ p h => by lia, fun _ => rfl⟩⟩
  · rintro l fr' S' _; exact items_rng (by lia) (by lia) (.inl rfl)
  · rintro fr' S' ⟨e', a10, a49, c, b', hc, hl, a53, hj, hb⟩
    have : c = F.comps.length := by
      rcases Nat.lt_or_ge c F.comps.length with h | h
      · rw [rng_cons (by lia)] at hl; cases hl
      · lia
    subst this
    with_reducible refine x_seqN (x_cons (x_ret ?_))
    none_booked
    with_reducible refine x_seqS (x_finS ?_)
    exact kB hj b' hb _ e'
  · rintro v rr fr' S' ⟨e', a10, a49, c, b', hc, hl, a53, hj, hb⟩ K kn ks
    have hcm : c < F.comps.length := by
      rcases Nat.lt_or_ge c F.comps.length with h | h
      · exact h
      · rw [rng_nil (by lia)] at hl; cases hl
    rw [rng_cons (by lia)] at hl
    cases hl
    subst hB
    show exs _ _ (upd fr' 13 (.int (c : Int))) _ _
    refine judged_p (n := n + 9) (e'.src hS) (hf.ext e') (hr.ext e') (upd_get (fr' := fr') a10 (by decide)) (upd_get (fr' := fr') a49 (by decide)) rfl (upd_get (fr' := fr') a53 (by decide))
      (fun h fr2 S2 e2 => ks _ _ _ (x_seqS (x_finS (kN (fun hg => h (hg c hcm)) _ (e'.trans e2))))) (fun h fr2 S2 b2 e2 h10 h49 h53 hb2 => ?_)
    refine kn _ _ ⟨e'.trans e2, h10, h49, c + 1, b2, hcm, by simp, h53, fun p hp => ?_, ?_⟩
    · by_cases q : p = c
      · subst q; exact h
      · exact hj p (by lia)
    · rw [hb2, hb]
      constructor
      · rintro ⟨h1, h2⟩ p hp
        by_cases q : p = c
        · subst q; exact h2
        · exact h1 p (by lia)
      · intro h1
        exact ⟨fun p hp => h1 p (by lia), h1 c (by lia)⟩

open Classical in
theorem c_judged (hS : Src S) (hf : FrameAt S f F) (hr : RowsAt S r rows)
    (kN : (rows = [] ∨ ¬ (∀ R ∈ rows, Valid F R) ∨ ¬ JGood F.comps.length rows) → ∀ S', Ext S S' → Q .none S') (kB : rows ≠ [] → (∀ R ∈ rows, Valid F R) → JGood F.comps.length rows → ∀ b, (b = true ↔ JDone F.comps.length rows) → ∀ S', Ext S S' → Q (.bool b) S') :
    callF T0 (n + 100) 27 [.ref f, .ref r] S X Q := by
  obtain ⟨h0, hw, refs, h2, h3⟩ := id hr
  have hl := hS.len
  have hrl : (refs.map V.ref).length ≤ LIM := by rw [List.length_map, h3.len]; unfold LIM; lia
  have nilr : refs.map V.ref = [] ↔ rows = [] := by rw [← List.length_eq_zero_iff, ← List.length_eq_zero_iff, List.length_map, h3.len]
  refine callF_of (show T0.fn 27 = some (p27, b27) from rfl) rfl ?_
  show exs _ (_ :: b27.drop 1) _ _ _
  have next : rows ≠ [] → (∀ R ∈ rows, Valid F R) → ∀ S', Ext S S' → exs (fun s fr S Q => ex T0 (n + 100) s fr S X Q) (b27.drop 1) (bind0 p27 [.ref f, .ref r]) S' (fin Q) := fun hn hv S' e =>
    judged_2 (n := n + 20) (e.src hS) (hf.ext e) (hr.ext e) rfl rfl (fun h S2 e2 => kN (.inr (.inr h)) _ (e.trans e2)) (fun h b hb S2 e2 => kB hn hv h b hb _ (e.trans e2))
  generalize b27.drop 1 = tl at next ⊢
  with_reducible refine x_cons (x_ife (t_bop (s_boTf (t_cmp ?_))))
  none_booked
  with_reducible refine s_ch1 (s_list (s_evs0 ?_))
  none_booked
  refine k_eqE (b := 2) (b' := 0) h2.push (Ob.new (Nat.zero_le _)) hrl ?_
  refine i_df (fun c1 => ?_) (fun c1 => ?_)
  rotate_left
  · with_reducible refine i_tt (x_cons (x_ret (s_con (x_seqS (x_seqS (x_finS ?_))))))
    exact kN (.inl (nilr.mp c1)) _ (.push1 _)
  have hn : rows ≠ [] := fun h => c1 (nilr.mpr h)
  have hS1 := hS.push (.list [])
  have e1 : Ext S (S ++ [O.list []]) := .push1 _
  have h2' := h2.push (o' := .list [])
  generalize S ++ [O.list []] = S1 at *
  have hl1 := hS1.len
  with_reducible refine s_boTf (t_cmp (s_comp ?_))
  none_booked
  refine compK_gen (fun v => match v with | .ref q => decide (∃ R, RowAt S q R ∧ ¬ Valid F R) | _ => false) (fun _ _ _ => True)
    (fun S' e => items_list (h2'.ext e (Nat.le_refl _))) hrl (fun _ _ _ _ _ _ => trivial) hS1 (fun v hv S' e hs' hk K kk => ?_) (fun v hv hpv S' e hs' hk KK kk => ?_) (fun S' outs e ho ha => ?_)
  · obtain ⟨q, hq, rfl⟩ := List.mem_map.mp hv
    obtain ⟨i, hi⟩ := List.getElem?_of_mem hq
    obtain ⟨R, hR, hqR⟩ := h3.getL hi
    have hRm := List.mem_of_getElem? hR
    have e' := e1.trans e
    dsimp only at kk
    with_reducible refine s_boTt (t_not (t_call (s_call (s_evs1 ?_))))
    none_booked
    with_reducible refine s_evs1 ?_
    none_booked
    with_reducible refine s_evs0 ?_
    refine c_is_scan hs' (hf.ext e') (hqR.ext e') (hw R hRm) (fun hv S2 e2 => ?_) (fun hv S2 e2 => ?_)
    · with_reducible refine s_isB (i_nt ?_)
      rw [decide_eq_false (fun ⟨R', h1, h2⟩ => by rw [hqR.inj h1] at hv; exact h2 hv)] at kk
      exact kk _ e2
    · with_reducible refine s_isB (i_nff (s_bo0 ?_))
      rw [decide_eq_true ⟨R, hqR, hv⟩] at kk
      exact kk _ e2
  · none_booked
    exact kk _ _ .refl trivial
  · have hol : outs.length ≤ LIM := by
      rw [← ha.len]
      exact Nat.le_trans (List.length_filter_le _ _) hrl
    have hall : outs = [] ↔ ∀ R ∈ rows, Valid F R := by
      rw [← List.length_eq_zero_iff, ← ha.len, List.length_eq_zero_iff, List.filter_eq_nil_iff]
      constructor
      · intro h R hR
        obtain ⟨i, hi⟩ := List.getElem?_of_mem hR
        obtain ⟨q, hq, hqR⟩ := h3.getR hi
        have := h (.ref q) (List.mem_map.mpr ⟨q, List.mem_of_getElem? hq, rfl⟩)
        simp only [decide_eq_true_eq] at this
        exact Classical.byContradiction fun hn => this ⟨R, hqR, hn⟩
      · intro h v hv
        obtain ⟨q, hq, rfl⟩ := List.mem_map.mp hv
        obtain ⟨i, hi⟩ := List.getElem?_of_mem hq
        obtain ⟨R, hR, hqR⟩ := h3.getL hi
        simp only [decide_eq_true_eq]
        rintro ⟨R', h1, h2⟩
        rw [← hqR.inj h1] at h2
        exact h2 (h R (List.mem_of_getElem? hR))
    with_reducible refine s_ch1 (s_list (s_evs0 ?_))
    none_booked
    refine k_neE (b := 2) (b' := 0) ho.push (Ob.new (Nat.zero_le _)) hol ?_
    refine i_df (fun c2 => ?_) (fun c2 => ?_)
    · with_reducible refine s_bo0 (i_ft (x_nil (x_seqN ?_)))
      exact next hn (hall.mp (Decidable.not_not.mp c2)) _ ((e1.trans e).push _)
    · with_reducible refine i_tt (x_cons (x_ret (s_con (x_seqS (x_seqS (x_finS ?_))))))
      exact kN (.inr (.inl fun h => c2 (hall.mpr h))) _ ((e1.trans e).push _)

/-! the answer -/
theorem c_new_scan {n : Nat} {v3 v4 v5 v6 v7 v8 v9 : V} (q : Q .none (S ++ [.inst 0 [(3, v3), (4, v4), (5, v5), (6, v6), (7, v7), (8, v8), (9, v9)]])) : callF T0 (n + 10) 30 [.ref S.length, v3, v4, v5, v6, v7, v8, v9] (S ++ [.inst 0 []]) X Q := by
  refine callF_of (show T0.fn 30 = some (p30, b30) from rfl) rfl ?_
  unfold b30
  with_reducible refine x_cons (x_asgAttr ?_)
  none_booked
  none_booked
  refine g_setL (Nat.le_of_ble_eq_true rfl) ?_
  with_reducible refine x_seqN (x_cons (x_asgAttr ?_))
  none_booked
  none_booked
  refine g_setL (Nat.le_of_ble_eq_true rfl) ?_
  with_reducible refine x_seqN (x_cons (x_asgAttr ?_))
  none_booked
  none_booked
  refine g_setL (Nat.le_of_ble_eq_true rfl) ?_
  with_reducible refine x_seqN (x_cons (x_asgAttr ?_))
  none_booked
  none_booked
  refine g_setL (Nat.le_of_ble_eq_true rfl) ?_
  with_reducible refine x_seqN (x_cons (x_asgAttr ?_))
  none_booked
  none_booked
  refine g_setL (Nat.le_of_ble_eq_true rfl) ?_
  with_reducible refine x_seqN (x_cons (x_asgAttr ?_))
  none_booked
  none_booked
  refine g_setL (Nat.le_of_ble_eq_true rfl) ?_
  with_reducible refine x_seqN (x_cons (x_asgAttr ?_))
  none_booked
  none_booked
  refine g_setL (Nat.le_of_ble_eq_true rfl) ?_
  with_reducible refine x_seqN (x_nil (x_finN ?_))
  exact q

theorem c_answer (hS : Src S) (hf : FrameAt S f F) (hr : RowsAt S r rows)
    (kN : (rows = [] ∨ ¬ ∃ kn, Run F kn0 rows kn) → ∀ S', Ext S S' → Q .none S') (kB : rows ≠ [] → ∀ kn, Run F kn0 rows kn → ∀ b, (b = true ↔ ∀ p, p < F.comps.length → ∀ a, a < 4 → kn p a = 0) → ∀ S', Ext S S' → Q (.bool b) S') :
    callF T0 (n + 130) 28 [.ref f, .ref r] S X Q := by
  obtain ⟨h0, hw, refs, h2, h3⟩ := id hr
  have hl := hS.len
  have hrl : (refs.map V.ref).length ≤ LIM := by rw [List.length_map, h3.len]; unfold LIM; lia
  refine callF_of (show T0.fn 28 = some (p28, b28) from rfl) rfl ?_
  unfold b28
  with_reducible refine x_cons (x_asg (s_comp ?_))
  none_booked
  refine compK_fresh (fun S3 v y => ∃ q R p d a, v = .ref q ∧ RowAt S q R ∧ Ob (S.length + 1) S3 y (.inst 0 [(3, .ref p), (4, .ref d), (5, .ref a), (6, .int R.st), (7, .int R.en), (8, .int R.hi), (9, .int R.lo)]) ∧
      Ob 2 S p (.list (R.pl.map V.int)) ∧ Ob 2 S d (.list (R.dc.map V.int)) ∧ Ob 2 S a (.list (R.ac.map V.int)))
    (fun S' e => items_list (h2.ext e (Nat.le_refl _))) hrl (fun _ _ v y kk ⟨q, R, p, d, a, q1, q2, q3, q4⟩ => ⟨q, R, p, d, a, q1, q2, q3.keep kk, q4⟩) hS (fun v hv S' e hs' hk KK kk => ?_) (fun S' qs e ho ha hn hb => ?_)
  · obtain ⟨q, hq, rfl⟩ := List.mem_map.mp hv
    obtain ⟨i, hi⟩ := List.getElem?_of_mem hq
    obtain ⟨R, hR, hqR⟩ := h3.getL hi
    obtain ⟨p, d, a, g1, g2, g3, g4⟩ := id hqR
    have g1' := g1.ext e (Nat.le_refl _)
    have g5 : ∀ {W : V → Prop} (j : Nat) (w : V), [V.ref p, .ref d, .ref a, .int R.st, .int R.en, .int R.hi, .int R.lo][j]? = some w → W w → getI (.ref q) (.int (j : Int)) S' W := fun j w hj hW => g_idx g1' (by simp [LIM]) (by rw [nth_nat (Int.natCast_nonneg j), Int.toNat_natCast]; exact hj) hW
    with_reducible refine s_new (s_evs1 (s_idx ?_))
    none_booked
    with_reducible refine s_con ?_
    refine g5 0 _ rfl ?_
    with_reducible refine s_evs1 (s_idx ?_)
    none_booked
    with_reducible refine s_con ?_
    refine g5 1 _ rfl ?_
    with_reducible refine s_evs1 (s_idx ?_)
    none_booked
    with_reducible refine s_con ?_
    refine g5 2 _ rfl ?_
    with_reducible refine s_evs1 (s_idx ?_)
    none_booked
    with_reducible refine s_con ?_
    refine g5 3 _ rfl ?_
    with_reducible refine s_evs1 (s_idx ?_)
    none_booked
    with_reducible refine s_con ?_
    refine g5 4 _ rfl ?_
    with_reducible refine s_evs1 (s_idx ?_)
    none_booked
    with_reducible refine s_con ?_
    refine g5 5 _ rfl ?_
    with_reducible refine s_evs1 (s_idx ?_)
    none_booked
    with_reducible refine s_con ?_
    refine g5 6 _ rfl ?_
    with_reducible refine s_evs0 ?_
    show callF T0 _ 30 _ _ _ _
    refine c_new_scan ⟨rfl, ?_⟩
    exact kk _ _ (.push1 _) (Nat.le_refl _) (by simp) ⟨q, R, p, d, a, rfl, hqR, Ob.new (by lia), g2, g3, g4⟩
  · have hsc : ScansAt S' S.length rows := by
      refine ⟨by lia, hw, qs, ho, ?_⟩
      have := ha
      clear hn hb ho
      have key : ∀ {refs : List Nat} {rows : List Row} {qs : List Nat}, Each (RowAt S) refs rows → Each (fun v y => ∃ q R p d a, v = V.ref q ∧ RowAt S q R ∧ Ob (S.length + 1) S' y (.inst 0 [(3, .ref p), (4, .ref d), (5, .ref a), (6, .int R.st), (7, .int R.en), (8, .int R.hi), (9, .int R.lo)]) ∧
          Ob 2 S p (.list (R.pl.map V.int)) ∧ Ob 2 S d (.list (R.dc.map V.int)) ∧ Ob 2 S a (.list (R.ac.map V.int))) (refs.map V.ref) qs → Each (ScanAt S') qs rows := by
        intro refs rows qs h1 h2
        induction h1 generalizing qs with
        | nil => cases h2; exact .nil
        | cons x r ih =>
          cases h2 with
          | cons y s =>
            refine .cons ?_ (ih s)
            obtain ⟨q, R, p, d, a, q1, q2, q3, q4, q5, q6⟩ := y
            injection q1 with q1
            subst q1
            rw [x.inj q2]
            exact ⟨p, d, a, q3.le (by lia), q4.ext e (Nat.le_refl _), q5.ext e (Nat.le_refl _), q6.ext e (Nat.le_refl _)⟩
      exact key h3 ha
    have hS' := e.src hS
    have hf' := hf.ext e
    with_reducible refine x_seqN (x_cons (x_try (x_cons (x_expr (s_call (s_evs1 ?_))))))
    none_booked
    with_reducible refine s_evs1 ?_
    none_booked
    with_reducible refine s_evs0 ?_
    refine c_check_script hS' hf' hsc (fun h S2 e2 => ?_) (fun hne hrun S2 e2 => ?_)
    · with_reducible refine x_seqS (x_finS ?_)
      exact kN h _ (e.trans e2)
    · obtain ⟨kn, hrun⟩ := hrun
      with_reducible refine x_exprK (x_seqN (x_nil (x_seqN (x_cons (x_ret (s_call (s_evs1 ?_)))))))
      none_booked
      with_reducible refine s_evs1 ?_
      none_booked
      with_reducible refine s_evs0 ?_
      refine c_is_complete (e2.src hS') (hf'.ext e2) (hsc.ext e2) hrun (fun h S3 e3 => ?_) (fun h S3 e3 => ?_)
      · with_reducible refine x_seqS (x_finS ?_)
        exact kB hne kn hrun true (by simpa using h) _ ((e.trans e2).trans e3)
      · with_reducible refine x_seqS (x_finS ?_)
        exact kB hne kn hrun false (by simpa using h) _ ((e.trans e2).trans e3)
end

section
variable {n : Nat} {S : H} {X : H → Prop} {Q : V → H → Prop} {F : Fm} {R : Row} {f r : Nat} {rows : List Row}

theorem o_lenA {k : Nat} {vs : List V} (h : S[k]? = some (.arg vs)) (hl : vs.length ≤ LIM) (q : Q (.int vs.length) S) : bltop .len [.ref k] S Q := by
  exact BltR.lenA h hl q
theorem g_idxA {k : Nat} {j : Int} {vs : List V} {v : V} {W : V → Prop} (h : S[k]? = some (.arg vs)) (hl : vs.length ≤ LIM) (hv : nth vs j = some v) (q : W v) : getI (.ref k) (.int j) S W := by
  exact GetIR.arg h hl hv q

theorem natAbs_bool (b : Bool) : (if b = true then (1 : Int) else 0).natAbs < 2 ^ 63 := by cases b <;> decide
theorem c_pool {ns : List Int} (hn : ns.length ≤ 1000) (h0 : S[0]? = some (.arg (ns.map V.int))) (h1 : S.length = 1) (q : ∀ x y : Int, Q (.ref 1) (S ++ [.list [.int x, .int y]])) : callF T0 (n + 40) 17 [.ref 0, .int 0] S X Q := by
  refine callF_of (show T0.fn 17 = some (p17, b17) from rfl) rfl ?_
  have hl : (ns.map V.int).length ≤ LIM := by rw [List.length_map]; unfold LIM; lia
  have next : ∀ c : Int, exs (fun s fr S Q => ex T0 (n + 40) s fr S X Q) (b17.drop 2) (upd (bind0 p17 [.ref 0, .int 0]) 41 (.int c)) S (fin Q) := by
    intro c
    unfold b17
    simp only [List.drop_succ_cons, List.drop_zero]
    with_reducible refine x_cons (x_asg (s_blt (s_evs1 (s_blt (s_evs1 ?_)))))
    none_booked
    with_reducible refine s_evs0 (o_intI (s_evs1 (s_blt (s_evs1 (s_bin (s_con ?_))))))
    none_booked
    with_reducible refine o_sub (s_evs0 (o_intI (s_evs0 (o_max (x_seqN (x_cons (x_asg (s_bin (s_blt (s_evs1 (s_bin (s_bin (s_bin (s_bin (s_bin (s_blt (s_evs1 ?_)))))))))))))))))
    none_booked
    with_reducible refine s_evs0 (o_intI (s_con ?_))
    refine o_mod (by decide) ?_
    with_reducible refine s_bin (s_bin (s_con ?_))
    none_booked
    none_booked
    none_booked
    none_booked
    with_reducible refine o_add (s_bin (s_con ?_))
    none_booked
    none_booked
    with_reducible refine o_add (s_con (o_add (s_con ?_)))
    none_booked
    with_reducible refine s_evs0 (o_intI (s_con ?_))
    refine o_mod (by decide) ?_
    with_reducible refine x_seqN (x_cons (x_ret (s_list (s_evs1 (s_bin ?_)))))
    none_booked
    with_reducible refine s_blt (s_evs1 (s_cmp ?_))
    none_booked
    with_reducible refine s_ch1 (s_con (k_ge (s_evs0 (o_intB ?_))))
    refine o_mul (.inr (natAbs_bool _)) ?_
    with_reducible refine s_evs1 ?_
    none_booked
    with_reducible refine s_evs0 ?_
    none_booked
    with_reducible refine x_seqS (x_finS ?_)
    rw [h1]
    exact q _ _
  have second : ∀ c : Int, exs (fun s fr S Q => ex T0 (n + 40) s fr S X Q) (b17.drop 2) (upd (upd (bind0 p17 [.ref 0, .int 0]) 41 (.int 0)) 41 (.int c)) S (fin Q) := by
    intro c
    have : upd (upd (bind0 p17 [.ref 0, .int 0]) 41 (.int 0)) 41 (.int c) = upd (bind0 p17 [.ref 0, .int 0]) 41 (.int c) := by
      funext y; unfold upd; split <;> rfl
    rw [this]; exact next c
  show exs _ (_ :: _ :: b17.drop 2) _ _ _
  generalize b17.drop 2 = tl at next second ⊢
  with_reducible refine x_cons (x_asg (s_con (x_seqN (x_cons (x_ife (t_cmp ?_))))))
  none_booked
  with_reducible refine s_ch1 (s_blt (s_evs1 ?_))
  none_booked
  with_reducible refine s_evs0 ?_
  refine o_lenA h0 hl ?_
  with_reducible refine k_lt ?_
  refine i_d (fun c1 => ?_) (fun c1 => ?_)
  · rw [List.length_map] at c1
    with_reducible refine x_cons (x_asg (s_idx ?_))
    none_booked
    none_booked
    obtain ⟨w, hw⟩ : ∃ w, ns[0]? = some w := ⟨_, List.getElem?_eq_getElem (show 0 < ns.length by lia)⟩
    refine g_idxA h0 hl (v := .int w) ?_ ?_
    · rw [nth_nat (Int.le_refl _), List.getElem?_map]
      show (ns[0]?).map V.int = _
      rw [hw]; rfl
    · with_reducible refine x_seqN (x_nil (x_seqN ?_))
      exact second _
  · with_reducible refine x_nil (x_seqN ?_)
    exact next 0

theorem ext_src (hS : Src S) (x y : Int) : Ext S (S.set 1 (.list [.int x, .int y])) ∧ Src (S.set 1 (.list [.int x, .int y])) := by
  have hl := hS.len
  have s' : Src (S.set 1 (.list [.int x, .int y])) := ⟨x, y, by rw [List.getElem?_set_self (by lia)]⟩
  exact ⟨⟨by simp, fun i o hi e => by rw [List.getElem?_set_ne (by lia)]; exact e, fun _ => s'⟩, s'⟩

theorem c_take {top : Int} (hS : Src S) (h0 : 0 < top) (h1 : top < 1073741824) (q : ∀ (d : Int) S', 0 ≤ d → d < top → Ext S S' → S'.length = S.length → Q (.int d) S') : callF T0 (n + 30) 18 [.ref 1, .int top] S X Q := by
  obtain ⟨x, y, hxy⟩ := id hS
  have hl := hS.len
  have ho : Ob 0 S 1 (.list [.int x, .int y]) := ⟨Nat.zero_le _, hxy⟩
  have g0 : ∀ {W : V → Prop}, W (.int x) → getI (.ref 1) (.int 0) S W := fun hW => g_idx ho (Nat.le_of_ble_eq_true rfl) rfl hW
  have g1 : ∀ {W : V → Prop}, W (.int y) → getI (.ref 1) (.int 1) S W := fun hW => g_idx ho (Nat.le_of_ble_eq_true rfl) rfl hW
  refine callF_of (show T0.fn 18 = some (p18, b18) from rfl) rfl ?_
  unfold b18
  with_reducible refine x_cons (x_ife (t_cmp (s_idx ?_)))
  none_booked
  with_reducible refine s_con ?_
  refine g0 ?_
  with_reducible refine s_ch1 (s_con (k_gt ?_))
  refine i_d (fun c1 => ?_) (fun c1 => ?_)
  · with_reducible refine x_cons (x_asg (s_bin (s_blt (s_evs1 (s_idx ?_)))))
    none_booked
    with_reducible refine s_con ?_
    refine g0 ?_
    with_reducible refine s_evs0 (o_intI ?_)
    none_booked
    refine o_mod h0 ?_
    with_reducible refine x_seqN (x_cons (x_asgIdx (s_bin (s_idx ?_))))
    none_booked
    with_reducible refine s_con ?_
    refine g0 ?_
    none_booked
    refine o_fdiv h0 h1 ?_
    none_booked
    with_reducible refine s_con ?_
    refine g_setI ho (Nat.le_of_ble_eq_true rfl) (by decide) (by simp) ?_
    with_reducible refine x_seqN (x_cons (x_ret ?_))
    none_booked
    with_reducible refine x_seqS (x_seqS (x_finS ?_))
    exact q _ _ (Int.emod_nonneg _ (by lia)) (Int.emod_lt_of_pos _ h0) (ext_src hS _ _).1 (by simp)
  · with_reducible refine x_nil (x_seqN (x_cons (x_asgIdx (s_bin (s_blt (s_evs1 (s_bin (s_bin (s_idx ?_)))))))))
    none_booked
    with_reducible refine s_con ?_
    refine g1 ?_
    with_reducible refine s_con ?_
    none_booked
    with_reducible refine s_con (o_add (s_evs0 (o_intI (s_con ?_))))
    refine o_mod (by decide) ?_
    none_booked
    with_reducible refine s_con ?_
    refine g_setI ho (Nat.le_of_ble_eq_true rfl) (by decide) (by simp) ?_
    have ho' : Ob 0 (S.set 1 (.list ([V.int x, .int y].set (1 : Int).toNat (.int ((y * 39373 + 7) % 2147483647))))) 1 (.list [.int x, .int ((y * 39373 + 7) % 2147483647)]) := ⟨Nat.zero_le _, by rw [List.getElem?_set_self (by lia)]; rfl⟩
    have e' := ext_src hS x ((y * 39373 + 7) % 2147483647)
    have hlen : (S.set 1 (.list ([V.int x, .int y].set (1 : Int).toNat (.int ((y * 39373 + 7) % 2147483647))))).length = S.length := by simp
    have e1 : Ext S (S.set 1 (.list ([V.int x, .int y].set (1 : Int).toNat (.int ((y * 39373 + 7) % 2147483647))))) := e'.1
    generalize S.set 1 (.list ([V.int x, .int y].set (1 : Int).toNat (.int ((y * 39373 + 7) % 2147483647)))) = S1 at *
    have hz0 : 0 ≤ (y * 39373 + 7) % 2147483647 := Int.emod_nonneg _ (by decide)
    have hz1 : (y * 39373 + 7) % 2147483647 < 2147483647 := Int.emod_lt_of_pos _ (by decide)
    generalize (y * 39373 + 7) % 2147483647 = z at *
    with_reducible refine x_seqN (x_cons (x_ret (s_bin (s_blt (s_evs1 (s_bin (s_bin (s_blt (s_evs1 (s_bin (s_idx ?_)))))))))))
    none_booked
    with_reducible refine s_con ?_
    refine g_idx ho' (Nat.le_of_ble_eq_true rfl) rfl ?_
    with_reducible refine s_idx ?_
    none_booked
    with_reducible refine s_con ?_
    refine g_idx ho' (Nat.le_of_ble_eq_true rfl) rfl ?_
    refine o_mul (.inl (by lia)) ?_
    with_reducible refine s_evs0 (o_intI (s_con ?_))
    refine o_mod (by decide) ?_
    with_reducible refine s_con ?_
    refine o_fdiv (by decide) (by decide) ?_
    with_reducible refine s_evs0 (o_intI ?_)
    none_booked
    refine o_mod h0 ?_
    with_reducible refine x_seqS (x_finS ?_)
    exact q _ _ (Int.emod_nonneg _ (by lia)) (Int.emod_lt_of_pos _ h0) e1 hlen

theorem c_one {l : Nat} {vs : List V} (hS : Src S) (hl : Ob 2 S l (.list vs)) (h0 : 0 < vs.length) (h1 : vs.length ≤ 100) (q : ∀ (d : Nat) v S', vs[d]? = some v → Ext S S' → S'.length = S.length → Q v S') : callF T0 (n + 40) 19 [.ref 1, .ref l] S X Q := by
  have hlim : vs.length ≤ LIM := by unfold LIM; lia
  refine callF_of (show T0.fn 19 = some (p19, b19) from rfl) rfl ?_
  unfold b19
  with_reducible refine x_cons (x_ret (s_idx ?_))
  none_booked
  with_reducible refine s_call (s_evs1 ?_)
  none_booked
  with_reducible refine s_evs1 (s_blt (s_evs1 ?_))
  none_booked
  with_reducible refine s_evs0 ?_
  none_booked
  with_reducible refine s_evs0 ?_
  refine c_take hS (by lia) (by lia) fun d S1 d0 d1 e hlen => ?_
  have hl' := hl.ext e (Nat.le_refl _)
  obtain ⟨v, hv⟩ : ∃ v, vs[d.toNat]? = some v := ⟨_, List.getElem?_eq_getElem (show d.toNat < vs.length by lia)⟩
  refine g_idx hl' hlim (by rw [nth_nat d0]; exact hv) ?_
  with_reducible refine x_seqS (x_finS ?_)
  exact q _ v _ hv e hlen

theorem c_new_comp {v1 v2 v3 v4 : V} (q : Q .none (S ++ [.inst 2 [(29, v1), (30, v2), (31, v3), (32, v4)]])) : callF T0 (n + 10) 35 [.ref S.length, v1, v2, v3, v4] (S ++ [.inst 2 []]) X Q := by
  refine callF_of (show T0.fn 35 = some (p35, b35) from rfl) rfl ?_
  unfold b35
  with_reducible refine x_cons (x_asgAttr ?_)
  none_booked
  none_booked
  refine g_setL (Nat.le_of_ble_eq_true rfl) ?_
  with_reducible refine x_seqN (x_cons (x_asgAttr ?_))
  none_booked
  none_booked
  refine g_setL (Nat.le_of_ble_eq_true rfl) ?_
  with_reducible refine x_seqN (x_cons (x_asgAttr ?_))
  none_booked
  none_booked
  refine g_setL (Nat.le_of_ble_eq_true rfl) ?_
  with_reducible refine x_seqN (x_cons (x_asgAttr ?_))
  none_booked
  none_booked
  refine g_setL (Nat.le_of_ble_eq_true rfl) ?_
  with_reducible refine x_seqN (x_nil (x_finN ?_))
  exact q
theorem c_new_frame {v1 v2 v3 v4 v5 v6 : V} (q : Q .none (S ++ [.inst 3 [(33, v1), (34, v2), (35, v3), (36, v4), (37, v5), (38, v6)]])) : callF T0 (n + 10) 36 [.ref S.length, v1, v2, v3, v4, v5, v6] (S ++ [.inst 3 []]) X Q := by
  refine callF_of (show T0.fn 36 = some (p36, b36) from rfl) rfl ?_
  unfold b36
  with_reducible refine x_cons (x_asgAttr ?_)
  none_booked
  none_booked
  refine g_setL (Nat.le_of_ble_eq_true rfl) ?_
  with_reducible refine x_seqN (x_cons (x_asgAttr ?_))
  none_booked
  none_booked
  refine g_setL (Nat.le_of_ble_eq_true rfl) ?_
  with_reducible refine x_seqN (x_cons (x_asgAttr ?_))
  none_booked
  none_booked
  refine g_setL (Nat.le_of_ble_eq_true rfl) ?_
  with_reducible refine x_seqN (x_cons (x_asgAttr ?_))
  none_booked
  none_booked
  refine g_setL (Nat.le_of_ble_eq_true rfl) ?_
  with_reducible refine x_seqN (x_cons (x_asgAttr ?_))
  none_booked
  none_booked
  refine g_setL (Nat.le_of_ble_eq_true rfl) ?_
  with_reducible refine x_seqN (x_cons (x_asgAttr ?_))
  none_booked
  none_booked
  refine g_setL (Nat.le_of_ble_eq_true rfl) ?_
  with_reducible refine x_seqN (x_nil (x_finN ?_))
  exact q

theorem c_frame {kind : Nat} (hS : Src S) (hk : kind ≤ 2) (q : ∀ S' f F, Ext S S' → FrameAt S' f F → F.kind = kind → F.comps ≠ [] → Q (.ref f) S') : callF T0 (n + 60) 20 [.ref 1, .str kind] S X Q := by
  have hl := hS.len
  refine callF_of (show T0.fn 20 = some (p20, b20) from rfl) rfl ?_
  unfold b20
  with_reducible refine x_cons (x_asg (s_call (s_evs1 ?_)))
  none_booked
  with_reducible refine s_evs1 (s_list (s_evs1 (s_con (s_evs1 (s_con (s_evs1 (s_con (s_evs1 (s_con (s_evs1 (s_con (s_evs1 (s_con (s_evs0 ?_))))))))))))))
  none_booked
  with_reducible refine s_evs0 ?_
  refine c_one (hS.push _) (Ob.new hl) (by decide) (by decide) fun d v S1 hv e hlen => ?_
  have hS1 := e.src (hS.push _)
  have e1 : Ext S S1 := (Ext.push1 _).trans e
  obtain ⟨m, rfl, hm1, hm5⟩ : ∃ m : Int, v = .int m ∧ 1 ≤ m ∧ m ≤ 5 := by
    match d, hv with
    | 0, h => cases h; exact ⟨1, rfl, by decide, by decide⟩
    | 1, h => cases h; exact ⟨1, rfl, by decide, by decide⟩
    | 2, h => cases h; exact ⟨2, rfl, by decide, by decide⟩
    | 3, h => cases h; exact ⟨2, rfl, by decide, by decide⟩
    | 4, h => cases h; exact ⟨3, rfl, by decide, by decide⟩
    | 5, h => cases h; exact ⟨5, rfl, by decide, by decide⟩
    | d + 6, h => cases h
  have hl1 := hS1.len
  with_reducible refine x_seqN (x_cons (x_asg (s_comp (s_blt (s_evs1 ?_)))))
  none_booked
  with_reducible refine s_evs0 ?_
  refine o_range1 (by lia) ?_
  refine compK_fresh (fun S3 v y => ∃ i a b, Ob (S1.length + 1) S3 y (.inst 2 [(29, .int i), (30, .int a), (31, .int b), (32, .int 0)]) ∧ 0 ≤ a ∧ a ≤ 10 ∧ 0 ≤ b ∧ b ≤ 10)
    (fun S' e => items_rng (by lia) (by lia) (.inl rfl)) (by rw [rngItems_len]; exact rngLen_lim (by lia) (by lia)) (fun _ _ v y kk ⟨i, a, b, h1, h2⟩ => ⟨i, a, b, h1.keep kk, h2⟩) hS1 (fun v hv S' e' hs' hk' KK kk => ?_) (fun S' qs e' ho ha hn hb => ?_)
  · rw [rngItems_eq] at hv
    obtain ⟨x, hx, rfl⟩ := List.mem_map.mp hv
    with_reducible refine s_new (s_evs1 (s_bin (s_con ?_)))
    none_booked
    with_reducible refine o_add (s_evs1 (s_bin (s_con (s_call (s_evs1 ?_)))))
    none_booked
    with_reducible refine s_evs1 (s_con (s_evs0 ?_))
    refine c_take hs' (by decide) (by decide) fun d1 S2 a0 a1 e2 l2 => ?_
    with_reducible refine o_add (s_evs1 (s_bin (s_con (s_call (s_evs1 ?_)))))
    none_booked
    with_reducible refine s_evs1 (s_con (s_evs0 ?_))
    refine c_take (e2.src hs') (by decide) (by decide) fun d2 S3 b0 b1 e3 l3 => ?_
    with_reducible refine o_add (s_evs1 (s_con (s_evs0 ?_)))
    show callF T0 _ 35 _ _ _ _
    refine c_new_comp ⟨rfl, ?_⟩
    exact kk _ _ ((e2.trans e3).push _) (by lia) (by simp) ⟨_, _, _, Ob.new (by lia), by lia, by lia, by lia, by lia⟩
  · obtain ⟨comps, hc1, hc2⟩ : ∃ comps : List (Int × Int), Each (CompAt S') (qs.map V.ref) comps ∧ ∀ c ∈ comps, 0 ≤ c.1 ∧ c.1 ≤ 10 ∧ 0 ≤ c.2 ∧ c.2 ≤ 10 := by
      clear ho hn hb
      generalize rngItems 0 m 1 = vs at ha
      induction ha with
      | nil => exact ⟨[], .nil, by simp⟩
      | cons x r ih =>
        obtain ⟨comps, h1, h2⟩ := ih
        obtain ⟨i, a, b, g1, g2⟩ := x
        refine ⟨(a, b) :: comps, .cons ⟨_, i, rfl, g1.le (by lia)⟩ h1, fun c hc => ?_⟩
        rcases List.mem_cons.mp hc with rfl | hc
        · exact g2
        · exact h2 c hc
    have hcl : comps.length = m.toNat := by
      have h1 := hc1.len
      have h2 := ha.len
      rw [List.length_map] at h1
      rw [rngItems_len] at h2
      unfold rngLen at h2
      rw [if_pos rfl] at h2
      lia
    with_reducible refine x_seqN (x_cons (x_ret (s_new (s_evs1 ?_))))
    none_booked
    with_reducible refine s_evs1 (s_con (s_evs1 (s_con (s_evs1 (s_con (s_evs1 ?_))))))
    none_booked
    with_reducible refine s_evs1 (s_con (s_evs0 ?_))
    show callF T0 _ 36 _ _ _ _
    refine c_new_frame ⟨rfl, ?_⟩
    with_reducible refine x_seqS (x_finS ?_)
    have e9 : Ext S' (S' ++ [.inst 3 [(33, .str kind), (34, .int 8), (35, .int 3), (36, .int 3), (37, .ref S1.length), (38, .int 2)]]) := .push1 _
    have hS' := (e'.src hS1).len
    refine q _ _ ⟨kind, comps⟩ ((e1.trans e').push _) ⟨⟨by rw [hcl]; lia, hk, hc2⟩, S1.length, qs.map V.ref, Ob.new hS', ho.ext e9 (Nat.le_refl _), hc1.mono fun _ _ h => h.ext e9⟩ rfl (fun h => ?_)
    have h' : comps = [] := h
    rw [h'] at hcl
    simp at hcl
    lia
end

section
variable {n : Nat} {S : H} {X : H → Prop} {Q : V → H → Prop} {F : Fm} {R : Row} {f r : Nat} {rows : List Row}

/-- a row of small lists -/
noncomputable def Row.Ws (R : Row) : Prop := R.dc.length = R.pl.length ∧ R.ac.length = R.pl.length ∧ R.pl.length ≤ 100
theorem Row.Ws.wf (h : R.Ws) : R.Wf := ⟨h.1, h.2.1, by have := h.2.2; lia⟩
inductive ScansBt (S : H) (r : Nat) (rows : List Row) : Prop where
  | mk (hh1 : rows.length ≤ 10000) (hh2 : (∀ R ∈ rows, R.Ws)) (refs : List Nat) (hh3 : Ob 2 S r (.list (refs.map V.ref))) (hh4 : Each (ScanAt S) refs rows)
theorem ScansBt.ext {S S' : H} {r : Nat} {rows : List Row} (h : ScansBt S r rows) (e : Ext S S') : ScansBt S' r rows := by
  obtain ⟨h0, h1, refs, h2, h3⟩ := h; exact ⟨h0, h1, refs, h2.ext e (Nat.le_refl _), h3.mono fun _ _ h => h.ext e⟩
inductive RowsBt (S : H) (r : Nat) (rows : List Row) : Prop where
  | mk (hh1 : rows.length ≤ 900) (hh2 : (∀ R ∈ rows, R.Ws)) (refs : List Nat) (hh3 : Ob 2 S r (.list (refs.map V.ref))) (hh4 : Each (RowAt S) refs rows)
theorem RowsBt.ext {S S' : H} {r : Nat} {rows : List Row} (h : RowsBt S r rows) (e : Ext S S') : RowsBt S' r rows := by
  obtain ⟨h0, h1, refs, h2, h3⟩ := h; exact ⟨h0, h1, refs, h2.ext e (Nat.le_refl _), h3.mono fun _ _ h => h.ext e⟩
theorem RowsBt.at {S : H} {r : Nat} {rows : List Row} (h : RowsBt S r rows) : RowsAt S r rows := by
  obtain ⟨h0, h1, r, h2, h3⟩ := h; exact ⟨by lia, fun R hR => (h1 R hR).wf, r, h2, h3⟩

inductive ScanN (b : Nat) (S : H) (s p : Nat) (R : Row) : Prop where
  | mk (d : _) (a : _) (hh1 : Ob b S s (.inst 0 [(3, .ref p), (4, .ref d), (5, .ref a), (6, .int R.st), (7, .int R.en), (8, .int R.hi), (9, .int R.lo)])) (hh2 : Ob b S d (.list (R.dc.map V.int))) (hh3 : Ob b S a (.list (R.ac.map V.int)))
theorem ScanN.keep {b s p : Nat} {S' : H} (h : ScanN b S s p R) (k : Keep b S S') : ScanN b S' s p R := by
  obtain ⟨d, a, h1, h2, h3⟩ := h; exact ⟨d, a, h1.keep k, h2.keep k, h3.keep k⟩
theorem ScanN.le {b c s p : Nat} (h : ScanN b S s p R) (hc : c ≤ b) : ScanN c S s p R := by
  obtain ⟨d, a, h1, h2, h3⟩ := h; exact ⟨d, a, h1.le hc, h2.le hc, h3.le hc⟩
theorem ScanN.scan {s p : Nat} (h : ScanN 2 S s p R) (hp : Ob 2 S p (.list (R.pl.map V.int))) : ScanAt S s R := by
  obtain ⟨d, a, h1, h2, h3⟩ := h; exact ⟨p, d, a, h1, hp, h2, h3⟩

theorem c_scan_of {p : Nat} {pl : List Int} {st en hi lo : Int} (hS : Src S) (hp : Ob 2 S p (.list (pl.map V.int))) (hpl : pl.length ≤ 100)
    (q : ∀ S' s R, Ext S S' → S.length ≤ s → s < S'.length → ScanN S.length S' s p R → R.pl = pl → R.Ws → Q (.ref s) S') : callF T0 (n + 40) 9 [.ref p, .int st, .int en, .int hi, .int lo] S X Q := by
  have hl := hS.len
  refine callF_of (show T0.fn 9 = some (p9, b9) from rfl) rfl ?_
  unfold b9
  with_reducible refine x_cons (x_asg (s_comp ?_))
  none_booked
  refine compK_pure (fun _ => true) (fun v => match v with | .int p => .int (if p = 0 then 0 else 1) | _ => .none) (fun S' e => items_list (hp.ext e (Nat.le_refl _))) (by rw [List.length_map]; unfold LIM; lia) hS (fun v hv S' e hs' => ⟨fun K hk => s_bo0 hk, fun _ K hk => ?_⟩) ?_
  · obtain ⟨pp, hpp, rfl⟩ := List.mem_map.mp hv
    with_reducible refine s_call (s_evs1 ?_)
    none_booked
    with_reducible refine s_evs0 ?_
    exact c_slot_of hk
  · have e1 : (((pl.map V.int).filter fun _ => true).map fun v => match v with | .int p => V.int (if p = 0 then 0 else 1) | _ => .none) = (pl.map fun p => if p = 0 then 0 else 1).map V.int := by
      rw [List.filter_eq_self.mpr (fun _ _ => rfl), List.map_map, List.map_map]; rfl
    rw [e1]
    have hL : ((pl.map fun p => if p = 0 then (0 : Int) else 1).map V.int).length ≤ LIM := by simp [LIM]; lia
    with_reducible refine x_seqN (x_cons (x_ret (s_new (s_evs1 ?_))))
    none_booked
    with_reducible refine s_evs1 ?_
    none_booked
    with_reducible refine s_evs1 (s_blt (s_evs1 ?_))
    none_booked
    with_reducible refine s_evs0 ?_
    refine o_listL (b := 0) (Ob.new (Nat.zero_le _)) hL ?_
    with_reducible refine s_evs1 ?_
    none_booked
    with_reducible refine s_evs1 ?_
    none_booked
    with_reducible refine s_evs1 ?_
    none_booked
    with_reducible refine s_evs1 ?_
    none_booked
    with_reducible refine s_evs0 ?_
    show callF T0 _ 30 _ _ _ _
    refine c_new_scan ⟨rfl, ?_⟩
    with_reducible refine x_seqS (x_finS ?_)
    refine q _ _ ⟨pl, pl.map fun p => if p = 0 then 0 else 1, pl.map fun p => if p = 0 then 0 else 1, st, en, hi, lo⟩ (((Ext.push1 _).push _).push _) (by simp <;> lia) (by simp) ⟨S.length, S.length + 1, ?_, ?_, ?_⟩ rfl ⟨by simp, by simp, hpl⟩
    · have : (S ++ [O.list ((pl.map fun p => if p = 0 then (0 : Int) else 1).map V.int)]).length = S.length + 1 := by simp
      rw [← this]
      exact Ob.new (by simp <;> lia)
    · exact (Ob.new (Nat.le_refl _)).push.push
    · have : S.length + 1 = (S ++ [O.list ((pl.map fun p => if p = 0 then (0 : Int) else 1).map V.int)]).length := by simp
      rw [this]
      exact (Ob.new (by simp)).push

noncomputable def IntsAt (S : H) (q : Nat) (pl : List Int) : Prop := Ob 2 S q (.list (pl.map V.int))
inductive GroupsAt (S : H) (l : Nat) (gs : List (List Int)) : Prop where
  | mk (hh1 : (1 ≤ gs.length ∧ gs.length ≤ 6)) (hh2 : (∀ g ∈ gs, g.length ≤ 5)) (refs : List Nat) (hh3 : Ob 2 S l (.list (refs.map V.ref))) (hh4 : Each (IntsAt S) refs gs)
theorem GroupsAt.ext {S S' : H} {l : Nat} {gs : List (List Int)} (h : GroupsAt S l gs) (e : Ext S S') : GroupsAt S' l gs := by
  obtain ⟨h0, h1, refs, h2, h3⟩ := h; exact ⟨h0, h1, refs, h2.ext e (Nat.le_refl _), h3.mono fun _ _ h => h.ext e (Nat.le_refl _)⟩

theorem c_groups (hS : Src S) (hf : FrameAt S f F) (q : ∀ S' l gs, Ext S S' → GroupsAt S' l gs → Q (.ref l) S') : callF T0 (n + 60) 10 [.ref f] S X Q := by
  obtain ⟨hF, cl, refs0, f1, f2, f3⟩ := id hf
  have hm := hF.1
  have hrl : refs0.length ≤ LIM := by rw [f3.len]; unfold LIM; lia
  have hl := hS.len
  refine callF_of (show T0.fn 10 = some (p10, b10) from rfl) rfl ?_
  unfold b10
  with_reducible refine x_cons (x_asgTup (s_evs1 (s_list (s_evs0 ?_))))
  none_booked
  with_reducible refine s_evs1 (s_list (s_evs0 ?_))
  none_booked
  with_reducible refine s_evs1 (s_con (s_evs0 ?_))
  none_booked
  with_reducible refine x_seqN (x_cons (x_forv (s_blt (s_evs1 (s_blt (s_evs1 (s_attr ?_)))))))
  none_booked
  none_booked
  with_reducible refine s_evs0 ?_
  none_booked
  with_reducible refine s_evs0 ?_
  rw [f3.len]
  refine o_range1 (by lia) ?_
  refine forI_rng (by lia) (by lia) (.inl rfl) ?_
  refine for_inv (fun l fr S' => An4 (Ext S S') (fr 10 = some (.ref f)) (fr 23 = some (.ref S.length)) (Xn6 fun (c : Nat) (h : Nat) (mm : Int) (refs : List Nat) (gs : List (List Int)) (pl : List Int) => An11 (c ≤ F.comps.length) (l = rngItems (c : Int) (F.comps.length : Int) 1) (fr 24 = some (.ref h)) (fr 25 = some (.int mm)) (Ob 2 S' S.length (.list (refs.map V.ref))) (Each (fun q g => IntsAt S' q g ∧ q ≠ S.length) refs gs) (IntsAt S' h pl) (h ≠ S.length) (gs.length ≤ c) (pl.length ≤ c) (∀ g ∈ gs, g.length ≤ 5))) ?_ ?_ ?_ _ _ _
    ⟨(Ext.push1 _).push _, rfl, rfl, 0, S.length + 1, 0, [], [], [], by lia, rfl, by simp [upds, upd], rfl, (Ob.new hl).push, .nil, ?_, by lia, by simp, by simp, by simp⟩
  · rintro l fr S' _; exact items_rng (by lia) (by lia) (.inl rfl)
  · rintro fr S' ⟨e, a10, a23, c, h, mm, refs, gs, pl, hc, hll, a24, a25, ho, ha, hh, hne, g1, g2, g3⟩
    unfold IntsAt at hh
    with_reducible refine x_seqN (x_cons (x_expr (s_app ?_)))
    none_booked
    refine s_appK ho ?_
    none_booked
    refine g_app ho (by rw [List.length_map, ha.len]; unfold LIM; lia) ?_
    with_reducible refine x_exprK (x_seqN (x_cons (x_ret ?_)))
    none_booked
    with_reducible refine x_seqS (x_finS ?_)
    refine q _ _ (gs ++ [pl]) (e.set (Nat.le_refl _) _) ⟨⟨by simp, by simp; lia⟩, fun g hg => ?_, refs ++ [h], ?_, ?_⟩
    · rcases List.mem_append.mp hg with hg | hg
      · exact g3 g hg
      · rw [List.mem_singleton] at hg; subst hg; lia
    · rw [List.map_append]; exact ho.set_self
    · exact (ha.mono fun q g hq => hq.1.set_ne hq.2).append (.cons (hh.set_ne hne) .nil)
  · rintro v rr fr S' ⟨e, a10, a23, c, h, mm, refs, gs, pl, hc, hll, a24, a25, ho, ha, hh, hne, g1, g2, g3⟩ K kn ks
    have hcm : c < F.comps.length := by
      rcases Nat.lt_or_ge c F.comps.length with h | h
      · exact h
      · rw [rng_nil (by lia)] at hll; cases hll
    rw [rng_cons (by lia)] at hll
    cases hll
    show exs _ _ (upd fr 13 (.int (c : Int))) _ _
    obtain ⟨qc, i, hn, hq, b1, b2, b3, b4⟩ := comp_at (cl := cl) hF f3 (p := (c : Int)) (by lia) (by lia)
    have f1' := f1.ext e (Nat.le_refl _)
    have f2' := f2.ext e (Nat.le_refl _)
    have hq' := hq.ext e (Nat.le_refl _)
    have hlS := e.len
    -- the end of a turn
    have last : ∀ (fr1 : Fr) (S1 : H) (h' : Nat) (mm' more : Int) (refs' : List Nat) (gs' : List (List Int)) (pl' : List Int), Ext S S1 → fr1 10 = some (.ref f) → fr1 23 = some (.ref S.length) → fr1 24 = some (.ref h') → fr1 25 = some (.int mm') → fr1 13 = some (.int (c : Int)) → fr1 26 = some (.int more) →
        Ob 2 S1 S.length (.list (refs'.map V.ref)) → Each (fun q g => IntsAt S1 q g ∧ q ≠ S.length) refs' gs' → IntsAt S1 h' pl' → gs'.length ≤ c + 1 → pl'.length ≤ c → (∀ g ∈ gs', g.length ≤ 5) → S.length < S1.length →
        exs (fun s fr S Q => ex T0 (n + 59) s fr S X Q) [.asg 24 (.bin .add (.var 24) (.list [(.var 13)])), .aug 25 (.var 26)] fr1 S1 K := by
      intro fr1 S1 h' mm' more refs' gs' pl' e1 c10 c23 c24 c25 c13 c26 ho' ha' hh' k1 k2 k3 hlt
      unfold IntsAt at hh'
      with_reducible refine x_cons (x_asg (s_bin ?_))
      none_booked
      with_reducible refine s_list (s_evs1 ?_)
      none_booked
      with_reducible refine s_evs0 ?_
      none_booked
      refine o_addL (b := 2) (b' := 0) hh'.push (Ob.new (Nat.zero_le _)) (by simp; unfold LIM; lia) ?_
      with_reducible refine x_seqN (x_cons ?_)
      refine x_aug (a := mm') (upd_get (fr' := fr1) c25 (by decide)) ?_
      have c26' : upd fr1 24 (.ref (List.length (S1 ++ [O.list [V.int (c : Int)]]))) 26 = some (.int more) := upd_get (fr' := fr1) c26 (by decide)
      none_booked
      with_reducible refine x_augK (x_seqN (x_nil ?_))
      have e2 : Ext S1 (S1 ++ [.list [V.int (c : Int)]] ++ [.list (pl'.map V.int ++ [V.int (c : Int)])]) := (Ext.push1 _).push _
      refine kn _ _ ⟨e1.trans e2, c10, c23, c + 1, _, mm' + more, refs', gs', pl' ++ [(c : Int)], hcm, by simp, rfl, rfl,
        ho'.ext e2 (Nat.le_refl _), ha'.mono fun q g hq => ⟨hq.1.ext e2 (Nat.le_refl _), hq.2⟩, ?_, by simp; lia, k1, by simp; lia, k3⟩
      have : (pl' ++ [(c : Int)]).map V.int = pl'.map V.int ++ [V.int (c : Int)] := by simp
      unfold IntsAt
      rw [this]
      exact Ob.new (by simp <;> lia)
    have flush : ∀ (fr1 : Fr) (S1 : H) (more : Int), Ext S S1 → fr1 10 = some (.ref f) → fr1 23 = some (.ref S.length) → fr1 24 = some (.ref h) → fr1 13 = some (.int (c : Int)) → fr1 26 = some (.int more) →
        Ob 2 S1 S.length (.list (refs.map V.ref)) → Each (fun q g => IntsAt S1 q g ∧ q ≠ S.length) refs gs → IntsAt S1 h pl →
        exs (fun s fr S Q => ex T0 (n + 58) s fr S X Q) [.expr (.app (.var 23) (.var 24)), .asgTup [24, 25] [(.list []), (.con (.int 0))]] fr1 S1 (seqK (fun s fr S Q => ex T0 (n + 59) s fr S X Q) [.asg 24 (.bin .add (.var 24) (.list [(.var 13)])), .aug 25 (.var 26)] K) := by
      intro fr1 S1 more e1 c10 c23 c24 c13 c26 ho' ha' hh'
      generalize [St.asg 24 (.bin .add (.var 24) (.list [(.var 13)])), .aug 25 (.var 26)] = tl at last ⊢
      with_reducible refine x_cons (x_expr (s_app ?_))
      none_booked
      refine s_appK ho' ?_
      none_booked
      refine g_app ho' (by rw [List.length_map, ha'.len]; unfold LIM; lia) ?_
      have hs1 := ho'.lt
      have e3 : Ext S (S1.set S.length (.list (refs.map V.ref ++ [.ref h]))) := e1.set (Nat.le_refl _) _
      have ho3 : Ob 2 (S1.set S.length (.list (refs.map V.ref ++ [.ref h]))) S.length (.list ((refs ++ [h]).map V.ref)) := by rw [List.map_append]; exact ho'.set_self
      have ha3 : Each (fun q g => IntsAt (S1.set S.length (.list (refs.map V.ref ++ [.ref h]))) q g ∧ q ≠ S.length) (refs ++ [h]) (gs ++ [pl]) :=
        (ha'.mono fun q g hq => ⟨hq.1.set_ne hq.2, hq.2⟩).append (.cons ⟨hh'.set_ne hne, hne⟩ .nil)
      have hl3 : (S1.set S.length (.list (refs.map V.ref ++ [.ref h]))).length = S1.length := by simp
      generalize S1.set S.length (.list (refs.map V.ref ++ [.ref h])) = S3 at *
      with_reducible refine x_exprK (x_seqN (x_cons (x_asgTup (s_evs1 (s_list (s_evs0 ?_))))))
      none_booked
      with_reducible refine s_evs1 (s_con (s_evs0 ?_))
      none_booked
      with_reducible refine x_seqN (x_nil (x_seqN ?_))
      refine last (upds fr1 [24, 25] [.ref S3.length, .int 0]) _ S3.length 0 more (refs ++ [h]) (gs ++ [pl]) [] (e3.push _) c10 c23 rfl rfl
        c13 c26 ho3.push (ha3.mono fun q g hq => ⟨hq.1.push, hq.2⟩) (Ob.new (by lia)) (by simp <;> lia) (by simp) (fun g hg => ?_) (by simp <;> lia)
      rcases List.mem_append.mp hg with hg | hg
      · exact g3 g hg
      · rw [List.mem_singleton] at hg; subst hg; lia
    have eT : [St.asg 24 (.bin .add (.var 24) (.list [(.var 13)])), .aug 25 (.var 26)] = [St.asg 24 (.bin .add (.var 24) (.list [(.var 13)])), .aug 25 (.var 26)] := rfl
    generalize hT : [St.asg 24 (.bin .add (.var 24) (.list [(.var 13)])), .aug 25 (.var 26)] = tl at last flush ⊢
    generalize hT2 : [St.expr (.app (.var 23) (.var 24)), .asgTup [24, 25] [(.list []), (.con (.int 0))]] = tl2 at flush ⊢
    unfold IntsAt at hh
    have hpl5 : (pl.map V.int).length ≤ LIM := by rw [List.length_map]; unfold LIM; lia
    with_reducible refine x_cons (x_asg (s_bin (s_attr (s_idx (s_attr ?_)))))
    none_booked
    none_booked
    none_booked
    refine g_idx f2' hrl hn ?_
    none_booked
    with_reducible refine s_attr (s_idx (s_attr ?_))
    none_booked
    none_booked
    none_booked
    refine g_idx f2' hrl hn ?_
    none_booked
    refine o_mul (.inl (by lia)) ?_
    with_reducible refine x_seqN (x_cons (x_ife (t_bop (s_boTt (t_cmp ?_)))))
    none_booked
    with_reducible refine s_ch1 (s_list (s_evs0 ?_))
    none_booked
    refine k_neE (b := 2) (b' := 0) hh.push (Ob.new (Nat.zero_le _)) hpl5 ?_
    have e1 : Ext S (S' ++ [O.list []]) := e.push _
    have ho1 := ho.push (o' := O.list [])
    have ha1 := ha.mono (R' := fun q g => IntsAt (S' ++ [O.list []]) q g ∧ q ≠ S.length) fun q g hq => ⟨hq.1.push, hq.2⟩
    have hh1 := hh.push (o' := O.list [])
    have hlt1 := ho1.lt
    have more10 : ∀ {more : Int}, upd (upd fr 13 (.int (c : Int))) 26 (.int more) 10 = some (.ref f) := a10
    have goon : ∀ more : Int, exs (fun s fr S Q => ex T0 (n + 59) s fr S X Q) tl (upd (upd fr 13 (.int (c : Int))) 26 (.int more)) (S' ++ [O.list []]) K := fun more =>
      last _ _ h mm more refs gs pl e1 a10 a23 a24 a25 rfl rfl ho1 ha1 hh1 (by lia) g2 g3 hlt1
    refine i_d (fun c1 => ?_) (fun c1 => ?_)
    · with_reducible refine s_boTt (t_bop (s_boTf (t_cmp (s_blt (s_evs1 ?_)))))
      none_booked
      with_reducible refine s_evs0 ?_
      none_booked
      with_reducible refine s_ch1 (s_g0 (k_eqI ?_))
      refine i_df (fun c2 => ?_) (fun c2 => ?_)
      · with_reducible refine s_boTf (t_cmp (s_bin ?_))
        none_booked
        none_booked
        with_reducible refine o_add (s_ch1 (s_g1 (k_gt ?_)))
        refine i_df (fun c3 => ?_) (fun c3 => ?_)
        · with_reducible refine s_bo0 (i_ft (i_ft (x_nil (x_seqN ?_))))
          exact goon _
        · with_reducible refine i_tt (s_bo0 (i_tt ?_))
          exact flush _ _ _ e1 a10 a23 a24 rfl rfl ho1 ha1 hh1
      · with_reducible refine i_tt (s_bo0 (i_tt ?_))
        exact flush _ _ _ e1 a10 a23 a24 rfl rfl ho1 ha1 hh1
    · with_reducible refine i_ft (x_nil (x_seqN ?_))
      exact goon _
  · have : S.length + 1 = (S ++ [O.list []]).length := by simp
    rw [this]
    exact Ob.new (by simp <;> lia)
end

section
variable {n : Nat} {S : H} {X : H → Prop} {Q : V → H → Prop} {F : Fm} {R : Row} {f r : Nat} {rows : List Row}

theorem scans_collect {S1 S' : H} {b : Nat} (e : Ext S1 S') (hb : 2 ≤ b) {vs : List V} {qs : List Nat} (h : Each (fun v y => ∃ p pl Rw, v = V.ref p ∧ IntsAt S1 p pl ∧ ScanN b S' y p Rw ∧ Rw.pl = pl ∧ Rw.Ws) vs qs) : ∃ rows, Each (ScanAt S') qs rows ∧ ∀ R ∈ rows, R.Ws := by
  induction h with
  | nil => exact ⟨[], .nil, by simp⟩
  | cons x r ih =>
    obtain ⟨rows, h1, h2⟩ := ih
    obtain ⟨p, pl, Rw, _, q2, q3, rfl, q5⟩ := x
    refine ⟨Rw :: rows, .cons ((q3.le hb).scan (Ob.ext q2 e (Nat.le_refl _))) h1, fun R hR => ?_⟩
    rcases List.mem_cons.mp hR with rfl | hR
    · exact q5
    · exact h2 R hR

theorem scans_of_groups {l : Nat} {gs : List (List Int)} {elt : E} {fr : Fr} (hS : Src S) (hg : GroupsAt S l gs)
    (step : ∀ p pl S', IntsAt S' p pl → pl.length ≤ 5 → Src S' → ∀ KK : V → H → Prop, (∀ S3 s R, Ext S' S3 → S'.length ≤ s → s < S3.length → ScanN S'.length S3 s p R → R.pl = pl → R.Ws → KK (.ref s) S3) → ev T0 n elt (upd fr 3 (.ref p)) S' F0 KK)
    (q : ∀ S' rows, Ext S S' → ScansBt S' S.length rows → 1 ≤ rows.length → rows.length ≤ 6 → Q (.ref S.length) S') : compK T0 n elt 3 [] fr Q (.ref l) S := by
  obtain ⟨h0, h1, refs, h2, h3⟩ := hg
  have hl := hS.len
  refine compK_fresh (fun S3 v y => ∃ p pl Rw, v = V.ref p ∧ IntsAt S p pl ∧ ScanN (S.length + 1) S3 y p Rw ∧ Rw.pl = pl ∧ Rw.Ws)
    (fun S' e => items_list (h2.ext e (Nat.le_refl _))) (by rw [List.length_map, h3.len]; unfold LIM; lia) (fun _ _ v y kk ⟨p, pl, Rw, q1, q2, q3, q4⟩ => ⟨p, pl, Rw, q1, q2, q3.keep kk, q4⟩) hS (fun v hv S' e hs' hk KK kk => ?_) (fun S' qs e ho ha hn hb => ?_)
  · obtain ⟨p, hp, rfl⟩ := List.mem_map.mp hv
    obtain ⟨i, hi⟩ := List.getElem?_of_mem hp
    obtain ⟨pl, hpl, hpp⟩ := h3.getL hi
    refine step p pl S' (Ob.ext hpp e (Nat.le_refl _)) (h1 pl (List.mem_of_getElem? hpl)) hs' KK fun S3 s R e3 a1 a2 a3 a4 a5 => ?_
    exact kk s S3 e3 a1 a2 ⟨p, pl, R, rfl, hpp, a3.le hk, a4, a5⟩
  · obtain ⟨rows, r1, r2⟩ := scans_collect e (by lia) ha
    have hlen : rows.length = gs.length := by
      have := r1.len; have := ha.len; have := h3.len
      rw [List.length_map] at *
      lia
    exact q _ rows e ⟨by lia, r2, qs, ho, r1⟩ (by lia) (by lia)

theorem c_seq (hS : Src S) (hf : FrameAt S f F) (q : ∀ S' l rows, Ext S S' → ScansBt S' l rows → 1 ≤ rows.length → rows.length ≤ 6 → Q (.ref l) S') : callF T0 (n + 80) 11 [.ref f] S X Q := by
  obtain ⟨hF, cl, refs0, f1, f2, f3⟩ := id hf
  refine callF_of (show T0.fn 11 = some (p11, b11) from rfl) rfl ?_
  unfold b11
  with_reducible refine x_cons (x_asg (s_bin (s_bin (s_attr ?_))))
  none_booked
  none_booked
  with_reducible refine s_attr ?_
  none_booked
  none_booked
  none_booked
  with_reducible refine s_con (o_sub (x_seqN (x_cons (x_ret (s_comp (s_call (s_evs1 ?_)))))))
  none_booked
  with_reducible refine s_evs0 ?_
  refine c_groups hS hf fun S1 l gs e1 hg => ?_
  refine scans_of_groups (e1.src hS) hg (fun p pl S' hp hpl hs' KK kk => ?_) (fun S' rows e2 hr h1 h2 => ?_)
  · with_reducible refine s_call (s_evs1 ?_)
    none_booked
    with_reducible refine s_evs1 (s_con (s_evs1 ?_))
    none_booked
    with_reducible refine s_evs1 (s_con (s_evs1 (s_con (s_evs0 ?_))))
    exact c_scan_of hs' hp (by lia) kk
  · with_reducible refine x_seqS (x_finS ?_)
    exact q _ _ rows (e1.trans e2) hr h1 h2

theorem c_dc {hi lo : Int} (hS : Src S) (hf : FrameAt S f F) (q : ∀ S' l rows, Ext S S' → ScansBt S' l rows → 1 ≤ rows.length → rows.length ≤ 6 → Q (.ref l) S') : callF T0 (n + 80) 12 [.ref f, .int hi, .int lo] S X Q := by
  refine callF_of (show T0.fn 12 = some (p12, b12) from rfl) rfl ?_
  unfold b12
  with_reducible refine x_cons (x_ret (s_comp (s_call (s_evs1 ?_))))
  none_booked
  with_reducible refine s_evs0 ?_
  refine c_groups hS hf fun S1 l gs e1 hg => ?_
  refine scans_of_groups (e1.src hS) hg (fun p pl S' hp hpl hs' KK kk => ?_) (fun S' rows e2 hr h1 h2 => ?_)
  · with_reducible refine s_call (s_evs1 ?_)
    none_booked
    with_reducible refine s_evs1 (s_con (s_evs1 (s_con (s_evs1 ?_))))
    none_booked
    with_reducible refine s_evs1 ?_
    none_booked
    with_reducible refine s_evs0 ?_
    exact c_scan_of hs' hp (by lia) kk
  · with_reducible refine x_seqS (x_finS ?_)
    exact q _ _ rows (e1.trans e2) hr h1 h2

theorem c_ac {p : Nat} {pl : List Int} {st en hi lo : Int} (hS : Src S) (hp : IntsAt S p pl) (hpl : pl.length ≤ 5) (q : ∀ S' l rows, Ext S S' → ScansBt S' l rows → rows.length ≤ 5 → Q (.ref l) S') : callF T0 (n + 80) 13 [.ref p, .int st, .int en, .int hi, .int lo] S X Q := by
  have hl := hS.len
  unfold IntsAt at hp
  refine callF_of (show T0.fn 13 = some (p13, b13) from rfl) rfl ?_
  unfold b13
  with_reducible refine x_cons (x_ife (t_cmp ?_))
  none_booked
  with_reducible refine s_ch1 ?_
  none_booked
  with_reducible refine k_gt ?_
  refine i_d (fun c => ?_) (fun c => ?_)
  · with_reducible refine x_cons (x_ret (s_list (s_evs0 ?_)))
    none_booked
    with_reducible refine x_seqS (x_seqS (x_finS ?_))
    exact q _ _ [] (.push1 _) ⟨by simp, by simp, [], Ob.new hl, .nil⟩ (by simp)
  · with_reducible refine x_nil (x_seqN (x_cons (x_ret (s_comp ?_))))
    none_booked
    refine compK_fresh (fun S3 v y => ∃ p Rw, Ob (S.length + 1) S3 p (.list (Rw.pl.map V.int)) ∧ ScanN (S.length + 1) S3 y p Rw ∧ Rw.Ws)
      (fun S' e => items_list (hp.ext e (Nat.le_refl _))) (by rw [List.length_map]; unfold LIM; lia) (by rintro S1 S2 v y kk ⟨p, Rw, q1, q2, q3⟩; exact ⟨p, Rw, q1.keep kk, q2.keep kk, q3⟩) hS (fun v hv S' e hs' hk KK kk => ?_) (fun S' qs e ho ha hn hb => ?_)
    · obtain ⟨x, hx, rfl⟩ := List.mem_map.mp hv
      have hl' := hs'.len
      with_reducible refine s_call (s_evs1 (s_list (s_evs1 ?_)))
      none_booked
      with_reducible refine s_evs0 ?_
      none_booked
      with_reducible refine s_evs1 ?_
      none_booked
      with_reducible refine s_evs1 ?_
      none_booked
      with_reducible refine s_evs1 ?_
      none_booked
      with_reducible refine s_evs1 ?_
      none_booked
      with_reducible refine s_evs0 ?_
      refine c_scan_of (pl := [x]) (hs'.push _) (Ob.new hl') (by simp) fun S3 s R e3 a1 a2 a3 a4 a5 => ?_
      rw [List.length_append, List.length_singleton] at a1
      refine kk s S3 ((Ext.push1 _).trans e3) (by lia) a2 ⟨S'.length, R, ?_, a3.le (by simp; lia), a5⟩
      rw [a4]
      exact Ob.ext (b := S.length + 1) (Ob.new (o := .list ([x].map V.int)) (by lia)) e3 (by lia)
    · obtain ⟨rows, r1, r2⟩ : ∃ rows, Each (ScanAt S') qs rows ∧ ∀ R ∈ rows, R.Ws := by
        clear ho hn hb
        generalize pl.map V.int = vs at ha
        induction ha with
        | nil => exact ⟨[], .nil, by simp⟩
        | cons x r ih =>
          obtain ⟨rows, h1, h2⟩ := ih
          obtain ⟨p, Rw, q1, q2, q3⟩ := x
          refine ⟨Rw :: rows, .cons ((q2.le (by lia)).scan (q1.le (by lia))) h1, fun R hR => ?_⟩
          rcases List.mem_cons.mp hR with rfl | hR
          · exact q3
          · exact h2 R hR
      have hlen : rows.length = pl.length := by
        have := r1.len; have := ha.len
        rw [List.length_map] at *
        lia
      with_reducible refine x_seqS (x_finS ?_)
      exact q _ _ rows e ⟨by lia, r2, qs, ho, r1⟩ (by lia)

theorem o_addS {k l : Nat} {rows1 rows2 : List Row} (h1 : ScansBt S k rows1) (h2 : ScansBt S l rows2) (hl : rows1.length + rows2.length ≤ 10000) (q : ∀ S', Ext S S' → ScansBt S' S.length (rows1 ++ rows2) → Q (.ref S.length) S') (hS : Src S) : binop .add (.ref k) (.ref l) S Q := by
  obtain ⟨a0, a1, refs1, a2, a3⟩ := h1
  obtain ⟨b0, b1, refs2, b2, b3⟩ := h2
  refine o_addL a2 b2 (by rw [List.length_map, List.length_map, a3.len, b3.len]; unfold LIM; lia) ?_
  have e := Ext.push1 (S := S) (O.list (refs1.map V.ref ++ refs2.map V.ref))
  refine q _ e ⟨by rw [List.length_append]; exact hl, fun R hR => ?_, refs1 ++ refs2, ?_, (a3.append b3).mono fun _ _ h => h.ext e⟩
  · rcases List.mem_append.mp hR with hR | hR
    · exact a1 R hR
    · exact b1 R hR
  · rw [List.map_append]; exact Ob.new hS.len

theorem c_colour (hS : Src S) (hf : FrameAt S f F) (q : ∀ S' l rows, Ext S S' → ScansBt S' l rows → 1 ≤ rows.length → rows.length ≤ 100 → Q (.ref l) S') : callF T0 (n + 110) 14 [.ref f] S X Q := by
  obtain ⟨hF, cl, refs0, f1, f2, f3⟩ := id hf
  refine callF_of (show T0.fn 14 = some (p14, b14) from rfl) rfl ?_
  unfold b14
  with_reducible refine x_cons (x_asg (s_bin (s_bin (s_attr ?_))))
  none_booked
  none_booked
  with_reducible refine s_attr ?_
  none_booked
  none_booked
  none_booked
  with_reducible refine s_con (o_sub (x_seqN (x_cons (x_asg (s_blt (s_evs1 (s_g5 (s_evs1 ?_))))))))
  none_booked
  with_reducible refine s_evs0 (o_min (x_seqN (x_cons (x_asg (s_bin (s_bin (s_call (s_evs1 ?_))))))))
  none_booked
  with_reducible refine s_evs1 (s_con (s_evs1 (s_con (s_evs0 ?_))))
  refine c_dc hS hf fun S1 l1 rows1 e1 h1 m1 n1 => ?_
  have hS1 := e1.src hS
  with_reducible refine s_call (s_evs1 (s_list (s_evs1 (s_con (s_evs0 ?_)))))
  none_booked
  with_reducible refine s_evs1 (s_con (s_evs1 ?_))
  none_booked
  with_reducible refine s_evs1 (s_con (s_evs1 (s_con (s_evs0 ?_))))
  refine c_ac (pl := [0]) (hS1.push _) (Ob.new hS1.len) (by decide) fun S2 l2 rows2 e2 h2 n2 => ?_
  have hS2 := e2.src (hS1.push _)
  refine o_addS ((h1.ext (.push1 _)).ext e2) h2 (by lia) (fun S3 e3 h3 => ?_) hS2
  have hS3 := e3.src hS2
  have E3 := ((e1.push _).trans e2).trans e3
  with_reducible refine s_call (s_evs1 (s_list (s_evs1 (s_con (s_evs1 (s_con (s_evs0 ?_)))))))
  none_booked
  with_reducible refine s_evs1 (s_con (s_evs1 ?_))
  none_booked
  with_reducible refine s_evs1 (s_con (s_evs1 (s_con (s_evs0 ?_))))
  refine c_ac (pl := [2, 1]) (hS3.push _) (Ob.new hS3.len) (by decide) fun S4 l4 rows4 e4 h4 n4 => ?_
  have hS4 := e4.src (hS3.push _)
  refine o_addS ((h3.ext (.push1 _)).ext e4) h4 (by simp; lia) (fun S5 e5 h5 => ?_) hS4
  have hS5 := e5.src hS4
  have E5 := ((E3.push _).trans e4).trans e5
  clear h1 h2 h3 h4
  with_reducible refine x_seqN (x_cons (x_asg (s_bin (s_bin ?_))))
  none_booked
  with_reducible refine s_call (s_evs1 (s_list (s_evs1 (s_con (s_evs0 ?_)))))
  none_booked
  with_reducible refine s_evs1 (s_bin ?_)
  none_booked
  with_reducible refine s_con (o_add (s_evs1 ?_))
  none_booked
  with_reducible refine s_evs1 (s_con (s_evs1 (s_con (s_evs0 ?_))))
  refine c_ac (pl := [0]) (hS5.push _) (Ob.new hS5.len) (by decide) fun S6 l6 rows6 e6 h6 n6 => ?_
  have hS6 := e6.src (hS5.push _)
  refine o_addS ((h5.ext (.push1 _)).ext e6) h6 (by simp; lia) (fun S7 e7 h7 => ?_) hS6
  have hS7 := e7.src hS6
  have E7 := ((E5.push _).trans e6).trans e7
  with_reducible refine s_call (s_evs1 (s_list (s_evs1 (s_con (s_evs0 ?_)))))
  none_booked
  with_reducible refine s_evs1 (s_con (s_evs1 ?_))
  none_booked
  with_reducible refine s_evs1 (s_con (s_evs1 (s_con (s_evs0 ?_))))
  refine c_ac (pl := [0]) (hS7.push _) (Ob.new hS7.len) (by decide) fun S8 l8 rows8 e8 h8 n8 => ?_
  have hS8 := e8.src (hS7.push _)
  refine o_addS ((h7.ext (.push1 _)).ext e8) h8 (by simp; lia) (fun S9 e9 h9 => ?_) hS8
  have hS9 := e9.src hS8
  have E9 := ((E7.push _).trans e8).trans e9
  clear h5 h6 h7 h8
  with_reducible refine x_seqN (x_cons (x_ret (s_bin (s_bin ?_))))
  none_booked
  with_reducible refine s_call (s_evs1 ?_)
  none_booked
  with_reducible refine s_evs1 (s_con (s_evs1 (s_con (s_evs0 ?_))))
  refine c_dc hS9 (hf.ext E9) fun S10 l10 rows10 e10 h10 m10 n10 => ?_
  have hS10 := e10.src hS9
  refine o_addS (h9.ext e10) h10 (by simp; lia) (fun S11 e11 h11 => ?_) hS10
  have hS11 := e11.src hS10
  have E11 := (E9.trans e10).trans e11
  with_reducible refine s_call (s_evs1 (s_list (s_evs1 (s_con (s_evs1 (s_con (s_evs1 (s_con (s_evs0 ?_)))))))))
  none_booked
  with_reducible refine s_evs1 (s_con (s_evs1 ?_))
  none_booked
  with_reducible refine s_evs1 (s_con (s_evs1 (s_con (s_evs0 ?_))))
  refine c_ac (pl := [2, 1, 0]) (hS11.push _) (Ob.new hS11.len) (by decide) fun S12 l12 rows12 e12 h12 n12 => ?_
  have hS12 := e12.src (hS11.push _)
  refine o_addS ((h11.ext (.push1 _)).ext e12) h12 (by simp; lia) (fun S13 e13 h13 => ?_) hS12
  with_reducible refine x_seqS (x_finS ?_)
  exact q _ _ _ (((E11.push _).trans e12).trans e13) h13 (by simp; lia) (by simp; lia)

theorem c_plain_script (hS : Src S) (hf : FrameAt S f F) (q : ∀ S' l rows, Ext S S' → ScansBt S' l rows → 1 ≤ rows.length → rows.length ≤ 100 → Q (.ref l) S') : callF T0 (n + 110) 15 [.ref f] S X Q := by
  obtain ⟨hF, cl, refs0, f1, f2, f3⟩ := id hf
  have hm := hF.1
  have hrl : refs0.length ≤ LIM := by rw [f3.len]; unfold LIM; lia
  refine callF_of (show T0.fn 15 = some (p15, b15) from rfl) rfl ?_
  unfold b15
  with_reducible refine x_cons (x_asg (s_bin (s_bin (s_attr ?_))))
  none_booked
  none_booked
  with_reducible refine s_attr ?_
  none_booked
  none_booked
  none_booked
  with_reducible refine s_con (o_sub (x_seqN (x_cons (x_asg (s_blt (s_evs1 (s_g5 (s_evs1 ?_))))))))
  none_booked
  with_reducible refine s_evs0 (o_min (x_seqN (x_cons (x_asg (s_blt (s_evs1 (s_blt (s_evs1 (s_blt (s_evs1 (s_attr ?_)))))))))))
  none_booked
  none_booked
  with_reducible refine s_evs0 ?_
  none_booked
  with_reducible refine s_evs0 ?_
  rw [f3.len]
  refine o_range1 (by lia) ?_
  with_reducible refine s_evs0 ?_
  refine o_listR (by lia) (by lia) (by unfold rngLen; rw [if_pos rfl]; lia) ?_
  have hP : IntsAt (S ++ [.list (rngItems 0 (F.comps.length : Int) 1)]) S.length (rngInts 0 (F.comps.length : Int)) := by
    unfold IntsAt; rw [← rngItems_eq]; exact Ob.new hS.len
  have hPl : (rngInts 0 (F.comps.length : Int)).length ≤ 5 := by rw [rngInts_len]; lia
  have eP : Ext S (S ++ [.list (rngItems 0 (F.comps.length : Int) 1)]) := .push1 _
  have hSP := hS.push (.list (rngItems 0 (F.comps.length : Int) 1))
  generalize S ++ [.list (rngItems 0 (F.comps.length : Int) 1)] = S0 at *
  generalize rngInts 0 (F.comps.length : Int) = pl at *
  with_reducible refine x_seqN (x_cons (x_asg (s_bin (s_bin (s_call (s_evs1 ?_))))))
  none_booked
  with_reducible refine s_evs1 (s_con (s_evs1 (s_con (s_evs0 ?_))))
  refine c_dc hSP (hf.ext eP) fun S1 l1 rows1 e1 h1 m1 n1 => ?_
  have hS1 := e1.src hSP
  have E1 := eP.trans e1
  have P1 := Ob.ext hP e1 (Nat.le_refl _)
  with_reducible refine s_call (s_evs1 ?_)
  none_booked
  with_reducible refine s_evs1 (s_con (s_evs1 ?_))
  none_booked
  with_reducible refine s_evs1 (s_con (s_evs1 (s_con (s_evs0 ?_))))
  refine c_ac (pl := pl) hS1 P1 hPl fun S2 l2 rows2 e2 h2 n2 => ?_
  have hS2 := e2.src hS1
  have P2 := P1.ext e2 (Nat.le_refl _)
  refine o_addS (h1.ext e2) h2 (by lia) (fun S3 e3 h3 => ?_) hS2
  have hS3 := e3.src hS2
  have E3 := (E1.trans e2).trans e3
  have P3 := P2.ext e3 (Nat.le_refl _)
  with_reducible refine s_call (s_evs1 ?_)
  none_booked
  with_reducible refine s_evs1 (s_bin ?_)
  none_booked
  with_reducible refine s_con (o_add (s_evs1 ?_))
  none_booked
  with_reducible refine s_evs1 (s_con (s_evs1 (s_con (s_evs0 ?_))))
  refine c_ac (pl := pl) hS3 P3 hPl fun S4 l4 rows4 e4 h4 n4 => ?_
  have hS4 := e4.src hS3
  have P4 := P3.ext e4 (Nat.le_refl _)
  refine o_addS (h3.ext e4) h4 (by simp; lia) (fun S5 e5 h5 => ?_) hS4
  have hS5 := e5.src hS4
  have E5 := (E3.trans e4).trans e5
  have P5 := P4.ext e5 (Nat.le_refl _)
  clear h1 h2 h3 h4
  with_reducible refine x_seqN (x_cons (x_asg (s_bin ?_)))
  none_booked
  with_reducible refine s_call (s_evs1 ?_)
  none_booked
  with_reducible refine s_evs1 (s_con (s_evs1 ?_))
  none_booked
  with_reducible refine s_evs1 (s_con (s_evs1 (s_con (s_evs0 ?_))))
  refine c_ac (pl := pl) hS5 P5 hPl fun S6 l6 rows6 e6 h6 n6 => ?_
  have hS6 := e6.src hS5
  have P6 := P5.ext e6 (Nat.le_refl _)
  refine o_addS (h5.ext e6) h6 (by simp; lia) (fun S7 e7 h7 => ?_) hS6
  have hS7 := e7.src hS6
  have E7 := (E5.trans e6).trans e7
  have P7 := P6.ext e7 (Nat.le_refl _)
  with_reducible refine x_seqN (x_cons (x_ret (s_bin (s_bin ?_))))
  none_booked
  with_reducible refine s_call (s_evs1 ?_)
  none_booked
  with_reducible refine s_evs1 (s_con (s_evs1 (s_con (s_evs0 ?_))))
  refine c_dc hS7 (hf.ext E7) fun S8 l8 rows8 e8 h8 m8 n8 => ?_
  have hS8 := e8.src hS7
  have P8 := P7.ext e8 (Nat.le_refl _)
  refine o_addS (h7.ext e8) h8 (by simp; lia) (fun S9 e9 h9 => ?_) hS8
  have hS9 := e9.src hS8
  have E9 := (E7.trans e8).trans e9
  have P9 := P8.ext e9 (Nat.le_refl _)
  with_reducible refine s_call (s_evs1 ?_)
  none_booked
  with_reducible refine s_evs1 (s_con (s_evs1 ?_))
  none_booked
  with_reducible refine s_evs1 (s_con (s_evs1 (s_con (s_evs0 ?_))))
  refine c_ac (pl := pl) hS9 P9 hPl fun S10 l10 rows10 e10 h10 n10 => ?_
  have hS10 := e10.src hS9
  refine o_addS (h9.ext e10) h10 (by simp; lia) (fun S11 e11 h11 => ?_) hS10
  with_reducible refine x_seqS (x_finS ?_)
  exact q _ _ _ ((E9.trans e10).trans e11) h11 (by simp; lia) (by simp; lia)

theorem c_prog_script (hS : Src S) (hf : FrameAt S f F) (q : ∀ S' l rows, Ext S S' → ScansBt S' l rows → 1 ≤ rows.length → rows.length ≤ 100 → Q (.ref l) S') : callF T0 (n + 120) 16 [.ref f] S X Q := by
  obtain ⟨hF, cl, refs0, f1, f2, f3⟩ := id hf
  have hm := hF.1
  have hrl : refs0.length ≤ LIM := by rw [f3.len]; unfold LIM; lia
  refine callF_of (show T0.fn 16 = some (p16, b16) from rfl) rfl ?_
  unfold b16
  with_reducible refine x_cons (x_ife (t_cmp (s_blt (s_evs1 (s_attr ?_)))))
  none_booked
  none_booked
  with_reducible refine s_evs0 ?_
  none_booked
  with_reducible refine s_ch1 (s_con (k_eqI ?_))
  refine i_d (fun c => ?_) (fun c => ?_)
  · with_reducible refine x_cons (x_ret (s_call (s_evs1 ?_)))
    none_booked
    with_reducible refine s_evs0 ?_
    refine c_colour hS hf fun S' l rows e h h1 h2 => ?_
    with_reducible refine x_seqS (x_seqS (x_finS ?_))
    exact q _ _ _ e h h1 h2
  · with_reducible refine x_nil (x_seqN (x_cons (x_ret (s_call (s_evs1 ?_)))))
    none_booked
    with_reducible refine s_evs0 ?_
    refine c_plain_script hS hf fun S' l rows e h h1 h2 => ?_
    with_reducible refine x_seqS (x_finS ?_)
    exact q _ _ _ e h h1 h2
end

section
variable {n : Nat} {S : H} {X : H → Prop} {Q : V → H → Prop} {F : Fm} {R : Row} {f r s : Nat} {rows : List Row}

theorem RowN.keep {b : Nat} {S' : H} (h : RowN b S s R) (k : Keep b S S') : RowN b S' s R := by
  obtain ⟨p, d, a, h1, h2, h3, h4⟩ := h; exact ⟨p, d, a, h1.keep k, h2.keep k, h3.keep k, h4.keep k⟩
theorem RowN.le {b c : Nat} (h : RowN b S s R) (hc : c ≤ b) : RowN c S s R := by
  obtain ⟨p, d, a, h1, h2, h3, h4⟩ := h; exact ⟨p, d, a, h1.le hc, h2.le hc, h3.le hc, h4.le hc⟩

theorem c_law_plain (hS : Src S) (hs : ScanAt S s R) (hw : R.Ws) (q : ∀ S' y, Ext S S' → S.length ≤ y → y < S'.length → RowN S.length S' y R → Q (.ref y) S') : callF T0 (n + 20) 22 [.ref s] S X Q := by
  obtain ⟨p, d, a, h1, h2, h3, h4⟩ := hs
  obtain ⟨w1, w2, w3⟩ := hw
  have hl := hS.len
  refine callF_of (show T0.fn 22 = some (p22, b22) from rfl) rfl ?_
  unfold b22
  with_reducible refine x_cons (x_ret (s_list (s_evs1 (s_blt (s_evs1 (s_attr ?_))))))
  none_booked
  none_booked
  with_reducible refine s_evs0 ?_
  refine o_listL h2 (by rw [List.length_map]; unfold LIM; lia) ?_
  with_reducible refine s_evs1 (s_blt (s_evs1 (s_attr ?_)))
  none_booked
  none_booked
  with_reducible refine s_evs0 ?_
  refine o_listL (h3.push (o' := .list (R.pl.map V.int))) (by rw [List.length_map]; unfold LIM; lia) ?_
  with_reducible refine s_evs1 (s_blt (s_evs1 (s_attr ?_)))
  none_booked
  none_booked
  with_reducible refine s_evs0 ?_
  refine o_listL ((h4.push (o' := .list (R.pl.map V.int))).push (o' := .list (R.dc.map V.int))) (by rw [List.length_map]; unfold LIM; lia) ?_
  with_reducible refine s_evs1 (s_attr ?_)
  none_booked
  none_booked
  with_reducible refine s_evs1 (s_attr ?_)
  none_booked
  none_booked
  with_reducible refine s_evs1 (s_attr ?_)
  none_booked
  none_booked
  with_reducible refine s_evs1 (s_attr ?_)
  none_booked
  none_booked
  with_reducible refine s_evs0 ?_
  none_booked
  with_reducible refine x_seqS (x_finS ?_)
  refine q _ _ ((((Ext.push1 _).push _).push _).push _) (by simp <;> lia) (by simp) ⟨S.length, S.length + 1, S.length + 2, ?_, ?_, ?_, ?_⟩
  · have e1 : (S ++ [O.list (R.pl.map V.int)]).length = S.length + 1 := by simp
    have e2 : (S ++ [O.list (R.pl.map V.int)] ++ [O.list (R.dc.map V.int)]).length = S.length + 2 := by simp
    rw [← e1, ← e2]
    exact Ob.new (by simp <;> lia)
  · exact (Ob.new (Nat.le_refl _)).push.push.push
  · have e1 : S.length + 1 = (S ++ [O.list (R.pl.map V.int)]).length := by simp
    rw [e1]
    exact (Ob.new (by simp)).push.push
  · have e2 : S.length + 2 = (S ++ [O.list (R.pl.map V.int)] ++ [O.list (R.dc.map V.int)]).length := by simp
    rw [e2]
    exact (Ob.new (by simp <;> lia)).push

theorem ScanAt.inj {R' : Row} (h : ScanAt S s R) (h' : ScanAt S s R') : R = R' := by
  obtain ⟨p1, d1, a1, g1, g2, g3, g4⟩ := h
  obtain ⟨p2, d2, a2, k1, k2, k3, k4⟩ := h'
  have e := g1.inj k1
  simp only [O.inst.injEq, List.cons.injEq, Prod.mk.injEq, V.ref.injEq, V.int.injEq, and_true, true_and] at e
  obtain ⟨rfl, rfl, rfl, e4, e5, e6, e7⟩ := e
  have j2 := g2.inj k2
  have j3 := g3.inj k3
  have j4 := g4.inj k4
  injection j2 with j2
  injection j3 with j3
  injection j4 with j4
  cases R; cases R'
  simp only at *
  rw [map_int_inj j2, map_int_inj j3, map_int_inj j4, e4, e5, e6, e7]
theorem rows_key {S' : H} {refs : List Nat} {rows : List Row} {qs : List Nat} (h0 : Each (ScanAt S) refs rows) (h : Each (fun v y => ∃ p R, v = V.ref p ∧ ScanAt S p R ∧ RowN (S.length + 1) S' y R) (refs.map V.ref) qs) (hb : 2 ≤ S.length + 1) : Each (RowAt S') qs rows := by
  induction h0 generalizing qs with
  | nil => cases h; exact .nil
  | cons x _ ih =>
    cases h with
    | cons y s =>
      refine .cons ?_ (ih s)
      obtain ⟨p, R, q1, q2, q3⟩ := y
      injection q1 with q1
      subst q1
      rw [x.inj q2]
      exact q3.le hb

/-- rows of scans -/
theorem rows_of_scans {l : Nat} {fr : Fr} (hS : Src S) (hg : ScansBt S l rows) (hl : rows.length ≤ 900) (q : ∀ S', Ext S S' → RowsBt S' S.length rows → Q (.ref S.length) S') : compK T0 (n + 30) (.call 22 [(.var 11)]) 11 [] fr Q (.ref l) S := by
  obtain ⟨h0, h1, refs, h2, h3⟩ := hg
  have hl2 := hS.len
  refine compK_fresh (fun S3 v y => ∃ p R, v = V.ref p ∧ ScanAt S p R ∧ RowN (S.length + 1) S3 y R)
    (fun S' e => items_list (h2.ext e (Nat.le_refl _))) (by rw [List.length_map, h3.len]; unfold LIM; lia) (by rintro S1 S2 v y kk ⟨p, R, q1, q2, q3⟩; exact ⟨p, R, q1, q2, q3.keep kk⟩) hS (fun v hv S' e hs' hk KK kk => ?_) (fun S' qs e ho ha hn hb => ?_)
  · obtain ⟨p, hp, rfl⟩ := List.mem_map.mp hv
    obtain ⟨i, hi⟩ := List.getElem?_of_mem hp
    obtain ⟨R, hR, hpp⟩ := h3.getL hi
    with_reducible refine s_call (s_evs1 ?_)
    none_booked
    with_reducible refine s_evs0 ?_
    refine c_law_plain hs' (hpp.ext e) (h1 R (List.mem_of_getElem? hR)) fun S3 y e3 a1 a2 a3 => ?_
    exact kk y S3 e3 a1 a2 ⟨p, R, rfl, hpp, a3.le hk⟩
  · exact q S' e ⟨hl, h1, qs, ho, rows_key h3 ha (by lia)⟩
end

section
variable {n : Nat} {S : H} {X : H → Prop} {Q : V → H → Prop} {F : Fm} {R : Row} {f r s : Nat} {rows : List Row}

theorem nth_last {l : List Nat} {q : Nat} : nth ((l ++ [q]).map V.ref) (-1) = some (.ref q) := by
  unfold nth
  rw [if_neg (by lia), List.length_map, List.length_append, List.length_singleton, if_pos (by lia)]
  rw [show ((((l.length + 1 : Nat) : Int)) + -1).toNat = l.length by lia, List.getElem?_map]
  simp

inductive GroupsN (b : Nat) (S : H) (l : Nat) (gs : List (List Int)) : Prop where
  | mk (hh1 : (1 ≤ gs.length ∧ gs.length ≤ 6)) (hh2 : (∀ g ∈ gs, g.length ≤ 5)) (refs : List Nat) (hh3 : Ob b S l (.list (refs.map V.ref))) (hh4 : Each (fun q g => Ob b S q (.list (g.map V.int))) refs gs)
theorem groupsN_of {b : Nat} {refs : List Nat} {gs : List (List Int)} (h0 : Each (IntsAt S) refs gs) (h : ∀ y ∈ refs, b ≤ y) : Each (fun q g => Ob b S q (.list (g.map V.int))) refs gs := by
  induction h0 with
  | nil => exact .nil
  | cons x _ ih => exact .cons ⟨h _ List.mem_cons_self, x.2⟩ (ih fun y hy => h y (List.mem_cons_of_mem _ hy))

theorem c_law_groups (hS : Src S) (hf : FrameAt S f F) (q : ∀ S' l gs, Ext S S' → GroupsN S.length S' l gs → Q (.ref l) S') : callF T0 (n + 60) 21 [.ref f] S X Q := by
  obtain ⟨hF, cl, refs0, f1, f2, f3⟩ := id hf
  have hm := hF.1
  have hrl : refs0.length ≤ LIM := by rw [f3.len]; unfold LIM; lia
  have hl := hS.len
  refine callF_of (show T0.fn 21 = some (p21, b21) from rfl) rfl ?_
  unfold b21
  with_reducible refine x_cons (x_asg (s_list (s_evs1 (s_list (s_evs0 ?_)))))
  none_booked
  with_reducible refine s_evs0 ?_
  none_booked
  with_reducible refine x_seqN (x_cons (x_forv (s_blt (s_evs1 (s_blt (s_evs1 (s_attr ?_)))))))
  none_booked
  none_booked
  with_reducible refine s_evs0 ?_
  none_booked
  with_reducible refine s_evs0 ?_
  rw [f3.len]
  refine o_range1 (by lia) ?_
  have hfl : (S ++ [O.list []]).length = S.length + 1 := by simp
  refine forI_rng (by lia) (by lia) (.inl rfl) ?_
  rw [hfl]
  refine for_inv (fun l fr S' => An4 (Ext S S') (fr 10 = some (.ref f)) (fr 23 = some (.ref (S.length + 1))) (Xn5 fun (c : Nat) (ri : List Nat) (qq : Nat) (gi : List (List Int)) (g : List Int) => An12 (c ≤ F.comps.length) (l = rngItems (c : Int) (F.comps.length : Int) 1) (Ob 2 S' (S.length + 1) (.list ((ri ++ [qq]).map V.ref))) (Each (IntsAt S') ri gi) (IntsAt S' qq g) (∀ y ∈ ri ++ [qq], S.length ≤ y) (∀ y ∈ ri ++ [qq], y ≠ S.length + 1) (qq ∉ ri) (gi.length ≤ c) (g.length ≤ c) (∀ g ∈ gi, g.length ≤ 5) (∀ x ∈ g, 0 ≤ x ∧ x < F.comps.length))) ?_ ?_ ?_ _ _ _
    ⟨(Ext.push1 _).push _, rfl, rfl, 0, [], S.length, [], [], by lia, rfl, by rw [← hfl]; exact Ob.new (by simp <;> lia), .nil, Ob.push (Ob.new hl), by simp, by simp, by simp, by simp, by simp, by simp, by simp⟩
  · rintro l fr S' _; exact items_rng (by lia) (by lia) (.inl rfl)
  · rintro fr S' ⟨e, a10, a23, c, ri, qq, gi, g, hc, hll, ho, ha, hh, hq1, hq2, hq3, g1, g2, g3, g4⟩
    with_reducible refine x_seqN (x_cons (x_ret ?_))
    none_booked
    with_reducible refine x_seqS (x_finS ?_)
    refine q _ _ (gi ++ [g]) e ⟨⟨by simp, by simp; lia⟩, fun g' hg => ?_, ri ++ [qq], ⟨by lia, ho.2⟩, groupsN_of (ha.append (.cons hh .nil)) hq1⟩
    rcases List.mem_append.mp hg with hg | hg
    · exact g3 g' hg
    · rw [List.mem_singleton] at hg; subst hg; lia
  · rintro v rr fr S' ⟨e, a10, a23, c, ri, qq, gi, g, hc, hll, ho, ha, hh, hq1, hq2, hq3, g1, g2, g3, g4⟩ K kn ks
    have hcm : c < F.comps.length := by
      rcases Nat.lt_or_ge c F.comps.length with h | h
      · exact h
      · rw [rng_nil (by lia)] at hll; cases hll
    rw [rng_cons (by lia)] at hll
    cases hll
    show exs _ _ (upd fr 13 (.int (c : Int))) _ _
    have hel := e.len
    have hriL : ri.length ≤ 5 := by rw [ha.len]; lia
    -- the end of a turn
    have last : ∀ (fr1 : Fr) (S1 : H) (ri' : List Nat) (qq' : Nat) (gi' : List (List Int)) (g' : List Int), Ext S S1 → fr1 10 = some (.ref f) → fr1 23 = some (.ref (S.length + 1)) → fr1 13 = some (.int (c : Int)) →
        Ob 2 S1 (S.length + 1) (.list ((ri' ++ [qq']).map V.ref)) → Each (IntsAt S1) ri' gi' → IntsAt S1 qq' g' → (∀ y ∈ ri' ++ [qq'], S.length ≤ y) → (∀ y ∈ ri' ++ [qq'], y ≠ S.length + 1) → qq' ∉ ri' → gi'.length ≤ c + 1 → g'.length ≤ c → (∀ g ∈ gi', g.length ≤ 5) → (∀ x ∈ g', 0 ≤ x ∧ x < F.comps.length) →
        exs (fun s fr S Q => ex T0 (n + 59) s fr S X Q) [.expr (.app (.idx (.var 23) (.con (.int (-1)))) (.var 13))] fr1 S1 K := by
      intro fr1 S1 ri' qq' gi' g' e1 c10 c23 c13 ho' ha' hh' d1 d2 d3 k1 k2 k3 k4
      have hlen : ((ri' ++ [qq']).map V.ref).length ≤ LIM := by rw [List.length_map, List.length_append, ha'.len]; simp; unfold LIM; lia
      with_reducible refine x_cons (x_expr (s_app (s_idx ?_)))
      none_booked
      with_reducible refine s_con ?_
      refine g_idx ho' hlen nth_last ?_
      refine s_appK hh' ?_
      none_booked
      refine g_app hh' (by rw [List.length_map]; unfold LIM; lia) ?_
      with_reducible refine x_exprK (x_seqN (x_nil ?_))
      refine kn _ _ ⟨e1.set (d1 qq' (by simp)) _, c10, c23, c + 1, ri', qq', gi', g' ++ [(c : Int)], hcm, by simp, ho'.set_ne (Ne.symm (d2 qq' (by simp))), ?_, ?_, d1, d2, d3, k1, by simp; lia, k3, fun x hx => ?_⟩
      · have : ∀ {l : List Nat} {m : List (List Int)}, Each (IntsAt S1) l m → qq' ∉ l → Each (IntsAt (S1.set qq' (.list (g'.map V.int ++ [V.int (c : Int)])))) l m := by
          intro l m h
          induction h with
          | nil => intro _; exact .nil
          | cons x r ih => intro hn; simp only [List.mem_cons, not_or] at hn; exact .cons (Ob.set_ne x (Ne.symm hn.1)) (ih hn.2)
        exact this ha' d3
      · unfold IntsAt
        rw [List.map_append]
        exact Ob.set_self hh'
      · rcases List.mem_append.mp hx with hx | hx
        · exact k4 x hx
        · rw [List.mem_singleton] at hx; lia
    have fresh : ∀ (fr1 : Fr) (S1 : H), Ext S S1 → fr1 10 = some (.ref f) → fr1 23 = some (.ref (S.length + 1)) → fr1 13 = some (.int (c : Int)) →
        Ob 2 S1 (S.length + 1) (.list ((ri ++ [qq]).map V.ref)) → Each (IntsAt S1) ri gi → IntsAt S1 qq g →
        exs (fun s fr S Q => ex T0 (n + 58) s fr S X Q) [.expr (.app (.var 23) (.list []))] fr1 S1 (seqK (fun s fr S Q => ex T0 (n + 59) s fr S X Q) [.expr (.app (.idx (.var 23) (.con (.int (-1)))) (.var 13))] K) := by
      intro fr1 S1 e1 c10 c23 c13 ho' ha' hh'
      generalize [St.expr (.app (.idx (.var 23) (.con (.int (-1)))) (.var 13))] = tl at last ⊢
      have hlt := ho'.lt
      with_reducible refine x_cons (x_expr (s_app ?_))
      none_booked
      refine s_appK ho' ?_
      with_reducible refine s_list (s_evs0 ?_)
      none_booked
      have ho2 := ho'.push (o' := .list [])
      refine g_app ho2 (by rw [List.length_map, List.length_append, ha.len]; simp; unfold LIM; lia) ?_
      with_reducible refine x_exprK (x_seqN (x_nil (x_seqN ?_)))
      have hne : ∀ y, y ∈ ri ++ [qq] → y ≠ S.length + 1 := hq2
      have hbnd : ∀ {l : List Nat} {m : List (List Int)}, Each (IntsAt S1) l m → ∀ y ∈ l, y < S1.length := by
        intro l m h
        induction h with
        | nil => intro y hy; cases hy
        | cons x r ih =>
          intro y hy
          rcases List.mem_cons.mp hy with rfl | hy
          · exact Ob.lt x
          · exact ih y hy
      refine last fr1 _ (ri ++ [qq]) S1.length (gi ++ [g]) [] ((e1.push _).set (by lia) _) c10 c23 c13 ?_ ?_ ?_ (fun y hy => ?_) (fun y hy => ?_) (fun hmem => ?_) (by simp; lia) (by simp) (fun g' hg => ?_) (by simp)
      · rw [List.map_append (l₂ := [S1.length])]; exact ho2.set_self
      · refine Each.append ?_ (.cons (Ob.set_ne (Ob.push hh') (hne qq (by simp))) .nil)
        have : ∀ {l : List Nat} {m : List (List Int)}, Each (IntsAt S1) l m → (∀ y ∈ l, y ≠ S.length + 1) → Each (IntsAt ((S1 ++ [O.list []]).set (S.length + 1) (.list ((ri ++ [qq]).map V.ref ++ [V.ref S1.length])))) l m := by
          intro l m h
          induction h with
          | nil => intro _; exact .nil
          | cons x r ih => intro hn; exact .cons (Ob.set_ne (Ob.push x) (hn _ List.mem_cons_self)) (ih fun y hy => hn y (List.mem_cons_of_mem _ hy))
        exact this ha' fun y hy => hne y (List.mem_append_left _ hy)
      · exact (Ob.new (by lia)).set_ne (by lia)
      · rcases List.mem_append.mp hy with hy | hy
        · exact hq1 y hy
        · rw [List.mem_singleton] at hy; lia
      · rcases List.mem_append.mp hy with hy | hy
        · exact hne y hy
        · rw [List.mem_singleton] at hy; lia
      · have hcons := (ha'.append (.cons hh' .nil) : Each (IntsAt S1) (ri ++ [qq]) (gi ++ [g]))
        exact absurd (hbnd hcons _ hmem) (Nat.lt_irrefl _)
      · rcases List.mem_append.mp hg with hg | hg
        · exact g3 g' hg
        · rw [List.mem_singleton] at hg; subst hg; lia
    generalize hT : [St.expr (.app (.idx (.var 23) (.con (.int (-1)))) (.var 13))] = tl at last fresh ⊢
    generalize hT2 : [St.expr (.app (.var 23) (.list []))] = tl2 at fresh ⊢
    have hlen : ((ri ++ [qq]).map V.ref).length ≤ LIM := by rw [List.length_map, List.length_append]; simp; unfold LIM; lia
    with_reducible refine x_cons (x_asg (s_comp (s_bin (s_idx ?_))))
    none_booked
    with_reducible refine s_con ?_
    refine g_idx ho hlen nth_last ?_
    with_reducible refine s_list (s_evs1 ?_)
    none_booked
    with_reducible refine s_evs0 ?_
    none_booked
    refine o_addL (b := 2) (b' := 0) (Ob.push hh) (Ob.new (Nat.zero_le _)) (by simp; unfold LIM; lia) ?_
    have e9 : g.map V.int ++ [V.int (c : Int)] = (g ++ [(c : Int)]).map V.int := by simp
    rw [e9]
    have hpl : ∀ x ∈ g ++ [(c : Int)], 0 ≤ x ∧ x < F.comps.length := fun x hx => by
      rcases List.mem_append.mp hx with hx | hx
      · exact g4 x hx
      · rw [List.mem_singleton] at hx; lia
    have hgl : (g ++ [(c : Int)]).length = g.length + 1 := by simp
    have hlist : Ob 2 (S' ++ [.list [V.int (c : Int)]] ++ [.list ((g ++ [(c : Int)]).map V.int)]) (S' ++ [O.list [V.int (c : Int)]]).length (.list ((g ++ [(c : Int)]).map V.int)) := Ob.new (by simp <;> lia)
    have e2 : Ext S' (S' ++ [.list [V.int (c : Int)]] ++ [.list ((g ++ [(c : Int)]).map V.int)]) := (Ext.push1 _).push _
    have hS2 := e2.src (e.src hS)
    generalize (S' ++ [O.list [V.int (c : Int)]]).length = lk at *
    generalize S' ++ [.list [V.int (c : Int)]] ++ [.list ((g ++ [(c : Int)]).map V.int)] = S2 at *
    generalize hgc : g ++ [(c : Int)] = pl at *
    have E2 := e.trans e2
    refine compK_pure (fun _ => true) (fun v => match v with | .int p => refs0.getD p.toNat .none | _ => .none) (fun S' e => items_list (hlist.ext e (Nat.le_refl _))) (by rw [List.length_map]; unfold LIM; lia) hS2 (fun v hv S3 e3 hs' => ⟨fun K hk => s_bo0 hk, fun _ K hk => ?_⟩) ?_
    · obtain ⟨pp, hpp, rfl⟩ := List.mem_map.mp hv
      obtain ⟨r1, r2⟩ := hpl pp hpp
      obtain ⟨qc, i, hn, hq, _⟩ := comp_at (cl := cl) hF f3 r1 r2
      have f1' := f1.ext (E2.trans e3) (Nat.le_refl _)
      have f2' := f2.ext (E2.trans e3) (Nat.le_refl _)
      with_reducible refine s_idx (s_attr ?_)
      none_booked
      none_booked
      none_booked
      refine g_idx f2' hrl hn ?_
      have : refs0.getD pp.toNat .none = .ref qc := by rw [nth_nat r1] at hn; rw [List.getD_eq_getElem?_getD, hn]; rfl
      simp only [this] at hk
      exact hk
    · have et : (((pl.map V.int).filter fun _ => true).map fun v => match v with | .int p => refs0.getD p.toNat V.none | _ => .none) = pl.map fun p => refs0.getD p.toNat V.none := by
        rw [List.filter_eq_self.mpr (fun _ _ => rfl), List.map_map]; rfl
      rw [et]
      have ho3 : Ob 2 (S2 ++ [O.list (pl.map fun p => refs0.getD p.toNat V.none)]) S2.length (.list (pl.map fun p => refs0.getD p.toNat V.none)) := Ob.new hS2.len
      have e3 : Ext S' (S2 ++ [O.list (pl.map fun p => refs0.getD p.toNat V.none)]) := e2.push _
      have hS3 : Src (S2 ++ [O.list (pl.map fun p => refs0.getD p.toNat V.none)]) := hS2.push _
      generalize S2 ++ [O.list (pl.map fun p => refs0.getD p.toNat V.none)] = S3 at *
      generalize hk2 : S2.length = k2 at *
      have E3 := e.trans e3
      have goon : ∀ S9, Ext S3 S9 → exs (fun s fr S Q => ex T0 (n + 59) s fr S X Q) tl (upd (upd fr 13 (.int (c : Int))) 48 (.ref k2)) S9 K := fun S9 e9 =>
        last _ S9 ri qq gi g (E3.trans e9) a10 a23 rfl ((ho.ext e3 (Nat.le_refl _)).ext e9 (Nat.le_refl _)) ((ha.mono fun _ _ h => Ob.ext h e3 (Nat.le_refl _)).mono fun _ _ h => Ob.ext h e9 (Nat.le_refl _)) (Ob.ext (Ob.ext hh e3 (Nat.le_refl _)) e9 (Nat.le_refl _)) hq1 hq2 hq3 (by lia) g2 g3 g4
      have gonew : ∀ S9, Ext S3 S9 → exs (fun s fr S Q => ex T0 (n + 58) s fr S X Q) tl2 (upd (upd fr 13 (.int (c : Int))) 48 (.ref k2)) S9 (seqK (fun s fr S Q => ex T0 (n + 59) s fr S X Q) tl K) := fun S9 e9 =>
        fresh _ S9 (E3.trans e9) a10 a23 rfl ((ho.ext e3 (Nat.le_refl _)).ext e9 (Nat.le_refl _)) ((ha.mono fun _ _ h => Ob.ext h e3 (Nat.le_refl _)).mono fun _ _ h => Ob.ext h e9 (Nat.le_refl _)) (Ob.ext (Ob.ext hh e3 (Nat.le_refl _)) e9 (Nat.le_refl _))
      have hprod : ∀ pp ∈ pl, ∃ qc i, refs0.getD pp.toNat V.none = .ref qc ∧ Ob 2 S3 qc (.inst 2 [(29, .int i), (30, .int (compOf F pp).1), (31, .int (compOf F pp).2), (32, .int 0)]) ∧ prodAt S3 (refs0.getD pp.toNat V.none) = (compOf F pp).1 * (compOf F pp).2 ∧ ((compOf F pp).1 * (compOf F pp).2).natAbs ≤ 100 ∧ (compOf F pp).1.natAbs < 2 ^ 63 := by
        intro pp hpp
        obtain ⟨r1, r2⟩ := hpl pp hpp
        obtain ⟨qc, i, hn, hq, b1, b2, b3, b4⟩ := comp_at (cl := cl) hF f3 r1 r2
        have e9 : refs0.getD pp.toNat V.none = .ref qc := by rw [nth_nat r1] at hn; rw [List.getD_eq_getElem?_getD, hn]; rfl
        have hq3 := hq.ext E3 (Nat.le_refl _)
        refine ⟨qc, i, e9, hq3, ?_, small_mul b1 b2 b3 b4, by lia⟩
        rw [e9]; unfold prodAt; simp only [hq3.2]
      have hl3 : (pl.map fun p => refs0.getD p.toNat V.none).length ≤ LIM := by rw [List.length_map]; unfold LIM; lia
      with_reducible refine x_seqN (x_cons (x_ife (t_bop (s_boTf (t_cmp (s_blt (s_evs1 ?_)))))))
      none_booked
      with_reducible refine s_evs0 ?_
      none_booked
      with_reducible refine s_ch1 (s_con (k_eqI ?_))
      refine i_df (fun c1 => ?_) (fun c1 => ?_)
      · with_reducible refine s_boTf (t_bop (s_boTt (t_cmp (s_blt (s_evs1 ?_)))))
        none_booked
        with_reducible refine s_evs0 ?_
        none_booked
        with_reducible refine s_ch1 (s_con (k_gt ?_))
        refine i_d (fun c2 => ?_) (fun c2 => ?_)
        · with_reducible refine s_boTt (t_cmp (s_blt (s_evs1 (s_comp ?_))))
          none_booked
          refine compK_pure (fun _ => true) (fun v => .int (prodAt S3 v)) (fun S' e => items_list (ho3.ext e (Nat.le_refl _))) hl3 hS3 (fun v hv S4 e4 hs' => ⟨fun K hk => s_bo0 hk, fun _ K hk => ?_⟩) ?_
          · obtain ⟨pp, hpp, rfl⟩ := List.mem_map.mp hv
            obtain ⟨qc, i, q1, q2, q3, q4, q5⟩ := hprod pp hpp
            have q2' := q2.ext e4 (Nat.le_refl _)
            rw [q3] at hk
            rw [q1]
            with_reducible refine s_bin (s_attr ?_)
            none_booked
            none_booked
            with_reducible refine s_attr ?_
            none_booked
            none_booked
            exact o_mul (.inl q5) hk
          · have e5 : ((pl.map fun p => refs0.getD p.toNat V.none).filter fun _ => true).map (fun v => V.int (prodAt S3 v)) = (pl.map fun p => (compOf F p).1 * (compOf F p).2).map V.int := by
              rw [List.filter_eq_self.mpr (fun _ _ => rfl), List.map_map, List.map_map]
              refine List.map_congr_left fun pp hpp => ?_
              obtain ⟨qc, i, q1, q2, q3, q4, q5⟩ := hprod pp hpp
              show V.int (prodAt S3 (refs0.getD pp.toNat V.none)) = _
              rw [q3]; rfl
            rw [e5]
            with_reducible refine s_evs0 ?_
            refine o_sum (b := 0) (ns := pl.map fun p => (compOf F p).1 * (compOf F p).2) (Ob.new (Nat.zero_le _)) (by simp; lia) (intsO_map _) (fun i hi => ?_) ?_
            · obtain ⟨pp, hpp, rfl⟩ := List.mem_map.mp hi
              obtain ⟨qc, i, q1, q2, q3, q4, q5⟩ := hprod pp hpp
              lia
            · with_reducible refine s_ch1 (s_con (k_gt ?_))
              refine i_d (fun c3 => ?_) (fun c3 => ?_)
              · with_reducible refine s_bo0 (i_tf (i_tt ?_))
                exact gonew _ (.push1 _)
              · with_reducible refine i_ff (s_bo0 (i_ft (x_nil (x_seqN ?_))))
                exact goon _ (.push1 _)
        · with_reducible refine i_ff (s_bo0 (i_ft (x_nil (x_seqN ?_))))
          exact goon _ .refl
      · with_reducible refine i_tt ?_
        exact gonew _ .refl
end

section
variable {n : Nat} {S : H} {X : H → Prop} {Q : V → H → Prop} {F : Fm} {R : Row} {f r s : Nat} {rows : List Row}

theorem Keep.refl {b : Nat} : Keep b S S := fun _ _ _ e => e
theorem Keep.trans {b : Nat} {S' S'' : H} (h : Keep b S S') (h' : Keep b S' S'') : Keep b S S'' := fun i o hi e => h' i o hi (h i o hi e)
theorem Keep.push {b : Nat} {o : O} : Keep b S (S ++ [o]) := fun i o' _ e => by rw [List.getElem?_append_left (List.getElem?_eq_some_iff.mp e).1]; exact e
theorem Keep.set {b k : Nat} {o : O} (h : k < b) : Keep b S (S.set k o) := fun i o' hi e => by rw [List.getElem?_set_ne (by lia)]; exact e

inductive DItem (fl : Nat) (S : H) (v : V) : Prop where
  | mk (q p : Nat) (pl : List Int) (a b c d : Int) (hh1 : v = .ref q) (hh2 : Ob 2 S q (.list [.ref p, .int a, .int b, .int c, .int d])) (hh3 : Ob 2 S p (.list (pl.map V.int))) (hh4 : pl.length ≤ 5) (hh5 : q ≠ fl) (hh6 : p ≠ fl)
theorem DItem.ext {fl : Nat} {S' : H} {v : V} (h : DItem fl S v) (e : Ext S S') : DItem fl S' v := by
  obtain ⟨q, p, pl, a, b, c, d, h1, h2, h3, h4, h5, h6⟩ := h
  exact ⟨q, p, pl, a, b, c, d, h1, h2.ext e (Nat.le_refl _), h3.ext e (Nat.le_refl _), h4, h5, h6⟩
theorem DItem.set {fl : Nat} {o : O} {v : V} (h : DItem fl S v) : DItem fl (S.set fl o) v := by
  obtain ⟨q, p, pl, a, b, c, d, h1, h2, h3, h4, h5, h6⟩ := h
  exact ⟨q, p, pl, a, b, c, d, h1, h2.set_ne h5, h3.set_ne h6, h4, h5, h6⟩
inductive Found (fl : Nat) (S : H) (lo hi : Nat) : Prop where
  | mk (vs : List V) (hh1 : Ob 2 S fl (.list vs)) (hh2 : lo ≤ vs.length) (hh3 : vs.length ≤ hi) (h4 : ∀ v ∈ vs, DItem fl S v)
theorem Found.ext {fl lo hi : Nat} {S' : H} (h : Found fl S lo hi) (e : Ext S S') : Found fl S' lo hi := by
  obtain ⟨vs, h1, h2, h3, h4⟩ := h
  exact ⟨vs, h1.ext e (Nat.le_refl _), h2, h3, fun v hv => (h4 v hv).ext e⟩
theorem Found.le {fl lo hi lo' hi' : Nat} (h : Found fl S lo hi) (h1 : lo' ≤ lo) (h2 : hi ≤ hi') : Found fl S lo' hi' := by
  obtain ⟨vs, a1, a2, a3, a4⟩ := h
  exact ⟨vs, a1, by lia, by lia, a4⟩
/-- one more is found: the list at fl, what came between -/
theorem found_app {fl lo hi : Nat} {vs : List V} {S2 : H} {v : V} {P : H → Prop} (h1 : Ob 2 S fl (.list vs)) (h2 : lo ≤ vs.length) (h3 : vs.length ≤ hi) (h4 : ∀ v ∈ vs, DItem fl S v) (e : Ext S S2) (hv : DItem fl S2 v) (hh : hi ≤ 1000)
    (q : ∀ S3, (∀ S0, Ext S0 S2 → S0.length ≤ fl → Ext S0 S3) → (∀ b, fl < b → Keep b S2 S3) → Found fl S3 (lo + 1) (hi + 1) → P S3) : appD fl v S2 P := by
  have h1' := h1.ext e (Nat.le_refl _)
  refine g_app h1' (by unfold LIM; lia) ?_
  refine q _ (fun S0 e0 hl => e0.set hl _) (fun b hb => Keep.set hb) ⟨vs ++ [v], h1'.set_self, by simp; lia, by simp; lia, fun w hw => ?_⟩
  rcases List.mem_append.mp hw with hw | hw
  · exact ((h4 w hw).ext e).set
  · rw [List.mem_singleton] at hw; subst hw; exact hv.set

theorem down_mem {top : Int} (h : top = 0 ∨ top = 1) : (∀ v ∈ rngItems top (-1) (-1), ∃ i, v = V.int i) ∧ 1 ≤ (rngItems top (-1) (-1)).length ∧ (rngItems top (-1) (-1)).length ≤ 2 := by
  refine ⟨fun v hv => ?_, ?_⟩
  · unfold rngItems at hv
    obtain ⟨i, _, rfl⟩ := List.mem_map.mp hv
    exact ⟨_, rfl⟩
  · rw [rngItems_len]
    unfold rngLen
    rw [if_neg (by decide)]
    lia

/-- the bits of one band, from the top down -/
theorem drawn_low {fl lo hi : Nat} {top : Int} {fr : Fr} {body : List St} {K : Option V → Fr → H → Prop} {S0 S1 : H} (always : Bool) (hS : Src S) (e0 : Ext S0 S) (hfl : S0.length ≤ fl) (hk : Keep (fl + 1) S1 S) (htop : top = 0 ∨ top = 1) (e45 : fr 45 = some (.int top)) (hF : Found fl S lo hi) (hh : hi ≤ 900)
    (step : ∀ (fr' : Fr) (S' : H) (i : Int) (lo' hi' : Nat) (KK : Option V → Fr → H → Prop), Ext S0 S' → Keep (fl + 1) S1 S' → (∀ y, y ≠ 9 → fr' y = fr y) → fr' 9 = some (.int i) → Found fl S' lo' hi' → hi' ≤ 950 → (∀ fr'' S'', Ext S0 S'' → Keep (fl + 1) S1 S'' → (∀ y, y ≠ 9 → fr'' y = fr y) → Found fl S'' (if always then lo' + 1 else lo') (hi' + 1) → KK none fr'' S'') → exs (fun s fr S Q => ex T0 n s fr S X Q) body fr' S' KK)
    (q : ∀ fr' S', Ext S0 S' → Keep (fl + 1) S1 S' → (∀ y, y ≠ 9 → fr' y = fr y) → Found fl S' (if always then lo + 1 else lo) (hi + 2) → K none fr' S') :
    forI (bnd1 9) (fun fr S Q => exs (fun s fr S Q => ex T0 n s fr S X Q) body fr S Q) fr K (.rng top (-1) (-1)) S := by
  obtain ⟨m1, m2, m3⟩ := down_mem htop
  refine forI_rng (by lia) (by lia) (.inr rfl) ?_
  generalize hvs : rngItems top (-1) (-1) = vs at *
  refine for_inv (fun l fr' S' => An6 (Ext S0 S') (Keep (fl + 1) S1 S') (∀ y, y ≠ 9 → fr' y = fr y) (l.length ≤ vs.length) (∀ v ∈ l, ∃ i, v = V.int i) (Found fl S' (if always then lo + (vs.length - l.length) else lo) (hi + (vs.length - l.length)))) ?_ ?_ ?_ _ _ _ ⟨e0, hk, fun _ _ => rfl, Nat.le_refl _, m1, by simpa using hF⟩
  · rintro l fr' S' _; rw [← hvs]; exact items_rng (by lia) (by lia) (.inr rfl)
  · rintro fr' S' ⟨e, hk', hfr, _, _, hF'⟩
    refine q _ _ e hk' hfr (hF'.le ?_ ?_)
    · cases always <;> simp <;> lia
    · simp; lia
  · rintro v rr fr' S' ⟨e, hk', hfr, hl, hm, hF'⟩ KK kn ks
    obtain ⟨i, rfl⟩ := hm v List.mem_cons_self
    show exs _ _ (upd fr' 9 (.int i)) _ _
    refine step _ _ i _ _ KK e hk' (fun y hy => ?_) rfl hF' (by simp at hl ⊢; lia) (fun fr'' S'' e'' hk'' hfr'' hF'' => ?_)
    · unfold upd; rw [if_neg hy]; exact hfr y hy
    · refine kn _ _ ⟨e'', hk'', hfr'', by simp at hl; lia, fun v hv => hm v (List.mem_cons_of_mem _ hv), hF''.le ?_ ?_⟩
      · simp at hl; cases always <;> simp <;> lia
      · simp at hl ⊢; lia

noncomputable def itemD (p s1 s2 : E) : E := .list [p, s1, s2, (.ite (.cmp (.var 9) [(.eq, (.var 45))]) (.con (.int 0)) (.bin .add (.var 9) (.con (.int 1)))), (.var 9)]
noncomputable def bodyD1 : List St := [.asg 45 (.call 18 [(.var 44), (.con (.int 2))]), .forv 9 (.blt .range [(.var 45), (.con (.int (-1))), (.con (.int (-1)))]) [.expr (.app (.var 23) (.list [(.var 3), (.con (.int 0)), (.con (.int 0)), (.ite (.cmp (.var 9) [(.eq, (.var 45))]) (.con (.int 0)) (.bin .add (.var 9) (.con (.int 1)))), (.var 9)]))]]

theorem drawn_1 {fl l : Nat} {gs : List (List Int)} {fr : Fr} {K : Option V → Fr → H → Prop} {S0 : H} (hS : Src S0) (e0 : Ext S0 S) (hfl : S0.length ≤ fl) (hg : GroupsN (fl + 1) S l gs) (hF : Found fl S 0 0) (e44 : fr 44 = some (.ref 1)) (e23 : fr 23 = some (.ref fl))
    (q : ∀ fr' S', Ext S0 S' → (∀ y, y ≠ 3 → y ≠ 45 → y ≠ 9 → fr' y = fr y) → Found fl S' 1 12 → K none fr' S') :
    forI (bnd1 3) (fun fr S Q => exs (fun s fr S Q => ex T0 (n + 60) s fr S X Q) bodyD1 fr S Q) fr K (.ref l) S := by
  obtain ⟨⟨h0, h0'⟩, h1, refs, h2, h3⟩ := hg
  have hl := (e0.src hS).len
  have hrl := h3.len
  refine forI_list h2 (by rw [List.length_map, hrl]; unfold LIM; lia) ?_
  refine for_inv (fun l fr' S' => An4 (Ext S0 S') (Keep (fl + 1) S S') (∀ y, y ≠ 3 → y ≠ 45 → y ≠ 9 → fr' y = fr y) (Xn3 fun (d : Nat) (rest : List Nat) (gr : List (List Int)) => An4 (l = rest.map V.ref) (d + rest.length = refs.length) (Each (fun q g => Ob (fl + 1) S q (.list (g.map V.int)) ∧ g.length ≤ 5) rest gr) (Found fl S' d (2 * d)))) ?_ ?_ ?_ _ _ _
    ⟨e0, .refl, fun _ _ _ _ => rfl, 0, refs, gs, rfl, by simp, ?_, hF⟩
  · rintro l' fr' S' ⟨_, hk, _⟩; exact items_list (h2.keep hk)
  · rintro fr' S' ⟨e, hk, hfr, d, rest, gr, hll, hd, ha, hF'⟩
    have : rest = [] := by cases rest with | nil => rfl | cons => cases hll
    subst this
    simp at hd
    exact q _ _ e hfr (hF'.le (by lia) (by lia))
  · rintro v rr fr' S' ⟨e, hk, hfr, d, rest, gr, hll, hd, ha, hF'⟩ KK kn ks
    cases ha with
    | nil => cases hll
    | @cons p g rest gr hp ha =>
      rw [List.map_cons] at hll
      cases hll
      show exs _ _ (upd fr' 3 (.ref p)) _ _
      unfold bodyD1
      have hS' := e.src hS
      have u44 : fr' 44 = some (.ref 1) := by rw [hfr 44 (by decide) (by decide) (by decide)]; exact e44
      have u23 : fr' 23 = some (.ref fl) := by rw [hfr 23 (by decide) (by decide) (by decide)]; exact e23
      simp only [List.length_cons] at hd
      generalize hB : [St.expr (.app (.var 23) (.list [(.var 3), (.con (.int 0)), (.con (.int 0)), (.ite (.cmp (.var 9) [(.eq, (.var 45))]) (.con (.int 0)) (.bin .add (.var 9) (.con (.int 1)))), (.var 9)]))] = body
      with_reducible refine x_cons (x_asg (s_call (s_evs1 ?_)))
      none_booked
      with_reducible refine s_evs1 (s_con (s_evs0 ?_))
      refine c_take hS' (by decide) (by decide) fun top S2 t0 t1 e2 l2 => ?_
      have hS2 := e2.src hS'
      have E2 := e.trans e2
      have K2 : Keep (fl + 1) S S2 := hk.trans (e2.keep (by have := hS.len; lia))
      with_reducible refine x_seqN (x_cons (x_forv (s_blt (s_evs1 ?_))))
      none_booked
      with_reducible refine s_evs1 (s_con (s_evs1 (s_con (s_evs0 ?_))))
      refine o_range3 (by lia) (by decide) ?_
      refine drawn_low (n := n + 59) (body := body) true hS2 E2 hfl K2 (by lia) rfl (hF'.ext e2) (by lia) (fun fr1 S3 i lo' hi' K3 e3 k3 hfr3 h9 hF3 hhi kk => ?_) (fun fr1 S3 e3 k3 hfr3 hF3 => ?_)
      · subst hB
        obtain ⟨vs, v1, v2, v3, v4⟩ := hF3
        have u3 : fr1 3 = some (.ref p) := by rw [hfr3 3 (by decide)]; rfl
        have u45 : fr1 45 = some (.int top) := by rw [hfr3 45 (by decide)]; rfl
        have u23' : fr1 23 = some (.ref fl) := by rw [hfr3 23 (by decide)]; exact u23
        have hS3 := e3.src hS
        have hp3 := hp.1.keep k3
        have fin1 : ∀ h : Int, appD fl (.ref S3.length) (S3 ++ [.list [.ref p, .int 0, .int 0, .int h, .int i]]) fun S4 => K3 none fr1 S4 := fun h =>
          found_app v1 v2 v3 v4 (.push1 _) ⟨S3.length, p, g, 0, 0, h, i, rfl, Ob.new hS3.len, (hp3.push.le (by have := hS.len; lia)), hp.2, by have := v1.lt; lia, by have := hp.1.1; lia⟩ (by lia)
            fun S4 a1 a2 a3 => kk _ _ (a1 S0 (e3.push _) hfl) (k3.trans (Keep.push.trans (a2 _ (by lia)))) hfr3 a3
        with_reducible refine x_cons (x_expr (s_app ?_))
        none_booked
        refine s_appK v1 ?_
        with_reducible refine s_list (s_evs1 ?_)
        none_booked
        with_reducible refine s_evs1 (s_con (s_evs1 (s_con (s_evs1 (s_ite (t_cmp ?_))))))
        none_booked
        with_reducible refine s_ch1 ?_
        none_booked
        with_reducible refine k_eqI ?_
        refine i_d (fun c => ?_) (fun c => ?_)
        · with_reducible refine s_con (s_evs1 ?_)
          none_booked
          with_reducible refine s_evs0 ?_
          none_booked
          exact fin1 0
        · with_reducible refine s_bin ?_
          none_booked
          with_reducible refine s_con (o_add (s_evs1 ?_))
          none_booked
          with_reducible refine s_evs0 ?_
          none_booked
          exact fin1 _
      · with_reducible refine x_seqN (x_nil ?_)
        refine kn _ _ ⟨e3, k3, fun y y1 y2 y3 => ?_, d + 1, rest, gr, rfl, by lia, ha, hF3.le (by simp) (by lia)⟩
        rw [hfr3 y y3]
        show (if y = 45 then _ else if y = 3 then _ else fr' y) = _
        rw [if_neg y2, if_neg y1]; exact hfr y y1 y2 y3
  · clear hrl
    have : ∀ {refs : List Nat} {gs : List (List Int)}, Each (fun q g => Ob (fl + 1) S q (.list (g.map V.int))) refs gs → (∀ g ∈ gs, g.length ≤ 5) → Each (fun q g => Ob (fl + 1) S q (.list (g.map V.int)) ∧ g.length ≤ 5) refs gs := by
      intro refs gs h
      induction h with
      | nil => intro _; exact .nil
      | cons x r ih => intro hg; exact .cons ⟨x, hg _ List.mem_cons_self⟩ (ih fun g hgm => hg g (List.mem_cons_of_mem _ hgm))
    exact this h3 h1

noncomputable def bodyD3 : List St := [.ife (.cmp (.var 6) [(.le, (.var 7))]) [.expr (.app (.var 23) (.list [(.list [(.var 13)]), (.var 6), (.var 7), (.ite (.cmp (.var 9) [(.eq, (.var 45))]) (.con (.int 0)) (.bin .add (.var 9) (.con (.int 1)))), (.var 9)]))] []]

/-- one band of one place -/
theorem drawn_3 {fl lo hi : Nat} {x a b : Int} {fr : Fr} {K : Option V → Fr → H → Prop} {S0 S1 : H} (hS : Src S0) (e0 : Ext S0 S) (hfl : S0.length ≤ fl) (hk : Keep (fl + 1) S1 S) (hF : Found fl S lo hi) (hh : hi ≤ 900) (e44 : fr 44 = some (.ref 1)) (e23 : fr 23 = some (.ref fl)) (e13 : fr 13 = some (.int x)) (e6 : fr 6 = some (.int a)) (e7 : fr 7 = some (.int b))
    (q : ∀ fr' S', Ext S0 S' → Keep (fl + 1) S1 S' → (∀ y, y ≠ 45 → y ≠ 9 → fr' y = fr y) → Found fl S' lo (hi + 2) → K none fr' S') :
    exs (fun s fr S Q => ex T0 (n + 60) s fr S X Q) [.asg 45 (.call 18 [(.var 44), (.con (.int 2))]), .forv 9 (.blt .range [(.var 45), (.con (.int (-1))), (.con (.int (-1)))]) bodyD3] fr S K := by
  generalize hB : bodyD3 = body
  have hS' := e0.src hS
  with_reducible refine x_cons (x_asg (s_call (s_evs1 ?_)))
  none_booked
  with_reducible refine s_evs1 (s_con (s_evs0 ?_))
  refine c_take hS' (by decide) (by decide) fun top S2 t0 t1 e2 l2 => ?_
  have hS2 := e2.src hS'
  have E2 := e0.trans e2
  have K2 : Keep (fl + 1) S1 S2 := hk.trans (e2.keep (by have := hS.len; lia))
  with_reducible refine x_seqN (x_cons (x_forv (s_blt (s_evs1 ?_))))
  none_booked
  with_reducible refine s_evs1 (s_con (s_evs1 (s_con (s_evs0 ?_))))
  refine o_range3 (by lia) (by decide) ?_
  refine drawn_low (n := n + 59) (body := body) false hS2 E2 hfl K2 (by lia) rfl (hF.ext e2) hh (fun fr1 S3 i lo' hi' K3 e3 k3 hfr3 h9 hF3 hhi kk => ?_) (fun fr1 S3 e3 k3 hfr3 hF3 => ?_)
  · subst hB
    unfold bodyD3
    obtain ⟨vs, v1, v2, v3, v4⟩ := id hF3
    have u6 : fr1 6 = some (.int a) := by rw [hfr3 6 (by decide)]; exact e6
    have u7 : fr1 7 = some (.int b) := by rw [hfr3 7 (by decide)]; exact e7
    have u13 : fr1 13 = some (.int x) := by rw [hfr3 13 (by decide)]; exact e13
    have u45 : fr1 45 = some (.int top) := by rw [hfr3 45 (by decide)]; rfl
    have u23' : fr1 23 = some (.ref fl) := by rw [hfr3 23 (by decide)]; exact e23
    have hS3 := e3.src hS
    have fin1 : ∀ h : Int, appD fl (.ref (S3 ++ [O.list [V.int x]]).length) (S3 ++ [.list [.int x]] ++ [.list [.ref S3.length, .int a, .int b, .int h, .int i]]) fun S4 => K3 none fr1 S4 := fun h =>
      found_app v1 v2 v3 v4 ((Ext.push1 _).push _) ⟨_, S3.length, [x], a, b, h, i, rfl, Ob.new (by have := hS3.len; simp <;> lia), (Ob.new hS3.len).push, by simp, by have := v1.lt; simp; lia, by have := v1.lt; lia⟩ (by lia)
        fun S4 a1 a2 a3 => kk _ _ (a1 S0 ((e3.push _).push _) hfl) (k3.trans ((Keep.push.trans Keep.push).trans (a2 _ (by lia)))) hfr3 (a3.le (by simp) (by lia))
    with_reducible refine x_cons (x_ife (t_cmp ?_))
    none_booked
    with_reducible refine s_ch1 ?_
    none_booked
    with_reducible refine k_le ?_
    refine i_d (fun c => ?_) (fun c => ?_)
    · with_reducible refine x_cons (x_expr (s_app ?_))
      none_booked
      refine s_appK v1 ?_
      with_reducible refine s_list (s_evs1 (s_list (s_evs1 ?_)))
      none_booked
      with_reducible refine s_evs0 ?_
      none_booked
      with_reducible refine s_evs1 ?_
      none_booked
      with_reducible refine s_evs1 ?_
      none_booked
      with_reducible refine s_evs1 (s_ite (t_cmp ?_))
      none_booked
      with_reducible refine s_ch1 ?_
      none_booked
      with_reducible refine k_eqI ?_
      refine i_d (fun c => ?_) (fun c => ?_)
      · with_reducible refine s_con (s_evs1 ?_)
        none_booked
        with_reducible refine s_evs0 ?_
        none_booked
        exact fin1 0
      · with_reducible refine s_bin ?_
        none_booked
        with_reducible refine s_con (o_add (s_evs1 ?_))
        none_booked
        with_reducible refine s_evs0 ?_
        none_booked
        exact fin1 _
    · with_reducible refine x_nil (x_seqN (x_nil ?_))
      exact kk _ _ e3 k3 hfr3 (hF3.le (by simp) (by lia))
  · with_reducible refine x_seqN (x_nil ?_)
    refine q _ _ e3 k3 (fun y y1 y2 => ?_) (hF3.le (by simp) (by lia))
    rw [hfr3 y y2]
    show (if y = 45 then _ else fr y) = _
    rw [if_neg y1]
end

section
variable {n : Nat} {S : H} {X : H → Prop} {Q : V → H → Prop} {F : Fm} {R : Row} {f r s : Nat} {rows : List Row}

noncomputable def bodyD2 : List St := [.asg 27 (.bin .add (.con (.int 1)) (.call 18 [(.var 44), (.var 16)])), .forp [6, 7] (.list [(.list [(.con (.int 1)), (.var 27)]), (.list [(.bin .add (.var 27) (.con (.int 1))), (.var 16)])]) [.asg 45 (.call 18 [(.var 44), (.con (.int 2))]), .forv 9 (.blt .range [(.var 45), (.con (.int (-1))), (.con (.int (-1)))]) bodyD3]]

/-- the bands of one place -/
theorem drawn_2 {fl lo hi : Nat} {x : Int} {fr : Fr} {K : Option V → Fr → H → Prop} {S0 : H} (hS : Src S0) (e0 : Ext S0 S) (hfl : S0.length ≤ fl) (hF : Found fl S lo hi) (hh : hi ≤ 800) (e44 : fr 44 = some (.ref 1)) (e23 : fr 23 = some (.ref fl)) (e13 : fr 13 = some (.int x)) (e16 : fr 16 = some (.int (2 * 2 - 1)))
    (q : ∀ fr' S', Ext S0 S' → (∀ y, y ≠ 27 → y ≠ 6 → y ≠ 7 → y ≠ 45 → y ≠ 9 → fr' y = fr y) → Found fl S' lo (hi + 4) → K none fr' S') :
    exs (fun s fr S Q => ex T0 (n + 70) s fr S X Q) bodyD2 fr S K := by
  unfold bodyD2
  have hS' := e0.src hS
  generalize hB : [St.asg 45 (.call 18 [(.var 44), (.con (.int 2))]), .forv 9 (.blt .range [(.var 45), (.con (.int (-1))), (.con (.int (-1)))]) bodyD3] = body
  with_reducible refine x_cons (x_asg (s_bin (s_con (s_call (s_evs1 ?_)))))
  none_booked
  with_reducible refine s_evs1 ?_
  none_booked
  with_reducible refine s_evs0 ?_
  refine c_take hS' (by decide) (by decide) fun d S2 t0 t1 e2 l2 => ?_
  have hS2 := e2.src hS'
  have hF2 := hF.ext e2
  have hl2 := hS2.len
  have hfl2 : fl < S2.length := by obtain ⟨vs, v1, _⟩ := hF2; exact v1.lt
  with_reducible refine o_add (x_seqN (x_cons (x_forp (s_list (s_evs1 (s_list (s_evs1 (s_con (s_evs1 ?_)))))))))
  none_booked
  with_reducible refine s_evs0 ?_
  none_booked
  with_reducible refine s_evs1 (s_list (s_evs1 (s_bin ?_)))
  none_booked
  with_reducible refine s_con (o_add (s_evs1 ?_))
  none_booked
  with_reducible refine s_evs0 ?_
  none_booked
  with_reducible refine s_evs0 ?_
  none_booked
  have o1 : Ob (fl + 1) (S2 ++ [.list [V.int 1, .int (1 + d)]] ++ [.list [V.int (1 + d + 1), .int (2 * 2 - 1)]] ++ [.list [V.ref S2.length, .ref (S2 ++ [O.list [V.int 1, .int (1 + d)]]).length]]) S2.length (.list [V.int 1, .int (1 + d)]) := (Ob.new (by lia)).push.push
  have o2 : Ob (fl + 1) (S2 ++ [.list [V.int 1, .int (1 + d)]] ++ [.list [V.int (1 + d + 1), .int (2 * 2 - 1)]] ++ [.list [V.ref S2.length, .ref (S2 ++ [O.list [V.int 1, .int (1 + d)]]).length]]) (S2 ++ [O.list [V.int 1, .int (1 + d)]]).length (.list [V.int (1 + d + 1), .int (2 * 2 - 1)]) := (Ob.new (by simp <;> lia)).push
  have o3 : Ob (fl + 1) (S2 ++ [.list [V.int 1, .int (1 + d)]] ++ [.list [V.int (1 + d + 1), .int (2 * 2 - 1)]] ++ [.list [V.ref S2.length, .ref (S2 ++ [O.list [V.int 1, .int (1 + d)]]).length]]) (S2 ++ [O.list [V.int 1, .int (1 + d)]] ++ [O.list [V.int (1 + d + 1), .int (2 * 2 - 1)]]).length (.list [V.ref S2.length, .ref (S2 ++ [O.list [V.int 1, .int (1 + d)]]).length]) := Ob.new (by simp <;> lia)
  have e3 : Ext S2 (S2 ++ [.list [V.int 1, .int (1 + d)]] ++ [.list [V.int (1 + d + 1), .int (2 * 2 - 1)]] ++ [.list [V.ref S2.length, .ref (S2 ++ [O.list [V.int 1, .int (1 + d)]]).length]]) := ((Ext.push1 _).push _).push _
  have hF3 := hF2.ext e3
  generalize (S2 ++ [O.list [V.int 1, .int (1 + d)]] ++ [O.list [V.int (1 + d + 1), .int (2 * 2 - 1)]]).length = lk at *
  generalize (S2 ++ [O.list [V.int 1, .int (1 + d)]]).length = l2' at *
  generalize S2 ++ [.list [V.int 1, .int (1 + d)]] ++ [.list [V.int (1 + d + 1), .int (2 * 2 - 1)]] ++ [.list [V.ref S2.length, .ref l2']] = S3 at *
  generalize S2.length = l1' at *
  have E3 := (e0.trans e2).trans e3
  refine forI_list o3 (Nat.le_of_ble_eq_true rfl) ?_
  refine for_inv (fun l fr' S' => An4 (Ext S0 S') (Keep (fl + 1) S3 S') (∀ y, y ≠ 27 → y ≠ 6 → y ≠ 7 → y ≠ 45 → y ≠ 9 → fr' y = fr y) (∃ dn, (dn ++ l = [V.ref l1', .ref l2']) ∧ (Found fl S' lo (hi + 2 * dn.length)))) ?_ ?_ ?_ _ _ _
    ⟨E3, .refl, fun y y1 _ _ _ _ => by show (if y = 27 then _ else fr y) = _; rw [if_neg y1], [], rfl, hF3⟩
  · rintro l' fr' S' ⟨_, hk, _⟩; exact items_list (o3.keep hk)
  · rintro fr' S' ⟨e, hk, hfr, dn, hd, hF'⟩
    rw [List.append_nil] at hd
    subst hd
    with_reducible refine x_seqN (x_nil ?_)
    exact q _ _ e hfr hF'
  · rintro v rr fr' S' ⟨e, hk, hfr, dn, hd, hF'⟩ KK kn ks
    have hv : ∃ (k : Nat) (a b : Int), v = .ref k ∧ Ob (fl + 1) S3 k (.list [.int a, .int b]) := by
      have hm : v ∈ [V.ref l1', V.ref l2'] := by rw [← hd]; simp
      simp only [List.mem_cons, List.not_mem_nil, or_false] at hm
      rcases hm with rfl | rfl
      · exact ⟨_, _, _, rfl, o1⟩
      · exact ⟨_, _, _, rfl, o2⟩
    obtain ⟨k, a, b, rfl, hk0⟩ := hv
    have hdl : dn.length ≤ 1 := by
      have := congrArg List.length hd
      simp at this
      lia
    refine x_bndN (hk0.keep hk) rfl (by decide) ?_
    subst hB
    have u : ∀ y, y ≠ 27 → y ≠ 6 → y ≠ 7 → y ≠ 45 → y ≠ 9 → upds fr' [6, 7] [V.int a, .int b] y = fr y := fun y y1 y2 y3 y4 y5 => by
      show (if y = 7 then _ else if y = 6 then _ else fr' y) = _
      rw [if_neg y3, if_neg y2]; exact hfr y y1 y2 y3 y4 y5
    refine drawn_3 (n := n + 9) (x := x) (a := a) (b := b) hS e hfl hk hF' (by lia) ((u 44 (by decide) (by decide) (by decide) (by decide) (by decide)).trans e44) ((u 23 (by decide) (by decide) (by decide) (by decide) (by decide)).trans e23) ((u 13 (by decide) (by decide) (by decide) (by decide) (by decide)).trans e13) rfl rfl fun fr2 S4 e4 k4 hfr4 hF4 => ?_
    refine kn _ _ ⟨e4, k4, fun y y1 y2 y3 y4 y5 => by rw [hfr4 y y4 y5]; exact u y y1 y2 y3 y4 y5, dn ++ [V.ref k], by rw [← hd]; simp, hF4.le (by lia) (by simp; lia)⟩

inductive RowP (b : Nat) (S : H) (y p : Nat) (R : Row) : Prop where
  | mk (d : _) (a : _) (hh1 : Ob b S y (.list [.ref p, .ref d, .ref a, .int R.st, .int R.en, .int R.hi, .int R.lo])) (hh2 : Ob b S d (.list (R.dc.map V.int))) (hh3 : Ob b S a (.list (R.ac.map V.int)))
theorem RowP.keep {b y p : Nat} {S' : H} (h : RowP b S y p R) (k : Keep b S S') : RowP b S' y p R := by
  obtain ⟨d, a, h1, h2, h3⟩ := h; exact ⟨d, a, h1.keep k, h2.keep k, h3.keep k⟩
theorem RowP.row {b y p : Nat} (h : RowP b S y p R) (hb : 2 ≤ b) (hp : Ob 2 S p (.list (R.pl.map V.int))) : RowAt S y R := by
  obtain ⟨d, a, h1, h2, h3⟩ := h; exact ⟨p, d, a, h1.le hb, hp, h2.le hb, h3.le hb⟩
theorem rep_map (k : Nat) (z : Int) : List.replicate k (V.int z) = (List.replicate k z).map V.int := by simp

/-- one row of what was drawn -/
theorem drawn_row {fl : Nat} {v : V} {fr : Fr} {KK : V → H → Prop} {S9 : H} (hS9 : Src S9) (e : Ext S9 S) (hv : DItem fl S9 v) (hfr : fr 57 = some v)
    (q : ∀ y S3 p R, Ext S S3 → S.length ≤ y → y < S3.length → Ob 2 S9 p (.list (R.pl.map V.int)) → RowP S.length S3 y p R → R.Ws → KK (.ref y) S3) :
    ev T0 (n + 20) (.bin .add (.list [(.idx (.var 57) (.con (.int 0))), (.bin .mul (.list [(.con (.int 0))]) (.blt .len [(.idx (.var 57) (.con (.int 0)))])), (.bin .mul (.list [(.con (.int 0))]) (.blt .len [(.idx (.var 57) (.con (.int 0)))]))]) (.slc (.var 57) (some (.con (.int 1))) none)) fr S F0 KK := by
  obtain ⟨qq, p, pl, a, b, c, d, rfl, h2, h3, h4, _, _⟩ := hv
  have h2' := h2.ext e (Nat.le_refl _)
  have h3' := h3.ext e (Nat.le_refl _)
  have hS := e.src hS9
  have hl := hS.len
  have hll : [V.ref p, .int a, .int b, .int c, .int d].length ≤ LIM := Nat.le_of_ble_eq_true rfl
  have hpl : (pl.map V.int).length ≤ LIM := by rw [List.length_map]; unfold LIM; lia
  have hple : (((pl.map V.int).length : Nat) : Int) = (pl.length : Int) := by rw [List.length_map]
  have n0 : ∀ {W : V → Prop} {S' : H}, Ob 2 S' qq (.list [.ref p, .int a, .int b, .int c, .int d]) → W (.ref p) → getI (.ref qq) (.int 0) S' W := fun ho hW => g_idx ho hll rfl hW
  with_reducible refine s_bin (s_list (s_evs1 (s_idx ?_)))
  none_booked
  with_reducible refine s_con ?_
  refine n0 h2' ?_
  with_reducible refine s_evs1 (s_bin (s_list (s_evs1 (s_con (s_evs0 ?_)))))
  none_booked
  with_reducible refine s_blt (s_evs1 (s_idx ?_))
  none_booked
  with_reducible refine s_con ?_
  refine n0 h2'.push ?_
  with_reducible refine s_evs0 ?_
  none_booked
  rw [hple]
  refine o_mulL (b := 0) (Ob.new (Nat.zero_le _)) (by lia) (by lia) ?_
  with_reducible refine s_evs1 (s_bin (s_list (s_evs1 (s_con (s_evs0 ?_)))))
  none_booked
  with_reducible refine s_blt (s_evs1 (s_idx ?_))
  none_booked
  with_reducible refine s_con ?_
  refine n0 h2'.push.push.push ?_
  with_reducible refine s_evs0 ?_
  none_booked
  rw [hple]
  refine o_mulL (b := 0) (Ob.new (Nat.zero_le _)) (by lia) (by lia) ?_
  rw [rep_map, Int.toNat_natCast]
  with_reducible refine s_evs0 ?_
  none_booked
  with_reducible refine s_slc ?_
  none_booked
  with_reducible refine s_evoS (s_con (s_evoN ?_))
  refine g_slcL h2'.push.push.push.push.push hll (by decide) (by decide) ?_
  refine o_addL (b := 0) (b' := 0) (Ob.push (Ob.new (Nat.zero_le _))) (Ob.new (Nat.zero_le _)) (by simp [LIM]) ?_
  refine q _ _ p ⟨pl, List.replicate pl.length 0, List.replicate pl.length 0, a, b, c, d⟩ (((((((Ext.push1 _).push _).push _).push _).push _).push _).push _) (by simp <;> lia) (by simp) h3 ⟨S.length + 1, S.length + 3, ?_, ?_, ?_⟩ ⟨by simp, by simp, by show pl.length ≤ 100; lia⟩
  · have e1 : (S ++ [O.list [V.int 0]]).length = S.length + 1 := by simp
    have e3 : (S ++ [O.list [V.int 0]] ++ [O.list ((List.replicate pl.length (0 : Int)).map V.int)] ++ [O.list [V.int 0]]).length = S.length + 3 := by simp
    simp only [← e1, ← e3]
    exact Ob.new (by simp <;> lia)
  · have e1 : S.length + 1 = (S ++ [O.list [V.int 0]]).length := by simp
    rw [e1]
    exact (Ob.new (by simp)).push.push.push.push.push
  · have e3 : S.length + 3 = (S ++ [O.list [V.int 0]] ++ [O.list ((List.replicate pl.length (0 : Int)).map V.int)] ++ [O.list [V.int 0]]).length := by simp
    rw [e3]
    exact (Ob.new (by simp <;> lia)).push.push.push

theorem c_drawn (hS : Src S) (hf : FrameAt S f F) (q : ∀ S' l rows, Ext S S' → RowsBt S' l rows → 1 ≤ rows.length → Q (.ref l) S') : callF T0 (n + 80) 23 [.ref 1, .ref f] S X Q := by
  obtain ⟨hF, cl, refs0, f1, f2, f3⟩ := id hf
  have hm := hF.1
  have hrl : refs0.length ≤ LIM := by rw [f3.len]; unfold LIM; lia
  have hl := hS.len
  refine callF_of (show T0.fn 23 = some (p23, b23) from rfl) rfl ?_
  have e1 : Ext S (S ++ [O.list []]) := .push1 _
  have hS1 := hS.push (.list [])
  have ho : Ob 2 (S ++ [O.list []]) S.length (.list []) := Ob.new hl
  have hlen : (S ++ [O.list []]).length = S.length + 1 := by simp
  -- the rows, at the end
  have fin3 : ∀ (fr : Fr) (S' : H), Ext S S' → fr 23 = some (.ref S.length) → Found S.length S' 1 40 → exs (fun s fr S Q => ex T0 (n + 80) s fr S X Q) (b23.drop 3) fr S' (fin Q) := by
    intro fr S' e e23 hF'
    obtain ⟨vs, v1, v2, v3, v4⟩ := hF'
    have hS' := e.src hS
    unfold b23
    simp only [List.drop_succ_cons, List.drop_zero]
    with_reducible refine x_cons (x_ret (s_comp ?_))
    none_booked
    refine compK_fresh (fun S3 v y => ∃ p R, Ob 2 S' p (.list (R.pl.map V.int)) ∧ RowP (S'.length + 1) S3 y p R ∧ R.Ws)
      (fun S' e => items_list (v1.ext e (Nat.le_refl _))) (by unfold LIM; lia) (by rintro A B v y kk ⟨p, R, q1, q2, q3⟩; exact ⟨p, R, q1, q2.keep kk, q3⟩) hS' (fun v hv S2 e2 hs' hk KK kk => ?_) (fun S2 qs e2 ho ha hn hb => ?_)
    · refine drawn_row hS' e2 (v4 v hv) rfl fun y S3 p R e3 a1 a2 a3 a4 a5 => ?_
      exact kk y S3 e3 a1 a2 ⟨p, R, a3, by obtain ⟨d, a, b1, b2, b3⟩ := a4; exact ⟨d, a, b1.le hk, b2.le hk, b3.le hk⟩, a5⟩
    · have hl' := hS'.len
      obtain ⟨rows, r1, r2⟩ : ∃ rows, Each (RowAt S2) qs rows ∧ ∀ R ∈ rows, R.Ws := by
        clear ho hn hb v1 v2 v3 v4
        induction ha with
        | nil => exact ⟨[], .nil, by simp⟩
        | cons x r ih =>
          obtain ⟨rows, h1, h2⟩ := ih
          obtain ⟨p, R, q1, q2, q3⟩ := x
          refine ⟨R :: rows, .cons (q2.row (by lia) (q1.ext e2 (Nat.le_refl _))) h1, fun R' hR => ?_⟩
          rcases List.mem_cons.mp hR with rfl | hR
          · exact q3
          · exact h2 R' hR
      have hlen : rows.length = vs.length := by
        have := r1.len; have := ha.len; lia
      with_reducible refine x_seqS (x_finS ?_)
      exact q _ _ rows (e.trans e2) ⟨by lia, r2, qs, ho, r1⟩ (by lia)
  -- place by place
  have fin2 : ∀ (fr : Fr) (S' : H), Ext S S' → fr 10 = some (.ref f) → fr 44 = some (.ref 1) → fr 16 = some (.int (2 * 2 - 1)) → fr 23 = some (.ref S.length) → Found S.length S' 1 12 → exs (fun s fr S Q => ex T0 (n + 80) s fr S X Q) (b23.drop 2) fr S' (fin Q) := by
    intro fr S' e e10 e44 e16 e23 hF'
    show exs _ [.forv 13 _ bodyD2, _] _ _ _
    show exs _ (.forv 13 _ bodyD2 :: b23.drop 3) _ _ _
    generalize b23.drop 3 = tl at fin3 ⊢
    generalize hB : bodyD2 = body
    have f1' := f1.ext e (Nat.le_refl _)
    have f2' := f2.ext e (Nat.le_refl _)
    with_reducible refine x_cons (x_forv (s_blt (s_evs1 (s_blt (s_evs1 (s_attr ?_))))))
    none_booked
    none_booked
    with_reducible refine s_evs0 ?_
    none_booked
    with_reducible refine s_evs0 ?_
    rw [f3.len]
    refine o_range1 (by lia) ?_
    refine forI_rng (by lia) (by lia) (.inl rfl) ?_
    refine for_inv (fun l fr' S' => An6 (Ext S S') (fr' 10 = some (.ref f)) (fr' 44 = some (.ref 1)) (fr' 16 = some (.int (2 * 2 - 1))) (fr' 23 = some (.ref S.length)) (∃ c : Nat, An3 (c ≤ F.comps.length) (l = rngItems (c : Int) (F.comps.length : Int) 1) (Found S.length S' 1 (12 + 4 * c)))) ?_ ?_ ?_ _ _ _
      ⟨e, e10, e44, e16, e23, 0, by lia, rfl, hF'⟩
    · rintro l fr' S' _; exact items_rng (by lia) (by lia) (.inl rfl)
    · rintro fr' S' ⟨e', _, _, _, a23, c, hc, _, hF''⟩
      refine x_seqN ?_
      exact fin3 _ _ e' a23 (hF''.le (Nat.le_refl _) (by lia))
    · rintro v rr fr' S' ⟨e', a10, a44, a16, a23, c, hc, hl, hF''⟩ K kn ks
      have hcm : c < F.comps.length := by
        rcases Nat.lt_or_ge c F.comps.length with h | h
        · exact h
        · rw [rng_nil (by lia)] at hl; cases hl
      rw [rng_cons (by lia)] at hl
      cases hl
      subst hB
      show exs _ _ (upd fr' 13 (.int (c : Int))) _ _
      refine drawn_2 (n := n + 9) (x := (c : Int)) hS e' (Nat.le_refl _) hF'' (by lia) a44 a23 rfl a16 fun fr2 S2 e2 hfr hF2 => ?_
      have u : ∀ y, y ≠ 13 → y ≠ 27 → y ≠ 6 → y ≠ 7 → y ≠ 45 → y ≠ 9 → fr2 y = fr' y := fun y y0 y1 y2 y3 y4 y5 => by
        rw [hfr y y1 y2 y3 y4 y5]; show (if y = 13 then _ else fr' y) = _; rw [if_neg y0]
      exact kn _ _ ⟨e2, (u 10 (by decide) (by decide) (by decide) (by decide) (by decide) (by decide)).trans a10, (u 44 (by decide) (by decide) (by decide) (by decide) (by decide) (by decide)).trans a44, (u 16 (by decide) (by decide) (by decide) (by decide) (by decide) (by decide)).trans a16, (u 23 (by decide) (by decide) (by decide) (by decide) (by decide) (by decide)).trans a23, c + 1, hcm, by simp, hF2.le (Nat.le_refl _) (by lia)⟩
  show exs _ (_ :: .forv 3 _ bodyD1 :: b23.drop 2) _ _ _
  generalize b23.drop 2 = tl at fin2 ⊢
  generalize hB : bodyD1 = body
  with_reducible refine x_cons (x_asgTup (s_evs1 (s_bin (s_bin (s_attr ?_)))))
  none_booked
  none_booked
  with_reducible refine s_attr ?_
  none_booked
  none_booked
  none_booked
  with_reducible refine s_con (o_sub (s_evs1 (s_list (s_evs0 ?_))))
  none_booked
  with_reducible refine s_evs0 ?_
  none_booked
  with_reducible refine x_seqN (x_cons (x_forv (s_call (s_evs1 ?_))))
  none_booked
  with_reducible refine s_evs0 ?_
  refine c_law_groups hS1 (hf.ext e1) fun S2 l gs e2 hg => ?_
  subst hB
  rw [hlen] at hg
  refine drawn_1 (n := n + 19) hS (e1.trans e2) (Nat.le_refl _) hg ⟨[], ho.ext e2 (Nat.le_refl _), Nat.le_refl _, Nat.le_refl _, by simp⟩ rfl rfl fun fr' S' e' hfr hF' => ?_
  refine x_seqN ?_
  exact fin2 _ _ e' (hfr 10 (by decide) (by decide) (by decide)) (hfr 44 (by decide) (by decide) (by decide)) (hfr 16 (by decide) (by decide) (by decide)) (hfr 23 (by decide) (by decide) (by decide)) hF'
end

section
variable {n : Nat} {S : H} {X : H → Prop} {Q : V → H → Prop} {F : Fm} {R : Row} {f r s : Nat} {rows : List Row}

/-- rows of their own, that may be stored into -/
structure Cp (S : H) (k : Nat) (qs : List Nat) (rows : List Row) : Prop where
  list : Ob 2 S k (.list (qs.map V.ref))
  rws : Each (RowAt S) qs rows
  nd : qs.Nodup
  gt : ∀ q ∈ qs, k < q
  len : rows.length ≤ 900
theorem Cp.ext {S' : H} {k : Nat} {qs : List Nat} (h : Cp S k qs rows) (e : Ext S S') : Cp S' k qs rows :=
  ⟨h.list.ext e (Nat.le_refl _), h.rws.mono fun _ _ h => h.ext e, h.nd, h.gt, h.len⟩
theorem Cp.at {k : Nat} {qs : List Nat} (h : Cp S k qs rows) (hw : ∀ R ∈ rows, R.Wf) : RowsAt S k rows := ⟨by have := h.len; lia, hw, qs, h.list, h.rws⟩
theorem ints_ne {l : List Int} {p q x : Nat} {r : List V} (h : Ob 2 S p (.list (l.map V.int))) (h' : Ob 2 S q (.list (.ref x :: r))) : p ≠ q := by
  rintro rfl
  have := h.inj h'
  injection this with this
  cases l <;> simp at this

theorem RowAt.set_other {q q' : Nat} {o : O} {R' : Row} {x : Nat} {rr : List V} (h : RowAt S q' R') (hq : Ob 2 S q (.list (.ref x :: rr))) (hne : q' ≠ q) : RowAt (S.set q o) q' R' := by
  obtain ⟨p, d, a, h1, h2, h3, h4⟩ := h
  exact ⟨p, d, a, h1.set_ne hne, h2.set_ne (ints_ne h2 hq), h3.set_ne (ints_ne h3 hq), h4.set_ne (ints_ne h4 hq)⟩
theorem a2_other {q : Nat} {o : O} {x : Nat} {rr : List V} (hq : Ob 2 S q (.list (.ref x :: rr))) {qs : List Nat} {rows : List Row} (h : Each (RowAt S) qs rows) (hm : q ∉ qs) : Each (RowAt (S.set q o)) qs rows := by
  induction h with
  | nil => exact .nil
  | cons x r ih => exact .cons (x.set_other hq fun e => hm (e ▸ List.mem_cons_self)) (ih fun h => hm (List.mem_cons_of_mem _ h))
theorem a2_set {q : Nat} {o : O} {R' : Row} {x : Nat} {rr : List V} (hq : Ob 2 S q (.list (.ref x :: rr))) (hnew : RowAt (S.set q o) q R') {qs : List Nat} {rows : List Row} {i : Nat} (h0 : Each (RowAt S) qs rows) (hn : qs.Nodup) (h : qs[i]? = some q) : Each (RowAt (S.set q o)) qs (rows.set i R') := by
  induction h0 generalizing i with
  | nil => cases h
  | cons h1 h2 ih =>
    have hn' := List.nodup_cons.mp hn
    cases i with
    | zero => cases h; exact .cons hnew (a2_other hq h2 hn'.1)
    | succ i => exact .cons (h1.set_other hq (by rintro rfl; exact hn'.1 (List.mem_of_getElem? h))) (ih hn'.2 h)

theorem Cp.row_at {k i : Nat} {qs : List Nat} (h : Cp S k qs rows) (hi : i < rows.length) : ∃ q, qs[i]? = some q ∧ nth (qs.map V.ref) (i : Int) = some (.ref q) ∧ RowAt S q (rows.getD i default) ∧ k < q := by
  have e : rows[i]? = some (rows.getD i default) := by rw [List.getD_eq_getElem?_getD, List.getElem?_eq_getElem hi]; rfl
  obtain ⟨q, hq, hR⟩ := h.rws.getR e
  exact ⟨q, hq, by rw [nth_nat (Int.natCast_nonneg i), List.getElem?_map, Int.toNat_natCast, hq]; rfl, hR, h.gt q (List.mem_of_getElem? hq)⟩

theorem Cp.setRow {k i q : Nat} {qs : List Nat} {R R' : Row} {p d a : Nat} (h : Cp S k qs rows) (hq : qs[i]? = some q) (hR : RowAt S q R) (h1 : Ob 2 S p (.list (R'.pl.map V.int))) (h2 : Ob 2 S d (.list (R'.dc.map V.int))) (h3 : Ob 2 S a (.list (R'.ac.map V.int))) :
    Cp (S.set q (.list [.ref p, .ref d, .ref a, .int R'.st, .int R'.en, .int R'.hi, .int R'.lo])) k qs (rows.set i R') := by
  obtain ⟨p0, d0, a0, g1, g2, g3, g4⟩ := hR
  have hkq := h.gt q (List.mem_of_getElem? hq)
  exact ⟨h.list.set_ne (by lia), a2_set g1 ⟨p, d, a, g1.set_self, h1.set_ne (ints_ne h1 g1), h2.set_ne (ints_ne h2 g1), h3.set_ne (ints_ne h3 g1)⟩ h.rws h.nd hq, h.nd, h.gt, by rw [List.length_set]; exact h.len⟩

theorem ints_of {l : List Int} {d : Nat} {v : V} (h : (l.map V.int)[d]? = some v) : ∃ z, v = .int z := by
  rw [List.getElem?_map] at h
  cases e : l[d]? with
  | none => rw [e] at h; cases h
  | some z => rw [e] at h; cases h; exact ⟨z, rfl⟩

section
variable {S0 : H} {k i : Nat} {qs : List Nat} {fr : Fr} {K : Option V → Fr → H → Prop} {m : Nat}

/-- one number spoilt -/
theorem spoil_A {w : Nat} (hS : Src S0) (e0 : Ext S0 S) (hk : S0.length ≤ k) (hc : Cp S k qs rows) (hw : ∀ R ∈ rows, R.Wf) (hi : i < rows.length) (hw4 : w < 4) (e44 : fr 44 = some (.ref 1)) (e49 : fr 49 = some (.ref k)) (e18 : fr 18 = some (.int (i : Int))) (e50 : fr 50 = some (.int (w : Int)))
    (q : ∀ S' rows', Ext S0 S' → RowsAt S' k rows' → K none fr S') :
    exs (fun s fr S Q => ex T0 (n + 60) s fr S X Q) [.asgIdx (.idx (.var 49) (.var 18)) (.bin .add (.con (.int 3)) (.var 50)) (.bin .add (.idx (.idx (.var 49) (.var 18)) (.bin .add (.con (.int 3)) (.var 50))) (.call 19 [(.var 44), (.ite (.cmp (.var 50) [(.eq, (.con (.int 3)))]) (.list [(.con (.int 1)), (.con (.int (-1))), (.con (.int 2)), (.con (.int 13)), (.con (.int 14))]) (.list [(.con (.int 1)), (.con (.int (-1))), (.con (.int 2))]))]))] fr S K := by
  obtain ⟨qq, hq1, hq2, hR, hkq⟩ := hc.row_at hi
  have hRw := hw (rows.getD i default) (by rw [List.getD_eq_getElem?_getD, List.getElem?_eq_getElem hi]; exact List.getElem_mem _)
  generalize rows.getD i default = R at *
  obtain ⟨p, d, a, g1, g2, g3, g4⟩ := id hR
  have hl := hc.list
  have hll : (qs.map V.ref).length ≤ LIM := by rw [List.length_map, hc.rws.len]; have := hc.len; unfold LIM; lia
  have hS' := e0.src hS
  have hrow : ∃ x : Int, [V.ref p, .ref d, .ref a, .int R.st, .int R.en, .int R.hi, .int R.lo][3 + w]? = some (.int x) ∧ ∀ z : Int, ∃ R' : Row, [V.ref p, .ref d, .ref a, .int R.st, .int R.en, .int R.hi, .int R.lo].set (3 + w) (.int z) = [.ref p, .ref d, .ref a, .int R'.st, .int R'.en, .int R'.hi, .int R'.lo] ∧ R'.pl = R.pl ∧ R'.dc = R.dc ∧ R'.ac = R.ac := by
    match w, hw4 with
    | 0, _ => exact ⟨R.st, rfl, fun z => ⟨{ R with st := z }, rfl, rfl, rfl, rfl⟩⟩
    | 1, _ => exact ⟨R.en, rfl, fun z => ⟨{ R with en := z }, rfl, rfl, rfl, rfl⟩⟩
    | 2, _ => exact ⟨R.hi, rfl, fun z => ⟨{ R with hi := z }, rfl, rfl, rfl, rfl⟩⟩
    | 3, _ => exact ⟨R.lo, rfl, fun z => ⟨{ R with lo := z }, rfl, rfl, rfl, rfl⟩⟩
  obtain ⟨x, hx, hset⟩ := hrow
  have hnw : (3 : Int) + (w : Int) = ((3 + w : Nat) : Int) := by lia
  have next : ∀ (l : Nat) (vs : List Int), Ob 2 S l (.list (vs.map V.int)) → True := fun _ _ _ => trivial
  have tail : ∀ (S2 : H) (l : Nat) (vs : List Int), Ext S S2 → Ob 2 S2 l (.list (vs.map V.int)) → 0 < vs.length → vs.length ≤ 100 → callF T0 (n + 57) 19 [.ref 1, .ref l] S2 X fun vb S3 => binop .add (.int x) vb S3 fun v S1 => ev T0 (n + 59) (.idx (.var 49) (.var 18)) fr S1 X fun vo S2 => ev T0 (n + 59) (.bin .add (.con (.int 3)) (.var 50)) fr S2 X fun vi S3 => setI vo vi v S3 fun S4 => seqK (fun s fr S Q => ex T0 (n + 60) s fr S X Q) [] K none fr S4 := by
    intro S2 l vs e2 hl2 h0 h1
    refine c_one (e2.src hS') hl2 (by rw [List.length_map]; exact h0) (by rw [List.length_map]; exact h1) fun dd v S3 hv e3 _ => ?_
    obtain ⟨z, rfl⟩ := ints_of hv
    have E3 := e2.trans e3
    have hl3 := hl.ext E3 (Nat.le_refl _)
    have g1' := g1.ext E3 (Nat.le_refl _)
    with_reducible refine o_add (s_idx ?_)
    none_booked
    none_booked
    refine g_idx hl3 hll hq2 ?_
    with_reducible refine s_bin (s_con ?_)
    none_booked
    with_reducible refine o_add ?_
    refine g_setI g1' (Nat.le_of_ble_eq_true rfl) (by lia) (by simp; lia) ?_
    rw [hnw, Int.toNat_natCast]
    obtain ⟨R', h2, h3, h4, h5⟩ := hset (x + z)
    rw [h2]
    with_reducible refine x_seqN (x_nil ?_)
    have hc' := (hc.ext E3).setRow (R' := R') hq1 (hR.ext E3) (by rw [h3]; exact g2.ext E3 (Nat.le_refl _)) (by rw [h4]; exact g3.ext E3 (Nat.le_refl _)) (by rw [h5]; exact g4.ext E3 (Nat.le_refl _))
    refine q _ _ ((e0.trans E3).set (by lia) _) (hc'.at fun R'' hR'' => ?_)
    rcases List.mem_or_eq_of_mem_set hR'' with h | rfl
    · exact hw _ h
    · exact ⟨by rw [h3, h4]; exact hRw.1, by rw [h3, h5]; exact hRw.2.1, by rw [h3]; exact hRw.2.2⟩
  with_reducible refine x_cons (x_asgIdx (s_bin (s_idx (s_idx ?_))))
  none_booked
  none_booked
  refine g_idx hl hll hq2 ?_
  with_reducible refine s_bin (s_con ?_)
  none_booked
  with_reducible refine o_add ?_
  refine g_idx g1 (Nat.le_of_ble_eq_true rfl) (v := .int x) (by rw [hnw, nth_nat (Int.natCast_nonneg _), Int.toNat_natCast]; exact hx) ?_
  with_reducible refine s_call (s_evs1 ?_)
  none_booked
  with_reducible refine s_evs1 (s_ite (t_cmp ?_))
  none_booked
  with_reducible refine s_ch1 (s_con (k_eqI ?_))
  refine i_d (fun c => ?_) (fun c => ?_)
  · with_reducible refine s_list (s_evs1 (s_con (s_evs1 (s_con (s_evs1 (s_con (s_evs1 (s_con (s_evs1 (s_con (s_evs0 ?_)))))))))))
    none_booked
    with_reducible refine s_evs0 ?_
    exact tail _ _ [1, -1, 2, 13, 14] (.push1 _) (Ob.new hS'.len) (by decide) (by decide)
  · with_reducible refine s_list (s_evs1 (s_con (s_evs1 (s_con (s_evs1 (s_con (s_evs0 ?_)))))))
    none_booked
    with_reducible refine s_evs0 ?_
    exact tail _ _ [1, -1, 2] (.push1 _) (Ob.new hS'.len) (by decide) (by decide)

/-- one row left out -/
theorem spoil_B (hS : Src S0) (e0 : Ext S0 S) (hc : Cp S k qs rows) (hw : ∀ R ∈ rows, R.Wf) (hi : i < rows.length) (e49 : fr 49 = some (.ref k)) (e18 : fr 18 = some (.int (i : Int)))
    (q : ∀ fr' S' l rows', Ext S0 S' → fr' 49 = some (.ref l) → RowsAt S' l rows' → K none fr' S') :
    exs (fun s fr S Q => ex T0 (n + 60) s fr S X Q) [.asg 49 (.bin .add (.slc (.var 49) none (some (.var 18))) (.slc (.var 49) (some (.bin .add (.var 18) (.con (.int 1)))) none))] fr S K := by
  have hl := hc.list
  have hcl := hc.len
  have hll : (qs.map V.ref).length ≤ LIM := by rw [List.length_map, hc.rws.len]; unfold LIM; lia
  have hS' := e0.src hS
  with_reducible refine x_cons (x_asg (s_bin (s_slc ?_)))
  none_booked
  with_reducible refine s_evoN (s_evoS ?_)
  none_booked
  refine g_slcH hl hll (by lia) (by unfold LIM; lia) ?_
  with_reducible refine s_slc ?_
  none_booked
  with_reducible refine s_evoS (s_bin ?_)
  none_booked
  with_reducible refine s_con (o_add (s_evoN ?_))
  refine g_slcL hl.push hll (by lia) (by unfold LIM; lia) ?_
  refine o_addL (b := 0) (b' := 0) (Ob.push (Ob.new (Nat.zero_le _))) (Ob.new (Nat.zero_le _)) (by simp; have := hc.rws.len; unfold LIM; lia) ?_
  rw [show ((i : Int) + 1).toNat = i + 1 by lia, Int.toNat_natCast, ← List.map_take, ← List.map_drop, ← List.map_append]
  with_reducible refine x_seqN (x_nil ?_)
  have E := ((Ext.push1 (S := S) (.list ((qs.take i).map V.ref))).push (.list ((qs.drop (i + 1)).map V.ref))).push (.list ((qs.take i ++ qs.drop (i + 1)).map V.ref))
  refine q _ _ _ (rows.take i ++ rows.drop (i + 1)) (e0.trans E) rfl ⟨by simp; lia, fun R hR => ?_, qs.take i ++ qs.drop (i + 1), Ob.new (by have := hS'.len; simp <;> lia), ((hc.rws.take i).append (hc.rws.drop (i + 1))).mono fun _ _ h => h.ext E⟩
  rcases List.mem_append.mp hR with h | h
  · exact hw _ (List.mem_of_mem_take h)
  · exact hw _ (List.mem_of_mem_drop h)

/-- one row told twice -/
theorem spoil_C (hS : Src S0) (e0 : Ext S0 S) (hc : Cp S k qs rows) (hw : ∀ R ∈ rows, R.Wf) (hi : i < rows.length) (e49 : fr 49 = some (.ref k)) (e18 : fr 18 = some (.int (i : Int)))
    (q : ∀ fr' S' l rows', Ext S0 S' → fr' 49 = some (.ref l) → RowsAt S' l rows' → K none fr' S') :
    exs (fun s fr S Q => ex T0 (n + 60) s fr S X Q) [.asg 49 (.bin .add (.bin .add (.slc (.var 49) none (some (.var 18))) (.list [(.idx (.var 49) (.var 18))])) (.slc (.var 49) (some (.var 18)) none))] fr S K := by
  obtain ⟨qq, hq1, hq2, hR, hkq⟩ := hc.row_at hi
  have hRm : rows.getD i default ∈ rows := by rw [List.getD_eq_getElem?_getD, List.getElem?_eq_getElem hi]; exact List.getElem_mem _
  generalize rows.getD i default = R at *
  have hl := hc.list
  have hcl := hc.len
  have hql := hc.rws.len
  have hll : (qs.map V.ref).length ≤ LIM := by rw [List.length_map, hc.rws.len]; unfold LIM; lia
  have hS' := e0.src hS
  with_reducible refine x_cons (x_asg (s_bin (s_bin (s_slc ?_))))
  none_booked
  with_reducible refine s_evoN (s_evoS ?_)
  none_booked
  refine g_slcH hl hll (by lia) (by unfold LIM; lia) ?_
  with_reducible refine s_list (s_evs1 (s_idx ?_))
  none_booked
  none_booked
  refine g_idx hl.push hll hq2 ?_
  with_reducible refine s_evs0 ?_
  none_booked
  refine o_addL (b := 0) (b' := 0) (Ob.push (Ob.new (Nat.zero_le _))) (Ob.new (Nat.zero_le _)) (by simp; unfold LIM; lia) ?_
  with_reducible refine s_slc ?_
  none_booked
  with_reducible refine s_evoS ?_
  none_booked
  with_reducible refine s_evoN ?_
  refine g_slcL hl.push.push.push hll (by lia) (by unfold LIM; lia) ?_
  refine o_addL (b := 0) (b' := 0) (Ob.push (Ob.new (Nat.zero_le _))) (Ob.new (Nat.zero_le _)) (by simp; unfold LIM; lia) ?_
  rw [Int.toNat_natCast, ← List.map_take, ← List.map_drop, show (qs.take i).map V.ref ++ [V.ref qq] = (qs.take i ++ [qq]).map V.ref by simp, ← List.map_append]
  with_reducible refine x_seqN (x_nil ?_)
  have E := ((((Ext.push1 (S := S) (.list ((qs.take i).map V.ref))).push (.list [V.ref qq])).push (.list ((qs.take i ++ [qq]).map V.ref))).push (.list ((qs.drop i).map V.ref))).push (.list ((qs.take i ++ [qq] ++ qs.drop i).map V.ref))
  refine q _ _ _ (rows.take i ++ [R] ++ rows.drop i) (e0.trans E) rfl ⟨by simp; lia, fun R' hR' => ?_, qs.take i ++ [qq] ++ qs.drop i, Ob.new (by have := hS'.len; simp <;> lia), (((hc.rws.take i).append (.cons hR .nil)).append (hc.rws.drop i)).mono fun _ _ h => h.ext E⟩
  rcases List.mem_append.mp hR' with h | h
  · rcases List.mem_append.mp h with h | h
    · exact hw _ (List.mem_of_mem_take h)
    · rw [List.mem_singleton] at h; rw [h]; exact hw _ hRm
  · exact hw _ (List.mem_of_mem_drop h)

/-- two rows changed about -/
theorem spoil_D (hS : Src S0) (e0 : Ext S0 S) (hk : S0.length ≤ k) (hc : Cp S k qs rows) (hw : ∀ R ∈ rows, R.Wf) (hi : i < rows.length) (e44 : fr 44 = some (.ref 1)) (e49 : fr 49 = some (.ref k)) (e18 : fr 18 = some (.int (i : Int)))
    (q : ∀ fr' S' l rows', Ext S0 S' → fr' 49 = some (.ref l) → RowsAt S' l rows' → K none fr' S') :
    exs (fun s fr S Q => ex T0 (n + 60) s fr S X Q) [.asg 51 (.call 18 [(.var 44), (.blt .len [(.var 49)])]), .swap (.var 49) (.var 18) (.var 49) (.var 51) (.idx (.var 49) (.var 51)) (.idx (.var 49) (.var 18))] fr S K := by
  have hl := hc.list
  have hcl := hc.len
  have hql := hc.rws.len
  have hll : (qs.map V.ref).length ≤ LIM := by rw [List.length_map, hc.rws.len]; unfold LIM; lia
  have hS' := e0.src hS
  have hlen : (((qs.map V.ref).length : Nat) : Int) = (rows.length : Int) := by rw [List.length_map, hql]
  with_reducible refine x_cons (x_asg (s_call (s_evs1 ?_)))
  none_booked
  with_reducible refine s_evs1 (s_blt (s_evs1 ?_))
  none_booked
  with_reducible refine s_evs0 ?_
  none_booked
  with_reducible refine s_evs0 ?_
  rw [hlen]
  refine c_take hS' (by lia) (by lia) fun o S2 o0 o1 e2 l2 => ?_
  obtain ⟨j, rfl⟩ : ∃ j : Nat, o = (j : Int) := ⟨o.toNat, by lia⟩
  have hj : j < rows.length := by lia
  have hc2 := hc.ext e2
  have hl2 := hc2.list
  obtain ⟨q1, hq1, hn1, hR1, hk1⟩ := hc2.row_at hi
  obtain ⟨q2, hq2, hn2, hR2, hk2⟩ := hc2.row_at hj
  have hRm1 : rows.getD i default ∈ rows := by rw [List.getD_eq_getElem?_getD, List.getElem?_eq_getElem hi]; exact List.getElem_mem _
  have hRm2 : rows.getD j default ∈ rows := by rw [List.getD_eq_getElem?_getD, List.getElem?_eq_getElem hj]; exact List.getElem_mem _
  generalize rows.getD i default = R1 at *
  generalize rows.getD j default = R2 at *
  with_reducible refine x_seqN (x_cons (x_swap (s_idx ?_)))
  none_booked
  none_booked
  refine g_idx hl2 hll hn2 ?_
  with_reducible refine s_idx ?_
  none_booked
  none_booked
  refine g_idx hl2 hll hn1 ?_
  none_booked
  none_booked
  refine g_setI hl2 hll (by lia) (by rw [hlen]; lia) ?_
  rw [Int.toNat_natCast, ← List.map_set]
  have hl3 := hl2.set_self (o' := .list ((qs.set i q2).map V.ref))
  none_booked
  none_booked
  refine g_setI hl3 (by rw [List.length_map, List.length_set]; unfold LIM; lia) (by lia) (by rw [List.length_map, List.length_set]; lia) ?_
  rw [Int.toNat_natCast, ← List.map_set]
  with_reducible refine x_seqN (x_nil ?_)
  have hnk : ∀ {x : Nat}, k < x → x ≠ k := fun h => by lia
  have hkk : ∀ {x : Nat} {xs : List V} {oo : O} {R : Row} {y : Nat}, RowAt S2 y R → k < y → RowAt ((S2.set k (.list ((qs.set i q2).map V.ref))).set k (.list (((qs.set i q2).set j q1).map V.ref))) y R := by
    rintro x xs oo R y ⟨p, d, a, h1, h2, h3, h4⟩ hy
    have ne : ∀ {pp : Nat} {ll : List Int}, Ob 2 S2 pp (.list (ll.map V.int)) → pp ≠ k := by
      intro pp ll hpp
      have hqn : qs ≠ [] := by rintro rfl; simp at hq1
      obtain ⟨q0, qr, hqe⟩ : ∃ q0 qr, qs = q0 :: qr := by cases qs with | nil => exact absurd rfl hqn | cons a b => exact ⟨a, b, rfl⟩
      rw [hqe] at hl2
      exact ints_ne hpp hl2
    exact ⟨p, d, a, (h1.set_ne (hnk hy)).set_ne (hnk hy), (h2.set_ne (ne h2)).set_ne (ne h2), (h3.set_ne (ne h3)).set_ne (ne h3), (h4.set_ne (ne h4)).set_ne (ne h4)⟩
  refine q _ _ k ((rows.set i R2).set j R1) (((e0.trans e2).set hk _).set hk _) e49 ⟨by simp; lia, fun R hR => ?_, (qs.set i q2).set j q1, hl3.set_self, ?_⟩
  · rcases List.mem_or_eq_of_mem_set hR with h | rfl
    · rcases List.mem_or_eq_of_mem_set h with h | rfl
      · exact hw _ h
      · exact hw _ hRm2
    · exact hw _ hRm1
  · have base : Each (RowAt ((S2.set k (.list ((qs.set i q2).map V.ref))).set k (.list (((qs.set i q2).set j q1).map V.ref)))) qs rows := by
      have : ∀ {l : List Nat} {m : List Row}, Each (RowAt S2) l m → (∀ y ∈ l, k < y) → Each (RowAt ((S2.set k (.list ((qs.set i q2).map V.ref))).set k (.list (((qs.set i q2).set j q1).map V.ref)))) l m := by
        intro l m h
        induction h with
        | nil => intro _; exact .nil
        | cons x r ih => intro hm; exact .cons (hkk (x := 0) (xs := []) (oo := .list []) x (hm _ List.mem_cons_self)) (ih fun y hy => hm y (List.mem_cons_of_mem _ hy))
      exact this hc2.rws hc2.gt
    exact (base.set (i := i) (hkk (x := 0) (xs := []) (oo := .list []) hR2 hk2)).set (i := j) (hkk (x := 0) (xs := []) (oo := .list []) hR1 hk1)
end
end

section
variable {n : Nat} {S : H} {X : H → Prop} {Q : V → H → Prop} {F : Fm} {R : Row} {f r s : Nat} {rows : List Row}
section
variable {S0 : H} {k i : Nat} {qs : List Nat} {fr : Fr} {K : Option V → Fr → H → Prop} {m : Nat}

noncomputable def spE1 : St := .asg 3 (.call 19 [(.var 44), (.list [(.list []), (.list [(.con (.int 3))]), (.list [(.con (.int 1)), (.con (.int 0))]), (.list [(.con (.int 0)), (.con (.int 0))]), (.list [(.con (.int 0))]), (.list [(.con (.int 2))]), (.bin .add (.idx (.idx (.var 49) (.var 18)) (.con (.int 0))) (.list [(.con (.int 1))]))])])
noncomputable def spE2 : St := .asgSlc (.idx (.var 49) (.var 18)) none (some (.con (.int 3))) (.list [(.var 3), (.bin .mul (.list [(.con (.int 0))]) (.blt .len [(.var 3)])), (.bin .mul (.list [(.call 19 [(.var 44), (.list [(.con (.int 0)), (.con (.int 1)), (.con (.int 2)), (.con (.int 4)), (.con (.int (-1)))])])]) (.blt .len [(.var 3)]))])

theorem spoil_E2 {p' : Nat} {pl' : List Int} (hS : Src S0) (e0 : Ext S0 S) (hk : S0.length ≤ k) (hc : Cp S k qs rows) (hw : ∀ R ∈ rows, R.Wf) (hi : i < rows.length) (e44 : fr 44 = some (.ref 1)) (e49 : fr 49 = some (.ref k)) (e18 : fr 18 = some (.int (i : Int))) (e3 : fr 3 = some (.ref p')) (hp' : IntsAt S p' pl') (hpl' : pl'.length ≤ 400)
    (q : ∀ S' rows', Ext S0 S' → RowsAt S' k rows' → K none fr S') :
    exs (fun s fr S Q => ex T0 (n + 60) s fr S X Q) [spE2] fr S K := by
  unfold spE2
  obtain ⟨qq, hq1, hq2, hR, hkq⟩ := hc.row_at hi
  generalize rows.getD i default = R at *
  obtain ⟨p, d, a, g1, g2, g3, g4⟩ := id hR
  have hl := hc.list
  have hcl := hc.len
  have hll : (qs.map V.ref).length ≤ LIM := by rw [List.length_map, hc.rws.len]; unfold LIM; lia
  have hS' := e0.src hS
  have hS'l := hS'.len
  unfold IntsAt at hp'
  have hple : (((pl'.map V.int).length : Nat) : Int) = (pl'.length : Int) := by rw [List.length_map]
  have hpll : (pl'.map V.int).length ≤ LIM := by rw [List.length_map]; unfold LIM; lia
  with_reducible refine x_cons (x_asgSlc (s_list (s_evs1 ?_)))
  none_booked
  with_reducible refine s_evs1 (s_bin (s_list (s_evs1 (s_con (s_evs0 ?_)))))
  none_booked
  with_reducible refine s_blt (s_evs1 ?_)
  none_booked
  with_reducible refine s_evs0 ?_
  none_booked
  rw [hple]
  refine o_mulL (b := 0) (Ob.new (Nat.zero_le _)) (by lia) (by lia) ?_
  rw [rep_map, Int.toNat_natCast]
  have oD : Ob 2 (S ++ [O.list [V.int 0]] ++ [.list ((List.replicate pl'.length (0 : Int)).map V.int)]) (S ++ [O.list [V.int 0]]).length (.list ((List.replicate pl'.length (0 : Int)).map V.int)) := Ob.new (by simp <;> lia)
  have e1 : Ext S (S ++ [O.list [V.int 0]] ++ [.list ((List.replicate pl'.length (0 : Int)).map V.int)]) := (Ext.push1 _).push _
  have hS1 := e1.src hS'
  generalize (S ++ [O.list [V.int 0]]).length = ld at *
  generalize S ++ [O.list [V.int 0]] ++ [.list ((List.replicate pl'.length (0 : Int)).map V.int)] = S1 at *
  with_reducible refine s_evs1 (s_bin (s_list (s_evs1 (s_call (s_evs1 ?_)))))
  none_booked
  with_reducible refine s_evs1 (s_list (s_evs1 (s_con (s_evs1 (s_con (s_evs1 (s_con (s_evs1 (s_con (s_evs1 (s_con (s_evs0 ?_))))))))))))
  none_booked
  with_reducible refine s_evs0 ?_
  refine c_one (vs := [0, 1, 2, 4, -1].map V.int) (hS1.push _) (Ob.new hS1.len) (by decide) (by decide) fun dd v S2 hv e2 _ => ?_
  obtain ⟨z, rfl⟩ := ints_of hv
  have E2 := (e1.push _).trans e2
  have hS2 := E2.src hS'
  have oD2 := (oD.push).ext e2 (Nat.le_refl _)
  have hp2 := hp'.ext E2 (Nat.le_refl _)
  with_reducible refine s_evs0 ?_
  none_booked
  with_reducible refine s_blt (s_evs1 ?_)
  none_booked
  with_reducible refine s_evs0 ?_
  none_booked
  rw [hple]
  refine o_mulL (b := 0) (Ob.new (Nat.zero_le _)) (by lia) (by lia) ?_
  rw [rep_map, Int.toNat_natCast]
  have hS2l := hS2.len
  have oA : Ob 2 (S2 ++ [O.list [V.int z]] ++ [.list ((List.replicate pl'.length z).map V.int)]) (S2 ++ [O.list [V.int z]]).length (.list ((List.replicate pl'.length z).map V.int)) := Ob.new (by simp <;> lia)
  have oD3 := oD2.push (o' := O.list [V.int z]) |>.push (o' := .list ((List.replicate pl'.length z).map V.int))
  have hp3 := hp2.push (o' := O.list [V.int z]) |>.push (o' := .list ((List.replicate pl'.length z).map V.int))
  have e3' : Ext S2 (S2 ++ [O.list [V.int z]] ++ [.list ((List.replicate pl'.length z).map V.int)]) := (Ext.push1 _).push _
  generalize (S2 ++ [O.list [V.int z]]).length = la at *
  generalize S2 ++ [O.list [V.int z]] ++ [.list ((List.replicate pl'.length z).map V.int)] = S3 at *
  have E3 := E2.trans e3'
  have hS3 := E3.src hS'
  with_reducible refine s_evs0 ?_
  none_booked
  with_reducible refine s_idx ?_
  none_booked
  none_booked
  have E4 := E3.push (.list [V.ref p', .ref ld, .ref la])
  have hl4 := hl.ext E4 (Nat.le_refl _)
  have g14 := g1.ext E4 (Nat.le_refl _)
  refine g_idx hl4 hll hq2 ?_
  with_reducible refine s_con (x_slcK ?_)
  have hq3 : qq < S3.length := (g1.ext E3 (Nat.le_refl _)).lt
  refine g_setS (b' := 0) g14 (Ob.new (Nat.zero_le _)) (by simp) (by simp) (by decide) (by decide) (by lia) ?_
  with_reducible refine x_seqN (x_nil ?_)
  have hc' := (hc.ext E4).setRow (R' := ⟨pl', List.replicate pl'.length 0, List.replicate pl'.length z, R.st, R.en, R.hi, R.lo⟩) hq1 (hR.ext E4) hp3.push oD3.push oA.push
  refine q _ _ ((e0.trans E4).set (by lia) _) (hc'.at fun R'' hR'' => ?_)
  rcases List.mem_or_eq_of_mem_set hR'' with h | rfl
  · exact hw _ h
  · exact ⟨by simp, by simp, by show pl'.length ≤ 500; lia⟩

theorem spoil_E (hS : Src S0) (e0 : Ext S0 S) (hk : S0.length ≤ k) (hc : Cp S k qs rows) (hw : ∀ R ∈ rows, R.Ws) (hi : i < rows.length) (e44 : fr 44 = some (.ref 1)) (e49 : fr 49 = some (.ref k)) (e18 : fr 18 = some (.int (i : Int)))
    (q : ∀ fr' S' l rows', Ext S0 S' → fr' 49 = some (.ref l) → RowsAt S' l rows' → K none fr' S') :
    exs (fun s fr S Q => ex T0 (n + 60) s fr S X Q) [spE1, spE2] fr S K := by
  obtain ⟨qq, hq1, hq2, hR, hkq⟩ := hc.row_at hi
  have hRw := hw (rows.getD i default) (by rw [List.getD_eq_getElem?_getD, List.getElem?_eq_getElem hi]; exact List.getElem_mem _)
  generalize rows.getD i default = R at *
  obtain ⟨p, d, a, g1, g2, g3, g4⟩ := id hR
  have hl := hc.list
  have hcl := hc.len
  have hll : (qs.map V.ref).length ≤ LIM := by rw [List.length_map, hc.rws.len]; unfold LIM; lia
  have hS' := e0.src hS
  have hS'l := hS'.len
  have hRl := hRw.2.2
  have next : ∀ (S2 : H) (p' : Nat) (pl' : List Int), Ext S S2 → IntsAt S2 p' pl' → pl'.length ≤ 400 → exs (fun s fr S Q => ex T0 (n + 60) s fr S X Q) [spE2] (upd fr 3 (.ref p')) S2 K := fun S2 p' pl' e2 hp hpl =>
    spoil_E2 hS (e0.trans e2) hk (hc.ext e2) (fun R hR => (hw R hR).wf) hi e44 e49 e18 rfl hp hpl fun S' rows' e' hr => q _ _ k rows' e' e49 hr
  unfold spE1
  generalize [spE2] = tl at next ⊢
  with_reducible refine x_cons (x_asg (s_call (s_evs1 ?_)))
  none_booked
  with_reducible refine s_evs1 (s_list (s_evs1 (s_list (s_evs0 ?_))))
  none_booked
  with_reducible refine s_evs1 (s_list (s_evs1 (s_con (s_evs0 ?_))))
  none_booked
  with_reducible refine s_evs1 (s_list (s_evs1 (s_con (s_evs1 (s_con (s_evs0 ?_))))))
  none_booked
  with_reducible refine s_evs1 (s_list (s_evs1 (s_con (s_evs1 (s_con (s_evs0 ?_))))))
  none_booked
  with_reducible refine s_evs1 (s_list (s_evs1 (s_con (s_evs0 ?_))))
  none_booked
  with_reducible refine s_evs1 (s_list (s_evs1 (s_con (s_evs0 ?_))))
  none_booked
  with_reducible refine s_evs1 (s_bin (s_idx (s_idx ?_)))
  none_booked
  none_booked
  have e6 : Ext S (S ++ [.list []] ++ [.list [V.int 3]] ++ [.list [V.int 1, .int 0]] ++ [.list [V.int 0, .int 0]] ++ [.list [V.int 0]] ++ [.list [V.int 2]]) := (((((Ext.push1 _).push _).push _).push _).push _).push _
  have a0 : IntsAt (S ++ [.list []] ++ [.list [V.int 3]] ++ [.list [V.int 1, .int 0]] ++ [.list [V.int 0, .int 0]] ++ [.list [V.int 0]] ++ [.list [V.int 2]]) S.length [] := (Ob.new hS'l).push.push.push.push.push
  have a1 : IntsAt (S ++ [.list []] ++ [.list [V.int 3]] ++ [.list [V.int 1, .int 0]] ++ [.list [V.int 0, .int 0]] ++ [.list [V.int 0]] ++ [.list [V.int 2]]) (S ++ [O.list []]).length [3] := (Ob.new (by simp <;> lia)).push.push.push.push
  have a2 : IntsAt (S ++ [.list []] ++ [.list [V.int 3]] ++ [.list [V.int 1, .int 0]] ++ [.list [V.int 0, .int 0]] ++ [.list [V.int 0]] ++ [.list [V.int 2]]) (S ++ [O.list []] ++ [O.list [V.int 3]]).length [1, 0] := (Ob.new (by simp <;> lia)).push.push.push
  have a3 : IntsAt (S ++ [.list []] ++ [.list [V.int 3]] ++ [.list [V.int 1, .int 0]] ++ [.list [V.int 0, .int 0]] ++ [.list [V.int 0]] ++ [.list [V.int 2]]) (S ++ [O.list []] ++ [O.list [V.int 3]] ++ [O.list [V.int 1, .int 0]]).length [0, 0] := (Ob.new (by simp <;> lia)).push.push
  have a4 : IntsAt (S ++ [.list []] ++ [.list [V.int 3]] ++ [.list [V.int 1, .int 0]] ++ [.list [V.int 0, .int 0]] ++ [.list [V.int 0]] ++ [.list [V.int 2]]) (S ++ [O.list []] ++ [O.list [V.int 3]] ++ [O.list [V.int 1, .int 0]] ++ [O.list [V.int 0, .int 0]]).length [0] := (Ob.new (by simp <;> lia)).push
  have a5 : IntsAt (S ++ [.list []] ++ [.list [V.int 3]] ++ [.list [V.int 1, .int 0]] ++ [.list [V.int 0, .int 0]] ++ [.list [V.int 0]] ++ [.list [V.int 2]]) (S ++ [O.list []] ++ [O.list [V.int 3]] ++ [O.list [V.int 1, .int 0]] ++ [O.list [V.int 0, .int 0]] ++ [O.list [V.int 0]]).length [2] := Ob.new (by simp <;> lia)
  generalize (S ++ [O.list []] ++ [O.list [V.int 3]] ++ [O.list [V.int 1, .int 0]] ++ [O.list [V.int 0, .int 0]] ++ [O.list [V.int 0]]).length = k5 at *
  generalize (S ++ [O.list []] ++ [O.list [V.int 3]] ++ [O.list [V.int 1, .int 0]] ++ [O.list [V.int 0, .int 0]]).length = k4 at *
  generalize (S ++ [O.list []] ++ [O.list [V.int 3]] ++ [O.list [V.int 1, .int 0]]).length = k3 at *
  generalize (S ++ [O.list []] ++ [O.list [V.int 3]]).length = k2 at *
  generalize (S ++ [O.list []]).length = k1 at *
  generalize S ++ [.list []] ++ [.list [V.int 3]] ++ [.list [V.int 1, .int 0]] ++ [.list [V.int 0, .int 0]] ++ [.list [V.int 0]] ++ [.list [V.int 2]] = S6 at *
  have hS6 := e6.src hS'
  have hS6l := hS6.len
  refine g_idx (hl.ext e6 (Nat.le_refl _)) hll hq2 ?_
  with_reducible refine s_con ?_
  refine g_idx (g1.ext e6 (Nat.le_refl _)) (Nat.le_of_ble_eq_true rfl) rfl ?_
  with_reducible refine s_list (s_evs1 (s_con (s_evs0 ?_)))
  none_booked
  refine o_addL (b := 2) (b' := 0) (g2.ext e6 (Nat.le_refl _)).push (Ob.new (Nat.zero_le _)) (by simp; unfold LIM; lia) ?_
  have e9 : R.pl.map V.int ++ [V.int 1] = (R.pl ++ [1]).map V.int := by simp
  rw [e9]
  have a6 : IntsAt (S6 ++ [O.list [V.int 1]] ++ [.list ((R.pl ++ [1]).map V.int)]) (S6 ++ [O.list [V.int 1]]).length (R.pl ++ [1]) := Ob.new (by simp <;> lia)
  have e7 : Ext S6 (S6 ++ [O.list [V.int 1]] ++ [.list ((R.pl ++ [1]).map V.int)]) := (Ext.push1 _).push _
  generalize (S6 ++ [O.list [V.int 1]]).length = k6 at *
  generalize S6 ++ [O.list [V.int 1]] ++ [.list ((R.pl ++ [1]).map V.int)] = S7 at *
  have hS7 := e7.src hS6
  with_reducible refine s_evs0 ?_
  none_booked
  with_reducible refine s_evs0 ?_
  refine c_one (hS7.push _) (Ob.new hS7.len) (by simp) (by simp) fun dd v S8 hv e8 _ => ?_
  have E := ((e6.trans e7).push _).trans e8
  have lift : ∀ {p : Nat} {pl : List Int}, IntsAt S6 p pl → IntsAt S8 p pl := fun h => ((Ob.ext h e7 (Nat.le_refl _)).push).ext e8 (Nat.le_refl _)
  obtain ⟨p', pl', rfl, h1, h2⟩ : ∃ p' pl', v = .ref p' ∧ IntsAt S8 p' pl' ∧ pl'.length ≤ 400 := by
    match dd, hv with
    | 0, h => cases h; exact ⟨_, _, rfl, lift a0, by simp⟩
    | 1, h => cases h; exact ⟨_, _, rfl, lift a1, by simp⟩
    | 2, h => cases h; exact ⟨_, _, rfl, lift a2, by simp⟩
    | 3, h => cases h; exact ⟨_, _, rfl, lift a3, by simp⟩
    | 4, h => cases h; exact ⟨_, _, rfl, lift a4, by simp⟩
    | 5, h => cases h; exact ⟨_, _, rfl, lift a5, by simp⟩
    | 6, h => cases h; exact ⟨_, _, rfl, (Ob.push a6).ext e8 (Nat.le_refl _), by simp; lia⟩
    | dd + 7, h => cases h
  with_reducible refine x_seqN ?_
  exact next S8 p' pl' E h1 h2
end

theorem cp_key {S1 : H} {b : Nat} (hb : 2 ≤ b) (e : Ext S S1) {refs : List Nat} {rows : List Row} (h0 : Each (RowAt S) refs rows) : ∀ {qs : List Nat}, Each (fun v y => ∃ q p d a R, v = V.ref q ∧ RowAt S q R ∧ Ob b S1 y (.list [.ref p, .ref d, .ref a, .int R.st, .int R.en, .int R.hi, .int R.lo]) ∧
    Ob 2 S p (.list (R.pl.map V.int)) ∧ Ob 2 S d (.list (R.dc.map V.int)) ∧ Ob 2 S a (.list (R.ac.map V.int))) (refs.map V.ref) qs → Each (RowAt S1) qs rows := by
  induction h0 with
  | nil => intro qs h; cases h; exact .nil
  | cons x _ ih =>
    intro qs h
    cases h with
    | cons y s =>
      refine .cons ?_ (ih s)
      obtain ⟨q, p, d, a, R, q1, q2, q3, q4, q5, q6⟩ := y
      injection q1 with q1
      subst q1
      rw [x.inj q2]
      exact ⟨p, d, a, q3.le hb, q4.ext e (Nat.le_refl _), q5.ext e (Nat.le_refl _), q6.ext e (Nat.le_refl _)⟩

theorem c_spoilt (hS : Src S) (hr : RowsBt S r rows) (hn : 1 ≤ rows.length) (q : ∀ S' l rows', Ext S S' → RowsAt S' l rows' → Q (.ref l) S') : callF T0 (n + 80) 24 [.ref 1, .ref r] S X Q := by
  obtain ⟨h0, hw, refs, h2, h3⟩ := id hr
  have hl := hS.len
  have hrl : (refs.map V.ref).length ≤ LIM := by rw [List.length_map, h3.len]; unfold LIM; lia
  have hlen : (((refs.map V.ref).length : Nat) : Int) = (rows.length : Int) := by rw [List.length_map, h3.len]
  refine callF_of (show T0.fn 24 = some (p24, b24) from rfl) rfl ?_
  have rest : ∀ (S2 : H) (i : Nat) (qs : List Nat), Ext S S2 → Cp S2 S.length qs rows → i < rows.length → exs (fun s fr S Q => ex T0 (n + 80) s fr S X Q) (b24.drop 1) (upds (bind0 p24 [.ref 1, .ref r]) [49, 18] [.ref S.length, .int (i : Int)]) S2 (fin Q) := by
    intro S2 i qs e2 hc hi
    have hwf : ∀ R ∈ rows, R.Wf := fun R hR => (hw R hR).wf
    have fin1 : ∀ (fr' : Fr) (S' : H) (l : Nat) (rows' : List Row), Ext S S' → fr' 49 = some (.ref l) → RowsAt S' l rows' → exs (fun s fr S Q => ex T0 (n + 80) s fr S X Q) (b24.drop 3) fr' S' (fin Q) := by
      intro fr' S' l rows' e' h49 hr'
      unfold b24
      simp only [List.drop_succ_cons, List.drop_zero]
      with_reducible refine x_cons (x_ret ?_)
      none_booked
      with_reducible refine x_seqS (x_finS ?_)
      exact q _ _ _ e' hr'
    have fin2 : ∀ (fr' : Fr) (S' : H) (l : Nat) (rows' : List Row), Ext S S' → fr' 49 = some (.ref l) → RowsAt S' l rows' → seqK (fun s fr S Q => ex T0 (n + 80) s fr S X Q) (b24.drop 3) (fin Q) none fr' S' := fun fr' S' l rows' e' h49 hr' => x_seqN (fin1 fr' S' l rows' e' h49 hr')
    generalize hfr : upds (bind0 p24 [.ref 1, .ref r]) [49, 18] [.ref S.length, .int (i : Int)] = fr
    have e44 : fr 44 = some (.ref 1) := by rw [← hfr]; rfl
    have e49 : fr 49 = some (.ref S.length) := by rw [← hfr]; rfl
    have e18 : fr 18 = some (.int (i : Int)) := by rw [← hfr]; rfl
    have hS2 := e2.src hS
    show exs _ [_, .ife _ _ [.ife _ _ [.ife _ _ [.ife _ _ [spE1, spE2]]]], _] _ _ _
    show exs _ (_ :: .ife _ _ [.ife _ _ [.ife _ _ [.ife _ _ [spE1, spE2]]]] :: b24.drop 3) _ _ _
    generalize b24.drop 3 = tl at fin2 ⊢
    generalize hE : [spE1, spE2] = tE
    generalize hD : [St.asg 51 (.call 18 [(.var 44), (.blt .len [(.var 49)])]), .swap (.var 49) (.var 18) (.var 49) (.var 51) (.idx (.var 49) (.var 51)) (.idx (.var 49) (.var 18))] = tD
    generalize hC : [St.asg 49 (.bin .add (.bin .add (.slc (.var 49) none (some (.var 18))) (.list [(.idx (.var 49) (.var 18))])) (.slc (.var 49) (some (.var 18)) none))] = tC
    generalize hB : [St.asg 49 (.bin .add (.slc (.var 49) none (some (.var 18))) (.slc (.var 49) (some (.bin .add (.var 18) (.con (.int 1)))) none))] = tB
    generalize hA : [St.asgIdx (.idx (.var 49) (.var 18)) (.bin .add (.con (.int 3)) (.var 50)) (.bin .add (.idx (.idx (.var 49) (.var 18)) (.bin .add (.con (.int 3)) (.var 50))) (.call 19 [(.var 44), (.ite (.cmp (.var 50) [(.eq, (.con (.int 3)))]) (.list [(.con (.int 1)), (.con (.int (-1))), (.con (.int 2)), (.con (.int 13)), (.con (.int 14))]) (.list [(.con (.int 1)), (.con (.int (-1))), (.con (.int 2))]))]))] = tA
    with_reducible refine x_cons (x_asg (s_call (s_evs1 ?_)))
    none_booked
    with_reducible refine s_evs1 (s_con (s_evs0 ?_))
    refine c_take hS2 (by decide) (by decide) fun w S3 w0 w1 e3 l3 => ?_
    obtain ⟨w', rfl⟩ : ∃ w' : Nat, w = (w' : Int) := ⟨w.toNat, by lia⟩
    have E3 := e2.trans e3
    have hc3 := hc.ext e3
    with_reducible refine x_seqN (x_cons (x_ife (t_cmp ?_)))
    none_booked
    with_reducible refine s_ch1 (s_con (k_lt ?_))
    refine i_d (fun c1 => ?_) (fun c1 => ?_)
    · subst hA
      exact spoil_A (n := n + 19) hS E3 (Nat.le_refl _) hc3 hwf hi (by lia) e44 e49 e18 rfl fun S' rows' e' hr' => fin2 _ _ _ rows' e' e49 hr'
    · with_reducible refine x_cons (x_ife (t_cmp ?_))
      none_booked
      with_reducible refine s_ch1 (s_con (k_eqI ?_))
      refine i_d (fun c2 => ?_) (fun c2 => ?_)
      · subst hB
        exact spoil_B (n := n + 18) hS E3 hc3 hwf hi e49 e18 fun fr' S' l rows' e' h49 hr' => x_seqN (x_nil (fin2 _ _ _ rows' e' h49 hr'))
      · with_reducible refine x_cons (x_ife (t_cmp ?_))
        none_booked
        with_reducible refine s_ch1 (s_con (k_eqI ?_))
        refine i_d (fun c3 => ?_) (fun c3 => ?_)
        · subst hC
          exact spoil_C (n := n + 17) hS E3 hc3 hwf hi e49 e18 fun fr' S' l rows' e' h49 hr' => x_seqN (x_nil (x_seqN (x_nil (fin2 _ _ _ rows' e' h49 hr'))))
        · with_reducible refine x_cons (x_ife (t_cmp ?_))
          none_booked
          with_reducible refine s_ch1 (s_con (k_eqI ?_))
          refine i_d (fun c4 => ?_) (fun c4 => ?_)
          · subst hD
            exact spoil_D (n := n + 16) hS E3 (Nat.le_refl _) hc3 hwf hi e44 e49 e18 fun fr' S' l rows' e' h49 hr' => x_seqN (x_nil (x_seqN (x_nil (x_seqN (x_nil (fin2 _ _ _ rows' e' h49 hr'))))))
          · subst hE
            exact spoil_E (n := n + 16) hS E3 (Nat.le_refl _) hc3 hw hi e44 e49 e18 fun fr' S' l rows' e' h49 hr' => x_seqN (x_nil (x_seqN (x_nil (x_seqN (x_nil (fin2 _ _ _ rows' e' h49 hr'))))))
  show exs _ (_ :: b24.drop 1) _ _ _
  generalize b24.drop 1 = tl at rest ⊢
  with_reducible refine x_cons (x_asgTup (s_evs1 (s_comp ?_)))
  none_booked
  refine compK_fresh (fun S3 v y => ∃ q p d a R, v = V.ref q ∧ RowAt S q R ∧ Ob (S.length + 1) S3 y (.list [.ref p, .ref d, .ref a, .int R.st, .int R.en, .int R.hi, .int R.lo]) ∧
      Ob 2 S p (.list (R.pl.map V.int)) ∧ Ob 2 S d (.list (R.dc.map V.int)) ∧ Ob 2 S a (.list (R.ac.map V.int)))
    (fun S' e => items_list (h2.ext e (Nat.le_refl _))) hrl (by rintro A B v y kk ⟨q, p, d, a, R, q1, q2, q3, q4⟩; exact ⟨q, p, d, a, R, q1, q2, q3.keep kk, q4⟩) hS (fun v hv S' e hs' hk KK kk => ?_) (fun S' qs e ho ha hnd hb => ?_)
  · obtain ⟨q, hq, rfl⟩ := List.mem_map.mp hv
    obtain ⟨j, hj⟩ := List.getElem?_of_mem hq
    obtain ⟨R, hR, hqR⟩ := h3.getL hj
    obtain ⟨p, d, a, g1, g2, g3, g4⟩ := id hqR
    have g1' := g1.ext e (Nat.le_refl _)
    with_reducible refine s_blt (s_evs1 ?_)
    none_booked
    with_reducible refine s_evs0 ?_
    refine o_listL g1' (Nat.le_of_ble_eq_true rfl) ?_
    exact kk _ _ (.push1 _) (Nat.le_refl _) (by simp) ⟨q, p, d, a, R, rfl, hqR, Ob.new (by lia), g2, g3, g4⟩
  · have hc : Cp S' S.length qs rows := ⟨ho, cp_key (by lia) e h3 ha, hnd, hb, h0⟩
    have h2' := h2.ext e (Nat.le_refl _)
    with_reducible refine s_evs1 (s_call (s_evs1 ?_))
    none_booked
    with_reducible refine s_evs1 (s_blt (s_evs1 ?_))
    none_booked
    with_reducible refine s_evs0 ?_
    none_booked
    with_reducible refine s_evs0 ?_
    rw [hlen]
    refine c_take (e.src hS) (by lia) (by lia) fun d S2 d0 d1 e2 l2 => ?_
    obtain ⟨i, rfl⟩ : ∃ i : Nat, d = (i : Int) := ⟨d.toNat, by lia⟩
    with_reducible refine s_evs0 ?_
    none_booked
    with_reducible refine x_seqN ?_
    exact rest S2 i qs (e.trans e2) (hc.ext e2) (by lia)
end

section
variable {n : Nat} {S : H} {X : H → Prop} {Q : V → H → Prop} {F : Fm} {R : Row} {f r s : Nat} {rows : List Row} {fr : Fr}

/-- the two readings agree -/
theorem c_same {x : Nat} {B : Bool → H → Prop} (hS : Src S) (hf : FrameAt S f F) (hr : RowsAt S r rows) (e10 : fr 10 = some (.ref f)) (ex : fr x = some (.ref r)) (q : ∀ S', Ext S S' → B false S') :
    tst T0 (n + 140) (.cmp (.call 28 [(.var 10), (.var x)]) [(.ne, (.call 27 [(.var 10), (.var x)]))]) fr S X B := by
  obtain ⟨L1, L2⟩ := law_plain F rows
  with_reducible refine t_cmp (s_call (s_evs1 ?_))
  none_booked
  with_reducible refine s_evs1 ?_
  none_booked
  with_reducible refine s_evs0 ?_
  refine c_answer hS hf hr (fun h S1 e1 => ?_) (fun hne kn hrun b hb S1 e1 => ?_)
  · with_reducible refine s_ch1 (s_call (s_evs1 ?_))
    none_booked
    with_reducible refine s_evs1 ?_
    none_booked
    with_reducible refine s_evs0 ?_
    refine c_judged (e1.src hS) (hf.ext e1) (hr.ext e1) (fun h2 S2 e2 => ?_) (fun hne hv hg b hb S2 e2 => ?_)
    · exact CmpR.ne (.nn (q _ (e1.trans e2)))
    · rcases h with h | h
      · exact absurd h hne
      · exact absurd (L1.mpr ⟨hv, hg⟩) h
  · with_reducible refine s_ch1 (s_call (s_evs1 ?_))
    none_booked
    with_reducible refine s_evs1 ?_
    none_booked
    with_reducible refine s_evs0 ?_
    refine c_judged (e1.src hS) (hf.ext e1) (hr.ext e1) (fun h2 S2 e2 => ?_) (fun _ hv hg b' hb' S2 e2 => ?_)
    · obtain ⟨hv, hg⟩ := L1.mp ⟨kn, hrun⟩
      rcases h2 with h | h | h
      · exact absurd h hne
      · exact absurd hv h
      · exact absurd hg h
    · have hk := L2 kn hrun
      have hbb : b = b' := by
        have : (b = true) ↔ (b' = true) := by
          rw [hb, hb']
          constructor
          · intro h p hp a ha
            rw [← hk p hp a ha]; exact h p hp a ha
          · intro h p hp a ha
            rw [hk p hp a ha]; exact h p hp a ha
        exact Bool.eq_iff_iff.mpr this
      subst hbb
      exact CmpR.ne (.bb (by rw [beq_self_eq_true]; exact q _ (e1.trans e2)))

theorem kind_at (h : FrameAt S f F) : ∃ cl, Ob 2 S f (.inst 3 [(33, .str F.kind), (34, .int 8), (35, .int 3), (36, .int 3), (37, .ref cl), (38, .int 2)]) := by
  obtain ⟨_, cl, refs, h1, _⟩ := h; exact ⟨cl, h1⟩

noncomputable def lawT : List St := [.ife (.cmp (.call 28 [(.var 10), (.var 49)]) [(.ne, (.call 27 [(.var 10), (.var 49)]))]) [.ret (.con (.bool false))] [], .asg 55 (.call 24 [(.var 44), (.var 49)]), .ife (.cmp (.call 28 [(.var 10), (.var 55)]) [(.ne, (.call 27 [(.var 10), (.var 55)]))]) [.ret (.con (.bool false))] []]
noncomputable def lawB : List St := [.ife (.cmp (.attr (.var 10) 33) [(.ne, (.con (.str 2)))]) [.asg 49 (.comp (.call 22 [(.var 11)]) 11 (.call 11 [(.var 10)]) [])] [.ife (.cmp (.call 18 [(.var 44), (.con (.int 2))]) [(.eq, (.con (.int 0)))]) [.asg 49 (.comp (.call 22 [(.var 11)]) 11 (.call 16 [(.var 10)]) [])] [.asg 49 (.call 23 [(.var 44), (.var 10)])]]]

theorem law_tail {K : Option V → Fr → H → Prop} (hS : Src S) (hf : FrameAt S f F) (hr : RowsBt S r rows) (hn : 1 ≤ rows.length) (e10 : fr 10 = some (.ref f)) (e44 : fr 44 = some (.ref 1)) (e49 : fr 49 = some (.ref r))
    (q : ∀ fr' S', K none fr' S') : exs (fun s fr S Q => ex T0 (n + 150) s fr S X Q) lawT fr S K := by
  unfold lawT
  refine x_cons (x_ife ?_)
  refine c_same (n := n + 9) hS hf hr.at e10 e49 fun S1 e1 => ?_
  with_reducible refine i_ft (x_nil (x_seqN (x_cons (x_asg (s_call (s_evs1 ?_))))))
  none_booked
  with_reducible refine s_evs1 ?_
  none_booked
  with_reducible refine s_evs0 ?_
  refine c_spoilt (e1.src hS) (hr.ext e1) hn fun S2 l rows' e2 hr2 => ?_
  refine x_seqN (x_cons (x_ife ?_))
  refine c_same (n := n + 9) (e2.src (e1.src hS)) ((hf.ext e1).ext e2) hr2 (upd_get (fr' := fr) e10 (by decide)) rfl fun S3 e3 => ?_
  with_reducible refine i_ft (x_nil (x_seqN (x_nil ?_)))
  exact q _ _

theorem core_gen (ns : List Int) (hn : ns.length ≤ 63) : exs (fun s fr S Q => ex T0 (n + 160) s fr S X Q) b29 (bind0 p29 [.ref 0]) [.arg (ns.map V.int)] (fin fun v _ => v = .bool true) := by
  have h0 : ([O.arg (ns.map V.int)] : H)[0]? = some (.arg (ns.map V.int)) := rfl
  have h1 : ([O.arg (ns.map V.int)] : H).length = 1 := rfl
  show exs _ [.forv 0 _ (.asg 44 _ :: .asg 10 _ :: (lawB ++ lawT)), _] _ _ _
  generalize hS0 : ([O.arg (ns.map V.int)] : H) = S0 at *
  generalize hB : (St.asg 44 (.call 17 [(.var 40), (.var 0)]) :: .asg 10 (.call 20 [(.var 44), (.call 19 [(.var 44), (.list [(.con (.str 0)), (.con (.str 1)), (.con (.str 2)), (.con (.str 2)), (.con (.str 2))])])]) :: (lawB ++ lawT)) = body
  with_reducible refine x_cons (x_forv (s_blt (s_evs1 (s_con (s_evs0 ?_)))))
  refine o_range1 (by decide) ?_
  refine forI_rng (by decide) (by decide) (.inl rfl) ?_
  refine for_inv (fun l fr S' => l = [] ∨ (l = [V.int 0] ∧ S' = S0 ∧ fr 40 = some (.ref 0))) ?_ ?_ ?_ _ _ _ (.inr ⟨rfl, rfl, rfl⟩)
  · rintro l fr' S' _; exact items_rng (by decide) (by decide) (.inl rfl)
  · rintro fr' S' _
    with_reducible refine x_seqN (x_cons (x_ret (s_con (x_seqS (x_finS ?_)))))
    rfl
  · rintro v rr fr' S' (h | ⟨hl, rfl, a40⟩) K kn ks
    · cases h
    cases hl
    subst hB
    show exs _ _ (upd fr' 0 (.int 0)) _ _
    have fin1 : ∀ (fr' : Fr) (S' : H), K none fr' S' := fun fr' S' => kn _ _ (.inl rfl)
    have next : ∀ (fr : Fr) (S : H) (f r : Nat) (F : Fm) (rows : List Row), Src S → FrameAt S f F → RowsBt S r rows → 1 ≤ rows.length → fr 10 = some (.ref f) → fr 44 = some (.ref 1) → fr 49 = some (.ref r) → exs (fun s fr S Q => ex T0 (n + 159) s fr S X Q) lawT fr S K := fun fr S f r F rows hS hf hr hn e10 e44 e49 =>
      law_tail (n := n + 9) hS hf hr hn e10 e44 e49 fin1
    unfold lawB
    show exs _ (_ :: _ :: _ :: lawT) _ _ _
    generalize lawT = tl at next ⊢
    with_reducible refine x_cons (x_asg (s_call (s_evs1 ?_)))
    none_booked
    with_reducible refine s_evs1 ?_
    none_booked
    with_reducible refine s_evs0 ?_
    refine c_pool (by lia) h0 h1 fun x y => ?_
    have hS1 : Src (S' ++ [O.list [.int x, .int y]]) := ⟨x, y, by rw [← h1]; simp⟩
    generalize S' ++ [O.list [.int x, .int y]] = S1 at *
    with_reducible refine x_seqN (x_cons (x_asg (s_call (s_evs1 ?_))))
    none_booked
    with_reducible refine s_evs1 (s_call (s_evs1 ?_))
    none_booked
    with_reducible refine s_evs1 (s_list (s_evs1 (s_con (s_evs1 (s_con (s_evs1 (s_con (s_evs1 (s_con (s_evs1 (s_con (s_evs0 ?_))))))))))))
    none_booked
    with_reducible refine s_evs0 ?_
    refine c_one (hS1.push _) (Ob.new hS1.len) (by decide) (by decide) fun d v S2 hv e2 _ => ?_
    have hS2 := e2.src (hS1.push _)
    obtain ⟨kd, rfl, hkd⟩ : ∃ kd : Nat, v = .str kd ∧ kd ≤ 2 := by
      match d, hv with
      | 0, h => cases h; exact ⟨0, rfl, by decide⟩
      | 1, h => cases h; exact ⟨1, rfl, by decide⟩
      | 2, h => cases h; exact ⟨2, rfl, by decide⟩
      | 3, h => cases h; exact ⟨2, rfl, by decide⟩
      | 4, h => cases h; exact ⟨2, rfl, by decide⟩
      | d + 5, h => cases h
    with_reducible refine s_evs0 ?_
    refine c_frame hS2 hkd fun S3 f F e3 hf _ _ => ?_
    have hS3 := e3.src hS2
    obtain ⟨cl, hk⟩ := kind_at hf
    with_reducible refine x_seqN (x_cons (x_ife (t_cmp (s_attr ?_))))
    none_booked
    none_booked
    with_reducible refine s_ch1 (s_con (k_neS ?_))
    refine i_d (fun c1 => ?_) (fun c1 => ?_)
    · with_reducible refine x_cons (x_asg (s_comp (s_call (s_evs1 ?_))))
      none_booked
      with_reducible refine s_evs0 ?_
      refine c_seq hS3 hf fun S4 l rows e4 hr r1 r2 => ?_
      refine rows_of_scans (n := n + 126) (e4.src hS3) hr (by lia) fun S5 e5 hr5 => ?_
      with_reducible refine x_seqN (x_nil (x_seqN ?_))
      exact next _ _ f _ F rows (e5.src (e4.src hS3)) ((hf.ext e4).ext e5) hr5 r1 rfl rfl rfl
    · with_reducible refine x_cons (x_ife (t_cmp (s_call (s_evs1 ?_))))
      none_booked
      with_reducible refine s_evs1 (s_con (s_evs0 ?_))
      refine c_take hS3 (by decide) (by decide) fun t S4 t0 t1 e4 _ => ?_
      have hS4 := e4.src hS3
      have hf4 := hf.ext e4
      with_reducible refine s_ch1 (s_con (k_eqI ?_))
      refine i_d (fun c2 => ?_) (fun c2 => ?_)
      · with_reducible refine x_cons (x_asg (s_comp (s_call (s_evs1 ?_))))
        none_booked
        with_reducible refine s_evs0 ?_
        refine c_prog_script hS4 hf4 fun S5 l rows e5 hr r1 r2 => ?_
        refine rows_of_scans (n := n + 125) (e5.src hS4) hr (by lia) fun S6 e6 hr6 => ?_
        with_reducible refine x_seqN (x_nil (x_seqN (x_nil (x_seqN ?_))))
        exact next _ _ f _ F rows (e6.src (e5.src hS4)) ((hf4.ext e5).ext e6) hr6 r1 rfl rfl rfl
      · with_reducible refine x_cons (x_asg (s_call (s_evs1 ?_)))
        none_booked
        with_reducible refine s_evs1 ?_
        none_booked
        with_reducible refine s_evs0 ?_
        refine c_drawn hS4 hf4 fun S5 l rows e5 hr r1 => ?_
        with_reducible refine x_seqN (x_nil (x_seqN (x_nil (x_seqN ?_))))
        exact next _ _ f _ F rows (e5.src hS4) (hf4.ext e5) hr r1 rfl rfl rfl
end

end Mine.L
end

namespace Mine
theorem core (ns : List Int) (hn : ns.length ≤ 63) : exs (fun s fr S Q => ex T0 200 s fr S F0 Q) b29 (bind0 p29 [.ref 0]) [.arg (ns.map V.int)] (fin fun v _ => v = .bool true) := L.core_gen (n := 40) ns hn
end Mine

section
open PySem PySem.W PyProof.Rows
set_option autoImplicit false
set_option linter.unusedVariables false
namespace Mine
/- the names at which the head would lay its twins are taken: it then goes on without them -/
namespace last
theorem tw10036213838678013359 : True := trivial
theorem tw10049540362295309732 : True := trivial
theorem tw10219694654014636008 : True := trivial
theorem tw10381684540274744732 : True := trivial
theorem tw10381726916497216987 : True := trivial
theorem tw10401514254781416909 : True := trivial
theorem tw1055664892465749419 : True := trivial
theorem tw10574922997973916985 : True := trivial
theorem tw10631363545974416819 : True := trivial
theorem tw10679459213224977485 : True := trivial
theorem tw10741919657190164208 : True := trivial
theorem tw10751807176762323504 : True := trivial
theorem tw10754413340386528665 : True := trivial
theorem tw1094190718071270203 : True := trivial
theorem tw11016047005285413347 : True := trivial
theorem tw11023585240391856278 : True := trivial
theorem tw11079588468888394504 : True := trivial
theorem tw11241937290806639182 : True := trivial
theorem tw11331939609495943710 : True := trivial
theorem tw11448564897117047406 : True := trivial
theorem tw1146912000314509272 : True := trivial
theorem tw1149628671665379445 : True := trivial
theorem tw11568521871103137032 : True := trivial
theorem tw11671616901376824277 : True := trivial
theorem tw1171595035623047615 : True := trivial
theorem tw11806632084721962064 : True := trivial
theorem tw11848329299672374059 : True := trivial
theorem tw11868000327946228814 : True := trivial
theorem tw11920498307089448714 : True := trivial
theorem tw119655225840989875 : True := trivial
theorem tw11992556816843477234 : True := trivial
theorem tw11997004402816573699 : True := trivial
theorem tw12011781822702142409 : True := trivial
theorem tw12170417928370797771 : True := trivial
theorem tw1221854003105350822 : True := trivial
theorem tw123529866705478602 : True := trivial
theorem tw12409156610354949715 : True := trivial
theorem tw12486744124794355784 : True := trivial
theorem tw12493977528633311161 : True := trivial
theorem tw12501861227411782469 : True := trivial
theorem tw12576046470331166906 : True := trivial
theorem tw1258650143166799399 : True := trivial
theorem tw12683096919074755643 : True := trivial
theorem tw12686036784734979385 : True := trivial
theorem tw12699587465599043190 : True := trivial
theorem tw12746439749984235164 : True := trivial
theorem tw12746494404408685984 : True := trivial
theorem tw1276607286662316361 : True := trivial
theorem tw12869319488368732684 : True := trivial
theorem tw12897467218873680808 : True := trivial
theorem tw12910951757810001883 : True := trivial
theorem tw129532386007965233 : True := trivial
theorem tw12975012412654239124 : True := trivial
theorem tw13001495363363932641 : True := trivial
theorem tw13082691577653477957 : True := trivial
theorem tw13115084039839839843 : True := trivial
theorem tw13124655565131906877 : True := trivial
theorem tw13133621163018995705 : True := trivial
theorem tw13138307915528667139 : True := trivial
theorem tw13167338657747285182 : True := trivial
theorem tw13198638941560342604 : True := trivial
theorem tw13273996203659798673 : True := trivial
theorem tw13274423731595823077 : True := trivial
theorem tw13278624125249396748 : True := trivial
theorem tw13283179006050219827 : True := trivial
theorem tw13314602455127384239 : True := trivial
theorem tw13330317320642422689 : True := trivial
theorem tw13358561272884701979 : True := trivial
theorem tw13389830087100160626 : True := trivial
theorem tw13457378550176173880 : True := trivial
theorem tw13628066456211596266 : True := trivial
theorem tw13671237579712163722 : True := trivial
theorem tw13684274207376111020 : True := trivial
theorem tw13685251730323808739 : True := trivial
theorem tw13754224540788417761 : True := trivial
theorem tw13825594833652693812 : True := trivial
theorem tw13881272739554696058 : True := trivial
theorem tw13902718323717708578 : True := trivial
theorem tw13950271230492438643 : True := trivial
theorem tw13977215376614091327 : True := trivial
theorem tw13991894941438344629 : True := trivial
theorem tw13997475677814153976 : True := trivial
theorem tw14038428957041900359 : True := trivial
theorem tw14114932320357401624 : True := trivial
theorem tw14235346643120684273 : True := trivial
theorem tw14327751753503991212 : True := trivial
theorem tw14350432469891877763 : True := trivial
theorem tw14387767130258179911 : True := trivial
theorem tw14397327610724063502 : True := trivial
theorem tw14647238879576648493 : True := trivial
theorem tw14666010391074928672 : True := trivial
theorem tw14671105484372105181 : True := trivial
theorem tw14720728527791197199 : True := trivial
theorem tw14745149495922153454 : True := trivial
theorem tw14754281193170142041 : True := trivial
theorem tw14772470482741377309 : True := trivial
theorem tw14790304936980319160 : True := trivial
theorem tw14903080187773928035 : True := trivial
theorem tw1493444377685119254 : True := trivial
theorem tw15064278891599888695 : True := trivial
theorem tw15175467438380419727 : True := trivial
theorem tw15291290184386352572 : True := trivial
theorem tw15364600845916371484 : True := trivial
theorem tw1538418651445523541 : True := trivial
theorem tw154025651734801846 : True := trivial
theorem tw15429658314602171358 : True := trivial
theorem tw15520203649172918759 : True := trivial
theorem tw15525421225283253981 : True := trivial
theorem tw15648212715162435844 : True := trivial
theorem tw15663174843190288308 : True := trivial
theorem tw15685272908095733914 : True := trivial
theorem tw15783381633791083083 : True := trivial
theorem tw15819516720255194342 : True := trivial
theorem tw15862359022250397205 : True := trivial
theorem tw15877036200097864516 : True := trivial
theorem tw15886706560791326134 : True := trivial
theorem tw15890854102939593665 : True := trivial
theorem tw15900117908192359413 : True := trivial
theorem tw15905890222628331748 : True := trivial
theorem tw15934630214671366977 : True := trivial
theorem tw16003534883148804572 : True := trivial
theorem tw16075806352652550793 : True := trivial
theorem tw16133622303516571186 : True := trivial
theorem tw16154746991269529222 : True := trivial
theorem tw16185524462421727957 : True := trivial
theorem tw16237425901860796327 : True := trivial
theorem tw16264023839439705432 : True := trivial
theorem tw16277073790526562624 : True := trivial
theorem tw16418049474194368045 : True := trivial
theorem tw16454679927855208784 : True := trivial
theorem tw1650130374653822322 : True := trivial
theorem tw16529340369173639415 : True := trivial
theorem tw16639841969683853643 : True := trivial
theorem tw16687544082510498606 : True := trivial
theorem tw16743460562289956737 : True := trivial
theorem tw16800505203468938806 : True := trivial
theorem tw16819904596368451949 : True := trivial
theorem tw16849237635202794498 : True := trivial
theorem tw1704064304099463678 : True := trivial
theorem tw17050567147878981150 : True := trivial
theorem tw17151967411120996370 : True := trivial
theorem tw17214151275248838658 : True := trivial
theorem tw17224205245507428619 : True := trivial
theorem tw17497016161025822992 : True := trivial
theorem tw17579061258906159879 : True := trivial
theorem tw17609839957989435337 : True := trivial
theorem tw1763827694657595250 : True := trivial
theorem tw17661896625262201600 : True := trivial
theorem tw17674917032168149794 : True := trivial
theorem tw17791125489795934460 : True := trivial
theorem tw17926344223305783461 : True := trivial
theorem tw17942943925787994185 : True := trivial
theorem tw17946346119179835020 : True := trivial
theorem tw17956314331050296058 : True := trivial
theorem tw1800478001097905562 : True := trivial
theorem tw18012512386790586065 : True := trivial
theorem tw18030279353805403494 : True := trivial
theorem tw18078287044538499519 : True := trivial
theorem tw18090787411957541592 : True := trivial
theorem tw18161985452293122513 : True := trivial
theorem tw18166490263639295988 : True := trivial
theorem tw18226716553410523394 : True := trivial
theorem tw18290656407890446420 : True := trivial
theorem tw18299012551539574976 : True := trivial
theorem tw18328716769714585739 : True := trivial
theorem tw18334461306110397300 : True := trivial
theorem tw18337302238760953989 : True := trivial
theorem tw18348592173061437631 : True := trivial
theorem tw18362963312988859102 : True := trivial
theorem tw18370193591370769767 : True := trivial
theorem tw18385037418416272659 : True := trivial
theorem tw1882732765227575710 : True := trivial
theorem tw1908097669236867164 : True := trivial
theorem tw1941793344125931350 : True := trivial
theorem tw2013088027881054015 : True := trivial
theorem tw2020737122864069119 : True := trivial
theorem tw2043747555595480416 : True := trivial
theorem tw206313297382067807 : True := trivial
theorem tw2086446004497045444 : True := trivial
theorem tw2089135669241388964 : True := trivial
theorem tw2103774424321490351 : True := trivial
theorem tw2105541812228323351 : True := trivial
theorem tw2113994917940119356 : True := trivial
theorem tw2173629279987259319 : True := trivial
theorem tw2174007423228486729 : True := trivial
theorem tw2234623834923141959 : True := trivial
theorem tw2264956095410887565 : True := trivial
theorem tw2278069659366037579 : True := trivial
theorem tw2279313109605640804 : True := trivial
theorem tw23081407857645265 : True := trivial
theorem tw2372717984251985466 : True := trivial
theorem tw2456660570177793374 : True := trivial
theorem tw2474785312684022258 : True := trivial
theorem tw2539279505023792067 : True := trivial
theorem tw2602124744087476535 : True := trivial
theorem tw2612893520911702818 : True := trivial
theorem tw2660410859677599824 : True := trivial
theorem tw2723262342485916564 : True := trivial
theorem tw274655733642614518 : True := trivial
theorem tw2747632623502637511 : True := trivial
theorem tw2889039737277059153 : True := trivial
theorem tw2890338422019863821 : True := trivial
theorem tw2929555312059897258 : True := trivial
theorem tw2963379206402279142 : True := trivial
theorem tw2985196953531678098 : True := trivial
theorem tw3042889155176876963 : True := trivial
theorem tw3064907047442757173 : True := trivial
theorem tw3138440427983220244 : True := trivial
theorem tw321738671351910166 : True := trivial
theorem tw3235924454613261937 : True := trivial
theorem tw3256312409693975858 : True := trivial
theorem tw3259919350160413785 : True := trivial
theorem tw3277290926766449867 : True := trivial
theorem tw3283927832560789276 : True := trivial
theorem tw3349247449064307259 : True := trivial
theorem tw3352669473419221136 : True := trivial
theorem tw3463078086654843916 : True := trivial
theorem tw3503884929322110752 : True := trivial
theorem tw3521009579746811052 : True := trivial
theorem tw3554037869766791536 : True := trivial
theorem tw370293420446227454 : True := trivial
theorem tw3720134573816871118 : True := trivial
theorem tw3753943079142717374 : True := trivial
theorem tw3772493106079137092 : True := trivial
theorem tw3773210507669116690 : True := trivial
theorem tw3808804766173103043 : True := trivial
theorem tw3815279006275133776 : True := trivial
theorem tw3871171978296572514 : True := trivial
theorem tw3872729858753437498 : True := trivial
theorem tw3884075511692762798 : True := trivial
theorem tw3916912713185794125 : True := trivial
theorem tw392186800250761748 : True := trivial
theorem tw3997622859499941364 : True := trivial
theorem tw4055019915741820758 : True := trivial
theorem tw4065699261675191273 : True := trivial
theorem tw4110757173016981740 : True := trivial
theorem tw4154228887804261706 : True := trivial
theorem tw4212335981835010375 : True := trivial
theorem tw4465826498776508137 : True := trivial
theorem tw4527067458724910360 : True := trivial
theorem tw4548345346061211060 : True := trivial
theorem tw4549596831892082843 : True := trivial
theorem tw4613450751106642607 : True := trivial
theorem tw4622600468371530409 : True := trivial
theorem tw4652519663422326897 : True := trivial
theorem tw4665830234813674808 : True := trivial
theorem tw4690956147349219228 : True := trivial
theorem tw4759644671100168903 : True := trivial
theorem tw4774500528466893431 : True := trivial
theorem tw4775648110534309297 : True := trivial
theorem tw482859786049882620 : True := trivial
theorem tw486004223734884499 : True := trivial
theorem tw4869265307303199373 : True := trivial
theorem tw4907898213526839045 : True := trivial
theorem tw491323296267545999 : True := trivial
theorem tw5072056822036667239 : True := trivial
theorem tw5278308409006462188 : True := trivial
theorem tw529581954452839862 : True := trivial
theorem tw5320093344848087305 : True := trivial
theorem tw5330949872560148403 : True := trivial
theorem tw5343091459263445054 : True := trivial
theorem tw5385451667261043230 : True := trivial
theorem tw5425384072488922368 : True := trivial
theorem tw5463557292697768615 : True := trivial
theorem tw551272377417084603 : True := trivial
theorem tw5530406944238510936 : True := trivial
theorem tw5609331490697025445 : True := trivial
theorem tw5619856447070439919 : True := trivial
theorem tw5694477398853684277 : True := trivial
theorem tw5725287709756559197 : True := trivial
theorem tw5742568100287426185 : True := trivial
theorem tw5792159174645313698 : True := trivial
theorem tw5839496084847975207 : True := trivial
theorem tw5894918470425236405 : True := trivial
theorem tw5917051676816739237 : True := trivial
theorem tw6067582666065259601 : True := trivial
theorem tw6186873291214041151 : True := trivial
theorem tw6319112426497779958 : True := trivial
theorem tw6323626918163941346 : True := trivial
theorem tw6357366562327059801 : True := trivial
theorem tw638584677652134651 : True := trivial
theorem tw6402651683661631325 : True := trivial
theorem tw6444475600280693636 : True := trivial
theorem tw6452743999872295612 : True := trivial
theorem tw6504399552610319573 : True := trivial
theorem tw6510343413975923470 : True := trivial
theorem tw6516329073118172554 : True := trivial
theorem tw6560393007594934781 : True := trivial
theorem tw6606145872285594687 : True := trivial
theorem tw6611619501981288541 : True := trivial
theorem tw6663614290117239359 : True := trivial
theorem tw6715594467305019285 : True := trivial
theorem tw6831306113955643827 : True := trivial
theorem tw6906892187455378461 : True := trivial
theorem tw6936808017305970416 : True := trivial
theorem tw7004745991758839774 : True := trivial
theorem tw7024787569581916493 : True := trivial
theorem tw7032429484091546097 : True := trivial
theorem tw7102502908492211588 : True := trivial
theorem tw71087638378440292 : True := trivial
theorem tw7109867662074539341 : True := trivial
theorem tw7122741073828761301 : True := trivial
theorem tw716270746284104931 : True := trivial
theorem tw7218617756393847017 : True := trivial
theorem tw7435024820341785728 : True := trivial
theorem tw7455406432348229132 : True := trivial
theorem tw7495479113714852103 : True := trivial
theorem tw7608848404174853502 : True := trivial
theorem tw7646824199852514207 : True := trivial
theorem tw7672566583100824233 : True := trivial
theorem tw7673447033451211930 : True := trivial
theorem tw7674500570193836077 : True := trivial
theorem tw768460133952231279 : True := trivial
theorem tw7721277722394976020 : True := trivial
theorem tw7777975497085344633 : True := trivial
theorem tw7865008820425669374 : True := trivial
theorem tw7900609887659747780 : True := trivial
theorem tw7949868770774071567 : True := trivial
theorem tw8020923024066813184 : True := trivial
theorem tw8037677939499180106 : True := trivial
theorem tw806186546232654810 : True := trivial
theorem tw8100242246156594897 : True := trivial
theorem tw8127559196540165225 : True := trivial
theorem tw8177592493227731309 : True := trivial
theorem tw8179643291916979421 : True := trivial
theorem tw8182877724362358176 : True := trivial
theorem tw8236545094436185799 : True := trivial
theorem tw8323716734498068969 : True := trivial
theorem tw8341209100969983845 : True := trivial
theorem tw8342638533283432093 : True := trivial
theorem tw8383290030278189531 : True := trivial
theorem tw842163824783303836 : True := trivial
theorem tw849341968575242291 : True := trivial
theorem tw8522344688205165568 : True := trivial
theorem tw8544852301096862424 : True := trivial
theorem tw8589991491463250614 : True := trivial
theorem tw8610530730688597427 : True := trivial
theorem tw8614159640702707346 : True := trivial
theorem tw8672619157009590386 : True := trivial
theorem tw8688304572452216645 : True := trivial
theorem tw8743816605715451828 : True := trivial
theorem tw8755088110534145453 : True := trivial
theorem tw8770569147817646468 : True := trivial
theorem tw8780857599125482397 : True := trivial
theorem tw8798571102145259460 : True := trivial
theorem tw881293745290852171 : True := trivial
theorem tw8824193592687915223 : True := trivial
theorem tw8848700977156393181 : True := trivial
theorem tw8942752187487623502 : True := trivial
theorem tw901965994326303587 : True := trivial
theorem tw9113940065345582952 : True := trivial
theorem tw9150935819152602319 : True := trivial
theorem tw9156975365580523416 : True := trivial
theorem tw9189684353907403674 : True := trivial
theorem tw9268643954350310968 : True := trivial
theorem tw929920880295355776 : True := trivial
theorem tw933177536629796587 : True := trivial
theorem tw9382506655349747434 : True := trivial
theorem tw9428140006093398364 : True := trivial
theorem tw9514933490143626576 : True := trivial
theorem tw952037712343499867 : True := trivial
theorem tw9527770350571094675 : True := trivial
theorem tw9564576162993386496 : True := trivial
theorem tw9576433690032333941 : True := trivial
theorem tw9736257930838599554 : True := trivial
theorem tw9755285730956315117 : True := trivial
theorem tw9812708036469290079 : True := trivial
theorem tw9836451579784247346 : True := trivial
theorem tw9846957020989748425 : True := trivial
theorem tw9929307243222482580 : True := trivial
end last
set_option Elab.async true in
set_option maxRecDepth 100000 in
set_option maxHeartbeats 8000000 in
theorem last : PySem.Challenge.rw_nt0566_01.Holds := by
  w_on; o_law; k_head; (case hw => w_witness2)
  w_strict k_go0
  refine wpAny_mono (Mine.glue (n := 200) ?hf ‹_› ⟨_, _, _, _, topRead_of ‹Top _ _ _ _ _ _›⟩ ‹Heap.IsList _ _ _› ‹IntsAre _ _› ‹PyProof.Rows.Fr _ _ _ _› (by kernel_rfl) rfl (by kernel_rfl) (by kernel_rfl) (by decide) (Mine.core _ (by omega))) (fun a s' h => ?_) (fun e s' h => h.elim)
  case hf =>
    generalize PySem.World.params _ = P
    exact {
      gcs := by
        intro k x h
        match k, h with
        | 0, h => cases h; exact ⟨4, _, by rfl, rfl⟩
        | 1, h => cases h; exact ⟨10, _, by rfl, rfl⟩
        | 2, h => cases h; exact ⟨13, _, by rfl, rfl⟩
        | 3, h => cases h; exact ⟨15, _, by rfl, rfl⟩
        | 4, h => cases h; exact ⟨(-1), _, by rfl, rfl⟩
        | 5, h => cases h; exact ⟨5, _, by rfl, rfl⟩
        | k + 6, h => cases h
      blts := Mine.blt_all (by kernel_rfl)
      ck := by
        refine Mine.lt_cases 3 (Mine.lt_cases 2 (Mine.lt_cases 1 (Mine.lt_cases 0 (fun k h => absurd h (Nat.not_lt_zero k)) ?_) ?_) ?_) ?_
        all_goals exact Mine.clsChk_spec (by kernel_rfl) (by kernel_rfl)
      fns := by
        intro k x h
        match k, h with
        | 0, h => cases h; exact ⟨p0, b0, 94, rfl, by kernel_rfl, (fnOk_mk (h1 := rfl) (h2 := by kernel_rfl) (h3 := by kernel_rfl) (h4 := (lenS fun a0 => len1 fun b => by kernel_rfl)) (h5 := rfl) (h6 := rfl) (h7 := rfl) (h8 := by kernel_rfl) (h9 := by kernel_rfl) (h10 := by kernel_rfl) (h11 := by kernel_rfl))⟩
        | 1, h => cases h; exact ⟨p1, b1, 101, rfl, by kernel_rfl, (fnOk_mk (h1 := rfl) (h2 := by kernel_rfl) (h3 := by kernel_rfl) (h4 := (lenS fun a0 => len1 fun b => by kernel_rfl)) (h5 := rfl) (h6 := rfl) (h7 := rfl) (h8 := by kernel_rfl) (h9 := by kernel_rfl) (h10 := by kernel_rfl) (h11 := by kernel_rfl))⟩
        | 2, h => cases h; exact ⟨p2, b2, 108, rfl, by kernel_rfl, (fnOk_mk (h1 := rfl) (h2 := by kernel_rfl) (h3 := by kernel_rfl) (h4 := (lenS fun a0 => len1 fun b => by kernel_rfl)) (h5 := rfl) (h6 := rfl) (h7 := rfl) (h8 := by kernel_rfl) (h9 := by kernel_rfl) (h10 := by kernel_rfl) (h11 := by kernel_rfl))⟩
        | 3, h => cases h; exact ⟨p3, b3, 115, rfl, by kernel_rfl, (fnOk_mk (h1 := rfl) (h2 := by kernel_rfl) (h3 := by kernel_rfl) (h4 := (lenS fun a0 => len1 fun b => by kernel_rfl)) (h5 := rfl) (h6 := rfl) (h7 := rfl) (h8 := by kernel_rfl) (h9 := by kernel_rfl) (h10 := by kernel_rfl) (h11 := by kernel_rfl))⟩
        | 4, h => cases h; exact ⟨p4, b4, 122, rfl, by kernel_rfl, (fnOk_mk (h1 := rfl) (h2 := by kernel_rfl) (h3 := by kernel_rfl) (h4 := (lenS fun a0 => len1 fun b => by kernel_rfl)) (h5 := rfl) (h6 := rfl) (h7 := rfl) (h8 := by kernel_rfl) (h9 := by kernel_rfl) (h10 := by kernel_rfl) (h11 := by kernel_rfl))⟩
        | 5, h => cases h; exact ⟨p5, b5, 162, rfl, by kernel_rfl, (fnOk_mk (h1 := rfl) (h2 := by kernel_rfl) (h3 := by kernel_rfl) (h4 := (lenS fun a0 => len1 fun b => by kernel_rfl)) (h5 := rfl) (h6 := rfl) (h7 := rfl) (h8 := by kernel_rfl) (h9 := by kernel_rfl) (h10 := by kernel_rfl) (h11 := by kernel_rfl))⟩
        | 6, h => cases h; exact ⟨p6, b6, 169, rfl, by kernel_rfl, (fnOk_mk (h1 := rfl) (h2 := by kernel_rfl) (h3 := by kernel_rfl) (h4 := (lenS fun a0 => len1 fun b => by kernel_rfl)) (h5 := rfl) (h6 := rfl) (h7 := rfl) (h8 := by kernel_rfl) (h9 := by kernel_rfl) (h10 := by kernel_rfl) (h11 := by kernel_rfl))⟩
        | 7, h => cases h; exact ⟨p7, b7, 176, rfl, by kernel_rfl, (fnOk_mk (h1 := rfl) (h2 := by kernel_rfl) (h3 := by kernel_rfl) (h4 := (lenS fun a0 => len1 fun b => by kernel_rfl)) (h5 := rfl) (h6 := rfl) (h7 := rfl) (h8 := by kernel_rfl) (h9 := by kernel_rfl) (h10 := by kernel_rfl) (h11 := by kernel_rfl))⟩
        | 8, h => cases h; exact ⟨p8, b8, 183, rfl, by kernel_rfl, (fnOk_mk (h1 := rfl) (h2 := by kernel_rfl) (h3 := by kernel_rfl) (h4 := (len1 fun b => by kernel_rfl)) (h5 := rfl) (h6 := rfl) (h7 := rfl) (h8 := by kernel_rfl) (h9 := by kernel_rfl) (h10 := by kernel_rfl) (h11 := by kernel_rfl))⟩
        | 9, h => cases h; exact ⟨p9, b9, 188, rfl, by kernel_rfl, (fnOk_mk (h1 := rfl) (h2 := by kernel_rfl) (h3 := by kernel_rfl) (h4 := (lenS fun a0 => lenS fun a1 => lenS fun a2 => lenS fun a3 => len1 fun b => by kernel_rfl)) (h5 := rfl) (h6 := rfl) (h7 := rfl) (h8 := by kernel_rfl) (h9 := by kernel_rfl) (h10 := by kernel_rfl) (h11 := by kernel_rfl))⟩
        | 10, h => cases h; exact ⟨p10, b10, 195, rfl, by kernel_rfl, (fnOk_mk (h1 := rfl) (h2 := by kernel_rfl) (h3 := by kernel_rfl) (h4 := (len1 fun b => by kernel_rfl)) (h5 := rfl) (h6 := rfl) (h7 := rfl) (h8 := by kernel_rfl) (h9 := by kernel_rfl) (h10 := by kernel_rfl) (h11 := by kernel_rfl))⟩
        | 11, h => cases h; exact ⟨p11, b11, 200, rfl, by kernel_rfl, (fnOk_mk (h1 := rfl) (h2 := by kernel_rfl) (h3 := by kernel_rfl) (h4 := (len1 fun b => by kernel_rfl)) (h5 := rfl) (h6 := rfl) (h7 := rfl) (h8 := by kernel_rfl) (h9 := by kernel_rfl) (h10 := by kernel_rfl) (h11 := by kernel_rfl))⟩
        | 12, h => cases h; exact ⟨p12, b12, 205, rfl, by kernel_rfl, (fnOk_mk (h1 := rfl) (h2 := by kernel_rfl) (h3 := by kernel_rfl) (h4 := (lenS fun a0 => lenS fun a1 => len1 fun b => by kernel_rfl)) (h5 := rfl) (h6 := rfl) (h7 := rfl) (h8 := by kernel_rfl) (h9 := by kernel_rfl) (h10 := by kernel_rfl) (h11 := by kernel_rfl))⟩
        | 13, h => cases h; exact ⟨p13, b13, 210, rfl, by kernel_rfl, (fnOk_mk (h1 := rfl) (h2 := by kernel_rfl) (h3 := by kernel_rfl) (h4 := (lenS fun a0 => lenS fun a1 => lenS fun a2 => lenS fun a3 => len1 fun b => by kernel_rfl)) (h5 := rfl) (h6 := rfl) (h7 := rfl) (h8 := by kernel_rfl) (h9 := by kernel_rfl) (h10 := by kernel_rfl) (h11 := by kernel_rfl))⟩
        | 14, h => cases h; exact ⟨p14, b14, 217, rfl, by kernel_rfl, (fnOk_mk (h1 := rfl) (h2 := by kernel_rfl) (h3 := by kernel_rfl) (h4 := (len1 fun b => by kernel_rfl)) (h5 := rfl) (h6 := rfl) (h7 := rfl) (h8 := by kernel_rfl) (h9 := by kernel_rfl) (h10 := by kernel_rfl) (h11 := by kernel_rfl))⟩
        | 15, h => cases h; exact ⟨p15, b15, 224, rfl, by kernel_rfl, (fnOk_mk (h1 := rfl) (h2 := by kernel_rfl) (h3 := by kernel_rfl) (h4 := (len1 fun b => by kernel_rfl)) (h5 := rfl) (h6 := rfl) (h7 := rfl) (h8 := by kernel_rfl) (h9 := by kernel_rfl) (h10 := by kernel_rfl) (h11 := by kernel_rfl))⟩
        | 16, h => cases h; exact ⟨p16, b16, 231, rfl, by kernel_rfl, (fnOk_mk (h1 := rfl) (h2 := by kernel_rfl) (h3 := by kernel_rfl) (h4 := (len1 fun b => by kernel_rfl)) (h5 := rfl) (h6 := rfl) (h7 := rfl) (h8 := by kernel_rfl) (h9 := by kernel_rfl) (h10 := by kernel_rfl) (h11 := by kernel_rfl))⟩
        | 17, h => cases h; exact ⟨p17, b17, 332, rfl, by kernel_rfl, (fnOk_mk (h1 := rfl) (h2 := by kernel_rfl) (h3 := by kernel_rfl) (h4 := (lenS fun a0 => len1 fun b => by kernel_rfl)) (h5 := rfl) (h6 := rfl) (h7 := rfl) (h8 := by kernel_rfl) (h9 := by kernel_rfl) (h10 := by kernel_rfl) (h11 := by kernel_rfl))⟩
        | 18, h => cases h; exact ⟨p18, b18, 339, rfl, by kernel_rfl, (fnOk_mk (h1 := rfl) (h2 := by kernel_rfl) (h3 := by kernel_rfl) (h4 := (lenS fun a0 => len1 fun b => by kernel_rfl)) (h5 := rfl) (h6 := rfl) (h7 := rfl) (h8 := by kernel_rfl) (h9 := by kernel_rfl) (h10 := by kernel_rfl) (h11 := by kernel_rfl))⟩
        | 19, h => cases h; exact ⟨p19, b19, 346, rfl, by kernel_rfl, (fnOk_mk (h1 := rfl) (h2 := by kernel_rfl) (h3 := by kernel_rfl) (h4 := (lenS fun a0 => len1 fun b => by kernel_rfl)) (h5 := rfl) (h6 := rfl) (h7 := rfl) (h8 := by kernel_rfl) (h9 := by kernel_rfl) (h10 := by kernel_rfl) (h11 := by kernel_rfl))⟩
        | 20, h => cases h; exact ⟨p20, b20, 351, rfl, by kernel_rfl, (fnOk_mk (h1 := rfl) (h2 := by kernel_rfl) (h3 := by kernel_rfl) (h4 := (lenS fun a0 => len1 fun b => by kernel_rfl)) (h5 := rfl) (h6 := rfl) (h7 := rfl) (h8 := by kernel_rfl) (h9 := by kernel_rfl) (h10 := by kernel_rfl) (h11 := by kernel_rfl))⟩
        | 21, h => cases h; exact ⟨p21, b21, 356, rfl, by kernel_rfl, (fnOk_mk (h1 := rfl) (h2 := by kernel_rfl) (h3 := by kernel_rfl) (h4 := (len1 fun b => by kernel_rfl)) (h5 := rfl) (h6 := rfl) (h7 := rfl) (h8 := by kernel_rfl) (h9 := by kernel_rfl) (h10 := by kernel_rfl) (h11 := by kernel_rfl))⟩
        | 22, h => cases h; exact ⟨p22, b22, 363, rfl, by kernel_rfl, (fnOk_mk (h1 := rfl) (h2 := by kernel_rfl) (h3 := by kernel_rfl) (h4 := (len1 fun b => by kernel_rfl)) (h5 := rfl) (h6 := rfl) (h7 := rfl) (h8 := by kernel_rfl) (h9 := by kernel_rfl) (h10 := by kernel_rfl) (h11 := by kernel_rfl))⟩
        | 23, h => cases h; exact ⟨p23, b23, 368, rfl, by kernel_rfl, (fnOk_mk (h1 := rfl) (h2 := by kernel_rfl) (h3 := by kernel_rfl) (h4 := (lenS fun a0 => len1 fun b => by kernel_rfl)) (h5 := rfl) (h6 := rfl) (h7 := rfl) (h8 := by kernel_rfl) (h9 := by kernel_rfl) (h10 := by kernel_rfl) (h11 := by kernel_rfl))⟩
        | 24, h => cases h; exact ⟨p24, b24, 373, rfl, by kernel_rfl, (fnOk_mk (h1 := rfl) (h2 := by kernel_rfl) (h3 := by kernel_rfl) (h4 := (lenS fun a0 => len1 fun b => by kernel_rfl)) (h5 := rfl) (h6 := rfl) (h7 := rfl) (h8 := by kernel_rfl) (h9 := by kernel_rfl) (h10 := by kernel_rfl) (h11 := by kernel_rfl))⟩
        | 25, h => cases h; exact ⟨p25, b25, 378, rfl, by kernel_rfl, (fnOk_mk (h1 := rfl) (h2 := by kernel_rfl) (h3 := by kernel_rfl) (h4 := (lenS fun a0 => len1 fun b => by kernel_rfl)) (h5 := rfl) (h6 := rfl) (h7 := rfl) (h8 := by kernel_rfl) (h9 := by kernel_rfl) (h10 := by kernel_rfl) (h11 := by kernel_rfl))⟩
        | 26, h => cases h; exact ⟨p26, b26, 383, rfl, by kernel_rfl, (fnOk_mk (h1 := rfl) (h2 := by kernel_rfl) (h3 := by kernel_rfl) (h4 := (lenS fun a0 => lenS fun a1 => len1 fun b => by kernel_rfl)) (h5 := rfl) (h6 := rfl) (h7 := rfl) (h8 := by kernel_rfl) (h9 := by kernel_rfl) (h10 := by kernel_rfl) (h11 := by kernel_rfl))⟩
        | 27, h => cases h; exact ⟨p27, b27, 388, rfl, by kernel_rfl, (fnOk_mk (h1 := rfl) (h2 := by kernel_rfl) (h3 := by kernel_rfl) (h4 := (lenS fun a0 => len1 fun b => by kernel_rfl)) (h5 := rfl) (h6 := rfl) (h7 := rfl) (h8 := by kernel_rfl) (h9 := by kernel_rfl) (h10 := by kernel_rfl) (h11 := by kernel_rfl))⟩
        | 28, h => cases h; exact ⟨p28, b28, 393, rfl, by kernel_rfl, (fnOk_mk (h1 := rfl) (h2 := by kernel_rfl) (h3 := by kernel_rfl) (h4 := (lenS fun a0 => len1 fun b => by kernel_rfl)) (h5 := rfl) (h6 := rfl) (h7 := rfl) (h8 := by kernel_rfl) (h9 := by kernel_rfl) (h10 := by kernel_rfl) (h11 := by kernel_rfl))⟩
        | 29, h => cases h; exact ⟨p29, b29, 398, rfl, by kernel_rfl, (fnOk_mk (h1 := rfl) (h2 := by kernel_rfl) (h3 := by kernel_rfl) (h4 := (len1 fun b => by kernel_rfl)) (h5 := rfl) (h6 := rfl) (h7 := rfl) (h8 := by kernel_rfl) (h9 := by kernel_rfl) (h10 := by kernel_rfl) (h11 := by kernel_rfl))⟩
        | k + 30, h => cases h
      newc := by
        intro k x h
        match k, h with
        | 0, h => cases h; exact ⟨by kernel_rfl, by kernel_rfl⟩
        | 1, h => cases h; exact ⟨by kernel_rfl, by kernel_rfl⟩
        | 2, h => cases h; exact ⟨by kernel_rfl, by kernel_rfl⟩
        | 3, h => cases h; exact ⟨by kernel_rfl, by kernel_rfl⟩
        | k + 4, h => cases h
      init := by
        refine Mine.lt_cases 3 (Mine.lt_cases 2 (Mine.lt_cases 1 (Mine.lt_cases 0 (fun k h => absurd h (Nat.not_lt_zero k)) ?_) ?_) ?_) ?_
        · exact ⟨p30, b30, 67, rfl, by kernel_rfl, (fnOk_mk (h1 := rfl) (h2 := by kernel_rfl) (h3 := by kernel_rfl) (h4 := (lenS fun a0 => lenS fun a1 => lenS fun a2 => lenS fun a3 => lenS fun a4 => lenS fun a5 => lenS fun a6 => len1 fun b => by kernel_rfl)) (h5 := rfl) (h6 := rfl) (h7 := rfl) (h8 := by kernel_rfl) (h9 := by kernel_rfl) (h10 := by kernel_rfl) (h11 := by kernel_rfl))⟩
        · exact ⟨p32, b32, 134, rfl, by kernel_rfl, (fnOk_mk (h1 := rfl) (h2 := by kernel_rfl) (h3 := by kernel_rfl) (h4 := (lenS fun a0 => len1 fun b => by kernel_rfl)) (h5 := rfl) (h6 := rfl) (h7 := rfl) (h8 := by kernel_rfl) (h9 := by kernel_rfl) (h10 := by kernel_rfl) (h11 := by kernel_rfl))⟩
        · exact ⟨p35, b35, 252, rfl, by kernel_rfl, (fnOk_mk (h1 := rfl) (h2 := by kernel_rfl) (h3 := by kernel_rfl) (h4 := (lenS fun a0 => lenS fun a1 => lenS fun a2 => lenS fun a3 => len1 fun b => by kernel_rfl)) (h5 := rfl) (h6 := rfl) (h7 := rfl) (h8 := by kernel_rfl) (h9 := by kernel_rfl) (h10 := by kernel_rfl) (h11 := by kernel_rfl))⟩
        · exact ⟨p36, b36, 273, rfl, by kernel_rfl, (fnOk_mk (h1 := rfl) (h2 := by kernel_rfl) (h3 := by kernel_rfl) (h4 := (lenS fun a0 => lenS fun a1 => lenS fun a2 => lenS fun a3 => lenS fun a4 => lenS fun a5 => len1 fun b => by kernel_rfl)) (h5 := rfl) (h6 := rfl) (h7 := rfl) (h8 := by kernel_rfl) (h9 := by kernel_rfl) (h10 := by kernel_rfl) (h11 := by kernel_rfl))⟩
      mths := by
        intro c m f x h hx
        match c, m, h with
        | 0, 0, h => cases h; cases hx; exact ⟨p31, b31, 74, rfl, by kernel_rfl, (fnOk_mk (h1 := rfl) (h2 := by kernel_rfl) (h3 := by kernel_rfl) (h4 := (len1 fun b => by kernel_rfl)) (h5 := rfl) (h6 := rfl) (h7 := rfl) (h8 := by kernel_rfl) (h9 := by kernel_rfl) (h10 := by kernel_rfl) (h11 := by kernel_rfl))⟩
        | 1, 1, h => cases h; cases hx; exact ⟨p33, b33, 141, rfl, by kernel_rfl, (fnOk_mk (h1 := rfl) (h2 := by kernel_rfl) (h3 := by kernel_rfl) (h4 := (lenS fun a0 => lenS fun a1 => len1 fun b => by kernel_rfl)) (h5 := rfl) (h6 := rfl) (h7 := rfl) (h8 := by kernel_rfl) (h9 := by kernel_rfl) (h10 := by kernel_rfl) (h11 := by kernel_rfl))⟩
        | 1, 2, h => cases h; cases hx; exact ⟨p34, b34, 148, rfl, by kernel_rfl, (fnOk_mk (h1 := rfl) (h2 := by kernel_rfl) (h3 := by kernel_rfl) (h4 := (lenS fun a0 => len1 fun b => by kernel_rfl)) (h5 := rfl) (h6 := rfl) (h7 := rfl) (h8 := by kernel_rfl) (h9 := by kernel_rfl) (h10 := by kernel_rfl) (h11 := by kernel_rfl))⟩
        | 0, m + 1, h => cases m <;> cases h
        | 1, 0, h => cases h
        | 1, m + 3, h => cases h
        | c + 2, m, h => cases h
      prg := ⟨89, _, _, _, _, _, by rfl, by rfl⟩
      exc := {
        obj := ⟨_, _, _, 38, _, _, _, _, _, _, _, _, _, _, _, rfl⟩
        fn := ⟨35, _, _, _, _, _, _, _, _, _, _, _, _, _, _, _, _, _, _, _, _, _, _, _, _, by kernel_rfl, by kernel_rfl, rfl, by kernel_rfl, (fun a b => by kernel_rfl), rfl, rfl, rfl, by decide, rfl, rfl, rfl, rfl⟩
        ini := by kernel_rfl
        st := by kernel_rfl
        ms := by kernel_rfl
        gl := by kernel_rfl
        gx := by kernel_rfl
        kp := by kernel_rfl }
      nol := by kernel_rfl }
  obtain ⟨rfl, hk, hg, ho⟩ := h
  refine ⟨.inl ⟨.bool true, .bool true, [], rfl, fun _ => rfl, .bool true, (by wrow_post), fun _ => ⟨.nil, fun _ h => by cases h⟩⟩, hk, ho, ?_⟩
  rw [hg]; assumption
end Mine
end

theorem PySem.Challenge.cw_nt0566_01_holds : PySem.Challenge.rw_nt0566_01.Holds :=
  Mine.last
