import PyProof.Rows.All
import Wide.All
import OpenK.AllK
import Wide.FinOn
import PySem.Challenge.RW_no0187_01
set_option maxRecDepth 10000
set_option linter.unusedVariables false
set_option linter.unusedSimpArgs false
set_option linter.defProp false
namespace C187
open PySem

/-- abstract values: tuples are values, mutable things are locations -/
inductive V where
  | none
  | bool (b : Bool)
  | int (i : Int)
  | str (s : Str)
  | tup (l : List V)
  | loc (l : Nat)
  | rng (a b : Int)
deriving Inhabited

noncomputable def V.isInt : V → Bool
  | .int _ => true
  | _ => false

inductive O where
  | list (l : List V)
  | dI (l : List (Int × V))
  | dS (l : List (Str × V))
  | dP (l : List (List Int × V))
  | inst (c : String) (fs : List (String × V))
  | pad
deriving Inhabited

abbrev Sto := List O
abbrev Env := String → Option V
noncomputable def Env.set (ρ : Env) (x : String) (v : V) : Env := fun y => if y = x then some v else ρ y
noncomputable def Env.empty : Env := fun _ => Option.none
noncomputable def Env.ofList : List (String × V) → Env
  | [] => Env.empty
  | (x, v) :: r => fun y => if y = x then some v else Env.ofList r y

noncomputable def getF (f : String) : List (String × V) → Option V
  | [] => Option.none
  | (g, u) :: r => if g = f then some u else getF f r
noncomputable def setF (f : String) (v : V) : List (String × V) → List (String × V)
  | [] => [(f, v)]
  | (g, u) :: r => if g = f then (g, v) :: r else (g, u) :: setF f v r
section
variable {κ : Type} [DecidableEq κ]
noncomputable def lk (l : List (κ × V)) (k : κ) : Option V := (l.find? fun p => decide (p.1 = k)).map (·.2)
noncomputable def sto (l : List (κ × V)) (k : κ) (v : V) : List (κ × V) :=
  if (l.any fun p => decide (p.1 = k)) = true then l.map fun p => if p.1 = k then (p.1, v) else p else l ++ [(k, v)]
end

/-- the whole of a value, read deep -/
noncomputable def rd (σ : Sto) : Nat → V → Option PyData
  | 0, _ => Option.none
  | _ + 1, .none => some .none
  | _ + 1, .bool b => some (.bool b)
  | _ + 1, .int i => some (.int i)
  | _ + 1, .str s => some (.str s)
  | n + 1, .tup l => (l.mapM (rd σ n)).map .tuple
  | n + 1, .loc l => match σ[l]? with
    | some (.list vs) => (vs.mapM (rd σ n)).map .list
    | _ => Option.none
  | _ + 1, .rng _ _ => Option.none

inductive Bop | add | sub | mul | mod | fdiv | pow
deriving DecidableEq, Inhabited
inductive Cop | eq | ne | lt | le | gt | ge
deriving DecidableEq, Inhabited

/-- the kind of a dict's keys: ints, strs, pairs of ints -/
inductive DK | i | s | p
deriving DecidableEq, Inhabited

noncomputable def DK.obj : DK → O
  | .i => .dI []
  | .s => .dS []
  | .p => .dP []

/-- expressions -/
inductive X where
  | none
  | bool (b : Bool)
  | int (i : Int)
  | str (s : String)
  | var (x : String)
  | glob (x : String)
  | neg (e : X)
  | bin (o : Bop) (a b : X)
  | cmp (o : Cop) (a b : X)
  | ite (c a b : X)
  | all (l : List X)
  | any (l : List X)
  | not (a : X)
  | tru (a : X)
  | attr (e : X) (f : String)
  | item (e i : X)
  | slice (e lo hi st : X)
  | tup (l : List X)
  | list (l : List X)
  | dict (k : DK)
  | map (elt : X) (x : String) (it : X)
  | call (f : String) (args : List X)
  | meth (e : X) (f : String) (args : List X)
deriving Inhabited

/-- statements -/
inductive S where
  | asg (x : String) (e : X)
  | asgFilt (x : String) (y : String) (it a : X) (b : List X)
  | asgAttr (o : X) (f : String) (e : X)
  | asgItem (o i : X) (e : X)
  | asgTup (xs : List String) (e : X)
  | aug (x : String) (o : Bop) (e : X)
  | expr (e : X)
  | ret (e : X)
  | ite (c : X) (a b : List S)
  | loop (c : X) (b : List S)
  | for (x : String) (e : X) (b : List S)
  | del (o lo : X)
  | cont
  | wall
deriving Inhabited

inductive Fl where
  | next
  | cont
  | ret (v : V)
deriving Inhabited

abbrev Ct := V → Sto → Prop
abbrev Calls := String → List V → Sto → Ct → Prop

noncomputable def big : Nat := 2 ^ 24

noncomputable def small (a : Int) : Prop := a.natAbs < 2 ^ 256

noncomputable def binI (o : Bop) (a b : Int) (σ : Sto) (Q : Ct) : Prop :=
  match o with
  | .add => Q (.int (a + b)) σ
  | .sub => Q (.int (a - b)) σ
  | .mul => small a ∧ small b ∧ Q (.int (a * b)) σ
  | .mod => 0 < b ∧ Q (.int (a % b)) σ
  | .fdiv => 0 < b ∧ b < 1000 ∧ Q (.int (a / b)) σ
  | .pow => a = 10 ∧ 0 ≤ b ∧ b ≤ 64 ∧ Q (.int (10 ^ b.toNat)) σ

noncomputable def binW (o : Bop) (u v : V) (σ : Sto) (Q : Ct) : Prop :=
  match u with
  | .int a => match v with
    | .int b => binI o a b σ Q
    | _ => False
  | .loc x => match v with
    | .loc y => match o with
      | .add => match σ[x]? with
        | some (.list l) => match σ[y]? with
          | some (.list r) => l.length + r.length ≤ big ∧ Q (.loc σ.length) (σ ++ [.list (l ++ r)])
          | _ => False
        | _ => False
      | _ => False
    | .int n => match o with
      | .mul => match σ[x]? with
        | some (.list [a]) => 0 ≤ n ∧ n ≤ 1000 ∧ Q (.loc σ.length) (σ ++ [.list (List.replicate n.toNat a)])
        | _ => False
      | _ => False
    | _ => False
  | _ => False

noncomputable def cmpI (o : Cop) (a b : Int) : Bool :=
  match o with
  | .lt => decide (a < b)
  | .le => decide (a ≤ b)
  | .gt => decide (b < a)
  | .ge => decide (b ≤ a)
  | .eq => decide (a = b)
  | .ne => !decide (a = b)

/-- two lists whose lengths differ -/
noncomputable def apart (u v : V) (σ : Sto) : Bool :=
  match u with
  | .loc a => match v with
    | .loc b => match σ[a]? with
      | some (.list x) => match σ[b]? with
        | some (.list y) => x.length != y.length
        | _ => false
      | _ => false
    | _ => false
  | _ => false

noncomputable def cmpD (o : Cop) (u v : V) (σ : Sto) (Q : Ct) : Prop :=
  match apart u v σ with
  | true => match o with
    | .eq => Q (.bool false) σ
    | .ne => Q (.bool true) σ
    | _ => False
  | false => match rd σ 6 u with
    | some p => match rd σ 6 v with
      | some q => match o with
        | .eq => Q (.bool (PyData.eqv p q)) σ
        | .ne => Q (.bool (!PyData.eqv p q)) σ
        | _ => False
      | Option.none => False
    | Option.none => False

noncomputable def cmpW (o : Cop) (u v : V) (σ : Sto) (Q : Ct) : Prop :=
  match u with
  | .int a => match v with
    | .int b => Q (.bool (cmpI o a b)) σ
    | _ => cmpD o u v σ Q
  | _ => cmpD o u v σ Q

noncomputable def isFld (cn f : String) : Bool :=
  if cn = "Symbols" then decide (f ∈ ["texts", "atom_numbers", "functors", "functor_numbers"])
  else if cn = "Store" then decide (f ∈ ["symbols", "max_heap", "heap", "stack", "trail", "hb", "bb"])
  else if cn = "Areas" then decide (f ∈ ["symbols", "code", "max_heap", "occurs", "max_bits", "store", "x", "p", "cp", "e", "b", "b0", "mode", "s", "guard", "roots", "bags", "collect_wanted"])
  else false

/-- a check that is reckoned away -/
noncomputable def guardW (b : Bool) (p : Prop) : Prop := match b with
  | true => p
  | false => False
theorem guard_of {b : Bool} {p : Prop} (h : guardW b p) : b = true ∧ p := by
  cases b with
  | true => exact ⟨rfl, h⟩
  | false => exact h.elim
theorem guard_mk {b : Bool} {p : Prop} (h : b = true) (k : p) : guardW b p := by subst h; exact k

noncomputable def attrW (u : V) (f : String) (σ : Sto) (Q : Ct) : Prop :=
  match u with
  | .loc l => match σ[l]? with
    | some (.inst cn fs) => guardW (isFld cn f) (match getF f fs with
      | some v => Q v σ
      | Option.none => False)
    | _ => False
  | _ => False

noncomputable def atW (vs : List V) (k : Int) (Q : V → Prop) : Prop :=
  match k with
  | .ofNat n => match vs[n]? with
    | some v => Q v
    | Option.none => False
  | .negSucc _ => False

noncomputable def itemW (u i : V) (σ : Sto) (Q : Ct) : Prop :=
  match u with
  | .tup vs => match i with
    | .int k => atW vs k fun v => Q v σ
    | _ => False
  | .loc l => match σ[l]? with
    | some (.list vs) => match i with
      | .int k => atW vs k fun v => Q v σ
      | _ => False
    | some (.dI es) => match i with
      | .int k => match lk es k with
        | some v => Q v σ
        | Option.none => False
      | _ => False
    | _ => False
  | _ => False

/-- the four shapes of slices that the text has -/
noncomputable def cut (vs : List V) (lo hi st : V) : Option (List V) :=
  match lo with
  | .none => match hi with
    | .int b => match st with
      | .none => if 0 ≤ b then some (vs.take b.toNat) else if b = -1 then some vs.dropLast else Option.none
      | _ => Option.none
    | .none => match st with
      | .int s => if s = -1 then some vs.reverse else Option.none
      | _ => Option.none
    | _ => Option.none
  | .int a => match hi with
    | .int b => match st with
      | .none => if 0 ≤ a ∧ a ≤ b ∧ b ≤ vs.length then some ((vs.drop a.toNat).take (b - a).toNat) else Option.none
      | _ => Option.none
    | _ => Option.none
  | _ => Option.none

noncomputable def sliceW (u lo hi st : V) (σ : Sto) (Q : Ct) : Prop :=
  match u with
  | .loc l => match σ[l]? with
    | some (.list vs) => match cut vs lo hi st with
      | some r => Q (.loc σ.length) (σ ++ [.list r])
      | Option.none => False
    | _ => False
  | _ => False

noncomputable def rising : List Int → Bool
  | [] => true
  | [_] => true
  | a :: b :: r => decide (a < b) && rising (b :: r)

/-- the methods of the text's classes -/
noncomputable def methOf (c f : String) : Option String :=
  if c = "Symbols" then
    if f ∈ ["__init__", "atom", "functor", "func"] then some ("Symbols." ++ f) else Option.none
  else if c = "Store" then
    if f ∈ ["__init__", "push", "new_var", "trim", "deref", "bind", "bind_pair", "mark", "undo_to", "stack_put"] then some ("Cells." ++ f) else Option.none
  else if c = "Areas" then
    if f ∈ ["__init__", "reset", "set_x", "top", "push_environment", "pop_environment", "in_chain", "set_choice", "push_choice", "set_alternative", "choice_part",
      "restore_choice", "pop_choice", "cut_back", "choices", "environments"] then some ("Areas." ++ f) else Option.none
  else Option.none

noncomputable def isCls (f : String) : Bool := f = "Symbols" || f = "Store" || f = "Areas"
noncomputable def isFun (f : String) : Bool := f ∈ ["fixed_atoms", "fixed_functors", "slot_index", "write", "_law_draw", "_law_copied", "_law_chain", "_law_end", "_law_same"]

/-- a table -/
noncomputable def look {β : Type} : List (String × β) → String → Option β
  | [], _ => Option.none
  | (g, b) :: r, f => if g = f then some b else look r f
theorem look_all {β : Type} {P : String → β → Prop} : ∀ {l : List (String × β)}, (∀ p ∈ l, P p.1 p.2) → ∀ {f : String} {b : β}, look l f = some b → P f b
  | [], _, _, _, e => nomatch e
  | (g, b) :: r, h, f, b', e => by
    have e : (if g = f then some b else look r f) = some b' := e
    by_cases hg : g = f
    · rw [if_pos hg] at e
      cases e; subst hg
      exact h (g, b) List.mem_cons_self
    · rw [if_neg hg] at e
      exact look_all (fun q hq => h q (List.mem_cons_of_mem _ hq)) e
theorem fc {α : Type} {P : α → Prop} {a : α} {l : List α} (h : P a) (k : ∀ x ∈ l, P x) : ∀ x ∈ a :: l, P x := List.forall_mem_cons.mpr ⟨h, k⟩
theorem f0 {α : Type} {P : α → Prop} : ∀ x ∈ ([] : List α), P x := fun _ h => nomatch h
noncomputable def globL : List (String × V) := [("REF", .int 0), ("SRF", .int 1), ("INT", .int 5), ("VOID", .tup [.int 5, .int 0]), ("READ", .str (Str.ofString "read")), ("AT_E", .int 1), ("AT_CP", .int 2), ("AT_PREVIOUS", .int 3), ("AT_ALTERNATIVE", .int 4),
  ("AT_TRAIL", .int 5), ("AT_HEAP", .int 6), ("AT_B0", .int 7), ("EXTRA", .int 8)]
noncomputable def globOf (x : String) : Option V := look globL x

/-- calls of built-ins -/
noncomputable def lenW (args : List V) (σ : Sto) (Q : Ct) : Prop :=
  match args with
  | [u] => match u with
    | .loc l => match σ[l]? with
      | some (.list vs) => Q (.int vs.length) σ
      | _ => False
    | .tup vs => Q (.int vs.length) σ
    | _ => False
  | _ => False
noncomputable def rangeW (args : List V) (σ : Sto) (Q : Ct) : Prop :=
  match args with
  | [] => False
  | u :: r => match u with
    | .int a => match r with
      | [] => Q (.rng 0 a) σ
      | [v] => match v with
        | .int b => Q (.rng a b) σ
        | _ => False
      | _ => False
    | _ => False
noncomputable def sortW (args : List V) (σ : Sto) (Q : Ct) : Prop :=
  match args with
  | [u] => match u with
    | .loc l => match σ[l]? with
      | some (.dI es) => es.length < 64 ∧ rising (es.map (·.1)) = true ∧ Q (.loc σ.length) (σ ++ [.list (es.map fun p => .int p.1)])
      | _ => False
    | _ => False
  | _ => False
noncomputable def copyW (args : List V) (σ : Sto) (Q : Ct) : Prop :=
  match args with
  | [u] => match u with
    | .loc l => match σ[l]? with
      | some (.list vs) => Q (.loc σ.length) (σ ++ [.list vs])
      | _ => False
    | _ => False
  | _ => False
noncomputable def twoW (f : Int → Int → Int) (args : List V) (σ : Sto) (Q : Ct) : Prop :=
  match args with
  | [u, v] => match u with
    | .int a => match v with
      | .int b => Q (.int (f a b)) σ
      | _ => False
    | _ => False
  | _ => False
noncomputable def builtW (f : String) (args : List V) (σ : Sto) (Q : Ct) : Prop :=
  if f = "len" then lenW args σ Q
  else if f = "range" then rangeW args σ Q
  else if f = "sorted" then sortW args σ Q
  else if f = "list" then copyW args σ Q
  else if f = "max" then twoW max args σ Q
  else if f = "min" then twoW min args σ Q
  else False

noncomputable def callW (C : Calls) (f : String) (args : List V) (σ : Sto) (Q : Ct) : Prop :=
  if isFun f then C f args σ Q
  else if isCls f then
    match methOf f "__init__" with
    | some g => C g (.loc σ.length :: args) (σ ++ [.inst f []]) fun v σ' => match v with
      | .none => Q (.loc σ.length) σ'
      | _ => False
    | Option.none => False
  else builtW f args σ Q

noncomputable def listW (l : Nat) (f : String) (args : List V) (σ : Sto) (Q : Ct) : Prop :=
  match σ[l]? with
  | some (.list vs) => if f = "append" then (match args with
      | [x] => vs.length < big ∧ Q .none (σ.set l (.list (vs ++ [x])))
      | _ => False)
    else if f = "pop" then (match args with
      | [] => match vs.getLast? with
        | some v => Q v (σ.set l (.list vs.dropLast))
        | Option.none => False
      | _ => False)
    else False
  | _ => False

theorem nso {α : Type} {a : α} {P : Prop} (h : (Option.none : Option α) = some a) : P := nomatch h
theorem nft {P : Prop} (h : false = true) : P := nomatch h
/-- a pair of numbers -/
noncomputable def pairI (u : V) : Option (Int × Int) :=
  match u with
  | .tup l => match l with
    | a :: r => match a with
      | .int a => match r with
        | b :: t => match b with
          | .int b => match t with
            | [] => some (a, b)
            | _ :: _ => Option.none
          | _ => Option.none
        | [] => Option.none
      | _ => Option.none
    | [] => Option.none
  | _ => Option.none
theorem pairI_eq {u : V} {p : Int × Int} (h : pairI u = some p) : u = .tup [.int p.1, .int p.2] := by
  cases u with
  | tup l => cases l with
    | nil => exact nso h
    | cons a r => cases a with
      | int a => cases r with
        | nil => exact nso h
        | cons b t => cases b with
          | int b => cases t with
            | nil => cases h; rfl
            | cons _ _ => exact nso h
          | _ => exact nso h
      | _ => exact nso h
  | _ => exact nso h
noncomputable def dictW (l : Nat) (args : List V) (σ : Sto) (Q : Ct) : Prop :=
  match args with
  | [u, d] => match σ[l]? with
    | some (.dS es) => match u with
      | .str k => Q ((lk es k).getD d) σ
      | _ => False
    | some (.dP es) => match pairI u with
      | some p => Q ((lk es [p.1, p.2]).getD d) σ
      | Option.none => False
    | _ => False
  | _ => False

/-- the method is looked up ahead of its arguments -/
noncomputable def methW (C : Calls) (u : V) (f : String) (σ : Sto) (as : (List V → Sto → Prop) → Prop) (Q : Ct) : Prop :=
  match u with
  | .loc l => match σ[l]? with
    | some (.inst c fs) => match getF f fs with
      | Option.none => match methOf c f with
        | some g => as fun vs σ => C g (u :: vs) σ Q
        | Option.none => False
      | some _ => False
    | some (.list _) => guardW (decide (f = "append") || decide (f = "pop")) (as fun vs σ => listW l f vs σ Q)
    | some (.dS _) => guardW (decide (f = "get")) (as fun vs σ => dictW l vs σ Q)
    | some (.dP _) => guardW (decide (f = "get")) (as fun vs σ => dictW l vs σ Q)
    | _ => False
  | _ => False

/-- an item, where all is pure -/
noncomputable def itemP (u i : V) (σ : Sto) : Option V :=
  match u with
  | .tup vs => match i with
    | .int k => if 0 ≤ k then vs[k.toNat]? else Option.none
    | _ => Option.none
  | .loc l => match σ[l]? with
    | some (.list vs) => match i with
      | .int k => if 0 ≤ k then vs[k.toNat]? else Option.none
      | _ => Option.none
    | some (.dI es) => match i with
      | .int k => lk es k
      | _ => Option.none
    | _ => Option.none
  | _ => Option.none
/-- a map over a range whose element is a pure expression of the loop's name -/
noncomputable def pureE : X → Env → Sto → Option V
  | .none, _, _ => some .none
  | .int i, _, _ => some (.int i)
  | .str s, _, _ => some (.str (Str.ofString s))
  | .var x, ρ, _ => ρ x
  | .item e i, ρ, σ => (pureE e ρ σ).bind fun u => (pureE i ρ σ).bind fun v => itemP u v σ
  | .tup l, ρ, σ => (pureEs l ρ σ).map .tup
  | _, _, _ => Option.none
where pureEs : List X → Env → Sto → Option (List V)
  | [], _, _ => some []
  | e :: r, ρ, σ => (pureE e ρ σ).bind fun v => (pureEs r ρ σ).map fun vs => v :: vs

/-- what the test of the block says of an item -/
noncomputable def testOf (a b : X) (y : String) (ρ : Env) (σ : Sto) (v : V) : Option Bool :=
  match pureE a (ρ.set y v) σ, pureE b (ρ.set y v) σ with
  | some p, some q => match rd σ 6 p, rd σ 6 q with
    | some p, some q => some (PyData.eqv p q)
    | _, _ => Option.none
  | _, _ => Option.none

/-- the items that a loop over the value takes, if it is no range -/
noncomputable def rangeVs (a b : Int) : List V := (List.range (b - a).toNat).map fun (i : Nat) => V.int (a + (i : Int))
noncomputable def itemsOf (u : V) (σ : Sto) : Option (List V) :=
  match u with
  | .loc l => match σ[l]? with
    | some (.list vs) => some vs
    | _ => Option.none
  | .rng a b => if -(2 ^ 40) ≤ a ∧ a < 2 ^ 40 ∧ -(2 ^ 40) ≤ b ∧ b < 2 ^ 40 ∧ (b - a).toNat ≤ big then some (rangeVs a b) else Option.none
  | _ => Option.none

mutual
noncomputable def evE (C : Calls) : X → Env → Sto → Ct → Prop
  | .none, _, σ, Q => Q .none σ
  | .bool b, _, σ, Q => Q (.bool b) σ
  | .int i, _, σ, Q => Q (.int i) σ
  | .str s, _, σ, Q => Q (.str (Str.ofString s)) σ
  | .var x, ρ, σ, Q => match ρ x with
    | some v => Q v σ
    | Option.none => False
  | .glob x, _, σ, Q => match globOf x with
    | some v => Q v σ
    | Option.none => False
  | .neg e, ρ, σ, Q => evE C e ρ σ fun u σ => match u with
    | .int i => Q (.int (-i)) σ
    | _ => False
  | .bin o a b, ρ, σ, Q => evE C a ρ σ fun u σ => evE C b ρ σ fun v σ => binW o u v σ Q
  | .cmp o a b, ρ, σ, Q => evE C a ρ σ fun u σ => evE C b ρ σ fun v σ => cmpW o u v σ Q
  | .ite c a b, ρ, σ, Q => evT C c ρ σ fun t σ => if t = true then evE C a ρ σ Q else evE C b ρ σ Q
  | .attr e f, ρ, σ, Q => evE C e ρ σ fun u σ => attrW u f σ Q
  | .item e i, ρ, σ, Q => evE C e ρ σ fun u σ => evE C i ρ σ fun v σ => itemW u v σ Q
  | .slice e lo hi st, ρ, σ, Q => evE C e ρ σ fun u σ => evE C lo ρ σ fun a σ => evE C hi ρ σ fun b σ => evE C st ρ σ fun c σ => sliceW u a b c σ Q
  | .tup l, ρ, σ, Q => evEs C l ρ σ fun vs σ => Q (.tup vs) σ
  | .list l, ρ, σ, Q => evEs C l ρ σ fun vs σ => Q (.loc σ.length) (σ ++ [.list vs])
  | .dict k, _, σ, Q => Q (.loc σ.length) (σ ++ [k.obj])
  | .map elt x it, ρ, σ, Q => evE C it ρ σ fun u σ => match itemsOf u σ with
    | some vs => match vs.mapM (fun v => pureE elt (ρ.set x v) σ) with
      | some r => Q (.loc σ.length) (σ ++ [.list r])
      | Option.none => False
    | Option.none => False
  | .call f args, ρ, σ, Q => evEs C args ρ σ fun vs σ => callW C f vs σ Q
  | .meth e f args, ρ, σ, Q => evE C e ρ σ fun u σ => methW C u f σ (evEs C args ρ σ) Q
  | .all _, _, _, _ => False
  | .any _, _, _, _ => False
  | .not _, _, _, _ => False
  | .tru _, _, _, _ => False
noncomputable def evEs (C : Calls) : List X → Env → Sto → (List V → Sto → Prop) → Prop
  | [], _, σ, Q => Q [] σ
  | e :: r, ρ, σ, Q => evE C e ρ σ fun v σ => evEs C r ρ σ fun vs σ => Q (v :: vs) σ
noncomputable def evT (C : Calls) : X → Env → Sto → (Bool → Sto → Prop) → Prop
  | .cmp o a b, ρ, σ, Q => evE C a ρ σ fun u σ => evE C b ρ σ fun v σ => cmpW o u v σ fun r σ => match r with
    | .bool t => Q t σ
    | _ => False
  | .all l, ρ, σ, Q => evAll C l ρ σ Q
  | .any l, ρ, σ, Q => evAny C l ρ σ Q
  | .not a, ρ, σ, Q => evT C a ρ σ fun t σ => Q (!t) σ
  | .tru a, ρ, σ, Q => evE C a ρ σ fun u σ => match u with
    | .bool t => Q t σ
    | _ => False
  | _, _, _, _ => False
noncomputable def evAll (C : Calls) : List X → Env → Sto → (Bool → Sto → Prop) → Prop
  | [], _, σ, Q => Q true σ
  | e :: r, ρ, σ, Q => evT C e ρ σ fun t σ => if t = true then evAll C r ρ σ Q else Q false σ
noncomputable def evAny (C : Calls) : List X → Env → Sto → (Bool → Sto → Prop) → Prop
  | [], _, σ, Q => Q false σ
  | e :: r, ρ, σ, Q => evT C e ρ σ fun t σ => if t = true then Q true σ else evAny C r ρ σ Q
end

noncomputable def setItemW (u i x : V) (σ : Sto) (Q : Sto → Prop) : Prop :=
  match u with
  | .loc l => match σ[l]? with
    | some (.list vs) => match i with
      | .int k => 0 ≤ k ∧ k.toNat < vs.length ∧ Q (σ.set l (.list (vs.set k.toNat x)))
      | _ => False
    | some (.dI es) => match i with
      | .int k => es.length < big ∧ Q (σ.set l (.dI (sto es k x)))
      | _ => False
    | some (.dS es) => match i with
      | .str k => es.length < big ∧ Q (σ.set l (.dS (sto es k x)))
      | _ => False
    | some (.dP es) => match pairI i with
      | some p => es.length < big ∧ Q (σ.set l (.dP (sto es [p.1, p.2] x)))
      | Option.none => False
    | _ => False
  | _ => False

noncomputable def setAttrW (u : V) (f : String) (x : V) (σ : Sto) (Q : Sto → Prop) : Prop :=
  match u with
  | .loc l => match σ[l]? with
    | some (.inst c fs) => guardW (isFld c f && decide (fs.length ≤ 100)) (Q (σ.set l (.inst c (setF f x fs))))
    | _ => False
  | _ => False

noncomputable def delW (u : V) (k : V) (σ : Sto) (Q : Sto → Prop) : Prop :=
  match u, k with
  | .loc l, .int k => match σ[l]? with
    | some (.list vs) => 0 ≤ k ∧ k ≤ vs.length ∧ Q (σ.set l (.list (vs.take k.toNat)))
    | _ => False
  | _, _ => False

noncomputable def unpackOf (u : V) (σ : Sto) : Option (List V) :=
  match u with
  | .tup vs => some vs
  | .loc l => match σ[l]? with
    | some (.list vs) => some vs
    | _ => Option.none
  | _ => Option.none
noncomputable def Env.sets (ρ : Env) : List String → List V → Env
  | x :: xs, v :: vs => Env.sets (ρ.set x v) xs vs
  | _, _ => ρ

abbrev Cs := Fl → Env → Sto → Prop

/-- what a turn of a loop goes on to -/
noncomputable def lop (Q : Cs) (K : Env → Sto → Prop) : Cs := fun fl ρ σ => match fl with
  | .ret v => Q (.ret v) ρ σ
  | _ => K ρ σ
/-- what a statement goes on to -/
noncomputable def sq (Q : Cs) (K : Env → Sto → Prop) : Cs := fun fl ρ σ => match fl with
  | .next => K ρ σ
  | fl => Q fl ρ σ

noncomputable def whileI (tst : Env → Sto → (Bool → Sto → Prop) → Prop) (body : Env → Sto → Cs → Prop) : Nat → Env → Sto → Cs → Prop
  | 0, _, _, _ => False
  | n + 1, ρ, σ, Q => tst ρ σ fun t σ => if t = true then body ρ σ (lop Q fun ρ σ => whileI tst body n ρ σ Q) else Q .next ρ σ

/-- a loop over a list takes what the list holds at the time -/
noncomputable def forL (x : String) (body : Env → Sto → Cs → Prop) (l : Nat) : Nat → Nat → Env → Sto → Cs → Prop
  | 0, _, _, _, _ => False
  | n + 1, i, ρ, σ, Q => match σ[l]? with
    | some (.list vs) => match vs[i]? with
      | some v => body (ρ.set x v) σ (lop Q fun ρ σ => forL x body l n (i + 1) ρ σ Q)
      | Option.none => Q .next ρ σ
    | _ => False

/-- a loop over things that do not change -/
noncomputable def forV (x : String) (body : Env → Sto → Cs → Prop) : List V → Env → Sto → Cs → Prop
  | [], ρ, σ, Q => Q .next ρ σ
  | v :: r, ρ, σ, Q => body (ρ.set x v) σ (lop Q fun ρ σ => forV x body r ρ σ Q)

/-- a loop over the keys of a dict, which no turn changes -/
noncomputable def forD (x : String) (body : Env → Sto → Cs → Prop) (l : Nat) (es : List (Int × V)) : List (Int × V) → Env → Sto → Cs → Prop
  | [], ρ, σ, Q => σ[l]? = some (.dI es) ∧ Q .next ρ σ
  | (k, _) :: r, ρ, σ, Q => σ[l]? = some (.dI es) ∧ body (ρ.set x (.int k)) σ (lop Q fun ρ σ => forD x body l es r ρ σ Q)

noncomputable def forW (x : String) (u : V) (body : Env → Sto → Cs → Prop) (ρ : Env) (σ : Sto) (Q : Cs) : Prop :=
  match u with
  | .tup vs => forV x body vs ρ σ Q
  | .rng a b => -(2 ^ 40) ≤ a ∧ a < 2 ^ 40 ∧ -(2 ^ 40) ≤ b ∧ b < 2 ^ 40 ∧ forV x body (rangeVs a b) ρ σ Q
  | .loc l => match σ[l]? with
    | some (.list _) => ∃ n, forL x body l n 0 ρ σ Q
    | some (.dI es) => forD x body l es es ρ σ Q
    | _ => False
  | _ => False

mutual
noncomputable def evS (C : Calls) : S → Env → Sto → Cs → Prop
  | .asg x e, ρ, σ, Q => evE C e ρ σ fun v σ => Q .next (ρ.set x v) σ
  | .asgFilt x y it a b, ρ, σ, Q => evE C it ρ σ fun u σ => match itemsOf u σ with
    | some vs => match vs.mapM (fun v => (testOf a (.tup b) y ρ σ v).map fun t => (v, t)) with
      | some r => vs.all V.isInt = true ∧ Q .next (ρ.set x (.loc σ.length)) (σ ++ [.list ((r.filter (·.2)).map (·.1))])
      | Option.none => False
    | Option.none => False
  | .asgAttr o f e, ρ, σ, Q => evE C e ρ σ fun v σ => evE C o ρ σ fun u σ => setAttrW u f v σ fun σ => Q .next ρ σ
  | .asgItem o i e, ρ, σ, Q => evE C e ρ σ fun v σ => evE C o ρ σ fun u σ => evE C i ρ σ fun k σ => setItemW u k v σ fun σ => Q .next ρ σ
  | .asgTup xs e, ρ, σ, Q => evE C e ρ σ fun u σ => match unpackOf u σ with
    | some vs => vs.length = xs.length ∧ Q .next (ρ.sets xs vs) σ
    | Option.none => False
  | .aug x o e, ρ, σ, Q => match ρ x with
    | some (.int a) => evE C e ρ σ fun v σ => match o, v with
      | .add, .int b => Q .next (ρ.set x (.int (a + b))) σ
      | _, _ => False
    | _ => False
  | .expr e, ρ, σ, Q => evE C e ρ σ fun v σ => match v with
    | .none => Q .next ρ σ
    | .int _ => Q .next ρ σ
    | _ => False
  | .ret e, ρ, σ, Q => evE C e ρ σ fun v σ => Q (.ret v) ρ σ
  | .ite c a b, ρ, σ, Q => evT C c ρ σ fun t σ => if t = true then evSs C a ρ σ Q else evSs C b ρ σ Q
  | .loop c b, ρ, σ, Q => ∃ n, whileI (evT C c) (evSs C b) n ρ σ Q
  | .for x e b, ρ, σ, Q => evE C e ρ σ fun u σ => forW x u (evSs C b) ρ σ Q
  | .del o lo, ρ, σ, Q => evE C o ρ σ fun u σ => evE C lo ρ σ fun k σ => delW u k σ fun σ => Q .next ρ σ
  | .cont, ρ, σ, Q => Q .cont ρ σ
  | .wall, _, _, _ => False
noncomputable def evSs (C : Calls) : List S → Env → Sto → Cs → Prop
  | [], ρ, σ, Q => Q .next ρ σ
  | s :: r, ρ, σ, Q => evS C s ρ σ (sq Q fun ρ σ => evSs C r ρ σ Q)
end

structure Fn where
  params : List String
  body : List S
  dflts : List V := []
deriving Inhabited

/-- the arguments, filled up by the defaults -/
noncomputable def Fn.full (fn : Fn) (args : List V) : List V := args ++ fn.dflts.drop (args.length + fn.dflts.length - fn.params.length)

noncomputable def callD (P : String → Option Fn) : Nat → Calls
  | 0, _, _, _, _ => False
  | d + 1, f, args, σ, Q => match P f with
    | some fn => args.length ≤ fn.params.length ∧ (fn.full args).length = fn.params.length ∧ evSs (callD P d) fn.body (Env.ofList (fn.params.zip (fn.full args))) σ fun fl _ σ => match fl with
      | .ret v => Q v σ
      | .next => Q .none σ
      | .cont => False
    | Option.none => False

/-- what a stuck meaning tells -/
theorem inv_v {o : Option V} {F : V → Prop} (w : (match (motive := Option V → Prop) o with | some v => F v | none => False)) : ∃ v, o = some v ∧ F v := by
  cases o with
  | none => exact w.elim
  | some v => exact ⟨v, rfl, w⟩
theorem inv_l {o : Option O} {F : List V → Prop} (w : (match (motive := Option O → Prop) o with | some (.list vs) => F vs | _ => False)) : ∃ vs, o = some (.list vs) ∧ F vs := by
  cases o with
  | none => exact w.elim
  | some o => cases o with
    | list vs => exact ⟨vs, rfl, w⟩
    | _ => exact w.elim
theorem inv_l1 {o : Option O} {F : V → Prop} (w : (match (motive := Option O → Prop) o with | some (.list [a]) => F a | _ => False)) : ∃ a, o = some (.list [a]) ∧ F a := by
  cases o with
  | none => exact w.elim
  | some o => cases o with
    | list vs => cases vs with
      | nil => exact w.elim
      | cons a r => cases r with
        | nil => exact ⟨a, rfl, w⟩
        | cons _ _ => exact w.elim
    | _ => exact w.elim
theorem inv_d {o : Option O} {F : List (Int × V) → Prop} (w : (match (motive := Option O → Prop) o with | some (.dI es) => F es | _ => False)) : ∃ es, o = some (.dI es) ∧ F es := by
  cases o with
  | none => exact w.elim
  | some o => cases o with
    | dI vs => exact ⟨vs, rfl, w⟩
    | _ => exact w.elim
theorem inv_ld {o : Option O} {F : List V → Prop} {G : List (Int × V) → Prop} (w : (match (motive := Option O → Prop) o with | some (.list vs) => F vs | some (.dI es) => G es | _ => False)) : (∃ vs, o = some (.list vs) ∧ F vs) ∨ ∃ es, o = some (.dI es) ∧ G es := by
  cases o with
  | none => exact w.elim
  | some o => cases o with
    | list vs => exact .inl ⟨vs, rfl, w⟩
    | dI vs => exact .inr ⟨vs, rfl, w⟩
    | _ => exact w.elim
theorem inv_i {o : Option O} {F : String → List (String × V) → Prop} (w : (match (motive := Option O → Prop) o with | some (.inst c fs) => F c fs | _ => False)) : ∃ c fs, o = some (.inst c fs) ∧ F c fs := by
  cases o with
  | none => exact w.elim
  | some o => cases o with
    | inst c fs => exact ⟨c, fs, rfl, w⟩
    | _ => exact w.elim
theorem inv_sp {o : Option O} {F : List (Str × V) → Prop} {G : List (List Int × V) → Prop} (w : (match (motive := Option O → Prop) o with | some (.dS vs) => F vs | some (.dP es) => G es | _ => False)) : (∃ vs, o = some (.dS vs) ∧ F vs) ∨ ∃ es, o = some (.dP es) ∧ G es := by
  cases o with
  | none => exact w.elim
  | some o => cases o with
    | dS vs => exact .inl ⟨vs, rfl, w⟩
    | dP vs => exact .inr ⟨vs, rfl, w⟩
    | _ => exact w.elim
theorem inv_4 {o : Option O} {F : List V → Prop} {G1 : List (Int × V) → Prop} {G2 : List (Str × V) → Prop} {G3 : List (List Int × V) → Prop} (w : (match (motive := Option O → Prop) o with | some (.list vs) => F vs | some (.dI es) => G1 es | some (.dS es) => G2 es | some (.dP es) => G3 es | _ => False)) :
    (∃ vs, o = some (.list vs) ∧ F vs) ∨ (∃ es, o = some (.dI es) ∧ G1 es) ∨ (∃ es, o = some (.dS es) ∧ G2 es) ∨ ∃ es, o = some (.dP es) ∧ G3 es := by
  cases o with
  | none => exact w.elim
  | some o => cases o with
    | list vs => exact .inl ⟨vs, rfl, w⟩
    | dI vs => exact .inr (.inl ⟨vs, rfl, w⟩)
    | dS vs => exact .inr (.inr (.inl ⟨vs, rfl, w⟩))
    | dP vs => exact .inr (.inr (.inr ⟨vs, rfl, w⟩))
    | _ => exact w.elim
theorem inv_m {o : Option O} {G1 : String → List (String × V) → Prop} {F : List V → Prop} {G2 : List (Str × V) → Prop} {G3 : List (List Int × V) → Prop} (w : (match (motive := Option O → Prop) o with | some (.inst c fs) => G1 c fs | some (.list vs) => F vs | some (.dS es) => G2 es | some (.dP es) => G3 es | _ => False)) :
    (∃ c fs, o = some (.inst c fs) ∧ G1 c fs) ∨ (∃ es, o = some (.list es) ∧ F es) ∨ (∃ es, o = some (.dS es) ∧ G2 es) ∨ ∃ es, o = some (.dP es) ∧ G3 es := by
  cases o with
  | none => exact w.elim
  | some o => cases o with
    | inst c fs => exact .inl ⟨c, fs, rfl, w⟩
    | list vs => exact .inr (.inl ⟨vs, rfl, w⟩)
    | dS vs => exact .inr (.inr (.inl ⟨vs, rfl, w⟩))
    | dP vs => exact .inr (.inr (.inr ⟨vs, rfl, w⟩))
    | _ => exact w.elim
theorem inv_t2 {i : V} {F : Int × Int → Prop} (w : (match (motive := Option (Int × Int) → Prop) pairI i with | some p => F p | none => False)) : ∃ p : Int × Int, i = .tup [.int p.1, .int p.2] ∧ F p := by
  cases h : pairI i with
  | none => rw [h] at w; exact w.elim
  | some p => rw [h] at w; exact ⟨p, pairI_eq h, w⟩
theorem at_ok {vs : List V} {k : Int} {Q : V → Prop} {v : V} (h0 : 0 ≤ k) (h : vs[k.toNat]? = some v) (q : Q v) : atW vs k Q := by
  cases k with
  | ofNat n =>
    show (match vs[n]? with | some v => Q v | none => False)
    rw [show vs[n]? = some v from h]
    exact q
  | negSucc n => exact absurd h0 (by lia)
theorem atW_get {vs : List V} {i : Int} {P : V → Prop} (w : atW vs i P) : 0 ≤ i ∧ ∃ v, vs[i.toNat]? = some v ∧ P v := by
  cases i with
  | ofNat n => exact ⟨Int.natCast_nonneg n, inv_v (o := vs[n]?) w⟩
  | negSucc n => exact w.elim
theorem if_some {p : Prop} [Decidable p] {α : Type} {o : Option α} {a : α} (h : (if p then o else Option.none) = some a) : p ∧ o = some a := by
  by_cases hp : p
  · rw [if_pos hp] at h; exact ⟨hp, h⟩
  · rw [if_neg hp] at h; exact nso h
/-- a pure item is an item -/
theorem itemP_w {u i x : V} {σ : Sto} {Q : Ct} (h : itemP u i σ = some x) (q : Q x σ) : itemW u i σ Q := by
  cases u with
  | tup vs =>
    cases i with
    | int k => obtain ⟨h0, h⟩ := if_some h; exact at_ok h0 h q
    | _ => exact nso h
  | loc l =>
    unfold itemP at h
    unfold itemW
    dsimp only at h ⊢
    cases e : σ[l]? with
    | none => rw [e] at h; exact nso h
    | some o =>
      rw [e] at h
      cases o with
      | list vs =>
        cases i with
        | int k => obtain ⟨h0, h⟩ := if_some h; exact at_ok h0 h q
        | _ => exact nso h
      | dI es =>
        cases i with
        | int k =>
          dsimp only at h ⊢
          rw [h]; exact q
        | _ => exact nso h
      | _ => exact nso h
  | _ => exact nso h

theorem inv_vi {o : Option V} {F : Int → Prop} (w : (match (motive := Option V → Prop) o with | some (.int a) => F a | _ => False)) : ∃ a, o = some (.int a) ∧ F a := by
  cases o with
  | none => exact w.elim
  | some v => cases v with
    | int a => exact ⟨a, rfl, w⟩
    | _ => exact w.elim
theorem rd_loc {σ : Sto} {k l : Nat} : rd σ (k + 1) (.loc l) = match σ[l]? with
    | some (.list vs) => (vs.mapM (rd σ k)).map .list
    | _ => Option.none := rfl
theorem getF_cons {f g : String} {u : V} {r : List (String × V)} : getF f ((g, u) :: r) = if g = f then some u else getF f r := rfl
theorem setF_cons {f g : String} {u v : V} {r : List (String × V)} : setF f v ((g, u) :: r) = if g = f then (g, v) :: r else (g, u) :: setF f v r := rfl

end C187

namespace C187

noncomputable def b_fixed_atoms : Fn := ⟨[],
  [.ret (.tup [(.str "[]"), (.str "."), (.str "{}"), (.str "-"), (.str "+"), (.str "*"), (.str "/"), (.str ","), (.str "|"), (.str ";"), (.str "->"), (.str "\\+"), (.str ":-"), (.str "?-"), (.str "-->"), (.str "!"), (.str "true"), (.str "fail"), (.str "false"), (.str "call"), (.str "="), (.str "^"), (.str "error"), (.str ""), (.str "end_of_file"), (.str "system"), (.str "$VAR"), (.str "catch"), (.str "throw")])], []⟩

noncomputable def b_fixed_functors : Fn := ⟨[],
  [.ret (.tup [(.tup [(.str "."), (.int 2)]), (.tup [(.str ","), (.int 2)]), (.tup [(.str ";"), (.int 2)]), (.tup [(.str "->"), (.int 2)]), (.tup [(.str "\\+"), (.int 1)]), (.tup [(.str ":-"), (.int 2)]), (.tup [(.str ":-"), (.int 1)]), (.tup [(.str "?-"), (.int 1)]), (.tup [(.str "-->"), (.int 2)]), (.tup [(.str "{}"), (.int 1)]), (.tup [(.str "="), (.int 2)]), (.tup [(.str "^"), (.int 2)]), (.tup [(.str "-"), (.int 1)]), (.tup [(.str "-"), (.int 2)]), (.tup [(.str "+"), (.int 2)]), (.tup [(.str "/"), (.int 2)]), (.tup [(.str "error"), (.int 2)]), (.tup [(.str "$VAR"), (.int 1)]), (.tup [(.str "catch"), (.int 3)]), (.tup [(.str "throw"), (.int 1)]), (.tup [(.str "!"), (.int 0)]), (.tup [(.str "true"), (.int 0)]), (.tup [(.str "fail"), (.int 0)]), (.tup [(.str "false"), (.int 0)]), (.tup [(.str "call"), (.int 1)]), (.tup [(.str "call"), (.int 2)]), (.tup [(.str "call"), (.int 3)]), (.tup [(.str "call"), (.int 4)]), (.tup [(.str "call"), (.int 5)]), (.tup [(.str "call"), (.int 6)]), (.tup [(.str "call"), (.int 7)]), (.tup [(.str "call"), (.int 8)])])], []⟩

noncomputable def b_Symbols_init : Fn := ⟨["self"],
  [.asgAttr (.var "self") "texts" (.list []),
   .asgAttr (.var "self") "atom_numbers" (.dict .s),
   .asgAttr (.var "self") "functors" (.list []),
   .asgAttr (.var "self") "functor_numbers" (.dict .p),
   .for "text" (.call "fixed_atoms" [])
    [.expr (.meth (.var "self") "atom" [(.var "text")])],
   .for "row" (.call "fixed_functors" [])
    [.expr (.meth (.var "self") "func" [(.item (.var "row") (.int 0)), (.item (.var "row") (.int 1))])]], []⟩

noncomputable def b_Symbols_atom : Fn := ⟨["self", "text"],
  [.asg "found" (.meth (.attr (.var "self") "atom_numbers") "get" [(.var "text"), (.neg (.int 1))]),
   .ite (.cmp .ge (.var "found") (.int 0))
    [.ret (.var "found")]
    [],
   .asg "number" (.call "len" [(.attr (.var "self") "texts")]),
   .expr (.meth (.attr (.var "self") "texts") "append" [(.var "text")]),
   .asgItem (.attr (.var "self") "atom_numbers") (.var "text") (.var "number"),
   .ret (.var "number")], []⟩

noncomputable def b_Symbols_functor : Fn := ⟨["self", "atom", "arity"],
  [.asg "key" (.tup [(.var "atom"), (.var "arity")]),
   .asg "found" (.meth (.attr (.var "self") "functor_numbers") "get" [(.var "key"), (.neg (.int 1))]),
   .ite (.cmp .ge (.var "found") (.int 0))
    [.ret (.var "found")]
    [],
   .asg "number" (.call "len" [(.attr (.var "self") "functors")]),
   .expr (.meth (.attr (.var "self") "functors") "append" [(.var "key")]),
   .asgItem (.attr (.var "self") "functor_numbers") (.var "key") (.var "number"),
   .ret (.var "number")], []⟩

noncomputable def b_Symbols_func : Fn := ⟨["self", "text", "arity"],
  [.ret (.meth (.var "self") "functor" [(.meth (.var "self") "atom" [(.var "text")]), (.var "arity")])], []⟩

noncomputable def b_Cells_init : Fn := ⟨["self", "symbols", "max_heap"],
  [.asgAttr (.var "self") "symbols" (.var "symbols"),
   .asgAttr (.var "self") "max_heap" (.var "max_heap"),
   .asgAttr (.var "self") "heap" (.list []),
   .asgAttr (.var "self") "stack" (.list []),
   .asgAttr (.var "self") "trail" (.list []),
   .asgAttr (.var "self") "hb" (.int 0),
   .asgAttr (.var "self") "bb" (.int 0)], [.int 100000]⟩

noncomputable def b_Cells_push : Fn := ⟨["self", "cell"],
  [.asg "address" (.call "len" [(.attr (.var "self") "heap")]),
   .ite (.cmp .ge (.var "address") (.attr (.var "self") "max_heap"))
    [.wall]
    [],
   .expr (.meth (.attr (.var "self") "heap") "append" [(.var "cell")]),
   .ret (.var "address")], []⟩

noncomputable def b_Cells_new_var : Fn := ⟨["self"],
  [.asg "cell" (.tup [(.glob "REF"), (.call "len" [(.attr (.var "self") "heap")])]),
   .expr (.meth (.var "self") "push" [(.var "cell")]),
   .ret (.var "cell")], []⟩

noncomputable def b_Cells_trim : Fn := ⟨["self", "h"],
  [.del (.attr (.var "self") "heap") (.var "h")], []⟩

noncomputable def b_Cells_deref : Fn := ⟨["self", "cell"],
  [.loop (.tru (.bool true))
    [.asg "tag" (.item (.var "cell") (.int 0)),
     .ite (.cmp .eq (.var "tag") (.glob "REF"))
      [.asg "found" (.item (.attr (.var "self") "heap") (.item (.var "cell") (.int 1)))]
      [.ite (.cmp .eq (.var "tag") (.glob "SRF"))
        [.asg "found" (.item (.attr (.var "self") "stack") (.item (.var "cell") (.int 1)))]
        [.ret (.var "cell")]],
     .ite (.cmp .eq (.var "found") (.var "cell"))
      [.ret (.var "cell")]
      [],
     .asg "cell" (.var "found")]], []⟩

noncomputable def b_Cells_bind : Fn := ⟨["self", "cell", "value"],
  [.asg "place" (.item (.var "cell") (.int 1)),
   .ite (.cmp .eq (.item (.var "cell") (.int 0)) (.glob "REF"))
    [.asgItem (.attr (.var "self") "heap") (.var "place") (.var "value"),
     .ite (.cmp .lt (.var "place") (.attr (.var "self") "hb"))
      [.expr (.meth (.attr (.var "self") "trail") "append" [(.var "place")])]
      []]
    [.asgItem (.attr (.var "self") "stack") (.var "place") (.var "value"),
     .ite (.cmp .lt (.var "place") (.attr (.var "self") "bb"))
      [.expr (.meth (.attr (.var "self") "trail") "append" [(.bin .sub (.neg (.int 1)) (.var "place"))])]
      []]], []⟩

noncomputable def b_Cells_bind_pair : Fn := ⟨["self", "c1", "c2"],
  [.ite (.cmp .eq (.var "c1") (.var "c2"))
    [.ret .none]
    [],
   .ite (.cmp .eq (.item (.var "c1") (.int 0)) (.item (.var "c2") (.int 0)))
    [.ite (.cmp .lt (.item (.var "c1") (.int 1)) (.item (.var "c2") (.int 1)))
      [.expr (.meth (.var "self") "bind" [(.var "c2"), (.var "c1")])]
      [.expr (.meth (.var "self") "bind" [(.var "c1"), (.var "c2")])]]
    [.ite (.cmp .eq (.item (.var "c1") (.int 0)) (.glob "SRF"))
      [.expr (.meth (.var "self") "bind" [(.var "c1"), (.var "c2")])]
      [.expr (.meth (.var "self") "bind" [(.var "c2"), (.var "c1")])]]], []⟩

noncomputable def b_Cells_mark : Fn := ⟨["self"],
  [.ret (.call "len" [(.attr (.var "self") "trail")])], []⟩

noncomputable def b_Cells_undo_to : Fn := ⟨["self", "mark"],
  [.loop (.cmp .gt (.call "len" [(.attr (.var "self") "trail")]) (.var "mark"))
    [.asg "entry" (.meth (.attr (.var "self") "trail") "pop" []),
     .ite (.cmp .ge (.var "entry") (.int 0))
      [.asgItem (.attr (.var "self") "heap") (.var "entry") (.tup [(.glob "REF"), (.var "entry")])]
      [.asg "slot" (.bin .sub (.neg (.int 1)) (.var "entry")),
       .asgItem (.attr (.var "self") "stack") (.var "slot") (.tup [(.glob "SRF"), (.var "slot")])]]], []⟩

noncomputable def b_Cells_stack_put : Fn := ⟨["self", "i", "value"],
  [.asg "stack" (.attr (.var "self") "stack"),
   .ite (.cmp .lt (.var "i") (.call "len" [(.var "stack")]))
    [.asgItem (.var "stack") (.var "i") (.var "value"),
     .ret .none]
    [],
   .loop (.cmp .lt (.call "len" [(.var "stack")]) (.var "i"))
    [.expr (.meth (.var "stack") "append" [(.glob "VOID")])],
   .expr (.meth (.var "stack") "append" [(.var "value")])], []⟩

noncomputable def b_Areas_init : Fn := ⟨["self", "symbols", "code", "max_heap", "occurs", "max_bits"],
  [.asgAttr (.var "self") "symbols" (.var "symbols"),
   .asgAttr (.var "self") "code" (.var "code"),
   .asgAttr (.var "self") "max_heap" (.var "max_heap"),
   .asgAttr (.var "self") "occurs" (.var "occurs"),
   .asgAttr (.var "self") "max_bits" (.var "max_bits"),
   .expr (.meth (.var "self") "reset" [])], [.int 100000, .bool true, .int 4096]⟩

noncomputable def b_Areas_reset : Fn := ⟨["self"],
  [.asgAttr (.var "self") "store" (.call "Store" [(.attr (.var "self") "symbols"), (.attr (.var "self") "max_heap")]),
   .asgAttr (.var "self") "x" (.list [(.glob "VOID")]),
   .asgAttr (.var "self") "p" (.int 0),
   .asgAttr (.var "self") "cp" (.int 0),
   .asgAttr (.var "self") "e" (.neg (.int 1)),
   .asgAttr (.var "self") "b" (.neg (.int 1)),
   .asgAttr (.var "self") "b0" (.neg (.int 1)),
   .asgAttr (.var "self") "mode" (.glob "READ"),
   .asgAttr (.var "self") "s" (.int 0),
   .asgAttr (.var "self") "guard" (.glob "VOID"),
   .asgAttr (.var "self") "roots" (.list []),
   .asgAttr (.var "self") "bags" (.dict .i),
   .asgAttr (.var "self") "collect_wanted" (.bool false)], []⟩

noncomputable def b_Areas_set_x : Fn := ⟨["self", "number", "cell"],
  [.loop (.cmp .le (.call "len" [(.attr (.var "self") "x")]) (.var "number"))
    [.expr (.meth (.attr (.var "self") "x") "append" [(.glob "VOID")])],
   .asgItem (.attr (.var "self") "x") (.var "number") (.var "cell")], []⟩

noncomputable def b_Areas_top : Fn := ⟨["self"],
  [.ite (.cmp .gt (.attr (.var "self") "e") (.attr (.var "self") "b"))
    [.ret (.bin .add (.bin .add (.attr (.var "self") "e") (.int 2)) (.item (.item (.attr (.var "self") "code") (.bin .sub (.attr (.var "self") "cp") (.int 1))) (.int 2)))]
    [],
   .ite (.cmp .ge (.attr (.var "self") "b") (.int 0))
    [.ret (.bin .add (.bin .add (.attr (.var "self") "b") (.item (.attr (.attr (.var "self") "store") "stack") (.attr (.var "self") "b"))) (.glob "EXTRA"))]
    [],
   .ret (.int 0)], []⟩

noncomputable def b_Areas_push_environment : Fn := ⟨["self", "size"],
  [.asg "place" (.meth (.var "self") "top" []),
   .asg "store" (.attr (.var "self") "store"),
   .expr (.meth (.var "store") "stack_put" [(.var "place"), (.attr (.var "self") "e")]),
   .expr (.meth (.var "store") "stack_put" [(.bin .add (.var "place") (.int 1)), (.attr (.var "self") "cp")]),
   .for "number" (.call "range" [(.var "size")])
    [.expr (.meth (.var "store") "stack_put" [(.bin .add (.bin .add (.var "place") (.int 2)) (.var "number")), (.glob "VOID")])],
   .asgAttr (.var "self") "e" (.var "place")], []⟩

noncomputable def b_Areas_pop_environment : Fn := ⟨["self"],
  [.asg "stack" (.attr (.attr (.var "self") "store") "stack"),
   .asgAttr (.var "self") "cp" (.item (.var "stack") (.bin .add (.attr (.var "self") "e") (.int 1))),
   .asgAttr (.var "self") "e" (.item (.var "stack") (.attr (.var "self") "e"))], []⟩

noncomputable def b_Areas_in_chain : Fn := ⟨["self", "index"],
  [.asg "e" (.attr (.var "self") "e"),
   .loop (.cmp .gt (.var "e") (.var "index"))
    [.asg "e" (.item (.attr (.attr (.var "self") "store") "stack") (.var "e"))],
   .ret (.cmp .eq (.var "e") (.var "index"))], []⟩

noncomputable def b_Areas_set_choice : Fn := ⟨["self", "b"],
  [.asg "store" (.attr (.var "self") "store"),
   .asgAttr (.var "self") "b" (.var "b"),
   .ite (.cmp .lt (.var "b") (.int 0))
    [.asgAttr (.var "store") "hb" (.int 0),
     .asgAttr (.var "store") "bb" (.int 0)]
    [.asgAttr (.var "store") "hb" (.item (.attr (.var "store") "stack") (.bin .add (.bin .add (.var "b") (.item (.attr (.var "store") "stack") (.var "b"))) (.glob "AT_HEAP"))),
     .asgAttr (.var "store") "bb" (.var "b")]], []⟩

noncomputable def b_Areas_push_choice : Fn := ⟨["self", "cells", "alternative"],
  [.asg "store" (.attr (.var "self") "store"),
   .asg "place" (.meth (.var "self") "top" []),
   .asg "count" (.call "len" [(.var "cells")]),
   .expr (.meth (.var "store") "stack_put" [(.var "place"), (.var "count")]),
   .asg "at" (.var "place"),
   .for "cell" (.var "cells")
    [.aug "at" .add (.int 1),
     .expr (.meth (.var "store") "stack_put" [(.var "at"), (.var "cell")])],
   .expr (.meth (.var "store") "stack_put" [(.bin .add (.var "at") (.glob "AT_E")), (.attr (.var "self") "e")]),
   .expr (.meth (.var "store") "stack_put" [(.bin .add (.var "at") (.glob "AT_CP")), (.attr (.var "self") "cp")]),
   .expr (.meth (.var "store") "stack_put" [(.bin .add (.var "at") (.glob "AT_PREVIOUS")), (.attr (.var "self") "b")]),
   .expr (.meth (.var "store") "stack_put" [(.bin .add (.var "at") (.glob "AT_ALTERNATIVE")), (.var "alternative")]),
   .expr (.meth (.var "store") "stack_put" [(.bin .add (.var "at") (.glob "AT_TRAIL")), (.meth (.var "store") "mark" [])]),
   .expr (.meth (.var "store") "stack_put" [(.bin .add (.var "at") (.glob "AT_HEAP")), (.call "len" [(.attr (.var "store") "heap")])]),
   .expr (.meth (.var "store") "stack_put" [(.bin .add (.var "at") (.glob "AT_B0")), (.attr (.var "self") "b0")]),
   .expr (.meth (.var "self") "set_choice" [(.var "place")])], []⟩

noncomputable def b_Areas_set_alternative : Fn := ⟨["self", "address"],
  [.asg "stack" (.attr (.attr (.var "self") "store") "stack"),
   .asgItem (.var "stack") (.bin .add (.bin .add (.attr (.var "self") "b") (.item (.var "stack") (.attr (.var "self") "b"))) (.glob "AT_ALTERNATIVE")) (.var "address")], []⟩

noncomputable def b_Areas_choice_part : Fn := ⟨["self", "part"],
  [.asg "stack" (.attr (.attr (.var "self") "store") "stack"),
   .ret (.item (.var "stack") (.bin .add (.bin .add (.attr (.var "self") "b") (.item (.var "stack") (.attr (.var "self") "b"))) (.var "part")))], []⟩

noncomputable def b_Areas_restore_choice : Fn := ⟨["self"],
  [.asg "store" (.attr (.var "self") "store"),
   .asg "count" (.item (.attr (.var "store") "stack") (.attr (.var "self") "b")),
   .for "i" (.call "range" [(.int 1), (.bin .add (.var "count") (.int 1))])
    [.expr (.meth (.var "self") "set_x" [(.var "i"), (.item (.attr (.var "store") "stack") (.bin .add (.attr (.var "self") "b") (.var "i")))])],
   .asgAttr (.var "self") "e" (.meth (.var "self") "choice_part" [(.glob "AT_E")]),
   .asgAttr (.var "self") "cp" (.meth (.var "self") "choice_part" [(.glob "AT_CP")]),
   .expr (.meth (.var "store") "undo_to" [(.meth (.var "self") "choice_part" [(.glob "AT_TRAIL")])]),
   .expr (.meth (.var "store") "trim" [(.meth (.var "self") "choice_part" [(.glob "AT_HEAP")])])], []⟩

noncomputable def b_Areas_pop_choice : Fn := ⟨["self"],
  [.expr (.meth (.var "self") "set_choice" [(.meth (.var "self") "choice_part" [(.glob "AT_PREVIOUS")])])], []⟩

noncomputable def b_Areas_cut_back : Fn := ⟨["self", "b"],
  [.ite (.cmp .gt (.attr (.var "self") "b") (.var "b"))
    [.expr (.meth (.var "self") "set_choice" [(.var "b")])]
    []], []⟩

noncomputable def b_Areas_choices : Fn := ⟨["self"],
  [.asg "stack" (.attr (.attr (.var "self") "store") "stack"),
   .asg "found" (.list []),
   .asg "b" (.attr (.var "self") "b"),
   .loop (.cmp .ge (.var "b") (.int 0))
    [.expr (.meth (.var "found") "append" [(.var "b")]),
     .asg "b" (.item (.var "stack") (.bin .add (.bin .add (.var "b") (.item (.var "stack") (.var "b"))) (.glob "AT_PREVIOUS")))],
   .ret (.var "found")], []⟩

noncomputable def b_Areas_environments : Fn := ⟨["self"],
  [.asg "found" (.list []),
   .asg "e" (.attr (.var "self") "e"),
   .loop (.cmp .ge (.var "e") (.int 0))
    [.expr (.meth (.var "found") "append" [(.var "e")]),
     .asg "e" (.item (.attr (.attr (.var "self") "store") "stack") (.var "e"))],
   .ret (.var "found")], []⟩

noncomputable def b_slot_index : Fn := ⟨["m", "number"],
  [.ret (.bin .add (.bin .add (.attr (.var "m") "e") (.int 1)) (.var "number"))], []⟩

noncomputable def b_write : Fn := ⟨["m", "operand", "cell"],
  [.ite (.cmp .eq (.item (.var "operand") (.int 0)) (.str "x"))
    [.expr (.meth (.var "m") "set_x" [(.item (.var "operand") (.int 1)), (.var "cell")]),
     .ret .none]
    [],
   .asg "index" (.call "slot_index" [(.var "m"), (.item (.var "operand") (.int 1))]),
   .ite (.cmp .lt (.var "index") (.attr (.attr (.var "m") "store") "bb"))
    [.expr (.meth (.attr (.attr (.var "m") "store") "trail") "append" [(.bin .sub (.neg (.int 1)) (.var "index"))])]
    [],
   .expr (.meth (.attr (.var "m") "store") "stack_put" [(.var "index"), (.var "cell")])], []⟩

noncomputable def b_law_draw : Fn := ⟨["pool", "most"],
  [.ite (.cmp .lt (.item (.var "pool") (.int 0)) (.int 1000))
    [.asg "place" (.item (.var "pool") (.int 1)),
     .asgItem (.var "pool") (.int 1) (.bin .add (.var "place") (.int 1)),
     .asg "cell" (.item (.item (.var "pool") (.int 2)) (.bin .mod (.var "place") (.call "len" [(.item (.var "pool") (.int 2))]))),
     .ite (.cmp .eq (.var "cell") (.int 0))
      [.ret (.int 0)]
      [],
     .ite (.all [(.cmp .lt (.var "place") (.call "len" [(.item (.var "pool") (.int 2))])), (.cmp .ge (.var "cell") (.bin .pow (.int 10) (.int 18)))])
      [.asgItem (.var "pool") (.int 0) (.bin .mod (.var "cell") (.bin .pow (.int 10) (.int 60)))]
      [.asgItem (.var "pool") (.int 0) (.bin .mod (.bin .mul (.bin .add (.bin .add (.bin .mod (.var "cell") (.int 2305843009213693951)) (.bin .mul (.int 104729) (.var "place"))) (.int 17)) (.bin .add (.int 6364136223846793005) (.bin .mul (.int 2) (.var "place")))) (.int 2305843009213693951))]]
    [],
   .asg "drawn" (.bin .mod (.item (.var "pool") (.int 0)) (.var "most")),
   .asgItem (.var "pool") (.int 0) (.bin .fdiv (.item (.var "pool") (.int 0)) (.var "most")),
   .ret (.var "drawn")], []⟩

noncomputable def b_law_copied : Fn := ⟨["state"],
  [.asg "frames" (.dict .i),
   .for "number" (.item (.var "state") (.int 2))
    [.asg "frame" (.item (.item (.var "state") (.int 2)) (.var "number")),
     .asgItem (.var "frames") (.var "number") (.list [(.item (.var "frame") (.int 0)), (.item (.var "frame") (.int 1)), (.call "list" [(.item (.var "frame") (.int 2))])])],
   .asg "values" (.dict .i),
   .for "number" (.item (.var "state") (.int 3))
    [.asgItem (.var "values") (.var "number") (.item (.item (.var "state") (.int 3)) (.var "number"))],
   .ret (.list [(.item (.var "state") (.int 0)), (.item (.var "state") (.int 1)), (.var "frames"), (.var "values")])], []⟩

noncomputable def b_law_chain : Fn := ⟨["state"],
  [.asg "found" (.list []),
   .asg "number" (.item (.var "state") (.int 0)),
   .asg "live" (.bin .sub (.item (.var "state") (.int 1)) (.int 1)),
   .loop (.cmp .ge (.var "number") (.int 0))
    [.asg "frame" (.item (.item (.var "state") (.int 2)) (.var "number")),
     .expr (.meth (.var "found") "append" [(.tup [(.var "number"), (.slice (.item (.var "frame") (.int 2)) .none (.var "live") .none)])]),
     .asg "live" (.bin .sub (.item (.var "frame") (.int 1)) (.int 1)),
     .asg "number" (.item (.var "frame") (.int 0))],
   .ret (.var "found")], []⟩

noncomputable def b_law_end : Fn := ⟨["values", "value"],
  [.loop (.all [(.cmp .eq (.item (.var "value") (.int 0)) (.str "h")), (.cmp .ne (.item (.var "values") (.item (.var "value") (.int 1))) (.tup []))])
    [.asg "value" (.item (.var "values") (.item (.var "value") (.int 1)))],
   .ret (.var "value")], []⟩

noncomputable def b_law_same : Fn := ⟨["m", "state", "cells", "choices"],
  [.asg "chain" (.call "_law_chain" [(.var "state")]),
   .asg "places" (.meth (.var "m") "environments" []),
   .ite (.any [(.cmp .ne (.call "len" [(.var "places")]) (.call "len" [(.var "chain")])), (.cmp .ne (.attr (.var "m") "cp") (.item (.var "state") (.int 1)))])
    [.ret (.bool false)]
    [],
   .for "at" (.call "range" [(.call "len" [(.var "chain")])])
    [.ite (.any [(.not (.tru (.meth (.var "m") "in_chain" [(.item (.var "places") (.var "at"))]))), (.cmp .ne (.item (.attr (.attr (.var "m") "store") "stack") (.bin .add (.item (.var "places") (.var "at")) (.int 1))) (.item (.item (.item (.var "state") (.int 2)) (.item (.item (.var "chain") (.var "at")) (.int 0))) (.int 1)))])
      [.ret (.bool false)]
      [],
     .asg "held" (.item (.item (.var "chain") (.var "at")) (.int 1)),
     .for "slot" (.call "range" [(.call "len" [(.var "held")])])
      [.ite (.cmp .eq (.item (.var "held") (.var "slot")) (.tup [(.str "unset")]))
        [.cont]
        [],
       .asg "spot" (.bin .add (.bin .add (.item (.var "places") (.var "at")) (.int 2)) (.var "slot")),
       .asg "value" (.call "_law_end" [(.item (.var "state") (.int 3)), (.item (.var "held") (.var "slot"))]),
       .asg "due" (.tup [(.glob "SRF"), (.var "spot")]),
       .ite (.cmp .eq (.item (.var "value") (.int 0)) (.str "i"))
        [.asg "due" (.tup [(.glob "INT"), (.item (.var "value") (.int 1))])]
        [.ite (.cmp .eq (.item (.var "value") (.int 0)) (.str "h"))
          [.asg "due" (.item (.var "cells") (.item (.var "value") (.int 1)))]
          []],
       .ite (.cmp .ne (.meth (.attr (.var "m") "store") "deref" [(.item (.attr (.attr (.var "m") "store") "stack") (.var "spot"))]) (.var "due"))
        [.ret (.bool false)]
        []]],
   .for "number" (.item (.var "state") (.int 3))
    [.asg "value" (.call "_law_end" [(.item (.var "state") (.int 3)), (.tup [(.str "h"), (.var "number")])]),
     .ite (.cmp .ne (.meth (.attr (.var "m") "store") "deref" [(.item (.var "cells") (.var "number"))]) (.ite (.cmp .eq (.item (.var "value") (.int 0)) (.str "i")) (.tup [(.glob "INT"), (.item (.var "value") (.int 1))]) (.item (.var "cells") (.item (.var "value") (.int 1)))))
      [.ret (.bool false)]
      []],
   .asg "marks" (.meth (.var "m") "choices" []),
   .ite (.cmp .ne (.call "len" [(.var "marks")]) (.call "len" [(.var "choices")]))
    [.ret (.bool false)]
    [],
   .for "at" (.call "range" [(.call "len" [(.var "marks")])])
    [.asg "b" (.item (.var "marks") (.var "at")),
     .ite (.cmp .ne (.item (.attr (.attr (.var "m") "store") "stack") (.bin .add (.bin .add (.var "b") (.item (.attr (.attr (.var "m") "store") "stack") (.var "b"))) (.glob "AT_ALTERNATIVE"))) (.item (.item (.var "choices") (.bin .sub (.bin .sub (.call "len" [(.var "choices")]) (.int 1)) (.var "at"))) (.int 2)))
      [.ret (.bool false)]
      []],
   .ret (.bool true)], []⟩

noncomputable def b_law : Fn := ⟨["script"],
  [.asg "pool" (.list [(.int 0), (.int 0), (.slice (.bin .add (.var "script") (.list [(.int 0)])) .none (.int 40) .none)]),
   .asg "m" (.call "Areas" [(.call "Symbols" []), (.map (.tup [(.str "call"), (.int 0), (.var "live")]) "live" (.call "range" [(.int 4)]))]),
   .asg "state" (.list [(.neg (.int 1)), (.int 0), (.dict .i), (.dict .i)]),
   .asg "cells" (.dict .i),
   .asg "choices" (.list []),
   .asg "made" (.int 0),
   .for "step" (.call "range" [(.bin .add (.int 1) (.call "_law_draw" [(.var "pool"), (.int 18)]))])
    [.asg "deed" (.call "_law_draw" [(.var "pool"), (.int 16)]),
     .asg "chain" (.call "_law_chain" [(.var "state")]),
     .asg "places" (.meth (.var "m") "environments" []),
     .ite (.any [(.cmp .lt (.var "deed") (.int 2)), (.all [(.cmp .lt (.var "deed") (.int 4)), (.cmp .eq (.var "chain") (.list []))])])
      [.asg "width" (.call "_law_draw" [(.var "pool"), (.int 4)]),
       .asg "live" (.ite (.cmp .eq (.var "deed") (.int 0)) (.call "_law_draw" [(.var "pool"), (.bin .add (.var "width") (.int 1))]) (.var "width")),
       .asgItem (.item (.var "state") (.int 2)) (.var "step") (.list [(.item (.var "state") (.int 0)), (.item (.var "state") (.int 1)), (.bin .mul (.list [(.tup [(.str "unset")])]) (.var "width"))]),
       .expr (.meth (.var "m") "push_environment" [(.var "width")]),
       .asgItem (.var "state") (.int 0) (.var "step"),
       .asgItem (.var "state") (.int 1) (.bin .add (.var "live") (.int 1)),
       .asgAttr (.var "m") "cp" (.bin .add (.var "live") (.int 1))]
      [.ite (.cmp .eq (.var "deed") (.int 2))
        [.asg "live" (.call "_law_draw" [(.var "pool"), (.item (.var "state") (.int 1))]),
         .asgItem (.var "state") (.int 1) (.bin .add (.var "live") (.int 1)),
         .asgAttr (.var "m") "cp" (.bin .add (.var "live") (.int 1))]
        [.ite (.cmp .eq (.var "deed") (.int 3))
          [.asg "frame" (.item (.item (.var "state") (.int 2)) (.item (.var "state") (.int 0))),
           .asgItem (.var "state") (.int 0) (.item (.var "frame") (.int 0)),
           .asgItem (.var "state") (.int 1) (.item (.var "frame") (.int 1)),
           .expr (.meth (.var "m") "pop_environment" [])]
          [.ite (.cmp .lt (.var "deed") (.int 6))
            [.asg "row" (.list []),
             .for "place" (.call "range" [(.call "_law_draw" [(.var "pool"), (.int 4)])])
              [.asg "names" (.call "sorted" [(.item (.var "state") (.int 3))]),
               .expr (.meth (.var "row") "append" [(.ite (.cmp .ne (.var "names") (.list [])) (.item (.var "cells") (.item (.var "names") (.call "_law_draw" [(.var "pool"), (.call "len" [(.var "names")])]))) (.tup [(.glob "INT"), (.var "place")]))])],
             .expr (.meth (.var "m") "push_choice" [(.var "row"), (.bin .add (.int 100) (.var "step"))]),
             .expr (.meth (.var "choices") "append" [(.list [(.call "_law_copied" [(.var "state")]), (.var "row"), (.bin .add (.int 100) (.var "step")), (.call "len" [(.attr (.attr (.var "m") "store") "heap")]), (.call "len" [(.attr (.attr (.var "m") "store") "trail")])])])]
            [.ite (.cmp .lt (.var "deed") (.int 8))
              [.asgItem (.var "cells") (.var "made") (.meth (.attr (.var "m") "store") "new_var" []),
               .asgItem (.item (.var "state") (.int 3)) (.var "made") (.tup []),
               .aug "made" .add (.int 1)]
              [.ite (.cmp .lt (.var "deed") (.int 11))
                [.asgFilt "open_ones" "number" (.call "sorted" [(.item (.var "state") (.int 3))]) (.item (.item (.var "state") (.int 3)) (.var "number")) [],
                 .asg "spots" (.list []),
                 .for "at" (.call "range" [(.call "len" [(.var "chain")])])
                  [.for "slot" (.call "range" [(.call "len" [(.item (.item (.var "chain") (.var "at")) (.int 1))])])
                    [.ite (.cmp .eq (.item (.item (.item (.var "chain") (.var "at")) (.int 1)) (.var "slot")) (.tup [(.str "free")]))
                      [.expr (.meth (.var "spots") "append" [(.tup [(.var "at"), (.var "slot")])])]
                      []]],
                 .asg "which" (.call "_law_draw" [(.var "pool"), (.int 8)]),
                 .ite (.all [(.cmp .ne (.var "spots") (.list [])), (.any [(.cmp .lt (.var "which") (.int 4)), (.cmp .eq (.var "open_ones") (.list []))])])
                  [.asgTup ["at", "slot"] (.item (.var "spots") (.call "_law_draw" [(.var "pool"), (.call "len" [(.var "spots")])])),
                   .asg "cell" (.tup [(.glob "SRF"), (.bin .add (.bin .add (.item (.var "places") (.var "at")) (.int 2)) (.var "slot"))]),
                   .ite (.all [(.cmp .eq (.bin .mod (.var "which") (.int 2)) (.int 0)), (.cmp .ne (.var "open_ones") (.list []))])
                    [.asg "other" (.item (.var "open_ones") (.call "_law_draw" [(.var "pool"), (.call "len" [(.var "open_ones")])])),
                     .ite (.cmp .eq (.var "which") (.int 0))
                      [.expr (.meth (.attr (.var "m") "store") "bind_pair" [(.item (.var "cells") (.var "other")), (.var "cell")])]
                      [.expr (.meth (.attr (.var "m") "store") "bind_pair" [(.var "cell"), (.item (.var "cells") (.var "other"))])],
                     .asgItem (.item (.item (.item (.var "state") (.int 2)) (.item (.item (.var "chain") (.var "at")) (.int 0))) (.int 2)) (.var "slot") (.tup [(.str "h"), (.var "other")])]
                    [.expr (.meth (.attr (.var "m") "store") "bind" [(.var "cell"), (.tup [(.glob "INT"), (.bin .add (.int 50) (.var "step"))])]),
                     .asgItem (.item (.item (.item (.var "state") (.int 2)) (.item (.item (.var "chain") (.var "at")) (.int 0))) (.int 2)) (.var "slot") (.tup [(.str "i"), (.bin .add (.int 50) (.var "step"))])]]
                  [.ite (.cmp .ne (.var "open_ones") (.list []))
                    [.asg "one" (.call "_law_draw" [(.var "pool"), (.call "len" [(.var "open_ones")])]),
                     .asg "two" (.call "_law_draw" [(.var "pool"), (.call "len" [(.var "open_ones")])]),
                     .ite (.cmp .eq (.var "one") (.var "two"))
                      [.expr (.meth (.attr (.var "m") "store") "bind" [(.item (.var "cells") (.item (.var "open_ones") (.var "one"))), (.tup [(.glob "INT"), (.bin .add (.int 50) (.var "step"))])]),
                       .asgItem (.item (.var "state") (.int 3)) (.item (.var "open_ones") (.var "one")) (.tup [(.str "i"), (.bin .add (.int 50) (.var "step"))])]
                      [.expr (.meth (.attr (.var "m") "store") "bind_pair" [(.item (.var "cells") (.item (.var "open_ones") (.var "one"))), (.item (.var "cells") (.item (.var "open_ones") (.var "two")))]),
                       .asgItem (.item (.var "state") (.int 3)) (.item (.var "open_ones") (.call "max" [(.var "one"), (.var "two")])) (.tup [(.str "h"), (.item (.var "open_ones") (.call "min" [(.var "one"), (.var "two")]))])]]
                    []]]
                [.ite (.all [(.cmp .lt (.var "deed") (.int 13)), (.cmp .ne (.var "chain") (.list []))])
                  [.asgFilt "empty" "slot" (.call "range" [(.call "len" [(.item (.item (.var "chain") (.int 0)) (.int 1))])]) (.item (.item (.item (.var "chain") (.int 0)) (.int 1)) (.var "slot")) [(.str "unset")],
                   .ite (.cmp .ne (.var "empty") (.list []))
                    [.asg "slot" (.item (.var "empty") (.call "_law_draw" [(.var "pool"), (.call "len" [(.var "empty")])])),
                     .asg "kind" (.call "_law_draw" [(.var "pool"), (.int 3)]),
                     .asg "names" (.call "sorted" [(.item (.var "state") (.int 3))]),
                     .asg "value" (.tup [(.str "i"), (.bin .add (.int 50) (.var "step"))]),
                     .asg "cell" (.tup [(.glob "INT"), (.bin .add (.int 50) (.var "step"))]),
                     .ite (.all [(.cmp .eq (.var "kind") (.int 1)), (.cmp .ne (.var "names") (.list []))])
                      [.asg "value" (.tup [(.str "h"), (.item (.var "names") (.call "_law_draw" [(.var "pool"), (.call "len" [(.var "names")])]))]),
                       .asg "cell" (.item (.var "cells") (.item (.var "value") (.int 1)))]
                      [.ite (.cmp .eq (.var "kind") (.int 2))
                        [.asg "value" (.tup [(.str "free")]),
                         .asg "cell" (.tup [(.glob "SRF"), (.bin .add (.bin .add (.item (.var "places") (.int 0)) (.int 2)) (.var "slot"))])]
                        []],
                     .expr (.call "write" [(.var "m"), (.tup [(.str "y"), (.bin .add (.var "slot") (.int 1))]), (.var "cell")]),
                     .asgItem (.item (.item (.item (.var "state") (.int 2)) (.item (.item (.var "chain") (.int 0)) (.int 0))) (.int 2)) (.var "slot") (.var "value")]
                    []]
                  [.ite (.cmp .ne (.var "choices") (.list []))
                    [.asgTup ["saved", "row", "address", "length", "trailed"] (.item (.var "choices") (.bin .sub (.call "len" [(.var "choices")]) (.int 1))),
                     .ite (.cmp .eq (.var "deed") (.int 13))
                      [.asg "keep" (.call "_law_draw" [(.var "pool"), (.bin .add (.call "len" [(.var "choices")]) (.int 1))]),
                       .asg "marks" (.slice (.meth (.var "m") "choices" []) .none .none (.neg (.int 1))),
                       .expr (.meth (.var "m") "cut_back" [(.ite (.cmp .gt (.var "keep") (.int 0)) (.item (.var "marks") (.bin .sub (.var "keep") (.int 1))) (.neg (.int 1)))]),
                       .asg "choices" (.slice (.var "choices") .none (.var "keep") .none)]
                      [.ite (.all [(.cmp .eq (.var "deed") (.int 14)), (.cmp .eq (.call "_law_draw" [(.var "pool"), (.int 3)]) (.int 0))])
                        [.expr (.meth (.var "m") "set_alternative" [(.bin .add (.int 200) (.var "step"))]),
                         .asgItem (.item (.var "choices") (.bin .sub (.call "len" [(.var "choices")]) (.int 1))) (.int 2) (.bin .add (.int 200) (.var "step"))]
                        [.expr (.meth (.var "m") "restore_choice" []),
                         .asg "state" (.call "_law_copied" [(.var "saved")]),
                         .ite (.any [(.cmp .ne (.slice (.attr (.var "m") "x") (.int 1) (.bin .add (.call "len" [(.var "row")]) (.int 1)) .none) (.var "row")), (.cmp .ne (.call "len" [(.attr (.attr (.var "m") "store") "heap")]) (.var "length")), (.cmp .ne (.call "len" [(.attr (.attr (.var "m") "store") "trail")]) (.var "trailed"))])
                          [.ret (.bool false)]
                          [],
                         .ite (.cmp .eq (.var "deed") (.int 15))
                          [.expr (.meth (.var "m") "pop_choice" []),
                           .asg "choices" (.slice (.var "choices") .none (.neg (.int 1)) .none)]
                          []]]]
                    []]]]]]]],
     .ite (.not (.tru (.call "_law_same" [(.var "m"), (.var "state"), (.var "cells"), (.var "choices")])))
      [.ret (.bool false)]
      []],
   .ret (.bool true)], []⟩

noncomputable def progL : List (String × Fn) := [("fixed_atoms", b_fixed_atoms), ("fixed_functors", b_fixed_functors), ("Symbols.__init__", b_Symbols_init), ("Symbols.atom", b_Symbols_atom), ("Symbols.functor", b_Symbols_functor), ("Symbols.func", b_Symbols_func), ("Cells.__init__", b_Cells_init), ("Cells.push", b_Cells_push), ("Cells.new_var", b_Cells_new_var), ("Cells.trim", b_Cells_trim), ("Cells.deref", b_Cells_deref), ("Cells.bind", b_Cells_bind), ("Cells.bind_pair", b_Cells_bind_pair), ("Cells.mark", b_Cells_mark), ("Cells.undo_to", b_Cells_undo_to), ("Cells.stack_put", b_Cells_stack_put), ("Areas.__init__", b_Areas_init), ("Areas.reset", b_Areas_reset), ("Areas.set_x", b_Areas_set_x), ("Areas.top", b_Areas_top), ("Areas.push_environment", b_Areas_push_environment), ("Areas.pop_environment", b_Areas_pop_environment), ("Areas.in_chain", b_Areas_in_chain), ("Areas.set_choice", b_Areas_set_choice), ("Areas.push_choice", b_Areas_push_choice), ("Areas.set_alternative", b_Areas_set_alternative), ("Areas.choice_part", b_Areas_choice_part), ("Areas.restore_choice", b_Areas_restore_choice), ("Areas.pop_choice", b_Areas_pop_choice), ("Areas.cut_back", b_Areas_cut_back), ("Areas.choices", b_Areas_choices), ("Areas.environments", b_Areas_environments), ("slot_index", b_slot_index), ("write", b_write), ("_law_draw", b_law_draw), ("_law_copied", b_law_copied), ("_law_chain", b_law_chain), ("_law_end", b_law_end), ("_law_same", b_law_same)]
noncomputable def prog (f : String) : Option Fn := look progL f

end C187

namespace C187
open PySem PySem.W PyProof.Rows

theorem ofString_inj {a b : String} (h : Str.ofString a = Str.ofString b) : a = b := by
  rw [Str.ofString_eq_toList, Str.ofString_eq_toList] at h
  have h1 : (a.toList.map Char.toNat) = (b.toList.map Char.toNat) := by
    have := congrArg (fun s : Str => s.cps.toList) h
    simpa using this
  have h2 : a.toList = b.toList := by
    have inj : ∀ (l r : List Char), l.map Char.toNat = r.map Char.toNat → l = r := by
      intro l
      induction l with
      | nil => intro r h; cases r with
        | nil => rfl
        | cons _ _ => simp at h
      | cons c l ih => intro r h; cases r with
        | nil => simp at h
        | cons d r =>
          simp only [List.map_cons, List.cons.injEq] at h
          have hc : c = d := Char.ext (UInt32.toNat_inj.mp h.1)
          rw [hc, ih r h.2]
    exact inj _ _ h1
  exact String.toList_inj.mp h2

/-- pointwise -/
noncomputable def All2 {α β : Type} (R : α → β → Prop) : List α → List β → Prop
  | [], [] => True
  | x :: xs, y :: ys => R x y ∧ All2 R xs ys
  | _, _ => False
section
variable {α β : Type} {R S : α → β → Prop}
theorem All2.mono (hm : ∀ a b, R a b → S a b) : ∀ {l : List α} {r : List β}, All2 R l r → All2 S l r
  | [], [], _ => trivial
  | _ :: _, _ :: _, h => ⟨hm _ _ h.1, All2.mono hm h.2⟩
  | [], _ :: _, h => h.elim
  | _ :: _, [], h => h.elim
theorem All2.length : ∀ {l : List α} {r : List β}, All2 R l r → l.length = r.length
  | [], [], _ => rfl
  | _ :: _, _ :: _, h => congrArg (· + 1) (All2.length h.2)
  | [], _ :: _, h => h.elim
  | _ :: _, [], h => h.elim
theorem All2.append : ∀ {l l' : List α} {r r' : List β}, All2 R l r → All2 R l' r' → All2 R (l ++ l') (r ++ r')
  | [], _, [], _, _, h' => h'
  | _ :: _, _, _ :: _, _, h, h' => ⟨h.1, All2.append h.2 h'⟩
  | [], _, _ :: _, _, h, _ => h.elim
  | _ :: _, _, [], _, h, _ => h.elim
theorem All2.get : ∀ {l : List α} {r : List β} {i : Nat} {a : α}, All2 R l r → l[i]? = some a → ∃ b, r[i]? = some b ∧ R a b
  | [], [], _, _, _, h => by simp at h
  | _ :: _, y :: _, 0, _, h, e => by simp only [List.getElem?_cons_zero, Option.some.injEq] at e; exact ⟨y, rfl, e ▸ h.1⟩
  | _ :: _, _ :: _, i + 1, _, h, e => by simp only [List.getElem?_cons_succ] at e ⊢; exact All2.get h.2 e
  | [], _ :: _, _, _, h, _ => h.elim
  | _ :: _, [], _, _, h, _ => h.elim
theorem All2.get' : ∀ {l : List α} {r : List β} {i : Nat} {b : β}, All2 R l r → r[i]? = some b → ∃ a, l[i]? = some a ∧ R a b
  | [], [], _, _, _, h => by simp at h
  | x :: _, _ :: _, 0, _, h, e => by simp only [List.getElem?_cons_zero, Option.some.injEq] at e; exact ⟨x, rfl, e ▸ h.1⟩
  | _ :: _, _ :: _, i + 1, _, h, e => by simp only [List.getElem?_cons_succ] at e ⊢; exact All2.get' h.2 e
  | [], _ :: _, _, _, h, _ => h.elim
  | _ :: _, [], _, _, h, _ => h.elim
theorem All2.set : ∀ {l : List α} {r : List β} {a : α} {b : β} (i : Nat), All2 R l r → R a b → All2 R (l.set i a) (r.set i b)
  | [], [], _, _, _, _, _ => trivial
  | _ :: _, _ :: _, _, _, 0, h, e => ⟨e, h.2⟩
  | _ :: _, _ :: _, _, _, i + 1, h, e => ⟨h.1, All2.set i h.2 e⟩
  | [], _ :: _, _, _, _, h, _ => h.elim
  | _ :: _, [], _, _, _, h, _ => h.elim
theorem All2.take : ∀ {l : List α} {r : List β} (i : Nat), All2 R l r → All2 R (l.take i) (r.take i)
  | [], [], _, _ => by simp [All2]
  | _ :: _, _ :: _, 0, _ => trivial
  | _ :: _, _ :: _, i + 1, h => ⟨h.1, All2.take i h.2⟩
  | [], _ :: _, _, h => h.elim
  | _ :: _, [], _, h => h.elim
theorem All2.drop : ∀ {l : List α} {r : List β} (i : Nat), All2 R l r → All2 R (l.drop i) (r.drop i)
  | [], [], _, _ => by simp [All2]
  | _ :: _, _ :: _, 0, h => h
  | _ :: _, _ :: _, i + 1, h => All2.drop i h.2
  | [], _ :: _, _, h => h.elim
  | _ :: _, [], _, h => h.elim
theorem All2.reverse : ∀ {l : List α} {r : List β}, All2 R l r → All2 R l.reverse r.reverse
  | [], [], _ => trivial
  | _ :: _, _ :: _, h => by
    rw [List.reverse_cons, List.reverse_cons]
    exact (All2.reverse h.2).append ⟨h.1, trivial⟩
  | [], _ :: _, h => h.elim
  | _ :: _, [], h => h.elim
theorem All2.dropLast {l : List α} {r : List β} (h : All2 R l r) : All2 R l.dropLast r.dropLast := by
  rw [List.dropLast_eq_take, List.dropLast_eq_take, h.length]; exact h.take _
theorem All2.last {l : List α} {r : List β} {a : α} (h : All2 R l r) (e : l.getLast? = some a) : ∃ b, r.getLast? = some b ∧ R a b := by
  rw [List.getLast?_eq_getElem?] at e ⊢
  rw [← h.length]
  exact h.get e
theorem All2.replicate {a : α} {b : β} (h : R a b) : ∀ n, All2 R (List.replicate n a) (List.replicate n b)
  | 0 => trivial
  | n + 1 => by rw [List.replicate_succ, List.replicate_succ]; exact ⟨h, All2.replicate h n⟩
end

mutual
noncomputable def RepV (α : Nat → Addr) (n : Nat) (h : Heap) : V → Value → Prop
  | .none, v => v = .none
  | .bool b, v => v = .bool b
  | .int i, v => ∃ t, v = .int i t
  | .str s, v => PyData.strOk s = true ∧ ∃ t, v = .str s t
  | .tup l, v => ∃ a o vs k, v = .ref a ∧ h.get? a = some o ∧ o.cls = .type "tuple" ∧ o.data = .seq vs k ∧ l.length ≤ big ∧ RepVs α n h l vs.toList
  | .loc l, v => l < n ∧ v = .ref (α (2 * l))
  | .rng a b, v => ∃ r t u w, v = .ref r ∧ IsRange h r a b 1 t u w
noncomputable def RepVs (α : Nat → Addr) (n : Nat) (h : Heap) : List V → List Value → Prop
  | [], [] => True
  | x :: xs, y :: ys => RepV α n h x y ∧ RepVs α n h xs ys
  | _, _ => False
end
theorem repVs_iff {α : Nat → Addr} {n : Nat} {h : Heap} : ∀ {l : List V} {r : List Value}, RepVs α n h l r ↔ All2 (RepV α n h) l r
  | [], [] => by simp [RepVs, All2]
  | _ :: _, _ :: _ => by simp only [RepVs, All2]; rw [repVs_iff]
  | [], _ :: _ => by simp [RepVs, All2]
  | _ :: _, [] => by simp [RepVs, All2]

/-- tuples and ranges: they never turn -/
noncomputable def Imm (o : Obj) : Prop := (o.cls = .type "tuple" ∧ ∃ vs k, o.data = .seq vs k) ∨ (o.cls = .type "range" ∧ ∃ vs, o.data = .fields vs)
structure Ext (α : Nat → Addr) (n : Nat) (h : Heap) (α' : Nat → Addr) (n' : Nat) (h' : Heap) : Prop where
  le : n ≤ n'
  al : ∀ i, i < 2 * n → α' i = α i
  imm : ∀ a o, h.get? a = some o → Imm o → h'.get? a = some o
theorem Ext.refl (α : Nat → Addr) (n : Nat) (h : Heap) : Ext α n h α n h := ⟨Nat.le_refl _, fun _ _ => rfl, fun _ _ e _ => e⟩
theorem Ext.trans {α α' α'' : Nat → Addr} {n n' n'' : Nat} {h h' h'' : Heap} (x : Ext α n h α' n' h') (y : Ext α' n' h' α'' n'' h'') : Ext α n h α'' n'' h'' :=
  ⟨Nat.le_trans x.le y.le, fun i hi => (y.al i (Nat.lt_of_lt_of_le hi (Nat.mul_le_mul_left 2 x.le))).trans (x.al i hi), fun a o e c => y.imm a o (x.imm a o e c) c⟩

mutual
theorem RepV.mono {α α' : Nat → Addr} {n n' : Nat} {h h' : Heap} (X : Ext α n h α' n' h') : ∀ {V : V} {v : Value}, RepV α n h V v → RepV α' n' h' V v
  | .none, _, r => r
  | .bool _, _, r => r
  | .int _, _, r => r
  | .str _, _, r => r
  | .tup _, _, r => by
    obtain ⟨a, o, vs, k, rfl, ho, hc, hd, hb, r⟩ := r
    exact ⟨a, o, vs, k, rfl, X.imm a o ho (.inl ⟨hc, _, _, hd⟩), hc, hd, hb, RepVs.mono X r⟩
  | .loc l, _, r => by
    exact ⟨Nat.lt_of_lt_of_le r.1 X.le, by rw [r.2, X.al _ (Nat.mul_lt_mul_of_pos_left r.1 (by decide))]⟩
  | .rng _ _, _, r => by
    obtain ⟨a, t, u, w, rfl, hr⟩ := r
    exact ⟨a, t, u, w, rfl, X.imm _ _ hr (.inr ⟨rfl, _, rfl⟩)⟩
theorem RepVs.mono {α α' : Nat → Addr} {n n' : Nat} {h h' : Heap} (X : Ext α n h α' n' h') : ∀ {l : List V} {r : List Value}, RepVs α n h l r → RepVs α' n' h' l r
  | [], [], r => by simp [RepVs]
  | _ :: _, _ :: _, r => by simp only [RepVs] at r ⊢; exact ⟨RepV.mono X r.1, RepVs.mono X r.2⟩
  | [], _ :: _, r => by simp [RepVs] at r
  | _ :: _, [], r => by simp [RepVs] at r
end

/-- what stands fixed: the program, the world, the written part, the addresses of the classes and functions -/
structure Cx where
  prog : Program
  w : World
  K : Frag
  cls : String → Option Addr
  fn : String → Option Addr
  pins : List (Addr × Obj)

noncomputable def RepO (c : Cx) (α : Nat → Addr) (n : Nat) (h : Heap) (l : Nat) : O → Prop
  | .list vs => ∃ its k, h.get? (α (2 * l)) = some (listOf its k) ∧ All2 (RepV α n h) vs its.toList ∧ vs.length ≤ big
  | .dI es => ∃ kvs, h.DictAt (intKind c.prog c.w) (α (2 * l)) kvs kvs.length ∧ All2 (fun p q => p.1 = q.1 ∧ RepV α n h p.2 q.2) es kvs ∧ es.length ≤ big
  | .dS es => ∃ kvs, h.DictOf (strKind c.prog c.w) (α (2 * l)) kvs ∧ All2 (fun p q => p.1 = q.1 ∧ RepV α n h p.2 q.2) es kvs ∧ es.length ≤ big
  | .dP es => ∃ xs, h.DictOfH (tupleKind (intKind c.prog c.w)) (α (2 * l)) xs ∧ All2 (fun p (x : List Int × Addr × Value) => p.1 = x.1 ∧ RepV α n h p.2 x.2.2) es xs ∧ es.length ≤ big
  | .inst cn fs => ∃ C ds k, c.cls cn = some C ∧ h.get? (α (2 * l)) = some (instObj C (α (2 * l + 1))) ∧ h.get? (α (2 * l + 1)) = some (dictOf ds k) ∧
      All2 (fun (p : String × V) (e : DictEntry) => (∃ t, e.key = .str (Str.ofString p.1) t) ∧ RepV α n h p.2 e.val) fs ds
  | .pad => True

/-- the indices that bear an object -/
noncomputable def Live (σ : Sto) (i : Nat) : Prop := ∃ o, σ[i / 2]? = some o ∧ o ≠ .pad ∧ (i % 2 = 0 ∨ ∃ c fs, o = .inst c fs)

theorem Live.lt {σ : Sto} {i : Nat} (h : Live σ i) : i < 2 * σ.length := by
  obtain ⟨o, e, _⟩ := h
  have := (List.getElem?_eq_some_iff.mp e).1
  lia

/-- a variable's value -/
noncomputable def VarAt (h : Heap) (env : PySem.Env) (m : Str → Option Value) (x : Str) (v : Value) : Prop :=
  (env.kindOf x = some .local ∧ m x = some v) ∨ (env.kindOf x = some .cell ∧ ∃ c, env.cells.lookup x = some c ∧ h.IsCell c (some v))

structure Sim (c : Cx) (h₀ : Heap) (env : PySem.Env) (α : Nat → Addr) (ρ : Env) (σ : Sto) (h : Heap) : Prop where
  fr : ∃ m, Fr h₀ env.locals h m ∧ ∀ x v, ρ x = some v → ∃ u, VarAt h env m (Str.ofString x) u ∧ RepV α σ.length h v u
  objs : ∀ l o, σ[l]? = some o → RepO c α σ.length h l o
  own : ∀ i, Live σ i → h₀.get? (α i) = none ∧ α i ≠ env.locals ∧ ∀ x k, env.cells.lookup x = some k → k ≠ α i
  inj : ∀ i j, Live σ i → Live σ j → α i = α j → i = j
  cell : ∀ x k, env.cells.lookup x = some k → h₀.get? k = none ∧ k ≠ env.locals ∧ ∃ v, h.IsCell k v
  pin : ∀ p ∈ c.pins, h.get? p.1 = some p.2 ∧ p.1 ≠ env.locals ∧ (∀ x k, env.cells.lookup x = some k → k ≠ p.1) ∧ ∀ i, Live σ i → α i ≠ p.1

noncomputable def SameS (s s' : Shared) : Prop := s'.gens = s.gens ∧ s'.drawn = s.drawn ∧ s'.os = s.os
theorem SameS.refl (s : Shared) : SameS s s := ⟨rfl, rfl, rfl⟩
theorem SameS.trans {s s' s'' : Shared} (x : SameS s s') (y : SameS s' s'') : SameS s s'' := ⟨y.1.trans x.1, y.2.1.trans x.2.1, y.2.2.trans x.2.2⟩

end C187

namespace C187
open PySem PySem.W PyProof.Rows

variable {c : Cx} {h₀ h h' : Heap} {env : PySem.Env} {α α' : Nat → Addr} {ρ ρ' : Env} {σ σ' : Sto}

theorem Ext.of_keep {n : Nat} (hk : ∀ b o, h.get? b = some o → h'.get? b = some o) : Ext α n h α n h' := ⟨Nat.le_refl _, fun _ _ => rfl, fun a o e _ => hk a o e⟩

theorem DictOf_tr {prog : Program} {w : World} {κ : Type} [DecidableEq κ] {knd : KeyKind prog w κ} {a : Addr} {kvs : List (κ × Value)} (x : h.DictOf knd a kvs) (hk : ∀ o, h.get? a = some o → h'.get? a = some o) : h'.DictOf knd a kvs :=
  let ⟨o, es, ep, ho, r⟩ := x; ⟨o, es, ep, hk _ ho, r⟩

theorem DictAt_tr {prog : Program} {w : World} {κ : Type} [DecidableEq κ] {knd : KeyKind prog w κ} {a : Addr} {kvs : List (κ × Value)} {ep : Nat} (x : h.DictAt knd a kvs ep) (hk : ∀ o, h.get? a = some o → h'.get? a = some o) : h'.DictAt knd a kvs ep :=
  let ⟨o, es, ho, r⟩ := x; ⟨o, es, hk _ ho, r⟩

theorem IsTupleKey_tr {prog : Program} {w : World} {κ : Type} [DecidableEq κ] {knd : KeyKind prog w κ} {a : Addr} {ks : List κ} (x : IsTupleKey knd h ks a) (hi : ∀ a o, h.get? a = some o → Imm o → h'.get? a = some o) : IsTupleKey knd h' ks a :=
  let ⟨o, items, n, ho, hc, hd, r⟩ := x; ⟨o, items, n, hi _ _ ho (.inl ⟨hc, _, _, hd⟩), hc, hd, r⟩

theorem DictOfH_tr {prog : Program} {w : World} {κ : Type} [DecidableEq κ] {knd : KeyKind prog w κ} {a : Addr} {xs : List (List κ × Addr × Value)} (x : h.DictOfH (tupleKind knd) a xs) (hk : ∀ o, h.get? a = some o → h'.get? a = some o)
    (hi : ∀ a o, h.get? a = some o → Imm o → h'.get? a = some o) : h'.DictOfH (tupleKind knd) a xs :=
  let ⟨o, es, ep, ho, h1, h2, h3, h4, h5⟩ := x; ⟨o, es, ep, hk _ ho, h1, h2, h3, fun x hx => IsTupleKey_tr (h4 x hx) hi, h5⟩

theorem inst_pad {o : O} (h : ∃ cn fs, o = .inst cn fs) : o ≠ .pad := by
  obtain ⟨_, _, rfl⟩ := h
  simp
/-- an object stays what it is where its addresses keep what they hold -/
theorem RepO.tr {n n' l : Nat} {o : O} (X : Ext α n h α' n' h') (hl : l < n) (h1 : o ≠ .pad → ∀ ob, h.get? (α (2 * l)) = some ob → h'.get? (α (2 * l)) = some ob)
    (h2 : (∃ cn fs, o = .inst cn fs) → ∀ ob, h.get? (α (2 * l + 1)) = some ob → h'.get? (α (2 * l + 1)) = some ob) (r : RepO c α n h l o) : RepO c α' n' h' l o := by
  have e1 : α' (2 * l) = α (2 * l) := X.al _ (by lia)
  have e2 : α' (2 * l + 1) = α (2 * l + 1) := X.al _ (by lia)
  cases o with
  | pad => trivial
  | list vs =>
    have h1 := h1 (by simp)
    obtain ⟨its, k, ho, ra, hb⟩ := r
    exact ⟨its, k, by rw [e1]; exact h1 _ ho, ra.mono fun _ _ x => x.mono X, hb⟩
  | dI es =>
    have h1 := h1 (by simp)
    obtain ⟨kvs, ho, ra, hb⟩ := r
    exact ⟨kvs, by rw [e1]; exact DictAt_tr ho h1, ra.mono fun _ _ x => ⟨x.1, x.2.mono X⟩, hb⟩
  | dS es =>
    have h1 := h1 (by simp)
    obtain ⟨kvs, ho, ra, hb⟩ := r
    exact ⟨kvs, by rw [e1]; exact DictOf_tr ho h1, ra.mono fun _ _ x => ⟨x.1, x.2.mono X⟩, hb⟩
  | dP es =>
    have h1 := h1 (by simp)
    obtain ⟨kvs, ho, ra, hb⟩ := r
    exact ⟨kvs, by rw [e1]; exact DictOfH_tr ho h1 X.imm, ra.mono fun _ _ x => ⟨x.1, x.2.mono X⟩, hb⟩
  | inst cn fs =>
    have h1 := h1 (by simp)
    obtain ⟨C, ds, k, hc, ho, hd, ra⟩ := r
    exact ⟨C, ds, k, hc, by rw [e1, e2]; exact h1 _ ho, by rw [e2]; exact h2 ⟨_, _, rfl⟩ _ hd, ra.mono fun _ _ x => ⟨x.1, x.2.mono X⟩⟩

theorem VarAt.tr {m : Str → Option Value} {x : Str} {v : Value} (r : VarAt h env m x v) (hk : ∀ y k, env.cells.lookup y = some k → ∀ o, h.get? k = some o → h'.get? k = some o) : VarAt h' env m x v := by
  rcases r with r | ⟨e, k, hk', o, ho, hd⟩
  · exact .inl r
  · exact .inr ⟨e, k, hk', o, hk _ _ hk' _ ho, hd⟩

theorem IsCell_tr {k : Addr} {v : Option Value} (r : h.IsCell k v) (hk : ∀ o, h.get? k = some o → h'.get? k = some o) : h'.IsCell k v := let ⟨o, ho, hd⟩ := r; ⟨o, hk _ ho, hd⟩

theorem fr_same {L : Addr} {m m' : Str → Option Value} (F : Fr h₀ L h m) (F' : Fr h₀ L h m') : m = m' := funext fun x => F.ns.agree F'.ns x

/-- the frame's own object is no tuple, no range -/
theorem frame_old {L : Addr} {m : Str → Option Value} (F : Fr h₀ L h m) {o : Obj} (e : h.get? L = some o) : ¬ Imm o := by
  obtain ⟨oL, es, ep, hL, hd, _⟩ := F.ns
  rw [hL] at e; cases e
  rintro (⟨_, _, _, i⟩ | ⟨_, _, i⟩) <;> rw [hd] at i <;> cases i

theorem Ext.of_keepB {n : Nat} {L : Addr} {m : Str → Option Value} (F : Fr h₀ L h m) (hk : ∀ b o, b ≠ L → h.get? b = some o → h'.get? b = some o) : Ext α n h α n h' :=
  ⟨Nat.le_refl _, fun _ _ => rfl, fun a o e i => hk a o (by rintro rfl; exact frame_old F e i) e⟩

/-- all that stood stands (the frame may have been written anew, its names as they were) -/
theorem Sim.grow (S : Sim c h₀ env α ρ σ h) {m : Str → Option Value} (F : Fr h₀ env.locals h m) (F' : Fr h₀ env.locals h' m)
    (hk : ∀ b o, b ≠ env.locals → h.get? b = some o → h'.get? b = some o) : Sim c h₀ env α ρ σ h' ∧ Ext α σ.length h α σ.length h' := by
  have X : Ext α σ.length h α σ.length h' := Ext.of_keepB F hk
  have hcell : ∀ y k, env.cells.lookup y = some k → ∀ o, h.get? k = some o → h'.get? k = some o := fun y k e o ho => hk k o (S.cell y k e).2.1 ho
  refine ⟨⟨?_, fun l o e => ?_, S.own, S.inj, fun x k e => let ⟨a, b, v, d⟩ := S.cell x k e; ⟨a, b, v, IsCell_tr d (hcell x k e)⟩, fun p hp => let ⟨a, b, d, e⟩ := S.pin p hp; ⟨hk _ _ b a, b, d, e⟩⟩, X⟩
  · obtain ⟨m₁, F₁, hv⟩ := S.fr
    obtain rfl := fr_same F₁ F
    refine ⟨m₁, F', fun x v e => ?_⟩
    obtain ⟨u, hu, r⟩ := hv x v e
    exact ⟨u, hu.tr hcell, r.mono X⟩
  · refine (S.objs l o e).tr X (List.getElem?_eq_some_iff.mp e).1 (fun hnp o₁ h₁ => hk _ _ (S.own _ ⟨o, by rw [show 2 * l / 2 = l by lia]; exact e, hnp, .inl (by lia)⟩).2.1 h₁) (fun hx o₁ h₁ => hk _ _ (S.own _ ⟨o, by rw [show (2 * l + 1) / 2 = l by lia]; exact e, inst_pad hx, .inr hx⟩).2.1 h₁)

theorem Sim.grow0 (S : Sim c h₀ env α ρ σ h) (hk : ∀ b o, h.get? b = some o → h'.get? b = some o) : Sim c h₀ env α ρ σ h' ∧ Ext α σ.length h α σ.length h' :=
  let ⟨_, F, _⟩ := S.fr
  S.grow F (F.after hk) fun b o _ => hk b o


/-- the object at a live index is no tuple, no range -/
theorem Sim.old (S : Sim c h₀ env α ρ σ h) {i : Nat} (hi : Live σ i) : ∃ o, h.get? (α i) = some o ∧ ¬ Imm o := by
  obtain ⟨o, e, hnp, hp⟩ := hi
  have r := S.objs _ _ e
  have nd : ∀ ob : Obj, ob.ExactDict → ¬ Imm ob := fun ob x i => by
    rcases i with ⟨i, _⟩ | ⟨i, _⟩ <;> · rw [x.1] at i; simp at i
  have hi2 : i = 2 * (i / 2) ∨ i = 2 * (i / 2) + 1 := by lia
  rcases hi2 with h2 | h2
  · rw [h2]
    cases o with
    | pad => exact absurd rfl hnp
    | list vs => obtain ⟨its, k, ho, _⟩ := r; exact ⟨_, ho, by rintro (⟨i, _⟩ | ⟨i, _⟩) <;> simp at i⟩
    | dI es => obtain ⟨kvs, ⟨o, es, ho, hx, _⟩, _⟩ := r; exact ⟨_, ho, nd _ hx⟩
    | dS es => obtain ⟨kvs, ⟨o, es, ep, ho, hx, _⟩, _⟩ := r; exact ⟨_, ho, nd _ hx⟩
    | dP es => obtain ⟨kvs, ⟨o, es, ep, ho, hx, _⟩, _⟩ := r; exact ⟨_, ho, nd _ hx⟩
    | inst cn fs => obtain ⟨C, ds, k, hc, ho, _⟩ := r; exact ⟨_, ho, by rintro (⟨i, _⟩ | ⟨i, _⟩) <;> simp at i⟩
  · rcases hp with hp | ⟨cn, fs, rfl⟩
    · lia
    · rw [h2]
      obtain ⟨C, ds, k, hc, ho, hd, _⟩ := r; exact ⟨_, hd, by rintro (⟨i, _⟩ | ⟨i, _⟩) <;> simp at i⟩

theorem Live.set {l i : Nat} {o o' : O} (hl : σ[l]? = some o) (hsame : (∃ cn fs, o' = .inst cn fs) ↔ ∃ cn fs, o = .inst cn fs) (hpad : o' ≠ .pad ↔ o ≠ .pad) : Live (σ.set l o') i ↔ Live σ i := by
  unfold Live
  by_cases e : i / 2 = l
  · subst e
    have hlt := (List.getElem?_eq_some_iff.mp hl).1
    rw [List.getElem?_set_self hlt]
    constructor
    · rintro ⟨o₁, e, hnp, hp⟩
      cases e
      exact ⟨o, hl, hpad.mp hnp, hp.imp_right fun x => hsame.mp x⟩
    · rintro ⟨o₁, e, hnp, hp⟩
      rw [hl] at e; cases e
      exact ⟨o', rfl, hpad.mpr hnp, hp.imp_right fun x => hsame.mpr x⟩
  · rw [List.getElem?_set_ne (fun h => e h.symm)]

/-- one object has turned -/
theorem Sim.upd (S : Sim c h₀ env α ρ σ h) {l i : Nat} {o o' : O} (hl : σ[l]? = some o) (hi : i / 2 = l) (hv : Live σ i)
    (hsame : (∃ cn fs, o' = .inst cn fs) ↔ ∃ cn fs, o = .inst cn fs)
    {m : Str → Option Value} (F : Fr h₀ env.locals h m) (F' : Fr h₀ env.locals h' m)
    (hk : ∀ b ob, b ≠ α i → b ≠ env.locals → h.get? b = some ob → h'.get? b = some ob)
    (hr : Ext α σ.length h α σ.length h' → RepO c α σ.length h' l o') (hpad : o' ≠ .pad ↔ o ≠ .pad := by simp) : Sim c h₀ env α ρ (σ.set l o') h' ∧ Ext α σ.length h α (σ.set l o').length h' := by
  obtain ⟨m₀, F₀, hm₀⟩ := S.fr
  obtain rfl := fr_same F₀ F
  have X : Ext α σ.length h α σ.length h' := by
    refine ⟨Nat.le_refl _, fun _ _ => rfl, fun a ob e hc => ?_⟩
    obtain ⟨oo, ho, n1⟩ := S.old hv
    exact hk a ob (by rintro rfl; rw [e] at ho; cases ho; exact n1 hc) (by rintro rfl; exact frame_old F₀ e hc) e
  have hcell : ∀ y k, env.cells.lookup y = some k → ∀ o, h.get? k = some o → h'.get? k = some o := fun y k e o ho => hk k o ((S.own i hv).2.2 y k e) (S.cell y k e).2.1 ho
  refine ⟨⟨⟨m₀, F', fun x v e => ?_⟩, fun j ob e => ?_, fun j hj => S.own j ((Live.set hl hsame hpad).mp hj), fun j k hj hk => S.inj j k ((Live.set hl hsame hpad).mp hj) ((Live.set hl hsame hpad).mp hk), fun x k e => ?_, fun p hp => let ⟨a, b, d, e⟩ := S.pin p hp; ⟨hk _ _ (fun q => e i hv q.symm) b a, b, d, fun j hj => e j ((Live.set hl hsame hpad).mp hj)⟩⟩, by rw [List.length_set]; exact X⟩
  · obtain ⟨u, hu, r⟩ := hm₀ x v e
    rw [List.length_set]
    exact ⟨u, hu.tr hcell, r.mono X⟩
  · rw [List.length_set]
    by_cases hj : j = l
    · subst hj
      rw [List.getElem?_set_self (List.getElem?_eq_some_iff.mp hl).1] at e
      cases e
      exact hr X
    · rw [List.getElem?_set_ne (fun x => hj x.symm)] at e
      have hlt := (List.getElem?_eq_some_iff.mp e).1
      have l1 : ob ≠ .pad → Live σ (2 * j) := fun hnp => ⟨ob, by rw [show 2 * j / 2 = j by lia]; exact e, hnp, .inl (by lia)⟩
      refine (S.objs j ob e).tr X hlt (fun hnp o₁ h₁ => hk _ _ (fun q => hj (by have := S.inj _ _ (l1 hnp) hv q; lia)) (S.own _ (l1 hnp)).2.1 h₁) (fun hx o₁ h₁ => ?_)
      have l2 : Live σ (2 * j + 1) := ⟨ob, by rw [show (2 * j + 1) / 2 = j by lia]; exact e, inst_pad hx, .inr hx⟩
      exact hk _ _ (fun q => hj (by have := S.inj _ _ l2 hv q; lia)) (S.own _ l2).2.1 h₁
  · obtain ⟨a, b, v, d⟩ := S.cell x k e
    exact ⟨a, b, v, IsCell_tr d (hcell x k e)⟩

/-- a new object -/
theorem Sim.alloc (S : Sim c h₀ env α ρ σ h) {a a' : Addr} {o : O} {m : Str → Option Value} (F : Fr h₀ env.locals h m) (F' : Fr h₀ env.locals h' m) (hk : ∀ b ob, b ≠ env.locals → h.get? b = some ob → h'.get? b = some ob) (ha : h.get? a = none) (ha' : h.get? a' = none) (hne : a ≠ a')
    (hr : ∀ α', (∀ i, i < 2 * σ.length → α' i = α i) → α' (2 * σ.length) = a → α' (2 * σ.length + 1) = a' → Ext α σ.length h α' (σ.length + 1) h' → RepO c α' (σ.length + 1) h' σ.length o) :
    ∃ α', Sim c h₀ env α' ρ (σ ++ [o]) h' ∧ Ext α σ.length h α' (σ ++ [o]).length h' ∧ α' (2 * σ.length) = a := by
  let α' : Nat → Addr := fun i => if i = 2 * σ.length then a else if i = 2 * σ.length + 1 then a' else α i
  have e0 : α' (2 * σ.length) = a := by simp [α']
  have e1 : α' (2 * σ.length + 1) = a' := by simp [α']
  have e2 : ∀ i, i < 2 * σ.length → α' i = α i := fun i hi => by
    show (if i = 2 * σ.length then a else if i = 2 * σ.length + 1 then a' else α i) = α i
    rw [if_neg (by lia), if_neg (by lia)]
  have X : Ext α σ.length h α' (σ.length + 1) h' := ⟨Nat.le_succ _, e2, fun b ob e i => hk b ob (by rintro rfl; exact frame_old F e i) e⟩
  have hlen : (σ ++ [o]).length = σ.length + 1 := by simp
  have live : ∀ i, Live (σ ++ [o]) i → Live σ i ∨ (i = 2 * σ.length ∨ i = 2 * σ.length + 1) := by
    rintro i ⟨ob, e, hp⟩
    by_cases hi : i / 2 < σ.length
    · rw [List.getElem?_append_left hi] at e; exact .inl ⟨ob, e, hp⟩
    · have := (List.getElem?_eq_some_iff.mp e).1
      rw [hlen] at this
      exact .inr (by lia)
  have hnone : ∀ i, Live σ i → h.get? (α i) ≠ none := fun i hi => by
    obtain ⟨oo, ho, _⟩ := S.old hi
    rw [ho]; simp
  obtain ⟨m₀, F₀, hm₀⟩ := S.fr
  obtain rfl := fr_same F₀ F
  have G := (S.grow F F' hk).1
  have hcell : ∀ y k, env.cells.lookup y = some k → ∀ o, h.get? k = some o → h'.get? k = some o := fun y k e o ho => hk k o (S.cell y k e).2.1 ho
  have fresh : ∀ b, h.get? b = none → h₀.get? b = none ∧ b ≠ env.locals ∧ ∀ x k, env.cells.lookup x = some k → k ≠ b := fun b hb => by
    refine ⟨?_, ?_, ?_⟩
    · cases q : h₀.get? b with
      | none => rfl
      | some ob => rw [F₀.keep b ob q] at hb; cases hb
    · rintro rfl
      obtain ⟨oL, es, ep, hL, _⟩ := F₀.ns
      rw [hL] at hb; cases hb
    · rintro x k e rfl
      obtain ⟨_, _, v, ob, ho, _⟩ := S.cell x _ e
      rw [ho] at hb; cases hb
  have ne1 : ∀ i, Live σ i → α i ≠ a := fun i hi e => hnone i hi (e ▸ ha)
  have ne2 : ∀ i, Live σ i → α i ≠ a' := fun i hi e => hnone i hi (e ▸ ha')
  refine ⟨α', ⟨⟨m₀, F', fun x v e => ?_⟩, fun l ob e => ?_, fun i hi => ?_, fun i j hi hj e => ?_, G.cell, fun p hp => ?_⟩, by rw [hlen]; exact X, e0⟩
  · obtain ⟨u, hu, r⟩ := hm₀ x v e
    rw [hlen]
    exact ⟨u, hu.tr hcell, r.mono X⟩
  · rw [hlen]
    by_cases hl : l < σ.length
    · rw [List.getElem?_append_left hl] at e
      refine (S.objs l ob e).tr X hl (fun hnp o₁ h₁ => hk _ _ (S.own _ ⟨ob, by rw [show 2 * l / 2 = l by lia]; exact e, hnp, .inl (by lia)⟩).2.1 h₁) (fun hx o₁ h₁ => hk _ _ (S.own _ ⟨ob, by rw [show (2 * l + 1) / 2 = l by lia]; exact e, inst_pad hx, .inr hx⟩).2.1 h₁)
    · have := (List.getElem?_eq_some_iff.mp e).1
      rw [hlen] at this
      have hl : l = σ.length := by lia
      subst hl
      rw [List.getElem?_append_right (Nat.le_refl _)] at e
      simp at e
      subst e
      exact hr α' e2 e0 e1 X
  · rcases live i hi with hi | rfl | rfl
    · rw [e2 i hi.lt]; exact S.own i hi
    · rw [e0]; exact fresh a ha
    · rw [e1]; exact fresh a' ha'
  · rcases live i hi with hi | rfl | rfl <;> rcases live j hj with hj | rfl | rfl
    · rw [e2 i hi.lt, e2 j hj.lt] at e; exact S.inj i j hi hj e
    · rw [e2 i hi.lt, e0] at e; exact absurd e (ne1 i hi)
    · rw [e2 i hi.lt, e1] at e; exact absurd e (ne2 i hi)
    · rw [e2 j hj.lt, e0] at e; exact absurd e.symm (ne1 j hj)
    · rfl
    · rw [e0, e1] at e; exact absurd e hne
    · rw [e2 j hj.lt, e1] at e; exact absurd e.symm (ne2 j hj)
    · rw [e0, e1] at e; exact absurd e.symm hne
    · rfl
  · obtain ⟨q1, q2, q3, q4⟩ := S.pin p hp
    refine ⟨hk _ _ q2 q1, q2, q3, fun i hi => ?_⟩
    rcases live i hi with hi | rfl | rfl
    · rw [e2 i hi.lt]; exact q4 i hi
    · rw [e0]; rintro rfl; rw [ha] at q1; cases q1
    · rw [e1]; rintro rfl; rw [ha'] at q1; cases q1

/-- a local name has been bound -/
theorem Sim.setLocal (S : Sim c h₀ env α ρ σ h) {x : String} {V : V} {v : Value} (hx : env.kindOf (Str.ofString x) = some .local)
    (hs : Heap.SameBut env.locals h h') (hn : ∀ m, h.Ns env.locals m → h'.Ns env.locals (fun y => if y = Str.ofString x then some v else m y))
    (r : RepV α σ.length h V v) : Sim c h₀ env α (ρ.set x V) σ h' ∧ Ext α σ.length h α σ.length h' := by
  obtain ⟨m₀, F₀, hm₀⟩ := S.fr
  have hk : ∀ b ob, b ≠ env.locals → h.get? b = some ob → h'.get? b = some ob := fun b ob hb e => (hs.2 b hb).trans e
  have X : Ext α σ.length h α σ.length h' := ⟨Nat.le_refl _, fun _ _ => rfl, fun a ob e hc => hk a ob (by rintro rfl; exact frame_old F₀ e hc) e⟩
  have hcell : ∀ y k, env.cells.lookup y = some k → ∀ o, h.get? k = some o → h'.get? k = some o := fun y k e o ho => hk k o (S.cell y k e).2.1 ho
  refine ⟨⟨⟨_, F₀.set (hn m₀ F₀.ns) hs, fun y w e => ?_⟩, fun l ob e => ?_, S.own, S.inj, fun y k e => ?_, fun p hp => let ⟨a, b, d, e⟩ := S.pin p hp; ⟨hk _ _ b a, b, d, e⟩⟩, X⟩
  · unfold Env.set at e
    by_cases hy : y = x
    · subst hy
      rw [if_pos rfl] at e; cases e
      exact ⟨v, .inl ⟨hx, if_pos rfl⟩, r.mono X⟩
    · rw [if_neg hy] at e
      obtain ⟨u, hu, r'⟩ := hm₀ y w e
      refine ⟨u, ?_, r'.mono X⟩
      rcases hu with ⟨k1, k2⟩ | ⟨k1, k, k2, k3⟩
      · exact .inl ⟨k1, by show (if Str.ofString y = Str.ofString x then some v else m₀ (Str.ofString y)) = some u; rw [if_neg fun q => hy (ofString_inj q)]; exact k2⟩
      · exact .inr ⟨k1, k, k2, IsCell_tr k3 (hcell _ k k2)⟩
  · have hlt := (List.getElem?_eq_some_iff.mp e).1
    refine (S.objs l ob e).tr X hlt (fun hnp o₁ h₁ => hk _ _ (S.own _ ⟨ob, by rw [show 2 * l / 2 = l by lia]; exact e, hnp, .inl (by lia)⟩).2.1 h₁) (fun hx o₁ h₁ => hk _ _ (S.own _ ⟨ob, by rw [show (2 * l + 1) / 2 = l by lia]; exact e, inst_pad hx, .inr hx⟩).2.1 h₁)
  · obtain ⟨a, b, v, d⟩ := S.cell y k e
    exact ⟨a, b, v, IsCell_tr d (hcell y k e)⟩

/-- a cell's name has been bound -/
theorem Sim.setCell (S : Sim c h₀ env α ρ σ h) {x : String} {k : Addr} {V : V} {v : Value} (hx : env.kindOf (Str.ofString x) = some .cell) (hc : env.cells.lookup (Str.ofString x) = some k)
    (hinj : ∀ y, env.cells.lookup y = some k → y = Str.ofString x)
    (hs : Heap.SameBut k h h') (hn : h'.IsCell k (some v))
    (r : RepV α σ.length h V v) : Sim c h₀ env α (ρ.set x V) σ h' ∧ Ext α σ.length h α σ.length h' := by
  obtain ⟨m₀, F₀, hm₀⟩ := S.fr
  obtain ⟨c1, c2, v0, oc, hoc, hdc⟩ := S.cell _ _ hc
  have hk : ∀ b ob, b ≠ k → h.get? b = some ob → h'.get? b = some ob := fun b ob hb e => (hs.2 b hb).trans e
  have nimm : ¬ Imm oc := by rintro (⟨_, _, _, i⟩ | ⟨_, _, i⟩) <;> rw [hdc] at i <;> cases i
  have X : Ext α σ.length h α σ.length h' := ⟨Nat.le_refl _, fun _ _ => rfl, fun a ob e hi => hk a ob (by rintro rfl; rw [hoc] at e; cases e; exact nimm hi) e⟩
  have live1 : ∀ i, Live σ i → α i ≠ k := fun i hi => Ne.symm ((S.own i hi).2.2 _ _ hc)
  refine ⟨⟨⟨m₀, F₀.change hs c2 c1, fun y w e => ?_⟩, fun l ob e => ?_, S.own, S.inj, fun y k' e => ?_, fun p hp => let ⟨a, b, d, e⟩ := S.pin p hp; ⟨hk _ _ (Ne.symm (d _ _ hc)) a, b, d, e⟩⟩, X⟩
  · unfold Env.set at e
    by_cases hy : y = x
    · subst hy
      rw [if_pos rfl] at e; cases e
      exact ⟨v, .inr ⟨hx, k, hc, hn⟩, r.mono X⟩
    · rw [if_neg hy] at e
      obtain ⟨u, hu, r'⟩ := hm₀ y w e
      refine ⟨u, ?_, r'.mono X⟩
      rcases hu with ⟨k1, k2⟩ | ⟨k1, k', k2, k3⟩
      · exact .inl ⟨k1, k2⟩
      · exact .inr ⟨k1, k', k2, IsCell_tr k3 fun o => hk _ o (by rintro rfl; exact hy (ofString_inj (hinj _ k2)))⟩
  · have hlt := (List.getElem?_eq_some_iff.mp e).1
    refine (S.objs l ob e).tr X hlt (fun hnp o₁ h₁ => hk _ _ (live1 _ ⟨ob, by rw [show 2 * l / 2 = l by lia]; exact e, hnp, .inl (by lia)⟩) h₁) (fun hx o₁ h₁ => hk _ _ (live1 _ ⟨ob, by rw [show (2 * l + 1) / 2 = l by lia]; exact e, inst_pad hx, .inr hx⟩) h₁)
  · obtain ⟨a, b, v', d⟩ := S.cell y k' e
    by_cases q : k' = k
    · subst q; exact ⟨a, b, _, hn⟩
    · exact ⟨a, b, v', IsCell_tr d fun o => hk _ o q⟩

theorem Sim.loc (S : Sim c h₀ env α ρ σ h) {l : Nat} {o : O} (e : σ[l]? = some o) (hnp : o ≠ .pad := by simp) : Live σ (2 * l) := ⟨o, by rw [show 2 * l / 2 = l by lia]; exact e, hnp, .inl (by lia)⟩
theorem Sim.loc1 (S : Sim c h₀ env α ρ σ h) {l : Nat} {cn : String} {fs : List (String × V)} (e : σ[l]? = some (.inst cn fs)) : Live σ (2 * l + 1) := ⟨_, by rw [show (2 * l + 1) / 2 = l by lia]; exact e, by simp, .inr ⟨_, _, rfl⟩⟩

end C187

namespace C187
open PySem PySem.W PyProof.Rows

variable {c : Cx} {h₀ h h' : Heap} {env : PySem.Env} {α α' : Nat → Addr} {ρ ρ' : Env} {σ σ' : Sto} {A : Around} {E : Value → Shared → Prop} {s : Shared}

/-- what an operation must tell its continuation -/
noncomputable def Kt (c : Cx) (h₀ : Heap) (env : PySem.Env) (ρ : Env) (α : Nat → Addr) (σ : Sto) (s : Shared) (Q : Ct) (R : Value → Shared → Prop) : Prop :=
  ∀ α' V σ' v s', Q V σ' → Sim c h₀ env α' ρ σ' s'.heap → Ext α σ.length s.heap α' σ'.length s'.heap → RepV α' σ'.length s'.heap V v → SameS s s' → R v s'
/-- the same, where there is no value -/
noncomputable def Ku (c : Cx) (h₀ : Heap) (env : PySem.Env) (ρ : Env) (α : Nat → Addr) (σ : Sto) (s : Shared) (Q : Sto → Prop) (R : Unit → Shared → Prop) : Prop :=
  ∀ α' σ' s', Q σ' → Sim c h₀ env α' ρ σ' s'.heap → Ext α σ.length s.heap α' σ'.length s'.heap → SameS s s' → R () s'

theorem Kt.same {Q : Ct} {R : Value → Shared → Prop} (k : Kt c h₀ env ρ α σ s Q R) (S : Sim c h₀ env α ρ σ s.heap) {V : V} {v : Value} (q : Q V σ) (r : RepV α σ.length s.heap V v) (tk : Nat) : R v { s with toks := tk } :=
  k α V σ v { s with toks := tk } q S (Ext.refl ..) r ⟨rfl, rfl, rfl⟩

/-- a new heap that keeps all -/
theorem Kt.grown {Q : Ct} {R : Value → Shared → Prop} (k : Kt c h₀ env ρ α σ s Q R) (S : Sim c h₀ env α ρ σ s.heap) {V : V} {v : Value} {h' : Heap} (q : Q V σ) (hk : ∀ b o, s.heap.get? b = some o → h'.get? b = some o)
    (r : RepV α σ.length h' V v) (tk : Nat) : R v { s with heap := h', toks := tk } :=
  let ⟨S', X⟩ := S.grow0 hk
  k α V σ v { s with heap := h', toks := tk } q S' X r ⟨rfl, rfl, rfl⟩

theorem push_keep (h : Heap) (o : Obj) : ∀ b ob, h.get? b = some ob → (h.push o).get? b = some ob := fun _ _ e => Heap.get?_push_of_some o e
theorem get_size (h : Heap) : h.get? h.objs.size = none := by
  cases q : h.get? h.objs.size with
  | none => rfl
  | some o => exact absurd (Heap.lt_size q) (Nat.lt_irrefl _)
theorem get_ge {h : Heap} {a : Addr} (ha : h.objs.size ≤ a) : h.get? a = none := by
  cases q : h.get? a with
  | none => rfl
  | some o => exact absurd (Heap.lt_size q) (Nat.not_lt.mpr ha)

/-- a new list at the end of the heap -/
theorem Kt.newList {Q : Ct} {R : Value → Shared → Prop} (k : Kt c h₀ env ρ α σ s Q R) (S : Sim c h₀ env α ρ σ s.heap) {vs : List V} {its : Array Value} {D : Addr} {n : Nat} {h' : Heap} (hk : ∀ b o, s.heap.get? b = some o → h'.get? b = some o)
    (hf : s.heap.get? D = none) (hD : h'.get? D = some (listOf its n)) (q : Q (.loc σ.length) (σ ++ [.list vs])) (r : All2 (RepV α σ.length s.heap) vs its.toList) (hb : vs.length ≤ big) (tk : Nat) : R (.ref D) { s with heap := h', toks := tk } := by
  obtain ⟨m, F, _⟩ := S.fr
  have hD' : s.heap.get? (max (D + 1) s.heap.objs.size) = none := get_ge (Nat.le_max_right _ _)
  obtain ⟨α', S', X, e⟩ := S.alloc (o := .list vs) (a := D) (a' := max (D + 1) s.heap.objs.size) F (F.after hk) (fun b o _ => hk b o) hf hD' (Nat.ne_of_lt (Nat.lt_of_lt_of_le (Nat.lt_succ_self _) (Nat.le_max_left _ _)))
    (fun α' e1 e2 e3 X => ⟨its, n, by rw [e2]; exact hD, r.mono fun _ _ x => x.mono X, hb⟩)
  refine k α' _ _ _ { s with heap := h', toks := tk } q S' X ?_ ⟨rfl, rfl, rfl⟩
  exact ⟨by simp, by rw [e]⟩

section intOps
variable {a b : Int} {t u : Tok} {Q : Ct} {R : Value → Shared → Prop}
theorem natAbs_bits {a : Int} (h : small a) : PySem.Builtin.Int.intBits a ≤ 2 ^ 20 := by
  unfold small at h
  unfold PySem.Builtin.Int.intBits
  split
  · lia
  · have h0 : a.natAbs ≠ 0 := by rename_i q; simpa using q
    have := (Nat.log2_lt h0).mpr h
    lia

noncomputable def opOf : Bop → PySem.Operator
  | .add => .Add | .sub => .Sub | .mul => .Mult | .mod => .Mod | .fdiv => .FloorDiv | .pow => .Pow
theorem bin_int {o : Bop} (S : Sim c h₀ env α ρ σ s.heap) (w : binI o a b σ Q) (k : Kt c h₀ env ρ α σ s Q R) :
    wpAny (model c.prog c.w) A (binaryOp (opOf o) (.int a t) (.int b u)) R E s := by
  cases o with
  | add => exact PyProof.Rows.add_int (k.same S w ⟨_, rfl⟩ _)
  | sub => exact PyProof.Rows.sub_int (k.same S w ⟨_, rfl⟩ _)
  | mul =>
    obtain ⟨h1, h2, w⟩ := w
    exact PyProof.Rows.mul_int (k.same S w ⟨_, rfl⟩ _) (.of_bits (natAbs_bits h1) (natAbs_bits h2))
  | mod =>
    obtain ⟨h1, w⟩ := w
    refine PyProof.Rows.mod_int' (by lia) ?_
    rw [Int.fmod_eq_emod_of_nonneg _ (by lia)]
    exact k.same S w ⟨_, rfl⟩ _
  | fdiv =>
    obtain ⟨h1, h2, w⟩ := w
    refine PyProof.Rows.floordiv_int (by lia) ?_ (.inl (PyProof.noPylong_small (by lia)))
    rw [Int.fdiv_eq_ediv_of_nonneg _ (by lia)]
    exact k.same S w ⟨_, rfl⟩ _
  | pow =>
    obtain ⟨rfl, h1, h2, w⟩ := w
    refine PyProof.Rows.pow_int h1 ?_ (k.same S w ⟨_, rfl⟩ _)
    have : (PySem.Builtin.Int.intBits 10 : Int) = 4 := by decide +kernel
    rw [this]; lia
end intOps

section more
variable {Q : Ct} {R : Value → Shared → Prop}

theorem All2.arr {α β : Type} {R : α → β → Prop} {l : List α} {r : Array β} (h : All2 R l r.toList) : l.length = r.size := by rw [h.length, Array.length_toList]

/-- what else stands -/
noncomputable def others (h₀ h : Heap) (L d : Addr) : List (Addr × Obj) := (List.range h.objs.size).filterMap fun a => match h.get? a, h₀.get? a with
  | some o, none => if a ≠ L ∧ a ≠ d then some (a, o) else none
  | _, _ => none
theorem mem_others {L d a : Addr} {o : Obj} : (a, o) ∈ others h₀ h L d ↔ h.get? a = some o ∧ h₀.get? a = none ∧ a ≠ L ∧ a ≠ d := by
  unfold others
  rw [List.mem_filterMap]
  constructor
  · rintro ⟨x, hx, e⟩
    split at e
    · rename_i o' e1 e2
      split at e
      · rename_i hn
        cases e
        exact ⟨e1, e2, hn⟩
      · cases e
    · cases e
  · rintro ⟨e1, e2, n1, n2⟩
    exact ⟨a, List.mem_range.mpr (Heap.lt_size e1), by rw [e1, e2]; dsimp only; rw [if_pos ⟨n1, n2⟩]⟩
theorem news_others {L d : Addr} : News h₀ L h (others h₀ h L d) := fun p hp => by
  obtain ⟨a, o⟩ := p
  obtain ⟨e1, e2, n1, n2⟩ := mem_others.mp hp
  exact ⟨e1, n1, e2⟩
theorem keep_others {L d : Addr} {m m' : Str → Option Value} (F : Fr h₀ L h m) (F' : Fr h₀ L h' m') (N' : News h₀ L h' (others h₀ h L d)) : ∀ b o, b ≠ d → b ≠ L → h.get? b = some o → h'.get? b = some o := fun b o nd nL e => by
  cases q : h₀.get? b with
  | some o' =>
    have := F.keep b o' q
    rw [e] at this; cases this
    exact F'.keep b o q
  | none => exact (N' (b, o) (mem_others.mpr ⟨e, q, nL, nd⟩)).1

theorem Sim.list (S : Sim c h₀ env α ρ σ h) {l : Nat} {vs : List V} (e : σ[l]? = some (.list vs)) : ∃ its k, h.get? (α (2 * l)) = some (listOf its k) ∧ All2 (RepV α σ.length h) vs its.toList ∧ vs.length ≤ big := S.objs l _ e
theorem listOf_is {a : Addr} {its : Array Value} {k : Nat} (e : h.get? a = some (listOf its k)) : h.IsList a its := ⟨_, e, rfl, k, rfl⟩
theorem big_eq : big = sizeLine := by decide

theorem bin_ok {o : Bop} (S : Sim c h₀ env α ρ σ s.heap)
    {u v : V} {a b : Value} (ru : RepV α σ.length s.heap u a) (rv : RepV α σ.length s.heap v b) (w : binW o u v σ Q) (k : Kt c h₀ env ρ α σ s Q R) : wpAny (model c.prog c.w) A (binaryOp (opOf o) a b) R E s := by
  cases u with
  | int i =>
    cases v with
    | int j =>
      obtain ⟨t, rfl⟩ := ru
      obtain ⟨t', rfl⟩ := rv
      exact bin_int S w k
    | _ => exact w.elim
  | loc x =>
    obtain ⟨_, rfl⟩ := ru
    cases v with
    | loc y =>
      obtain ⟨_, rfl⟩ := rv
      cases o with
      | add =>
        obtain ⟨l, e1, w⟩ := inv_l (o := σ[x]?) w
        obtain ⟨r, e2, hb, w⟩ := inv_l (o := σ[y]?) w
        · · skip
            obtain ⟨i1, k1, h1, r1, _⟩ := S.list e1
            obtain ⟨i2, k2, h2, r2, _⟩ := S.list e2
            refine P.add_list h1 h2 ?_ (by rw [← r1.arr, ← r2.arr, ← big_eq]; exact hb)
            refine k.newList (its := i1 ++ i2) (n := 0) S (push_keep _ _) (get_size _) (Heap.get?_push_size _ rfl) w ?_ ?_ s.toks
            · rw [Array.toList_append]; exact r1.append r2
            · rw [List.length_append]; exact hb
      | _ => exact w.elim
    | int n =>
      obtain ⟨t, rfl⟩ := rv
      cases o with
      | mul =>
        obtain ⟨a, e1, h0, h1, w⟩ := inv_l1 (o := σ[x]?) w
        · skip
          obtain ⟨its, k1, ho, r1, _⟩ := S.list e1
          obtain ⟨m, F, _⟩ := S.fr
          have hits : ∃ y, its.toList = [y] ∧ RepV α σ.length s.heap a y := by
            cases q : its.toList with
            | nil => rw [q] at r1; exact r1.elim
            | cons y r =>
              rw [q] at r1
              cases r with
              | nil => exact ⟨y, rfl, r1.1⟩
              | cons _ _ => exact r1.2.elim
          obtain ⟨y, hy, ry⟩ := hits
          have hits' : its = #[y] := by
            have := congrArg List.toArray hy
            simpa using this
          subst hits'
          refine PyProof.Rows.mul_list (news := others h₀ s.heap env.locals env.locals) F news_others ho (by lia) (by lia) (by
            show 1 * _ ≤ _
            lia) (fun h' F' N' => ?_)
          have hk := keep_others F F' (fun p hp => N' p (.tail _ hp))
          have hD := (N' _ (.head _)).1
          have hl : (List.foldl (fun x1 x2 => x1 ++ x2) #[] (List.replicate (if (#[y] : Array Value).isEmpty = true then 0 else n.toNat) #[y])).toList = List.replicate n.toNat y := by
            rw [if_neg (by simp)]
            have gen : ∀ (j : Nat) (acc : Array Value), (List.foldl (fun x1 x2 => x1 ++ x2) acc (List.replicate j #[y])).toList = acc.toList ++ List.replicate j y := by
              intro j
              induction j with
              | zero => intro acc; simp
              | succ j ih => intro acc; rw [List.replicate_succ, List.foldl_cons, ih]; simp [List.replicate_succ]
            rw [gen]; simp
          have hf : s.heap.get? s.heap.objs.size = none := get_size _
          obtain ⟨α', S', X, e⟩ := S.alloc (o := .list (List.replicate n.toNat a)) (a := s.heap.objs.size) (a' := s.heap.objs.size + 1) F F' (fun b o hb he => hk b o hb hb he) hf (get_ge (Nat.le_succ _)) (by simp)
            (fun α' e1 e2 e3 X => ⟨_, 0, by rw [e2]; exact hD, by rw [hl]; exact (All2.replicate ry _).mono fun _ _ x => x.mono X, by rw [List.length_replicate]; unfold big; lia⟩)
          refine k α' _ _ _ { s with heap := h' } w S' X ?_ ⟨rfl, rfl, rfl⟩
          exact ⟨by simp, by rw [e]⟩
      | _ => exact w.elim
    | _ => exact w.elim
  | _ => exact w.elim

end more

end C187

namespace C187
open PySem PySem.W PyProof.Rows

variable {c : Cx} {h₀ h h' : Heap} {env : PySem.Env} {α α' : Nat → Addr} {ρ ρ' : Env} {σ σ' : Sto} {A : Around} {E : Value → Shared → Prop} {s : Shared} {Q : Ct} {R : Value → Shared → Prop}

theorem mapM_cons_some {α β : Type} {f : α → Option β} {a : α} {l : List α} {r : List β} (e : (a :: l).mapM f = some r) : ∃ b bs, f a = some b ∧ l.mapM f = some bs ∧ r = b :: bs := by
  rw [List.mapM_cons] at e
  cases h1 : f a with
  | none => rw [h1] at e; exact nso e
  | some b =>
    rw [h1] at e
    cases h2 : l.mapM f with
    | none => rw [h2] at e; exact nso e
    | some bs => rw [h2] at e; cases e; exact ⟨b, bs, rfl, rfl, rfl⟩

theorem readsAll_of {n k : Nat} {f : V → Option PyData} (ih : ∀ V v p, f V = some p → RepV α n h V v → ∃ as, Reads h v p as ∧ p.canLay0 = true ∧ p.depth ≤ k) :
    ∀ (l : List V) (vs : List Value) (ds : List PyData), l.mapM f = some ds → All2 (RepV α n h) l vs → ∃ as, ReadsAll h vs ds as ∧ PyData.canLayAll0 ds = true ∧ PyData.depthAll ds ≤ k
  | [], [], ds, e, _ => by
    cases e
    exact ⟨[], .nil, by simp [PyData.canLayAll0], by simp [PyData.depthAll]⟩
  | V :: l, v :: vs, ds, e, r => by
    obtain ⟨d, ds', e1, e2, rfl⟩ := mapM_cons_some e
    obtain ⟨as, r1, c1, d1⟩ := ih V v d e1 r.1
    obtain ⟨bs, r2, c2, d2⟩ := readsAll_of ih l vs ds' e2 r.2
    refine ⟨as ++ bs, .cons r1 r2, by simp [PyData.canLayAll0, c1, c2], ?_⟩
    simp only [PyData.depthAll]
    lia
  | [], _ :: _, _, _, r => r.elim
  | _ :: _, [], _, _, r => r.elim

theorem deep {ds : List PyData} {k : Nat} (h : PyData.depthAll ds ≤ k) : PyData.depthAll ds + 1 ≤ k + 1 := Nat.succ_le_succ h
theorem readsOf (hobjs : ∀ l o, σ[l]? = some o → RepO c α σ.length h l o) : ∀ (k : Nat) (V : V) (v : Value) (p : PyData), rd σ k V = some p → RepV α σ.length h V v → ∃ as, Reads h v p as ∧ p.canLay0 = true ∧ p.depth ≤ k
  | 0, _, _, _, e, _ => nomatch (show none = some _ from e)
  | k + 1, .none, v, p, e, r => by
    obtain rfl : PyData.none = p := Option.some.inj e
    obtain rfl : v = .none := r
    exact ⟨_, .none, rfl, Nat.le_add_left _ _⟩
  | k + 1, .bool b, v, p, e, r => by
    obtain rfl : PyData.bool b = p := Option.some.inj e
    obtain rfl : v = .bool b := r
    exact ⟨_, .bool _, rfl, Nat.le_add_left _ _⟩
  | k + 1, .int i, v, p, e, r => by
    obtain rfl : PyData.int i = p := Option.some.inj e
    obtain ⟨t, rfl⟩ := r
    exact ⟨_, .int _ _, rfl, Nat.le_add_left _ _⟩
  | k + 1, .str x, v, p, e, r => by
    obtain rfl : PyData.str x = p := Option.some.inj e
    obtain ⟨hs, t, rfl⟩ := r
    exact ⟨_, .str _ _, hs, Nat.le_add_left _ _⟩
  | k + 1, .tup l, v, p, e, r => by
    obtain ⟨a, o, vs, n, rfl, ho, hc, hd, _, r⟩ := r
    obtain ⟨ds, e1, rfl⟩ := Option.map_eq_some_iff.mp e
    obtain ⟨as, r1, c1, d1⟩ := readsAll_of (fun V v p => readsOf hobjs k V v p) l vs.toList ds e1 (repVs_iff.mp r)
    exact ⟨as, .tuple ho hc hd r1, c1, deep d1⟩
  | k + 1, .loc l, v, p, e, r => by
    obtain ⟨_, rfl⟩ := r
    rw [rd_loc] at e
    cases e0 : σ[l]? with
    | none => rw [e0] at e; exact nso e
    | some o =>
      rw [e0] at e
      cases o with
      | list vs =>
        obtain ⟨its, n, ho, ra, _⟩ := hobjs _ _ e0
        obtain ⟨ds, e1, rfl⟩ := Option.map_eq_some_iff.mp e
        obtain ⟨as, r1, c1, d1⟩ := readsAll_of (fun V v p => readsOf hobjs k V v p) vs its.toList ds e1 ra
        exact ⟨_, .list ho rfl rfl r1, c1, deep d1⟩
      | _ => exact nso e
  | k + 1, .rng a b, v, p, e, r => nomatch (show none = some _ from e)

noncomputable def cmpOf : Cop → CmpOp
  | .lt => .Lt | .le => .LtE | .gt => .Gt | .ge => .GtE | .eq => .Eq | .ne => .NotEq

theorem inv_p {o : Option PyData} {F : PyData → Prop} (w : (match (motive := Option PyData → Prop) o with | some v => F v | none => False)) : ∃ v, o = some v ∧ F v := by
  cases o with
  | none => exact w.elim
  | some v => exact ⟨v, rfl, w⟩
theorem apart_inv {u v : V} (h : apart u v σ = true) : ∃ x y xs ys, u = .loc x ∧ v = .loc y ∧ σ[x]? = some (.list xs) ∧ σ[y]? = some (.list ys) ∧ (xs.length != ys.length) = true := by
  cases u with
  | loc x => cases v with
    | loc y =>
      unfold apart at h
      dsimp only at h
      cases e1 : σ[x]? with
      | none => rw [e1] at h; exact nft h
      | some o => cases o with
        | list xs =>
          cases e2 : σ[y]? with
          | none => rw [e1, e2] at h; exact nft h
          | some o => cases o with
            | list ys => rw [e1, e2] at h; exact ⟨x, y, xs, ys, rfl, rfl, e1, e2, h⟩
            | _ => rw [e1, e2] at h; exact nft h
        | _ => rw [e1] at h; exact nft h
    | _ => exact nft h
  | _ => exact nft h
theorem cmpD_ok {o : Cop} (hu : A.units + 64 < cLine) (S : Sim c h₀ env α ρ σ s.heap) {u v : V} {a b : Value} (ru : RepV α σ.length s.heap u a) (rv : RepV α σ.length s.heap v b) (w : cmpD o u v σ Q) (k : Kt c h₀ env ρ α σ s Q R) :
    wpAny (model c.prog c.w) A (compareOp (cmpOf o) a b) R E s := by
  unfold cmpD at w
  cases hap : apart u v σ with
  | true =>
    rw [hap] at w
    obtain ⟨x, y, xs, ys, rfl, rfl, hx, hy, hap⟩ := apart_inv hap
    obtain ⟨_, rfl⟩ := ru
    obtain ⟨_, rfl⟩ := rv
    obtain ⟨its, n, ho, ra, _⟩ := S.objs _ _ hx
    obtain ⟨its', n', ho', ra', _⟩ := S.objs _ _ hy
    have l1 := ra.length
    have l2 := ra'.length
    have hne : (its.size != its'.size) = true := by
      simp only [Array.length_toList] at l1 l2
      simp only [bne_iff_ne, ne_eq] at hap ⊢
      lia
    cases o with
    | eq => exact SeqAt.RcAt.lists_lengths ⟨_, ho, rfl, _, rfl⟩ ⟨_, ho', rfl, _, rfl⟩ hne (by lia) _ _ _ _ (k.same S w rfl _)
    | ne => exact SeqAt.RcNeAt.lists_lengths ⟨_, ho, rfl, _, rfl⟩ ⟨_, ho', rfl, _, rfl⟩ hne (by lia) _ _ _ _ (k.same S w rfl _)
    | _ => exact w.elim
  | false =>
    rw [hap] at w
    obtain ⟨p, e1, w⟩ := inv_p (o := rd σ 6 u) w
    obtain ⟨q, e2, w⟩ := inv_p (o := rd σ 6 v) w
    · skip
      obtain ⟨as, r1, c1, d1⟩ := readsOf S.objs 6 u a p e1 ru
      obtain ⟨bs, r2, c2, d2⟩ := readsOf S.objs 6 v b q e2 rv
      have hd : A.units + min p.depth q.depth < cLine := by
        have := Nat.min_le_left p.depth q.depth
        lia
      cases o with
      | eq => exact SeqAt.compareEq_reads r1 r2 c1 c2 hd (k.same S w rfl _)
      | ne => exact SeqAt.compareNe_reads r1 r2 c1 c2 hd (k.same S w rfl _)
      | _ => exact w.elim

theorem cmp_ok {o : Cop} (hu : A.units + 64 < cLine) (S : Sim c h₀ env α ρ σ s.heap) {u v : V} {a b : Value} (ru : RepV α σ.length s.heap u a) (rv : RepV α σ.length s.heap v b) (w : cmpW o u v σ Q) (k : Kt c h₀ env ρ α σ s Q R) :
    wpAny (model c.prog c.w) A (compareOp (cmpOf o) a b) R E s := by
  cases u with
  | int i =>
    cases v with
    | int j =>
      obtain ⟨t, rfl⟩ := ru
      obtain ⟨t', rfl⟩ := rv
      have fin : R (.bool (cmpI o i j)) s := k.same S w rfl _
      cases o with
      | lt => exact PyProof.Rows.lt_int fin
      | le => exact P.le_int fin
      | gt => exact PyProof.Rows.gt_int fin
      | ge => exact P.ge_int fin
      | eq => exact PyProof.Rows.eq_int (by have : (i == j) = decide (i = j) := by by_cases q : i = j <;> simp [q]
                                            rw [this]; exact fin)
      | ne => exact PyProof.Rows.ne_int (by have : (i != j) = !decide (i = j) := by by_cases q : i = j <;> simp [q]
                                            rw [this]; exact fin)
    | _ => exact cmpD_ok hu S ru rv w k
  | _ => exact cmpD_ok hu S ru rv w k

/-- what holds of the written part, at every heap -/
structure KF (c : Cx) : Prop where
  get : ∀ cn C f, c.cls cn = some C → isFld cn f = true → plainGet c.K C (Str.ofString f) = true ∧ hasDictIn c.K C = true ∧ (∃ attr, findIn c.K (.ref C) (Str.ofString f) = some attr ∧ noGet c.K attr = true) ∧
    findIn c.K (.ref C) "__setattr__" = some (some (.builtin "object.__setattr__")) ∧ plainOver c.K C = true ∧ takerIn c.K C (Str.ofString f) = some none

theorem handed_of {n : Nat} {V : V} {v : Value} (r : RepV α n h V v) : handedIn v = true := by
  cases V
  · subst r; rfl
  · subst r; rfl
  · obtain ⟨_, rfl⟩ := r; rfl
  · obtain ⟨_, _, rfl⟩ := r; rfl
  · obtain ⟨_, _, _, _, rfl, _⟩ := r; rfl
  · obtain ⟨_, rfl⟩ := r; rfl
  · obtain ⟨_, _, _, _, rfl, _⟩ := r; rfl

theorem getL_of {n : Nat} {f : String} : ∀ {fs : List (String × V)} {ds : List DictEntry} {v : V}, All2 (fun (p : String × V) (e : DictEntry) => (∃ t, e.key = .str (Str.ofString p.1) t) ∧ RepV α n h p.2 e.val) fs ds → getF f fs = some v →
    ∃ u, getL (Str.ofString f) ds = some (some u) ∧ RepV α n h v u
  | [], [], _, _, e => nso e
  | (g, w) :: fs, d :: ds, v, r, e => by
    obtain ⟨⟨⟨t, hk⟩, rv⟩, r'⟩ := r
    rw [getF_cons] at e
    by_cases hg : g = f
    · rw [if_pos hg] at e; cases e; subst hg
      refine ⟨d.val, ?_, rv⟩
      unfold getL
      rw [List.find?_cons, hk]
      simp [Value.isStr]
    · rw [if_neg hg] at e
      obtain ⟨u, hu, ru⟩ := getL_of r' e
      refine ⟨u, ?_, ru⟩
      unfold getL at hu ⊢
      have hne : d.key.isStr (Str.ofString f) = false := by rw [hk]; simp [Value.isStr]; exact fun q => hg (ofString_inj q)
      rw [List.find?_cons, hne]
      have hr : d.refKey = false := by simp [DictEntry.refKey, hk]
      rw [List.any_cons, hr, Bool.false_or]
      exact hu
  | [], _ :: _, _, r, _ => r.elim
  | _ :: _, [], _, r, _ => r.elim

theorem getL_none {n : Nat} {f : String} : ∀ {fs : List (String × V)} {ds : List DictEntry}, All2 (fun (p : String × V) (e : DictEntry) => (∃ t, e.key = .str (Str.ofString p.1) t) ∧ RepV α n h p.2 e.val) fs ds → getF f fs = none →
    getL (Str.ofString f) ds = some none
  | [], [], _, e => by simp [getL]
  | (g, w) :: fs, d :: ds, r, e => by
    obtain ⟨⟨⟨t, hk⟩, rv⟩, r'⟩ := r
    rw [getF_cons] at e
    by_cases hg : g = f
    · rw [if_pos hg] at e; cases e
    · rw [if_neg hg] at e
      have hu := getL_none r' e
      unfold getL at hu ⊢
      have hne : d.key.isStr (Str.ofString f) = false := by rw [hk]; simp [Value.isStr]; exact fun q => hg (ofString_inj q)
      rw [List.find?_cons, hne]
      have hr : d.refKey = false := by simp [DictEntry.refKey, hk]
      rw [List.any_cons, hr, Bool.false_or]
      exact hu
  | [], _ :: _, r, _ => r.elim
  | _ :: _, [], r, _ => r.elim

theorem Sim.inst (S : Sim c h₀ env α ρ σ h) {l : Nat} {cn : String} {fs : List (String × V)} (e : σ[l]? = some (.inst cn fs)) : ∃ C ds k, c.cls cn = some C ∧ InstAt h (α (2 * l)) (instObj C (α (2 * l + 1))) C (some (dictOf ds k)) ∧
      All2 (fun (p : String × V) (e : DictEntry) => (∃ t, e.key = .str (Str.ofString p.1) t) ∧ RepV α σ.length h p.2 e.val) fs ds := by
  obtain ⟨C, ds, k, hc, ho, hd, r⟩ := S.objs l _ e
  exact ⟨C, ds, k, hc, ⟨ho, rfl, rfl, hd⟩, r⟩

theorem attr_ok {expr : Bool} (KFc : KF c) (X₀ : c.K.In h₀) (S : Sim c h₀ env α ρ σ s.heap) {u : V} {f : String} {a : Value} (ru : RepV α σ.length s.heap u a) (w : attrW u f σ Q) (k : Kt c h₀ env ρ α σ s Q R) :
    wpAny (model c.prog c.w) A (getAttr a (Str.ofString f) expr) R E s := by
  cases u with
  | loc l =>
    obtain ⟨_, rfl⟩ := ru
    obtain ⟨cn, fs, e, w⟩ := inv_i (o := σ[l]?) w
    obtain ⟨hf, w⟩ := guard_of w
    obtain ⟨v, ev, w⟩ := inv_v (o := getF f fs) w
    · · skip
        obtain ⟨C, ds, n, hc, I, ra⟩ := S.inst e
        obtain ⟨m, F, _⟩ := S.fr
        obtain ⟨p1, p2, ⟨attr, p3, p4⟩, _⟩ := KFc.get cn C f hc hf
        obtain ⟨x, hx, rx⟩ := getL_of ra ev
        exact get_own F X₀ I p1 p2 p3 p4 hx (handed_of rx) (k.same S w rx _)
  | _ => exact w.elim

theorem putL_of {n : Nat} {f : String} {V : V} {v : Value} {hsh : Int} {t : Tok} (rv : RepV α n h V v) : ∀ {fs : List (String × C187.V)} {ds : List DictEntry}, All2 (fun (p : String × C187.V) (e : DictEntry) => (∃ t, e.key = .str (Str.ofString p.1) t) ∧ RepV α n h p.2 e.val) fs ds →
    All2 (fun (p : String × C187.V) (e : DictEntry) => (∃ t, e.key = .str (Str.ofString p.1) t) ∧ RepV α n h p.2 e.val) (setF f V fs) (putL (Str.ofString f) hsh (.str (Str.ofString f) t) v ds)
  | [], [], _ => ⟨⟨⟨_, rfl⟩, rv⟩, trivial⟩
  | (g, w) :: fs, d :: ds, r => by
    obtain ⟨⟨⟨t, hk⟩, rw'⟩, r'⟩ := r
    rw [setF_cons]; unfold putL
    by_cases hg : g = f
    · rw [if_pos hg, if_pos (by rw [hk, hg]; simp [Value.isStr])]
      exact ⟨⟨⟨t, hk⟩, rv⟩, r'⟩
    · rw [if_neg hg, if_neg (by rw [hk]; simp [Value.isStr]; exact fun q => hg (ofString_inj q))]
      exact ⟨⟨⟨t, hk⟩, rw'⟩, putL_of rv r'⟩
  | [], _ :: _, r => r.elim
  | _ :: _, [], r => r.elim

theorem getL_isSome {n : Nat} {f : String} {fs : List (String × V)} {ds : List DictEntry} (r : All2 (fun (p : String × V) (e : DictEntry) => (∃ t, e.key = .str (Str.ofString p.1) t) ∧ RepV α n h p.2 e.val) fs ds) : (getL (Str.ofString f) ds).isSome = true := by
  cases e : getF f fs with
  | none => rw [getL_none r e]; rfl
  | some v => obtain ⟨u, hu, _⟩ := getL_of r e; rw [hu]; rfl

theorem setF_length (f : String) (v : V) : ∀ fs : List (String × V), (setF f v fs).length ≤ fs.length + 1
  | [] => Nat.le_refl _
  | (g, u) :: r => by
    rw [setF_cons]
    split
    · exact Nat.le_succ _
    · exact Nat.succ_le_succ (setF_length f v r)

theorem setAttr_ok {Q : Sto → Prop} {R : Unit → Shared → Prop} (KFc : KF c) (X₀ : c.K.In h₀) (S : Sim c h₀ env α ρ σ s.heap) {u x : V} {f : String} {a b : Value} (ru : RepV α σ.length s.heap u a) (rx : RepV α σ.length s.heap x b)
    (w : setAttrW u f x σ Q) (k : Ku c h₀ env ρ α σ s Q R) : wpAny (model c.prog c.w) A (setAttr a (Str.ofString f) b) R E s := by
  cases u with
  | loc l =>
    obtain ⟨_, rfl⟩ := ru
    obtain ⟨cn, fs, e, w⟩ := inv_i (o := σ[l]?) w
    · skip
      obtain ⟨hf, w⟩ := guard_of w
      obtain ⟨hf, hlen⟩ := Bool.and_eq_true_iff.mp hf
      have hlen := of_decide_eq_true hlen
      obtain ⟨C, ds, n, hc, I, ra⟩ := S.inst e
      obtain ⟨m, F, _⟩ := S.fr
      obtain ⟨p1, p2, _, p5, p6, p7⟩ := KFc.get cn C f hc hf
      have l1 := S.loc1 e
      have hdx : s.heap.get? (α (2 * l + 1)) = some (dictOf ds n) := I.dict
      have hown := S.own _ l1
      have ra' := putL_of (f := f) (hsh := PyData.keyHash c.w.params (Str.ofString f)) (t := s.toks + 1) rx ra
      have N : News h₀ env.locals s.heap ((α (2 * l + 1), dictOf ds n) :: others h₀ s.heap env.locals (α (2 * l + 1))) := fun p hp => by
        rcases List.mem_cons.mp hp with rfl | hp
        · exact ⟨hdx, hown.2.1, hown.1⟩
        · exact news_others p hp
      refine set_dict F X₀ N I rfl p5 p6 p7 p2 (getL_isSome ra) rfl (Upd.head fun p hp => ?_) ?_ (fun h' F' N' => ?_)
      · obtain ⟨b, o⟩ := p
        exact (mem_others.mp hp).2.2.2
      · rw [← ra'.length]
        have := setF_length f x fs
        lia
      · have hk := keep_others F F' (fun p hp => N' p (.tail _ hp))
        have hn := (N' _ (.head _)).1
        obtain ⟨S', X⟩ := S.upd (i := 2 * l + 1) (o' := .inst cn (setF f x fs)) e (by lia) l1 ⟨fun _ => ⟨_, _, rfl⟩, fun _ => ⟨_, _, rfl⟩⟩ F F' hk
          (fun X => ⟨C, _, _, hc, hk _ _ (fun q => by have := S.inj _ _ (S.loc e) l1 q; lia) (S.own _ (S.loc e)).2.1 I.at_, hn, ra'.mono fun _ _ y => ⟨y.1, y.2.mono X⟩⟩)
        exact k α _ { s with heap := h', toks := s.toks + 2 } w S' X ⟨rfl, rfl, rfl⟩
  | _ => exact w.elim

end C187

namespace C187
open PySem PySem.W PyProof.Rows

variable {c : Cx} {h₀ h h' : Heap} {env : PySem.Env} {α α' : Nat → Addr} {ρ ρ' : Env} {σ σ' : Sto} {A : Around} {E : Value → Shared → Prop} {s : Shared} {Q : Ct} {R : Value → Shared → Prop}

theorem lk_of {κ : Type} [DecidableEq κ] {n : Nat} {k : κ} {v : V} : ∀ {es : List (κ × V)} {kvs : List (κ × Value)}, All2 (fun p q => p.1 = q.1 ∧ RepV α n h p.2 q.2) es kvs → lk es k = some v → ∃ u, valueAt kvs k = some u ∧ RepV α n h v u
  | [], [], _, e => by simp [lk] at e
  | (a, x) :: es, (b, y) :: kvs, r, e => by
    obtain ⟨⟨hab, rv⟩, r'⟩ := r
    simp only at hab
    subst hab
    unfold lk at e
    unfold valueAt
    rw [List.find?_cons] at e ⊢
    by_cases hk : a = k
    · simp only [hk, decide_true, Option.map_some, Option.some.injEq] at e ⊢
      subst e
      exact ⟨y, rfl, rv⟩
    · simp only [hk, decide_false] at e ⊢
      exact lk_of r' e
  | [], _ :: _, r, _ => r.elim
  | _ :: _, [], r, _ => r.elim
theorem lk_none {κ : Type} [DecidableEq κ] {n : Nat} {k : κ} : ∀ {es : List (κ × V)} {kvs : List (κ × Value)}, All2 (fun p q => p.1 = q.1 ∧ RepV α n h p.2 q.2) es kvs → lk es k = none → valueAt kvs k = none
  | [], [], _, e => by simp [valueAt]
  | (a, x) :: es, (b, y) :: kvs, r, e => by
    obtain ⟨⟨hab, rv⟩, r'⟩ := r
    simp only at hab
    subst hab
    unfold lk at e
    unfold valueAt
    rw [List.find?_cons] at e ⊢
    by_cases hk : a = k
    · simp [hk] at e
    · simp only [hk, decide_false] at e ⊢
      exact lk_none r' e
  | [], _ :: _, r, _ => r.elim
  | _ :: _, [], r, _ => r.elim

theorem subscripted_item {slice : Expr} (hs : ∀ l u t p, slice ≠ .Slice l u t p) (o i : Value) : subscripted slice false o i = operate [o, i] (getItem o i) := by
  cases slice <;> first | rfl | exact absurd rfl (hs _ _ _ _)

theorem item_any {value slice : Expr} (hs : ∀ l u t p, slice ≠ .Slice l u t p) (S : ∀ l o, σ[l]? = some o → RepO c α σ.length s.heap l o) {u v : V} {a b : Value} (ru : RepV α σ.length s.heap u a) (rv : RepV α σ.length s.heap v b)
    (w : itemW u v σ Q) (k : ∀ V v tk, Q V σ → RepV α σ.length s.heap V v → R v { s with toks := tk }) :
    wpAny (model c.prog c.w) A (subscriptTail value slice a b) R E s := by
  cases u with
  | tup vs =>
    cases v with
    | int i =>
      obtain ⟨h0, x, ex, w⟩ := atW_get w
      obtain ⟨t, rfl⟩ := rv
      obtain ⟨p, o, its, n, rfl, ho, hc, hd, hsz, r⟩ := ru
      obtain ⟨y, ey, ry⟩ := (repVs_iff.mp r).get ex
      have hlen := (repVs_iff.mp r).arr
      have hlt := (List.getElem?_eq_some_iff.mp ex).1
      unfold big at hsz
      have ht : IsTup s.heap p its := ⟨o, ho, hc, n, hd⟩
      refine tail_any ht.typeIs slot_tuple_getitem.lookup (getItem_tuple ht (by lia) (by lia) (j := i.toNat) ?_ (by rw [← Array.getElem?_toList]; exact ey) (k _ _ _ w ry)) (subscripted_item hs _ _)
      unfold seqIndex?
      dsimp only
      have hn : ¬ i < 0 := by lia
      rw [if_neg hn]
      exact if_pos (by simp only [Bool.and_eq_true, decide_eq_true_eq]; lia)
    | _ => exact w.elim
  | loc l =>
    obtain ⟨_, rfl⟩ := ru
    rcases inv_ld (o := σ[l]?) w with ⟨vs, e, w⟩ | ⟨es, e, w⟩
    · cases v with
      | int i =>
        obtain ⟨h0, x, ex, w⟩ := atW_get w
        obtain ⟨t, rfl⟩ := rv
        obtain ⟨its, n, ho, r, hb⟩ := S _ _ e
        obtain ⟨y, ey, ry⟩ := r.get ex
        have hlt := (List.getElem?_eq_some_iff.mp ex).1
        unfold big at hb
        exact tail_any (listOf_is ho).typeIs slot_list_getitem.lookup (wpAny_getItem_list (listOf_is ho) h0 (by lia) (by rw [← Array.getElem?_toList]; exact ey) (k _ _ _ w ry)) (subscripted_item hs _ _)
      | _ => exact w.elim
    · cases v with
      | int i =>
        obtain ⟨x, ex, w⟩ := inv_v (o := lk es i) w
        · obtain ⟨t, rfl⟩ := rv
          obtain ⟨kvs, hm, r, hb⟩ := S _ _ e
          replace hm := hm.dictOf
          obtain ⟨y, ey, ry⟩ := lk_of r ex
          exact tail_any hm.typeIs slot_dict_getitem.lookup (wpAny_getItem_of (intKind_is _ _ i t) hm.mapOf ey (k _ _ _ w ry)) (subscripted_item hs _ _)
      | _ => exact w.elim
  | _ => exact w.elim

theorem item_ok {value slice : Expr} (hs : ∀ l u t p, slice ≠ .Slice l u t p) (S : Sim c h₀ env α ρ σ s.heap) {u v : V} {a b : Value} (ru : RepV α σ.length s.heap u a) (rv : RepV α σ.length s.heap v b)
    (w : itemW u v σ Q) (k : Kt c h₀ env ρ α σ s Q R) : wpAny (model c.prog c.w) A (subscriptTail value slice a b) R E s := item_any hs S.objs ru rv w fun _ _ tk q r => k.same S q r tk

theorem part_of {n : Nat} {u : V} {a : Value} (r : RepV α n h u a) (o : Option Int) (e : (u = .none ∧ o = none) ∨ ∃ i, u = .int i ∧ o = some i) : IsPart a o := by
  rcases e with ⟨rfl, rfl⟩ | ⟨i, rfl, rfl⟩
  · subst r; exact .none
  · obtain ⟨t, rfl⟩ := r; exact .int _ _

theorem slice_list_ok {value lower : Expr} {lo hi st : Option Int} {x : List V → List V} (S : Sim c h₀ env α ρ σ s.heap) {l : Nat} {vs r : List V} {a b d : Value} (e : σ[l]? = some (.list vs))
    {lw up sp : Option Expr} {ps : Pos}
    (p1 : IsPart a lo) (p2 : IsPart b hi) (p3 : IsPart d st) (h0 : st ≠ some 0)
    (hr : ∀ its : Array Value, All2 (RepV α σ.length s.heap) vs its.toList → All2 (RepV α σ.length s.heap) r (slicePick its lo hi st).toList) (hl : r.length ≤ big)
    (w : Q (.loc σ.length) (σ ++ [.list r])) (k : Kt c h₀ env ρ α σ s Q R) :
    wpAny (model c.prog c.w) A (subscriptTail value (.Slice lw up sp ps) (.ref (α (2 * l))) (.ref s.heap.objs.size)) R E { s with heap := s.heap.push { cls := .type "slice", data := .fields #[a, b, d] } } := by
  obtain ⟨its, n, ho, ra, hb⟩ := S.list e
  have hL : (s.heap.push { cls := .type "slice", data := .fields #[a, b, d] }).IsList (α (2 * l)) its := listOf_is (push_keep _ _ _ _ ho)
  have hsz : its.size ≤ sizeLine := by rw [← ra.arr, ← big_eq]; exact hb
  have fin : wpAny (model c.prog c.w) A (getItem (.ref (α (2 * l))) (.ref s.heap.objs.size)) R E { s with heap := s.heap.push { cls := .type "slice", data := .fields #[a, b, d] } } := by
    refine wpAny_getItem_list_slice (s := { s with heap := s.heap.push { cls := .type "slice", data := .fields #[a, b, d] } }) hL (Heap.IsSliceOf.new ..) p1 p2 p3 h0 ?_ hsz
    refine k.newList (n := 0) (tk := s.toks) S (fun b o e => push_keep _ _ _ _ (push_keep _ _ _ _ e)) ?_ (Heap.get?_push_size _ rfl) w (hr its ra) hl
    exact get_ge (by simp only [Heap.size_push]; exact Nat.le_succ _)
  cases sp <;> exact tail_any hL.typeIs slot_list_getitem.lookup fin rfl

theorem inv_r {o : Option (List V)} {F : List V → Prop} (w : (match (motive := Option (List V) → Prop) o with | some v => F v | none => False)) : ∃ v, o = some v ∧ F v := by
  cases o with
  | none => exact w.elim
  | some v => exact ⟨v, rfl, w⟩
theorem cut_upto (S : Sim c h₀ env α ρ σ s.heap) {value : Expr} {l : Nat} {vs r : List V} {bb : Int} {a b d : Value} (e : σ[l]? = some (.list vs)) (r1 : RepV α σ.length s.heap .none a) (r2 : RepV α σ.length s.heap (.int bb) b) (r3 : RepV α σ.length s.heap .none d)
    (er : (if 0 ≤ bb then some (vs.take bb.toNat) else if bb = -1 then some vs.dropLast else none) = some r) {lw up sp : Option Expr} {ps : Pos} (w : Q (.loc σ.length) (σ ++ [.list r])) (k : Kt c h₀ env ρ α σ s Q R) :
    wpAny (model c.prog c.w) A (subscriptTail value (.Slice lw up sp ps) (.ref (α (2 * l))) (.ref s.heap.objs.size)) R E { s with heap := s.heap.push { cls := .type "slice", data := .fields #[a, b, d] } } := by
  have hb : vs.length ≤ big := (S.list e).choose_spec.choose_spec.2.2
  by_cases h0 : 0 ≤ bb
  · rw [if_pos h0] at er
    cases er
    refine slice_list_ok (lower := value) (x := id) S e (part_of r1 none (.inl ⟨rfl, rfl⟩)) (part_of r2 (some bb) (.inr ⟨_, rfl, rfl⟩)) (part_of r3 none (.inl ⟨rfl, rfl⟩)) (fun h => nomatch h) (fun its ra => ?_) (Nat.le_trans (List.length_take_le' ..) hb) w k
    obtain ⟨n, rfl⟩ := Int.eq_ofNat_of_zero_le h0
    rw [slicePick_upto']
    exact ra.take n
  · rw [if_neg h0] at er
    obtain ⟨h1, er⟩ := if_some er
    subst h1
    cases er
    refine slice_list_ok (lower := value) (x := id) S e (part_of r1 none (.inl ⟨rfl, rfl⟩)) (part_of r2 (some (-1)) (.inr ⟨_, rfl, rfl⟩)) (part_of r3 none (.inl ⟨rfl, rfl⟩)) (fun h => nomatch h) (fun its ra => ?_) (by rw [List.length_dropLast]; exact Nat.le_trans (Nat.sub_le ..) hb) w k
    have := slicePick_butLast its 1 (Nat.le_refl _)
    rw [show (-((1 : Nat) : Int)) = -1 from rfl] at this
    rw [this]
    have := ra.dropLast
    rw [List.dropLast_eq_take (l := its.toList), Array.length_toList] at this
    exact this
theorem cut_run (S : Sim c h₀ env α ρ σ s.heap) {value : Expr} {l : Nat} {vs r : List V} {aa bb : Int} {a b d : Value} (e : σ[l]? = some (.list vs)) (r1 : RepV α σ.length s.heap (.int aa) a) (r2 : RepV α σ.length s.heap (.int bb) b) (r3 : RepV α σ.length s.heap .none d)
    (er : (if 0 ≤ aa ∧ aa ≤ bb ∧ bb ≤ vs.length then some ((vs.drop aa.toNat).take (bb - aa).toNat) else none) = some r) {lw up sp : Option Expr} {ps : Pos} (w : Q (.loc σ.length) (σ ++ [.list r])) (k : Kt c h₀ env ρ α σ s Q R) :
    wpAny (model c.prog c.w) A (subscriptTail value (.Slice lw up sp ps) (.ref (α (2 * l))) (.ref s.heap.objs.size)) R E { s with heap := s.heap.push { cls := .type "slice", data := .fields #[a, b, d] } } := by
  have hb : vs.length ≤ big := (S.list e).choose_spec.choose_spec.2.2
  obtain ⟨⟨q1, q2, q3⟩, er⟩ := if_some er
  cases er
  refine slice_list_ok (lower := value) (x := id) S e (part_of r1 (some aa) (.inr ⟨_, rfl, rfl⟩)) (part_of r2 (some bb) (.inr ⟨_, rfl, rfl⟩)) (part_of r3 none (.inl ⟨rfl, rfl⟩)) (fun h => nomatch h) (fun its ra => ?_) (Nat.le_trans (List.length_take_le' ..) (by rw [List.length_drop]; exact Nat.le_trans (Nat.sub_le ..) hb)) w k
  obtain ⟨n, rfl⟩ := Int.eq_ofNat_of_zero_le q1
  obtain ⟨m, rfl⟩ := Int.eq_ofNat_of_zero_le (Int.le_trans q1 q2)
  rw [slicePick_run its n m (Nat.le_trans (Int.ofNat_le.mp q3) (Nat.le_of_eq ra.arr)) (Int.ofNat_le.mp q2)]
  have e1 : ((m : Int) - (n : Int)).toNat = m - n := by lia
  rw [e1]
  exact (ra.drop n).take (m - n)
theorem slice_ok {value : Expr} (S : Sim c h₀ env α ρ σ s.heap) {u v1 v2 v3 : V} {a0 a b d : Value} (ru : RepV α σ.length s.heap u a0) (r1 : RepV α σ.length s.heap v1 a) (r2 : RepV α σ.length s.heap v2 b) (r3 : RepV α σ.length s.heap v3 d)
    {lw up sp : Option Expr} {ps : Pos} (w : sliceW u v1 v2 v3 σ Q) (k : Kt c h₀ env ρ α σ s Q R) :
    wpAny (model c.prog c.w) A (subscriptTail value (.Slice lw up sp ps) a0 (.ref s.heap.objs.size)) R E { s with heap := s.heap.push { cls := .type "slice", data := .fields #[a, b, d] } } := by
  cases u with
  | loc l =>
    obtain ⟨_, rfl⟩ := ru
    obtain ⟨vs, e, w⟩ := inv_l (o := σ[l]?) w
    obtain ⟨r, er, w2⟩ := inv_r (o := cut vs v1 v2 v3) w
    clear w
    cases v1 with
    | none => cases v2 with
      | int bb => cases v3 with
        | none => exact cut_upto S e r1 r2 r3 er w2 k
        | _ => exact nso er
      | none => cases v3 with
        | int ss =>
          obtain ⟨h1, er⟩ := if_some er
          subst h1
          cases er
          refine slice_list_ok (lower := value) (x := id) S e (part_of r1 none (.inl ⟨rfl, rfl⟩)) (part_of r2 none (.inl ⟨rfl, rfl⟩)) (part_of r3 (some (-1)) (.inr ⟨_, rfl, rfl⟩)) (by decide) (fun its ra => ?_) (by rw [List.length_reverse]; exact (S.list e).choose_spec.choose_spec.2.2) w2 k
          rw [krv_pick]
          exact ra.reverse
        | _ => exact nso er
      | _ => exact nso er
    | int aa => cases v2 with
      | int bb => cases v3 with
        | none => exact cut_run S e r1 r2 r3 er w2 k
        | _ => exact nso er
      | _ => exact nso er
    | _ => exact nso er
  | _ => exact w.elim

/-- displays -/
theorem tuple_ok (S : Sim c h₀ env α ρ σ s.heap) {vs : List V} {its : List Value} (r : All2 (RepV α σ.length s.heap) vs its) (hb : vs.length ≤ big) (w : Q (.tup vs) σ) (k : Kt c h₀ env ρ α σ s Q R) : wpAny (model c.prog c.w) A (newTuple its) R E s := by
  refine wpAny_newObj_type ?_ (by show its.toArray.size ≤ sizeLine; rw [List.size_toArray, ← r.length, ← big_eq]; exact hb)
  refine k.grown (tk := s.toks) S w (push_keep _ _) ?_
  exact ⟨_, _, _, _, rfl, Heap.get?_push_size _ rfl, rfl, rfl, hb, repVs_iff.mpr (r.mono fun _ _ x => x.mono (Ext.of_keep (push_keep _ _)))⟩
theorem list_ok (S : Sim c h₀ env α ρ σ s.heap) {vs : List V} {its : List Value} (r : All2 (RepV α σ.length s.heap) vs its) (hb : vs.length ≤ big) (w : Q (.loc σ.length) (σ ++ [.list vs])) (k : Kt c h₀ env ρ α σ s Q R) : wpAny (model c.prog c.w) A (newList its) R E s := by
  refine wpAny_newObj_type ?_ (by show its.toArray.size ≤ sizeLine; rw [List.size_toArray, ← r.length, ← big_eq]; exact hb)
  exact k.newList (tk := s.toks) S (push_keep _ _) (get_size _) (Heap.get?_push_size _ rfl) w (by simpa using r) hb

end C187

namespace C187
open PySem PySem.W PyProof.Rows

variable {c : Cx} {h₀ h h' : Heap} {env : PySem.Env} {α α' : Nat → Addr} {ρ ρ' : Env} {σ σ' : Sto} {A : Around} {E : Value → Shared → Prop} {s : Shared} {Q : Ct} {R : Value → Shared → Prop}

/-- the built-ins' own values -/
noncomputable def bval : String → Value
  | "range" => .type "range"
  | "list" => .type "list"
  | f => .builtin f

theorem notModules (S : Sim c h₀ env α ρ σ h) (hs : ∃ o, h₀.get? sysModules = some o) {i : Nat} (hi : Live σ i) : (α i == sysModules) = false := by
  rw [beq_eq_false_iff_ne]
  intro e
  obtain ⟨o, ho⟩ := hs
  have := (S.own i hi).1
  rw [e, ho] at this
  cases this

theorem rising_pair : ∀ {ns : List Int}, rising ns = true → ns.Pairwise (· ≤ ·)
  | [], _ => .nil
  | [a], _ => by simp
  | a :: b :: r, e => by
    simp only [rising, Bool.and_eq_true, decide_eq_true_eq] at e
    have ih := rising_pair e.2
    refine .cons (fun x hx => ?_) ih
    rcases List.mem_cons.mp hx with rfl | hx
    · exact Int.le_of_lt e.1
    · exact Int.le_trans (Int.le_of_lt e.1) ((List.pairwise_cons.mp ih).1 x hx)

theorem all2_ints {n : Nat} : ∀ {vs : List Value} {ns : List Int}, IntsAre vs ns → All2 (RepV α n h) (ns.map .int) vs
  | _, _, .nil => trivial
  | _, _, .cons i t r => ⟨⟨t, rfl⟩, all2_ints r⟩

theorem sorted_ok (hh : A.handled = none) (hs : ∃ o, h₀.get? sysModules = some o) (S : Sim c h₀ env α ρ σ s.heap) {l : Nat} {es : List (Int × V)} (e : σ[l]? = some (.dI es)) (h64 : es.length < 64) (hr : rising (es.map (·.1)) = true)
    (w : Q (.loc σ.length) (σ ++ [.list (es.map fun p => .int p.1)])) (k : Kt c h₀ env ρ α σ s Q R) : wpAny (model c.prog c.w) A (call (.builtin "sorted") [.ref (α (2 * l))]) R E s := by
  obtain ⟨kvs, hm, r, hb⟩ := S.objs _ _ e
  replace hm := hm.dictOf
  obtain ⟨ep, hat⟩ := hm.dictAt
  obtain ⟨m, F, _⟩ := S.fr
  refine kdu_sorted (kdl_dict (knd := intKind c.prog c.w) (kvs := kvs) (ep := ep) (notModules S hs (S.loc e))) hh F (news_others (d := env.locals)) hat (by rw [← r.length]; unfold big at hb; rw [show sizeLine = 2 ^ 24 from rfl]; lia) (fun D h' tk vs F' N' l1 hl hv => ?_)
  have hk := keep_others F F' (fun p hp => N' p (.tail _ hp))
  have hD := (N' _ (.head _)).1
  have hDn : s.heap.get? D = none := by
    cases q : s.heap.get? D with
    | none => rfl
    | some o =>
      have h2 := (N' _ (.head _)).2
      exact absurd (l1 _ (mem_others.mpr ⟨q, h2.2, h2.1, h2.1⟩)) (Nat.lt_irrefl _)
  have hints : IntsAre vs (es.map (·.1)) := by
    have key : ∀ (us : List Value) (ks : List Int), us.length = ks.length → (∀ (j : Nat) (v : Value), us[j]? = some v → ∃ (i : Int) (t : Tok), ks[j]? = some i ∧ v = Value.int i t) → IntsAre us ks := by
      intro us
      induction us with
      | nil => intro ks hl _; cases ks with
        | nil => exact .nil
        | cons _ _ => simp at hl
      | cons u us ih =>
        intro ks hl hj
        cases ks with
        | nil => simp at hl
        | cons i ks =>
          obtain ⟨i', t, e1, e2⟩ := hj 0 u rfl
          simp only [List.getElem?_cons_zero, Option.some.injEq] at e1
          subst e1; subst e2
          exact .cons _ _ (ih ks (by simpa using hl) fun j v hv => hj (j + 1) v hv)
    refine key vs _ (by rw [hl, List.length_map, r.length]) fun j v hj => ?_
    obtain ⟨kk, x, hx, hkk⟩ := hv j v hj
    obtain ⟨p, hp, hpe, _⟩ := r.get' hx
    obtain ⟨t, rfl⟩ := Value.isInt_shape hkk
    exact ⟨kk, t, by rw [List.getElem?_map, hp]; simp only [Option.map_some, Option.some.injEq]; exact hpe, rfl⟩
  refine wpAny_call_entry (s := { s with heap := h', toks := tk }) PySem.F.slot_list_sort ⟨_, hD, rfl⟩ PySem.F.entry_list_sort ?_ (PySem.F.args_list_sort_1 _)
  refine list_sort_tree (s := { s with heap := h', toks := tk }) hD hints (by rw [hl, ← r.length]; exact h64) (fun out ns' i1 i2 i3 => ⟨_, rfl, ?_⟩)
  have hns : ns' = es.map (·.1) := List.Perm.eq_of_pairwise (fun a b _ _ h1 h2 => Int.le_antisymm h1 h2) i3 (rising_pair hr) i2
  subst hns
  obtain ⟨e2, hsorted⟩ := sortedHeap_at (vs := vs) (out := out) hD
  have hk2 : ∀ b o, b ≠ D → h'.get? b = some o → (sortedHeap h' D vs out).get? b = some o := fun b o hb ho => (sortedHeap_old hb (Heap.lt_size ho)).trans ho
  have F'' : Fr h₀ env.locals (sortedHeap h' D vs out) m := by
    obtain ⟨oL, a1, a2, hoL, a3⟩ := F'.ns
    have h2 := (N' _ (.head _)).2
    exact ⟨⟨oL, a1, a2, hk2 _ _ (fun q => h2.1 q.symm) hoL, a3⟩, fun b o e => hk2 _ _ (by rintro rfl; rw [h2.2] at e; cases e) (F'.keep b o e), F'.above⟩
  obtain ⟨α', S', X, eD⟩ := S.alloc (o := .list ((es.map (·.1)).map .int)) (a := D) (a' := max (D + 1) s.heap.objs.size) (h' := sortedHeap h' D vs out) F F''
    (fun b o hb ho => hk2 b o (by rintro rfl; rw [hDn] at ho; cases ho) (hk b o hb hb ho)) hDn (get_ge (Nat.le_max_right _ _)) (Nat.ne_of_lt (Nat.lt_of_lt_of_le (Nat.lt_succ_self _) (Nat.le_max_left _ _)))
    (fun α' e1 e3 e4 X => ⟨out, e2, by rw [e3]; exact hsorted, all2_ints i1, by simp only [List.length_map]; exact hb⟩)
  have w' : Q (.loc σ.length) (σ ++ [.list ((es.map (·.1)).map .int)]) := by rw [List.map_map]; exact w
  refine k α' _ _ _ { s with heap := sortedHeap h' D vs out, toks := tk } w' S' X ?_ ⟨rfl, rfl, rfl⟩
  exact ⟨by simp, by rw [eD]⟩

theorem one_rep {P : V → Value → Prop} {u : V} {its : List Value} (r : All2 P [u] its) : ∃ a, its = [a] ∧ P u a := by
  cases its with
  | nil => exact r.elim
  | cons a t => cases t with
    | nil => exact ⟨a, rfl, r.1⟩
    | cons _ _ => exact r.2.elim
theorem two_rep {P : V → Value → Prop} {u v : V} {its : List Value} (r : All2 P [u, v] its) : ∃ a b, its = [a, b] ∧ P u a ∧ P v b := by
  cases its with
  | nil => exact r.elim
  | cons a t =>
    obtain ⟨b, rfl, rb⟩ := one_rep r.2
    exact ⟨a, b, rfl, r.1, rb⟩
theorem len_ok (S : Sim c h₀ env α ρ σ s.heap) {vs : List V} {its : List Value} (r : All2 (RepV α σ.length s.heap) vs its) (w : lenW vs σ Q) (k : Kt c h₀ env ρ α σ s Q R) : wpAny (model c.prog c.w) A (call (.builtin "len") its) R E s := by
  cases vs with
  | nil => exact w.elim
  | cons u t => cases t with
    | cons _ _ => exact w.elim
    | nil =>
      obtain ⟨a, rfl, ru⟩ := one_rep r
      cases u with
      | loc l =>
        obtain ⟨us, e, w⟩ := inv_l (o := σ[l]?) w
        obtain ⟨_, rfl⟩ := ru
        obtain ⟨its, n, ho, ra, hb⟩ := S.list e
        unfold big at hb
        refine Calls.call_len_list (listOf_is ho) (by rw [← ra.arr]; lia) ?_
        rw [← ra.arr]
        exact k.same S w ⟨_, rfl⟩ _
      | tup us =>
        obtain ⟨p, o, its, n, rfl, ho, hc, hd, hsz, rt⟩ := ru
        have ht : IsTup s.heap p its := ⟨o, ho, hc, n, hd⟩
        have hlen := (repVs_iff.mp rt).arr
        unfold big at hsz
        refine PyProof.Rows.len_tuple ht (by lia) ?_
        rw [← hlen]
        exact k.same S w ⟨_, rfl⟩ _
      | _ => exact w.elim
theorem rng_ok (S : Sim c h₀ env α ρ σ s.heap) {vs : List V} {its : List Value} (r : All2 (RepV α σ.length s.heap) vs its) (w : rangeW vs σ Q) (k : Kt c h₀ env ρ α σ s Q R) : wpAny (model c.prog c.w) A (call (.type "range") its) R E s := by
  cases vs with
  | nil => exact w.elim
  | cons u t => cases u with
    | int i => cases t with
      | nil =>
        obtain ⟨a, rfl, t, rfl⟩ := one_rep r
        exact call_range_1 (k.grown S w (push_keep _ _) ⟨_, _, _, _, rfl, IsRange.new ..⟩ _)
      | cons v t => cases t with
        | cons _ _ => exact w.elim
        | nil => cases v with
          | int j =>
            obtain ⟨a, b, rfl, ⟨t, rfl⟩, t', rfl⟩ := two_rep r
            exact call_range_2 (k.grown S w (push_keep _ _) ⟨_, _, _, _, rfl, IsRange.new ..⟩ _)
          | _ => exact w.elim
    | _ => exact w.elim
theorem srt_ok (hh : A.handled = none) (hs : ∃ o, h₀.get? sysModules = some o) (S : Sim c h₀ env α ρ σ s.heap) {vs : List V} {its : List Value} (r : All2 (RepV α σ.length s.heap) vs its) (w : sortW vs σ Q) (k : Kt c h₀ env ρ α σ s Q R) : wpAny (model c.prog c.w) A (call (.builtin "sorted") its) R E s := by
  cases vs with
  | nil => exact w.elim
  | cons u t => cases t with
    | cons _ _ => exact w.elim
    | nil => cases u with
      | loc l =>
        obtain ⟨a, rfl, _, rfl⟩ := one_rep r
        obtain ⟨es, e, w⟩ := inv_d (o := σ[l]?) w
        exact sorted_ok hh hs S e w.1 w.2.1 w.2.2 k
      | _ => exact w.elim
theorem cpy_ok (S : Sim c h₀ env α ρ σ s.heap) {vs : List V} {its : List Value} (r : All2 (RepV α σ.length s.heap) vs its) (w : copyW vs σ Q) (k : Kt c h₀ env ρ α σ s Q R) : wpAny (model c.prog c.w) A (call (.type "list") its) R E s := by
  cases vs with
  | nil => exact w.elim
  | cons u t => cases t with
    | cons _ _ => exact w.elim
    | nil => cases u with
      | loc l =>
        obtain ⟨a, rfl, _, rfl⟩ := one_rep r
        obtain ⟨us, e, w⟩ := inv_l (o := σ[l]?) w
        obtain ⟨its, n, ho, ra, hb⟩ := S.list e
        refine call_list_seq _ (.inl rfl) ho rfl rfl (fun h' c' hk hD => ?_) (by rw [← ra.arr, ← big_eq]; exact hb)
        exact k.newList (tk := s.toks) S hk (get_size _) hD w ra hb
      | _ => exact w.elim
theorem inv_two {f : Int → Int → Int} {vs : List V} (w : twoW f vs σ Q) : ∃ i j, vs = [.int i, .int j] ∧ Q (.int (f i j)) σ := by
  cases vs with
  | nil => exact w.elim
  | cons u t => cases t with
    | nil => exact w.elim
    | cons v t => cases t with
      | cons _ _ => exact w.elim
      | nil => cases u with
        | int i => cases v with
          | int j => exact ⟨i, j, rfl, w⟩
          | _ => exact w.elim
        | _ => exact w.elim
theorem max_ok (hh : A.handled = none) (S : Sim c h₀ env α ρ σ s.heap) {vs : List V} {its : List Value} (r : All2 (RepV α σ.length s.heap) vs its) (w : twoW max vs σ Q) (k : Kt c h₀ env ρ α σ s Q R) : wpAny (model c.prog c.w) A (call (.builtin "max") its) R E s := by
  obtain ⟨i, j, e, w2⟩ := inv_two w
  clear w
  subst e
  obtain ⟨a, b, rfl, ⟨t, rfl⟩, t', rfl⟩ := two_rep r
  refine max_two_ints hh fun h' tk hk => ?_
  by_cases q : j > i
  · rw [if_pos q]; rw [Int.max_eq_right (Int.le_of_lt q)] at w2
    exact k.grown S w2 hk ⟨_, rfl⟩ tk
  · rw [if_neg q]; rw [Int.max_eq_left (Int.not_lt.mp q)] at w2
    exact k.grown S w2 hk ⟨_, rfl⟩ tk
theorem min_ok (hh : A.handled = none) (S : Sim c h₀ env α ρ σ s.heap) {vs : List V} {its : List Value} (r : All2 (RepV α σ.length s.heap) vs its) (w : twoW min vs σ Q) (k : Kt c h₀ env ρ α σ s Q R) : wpAny (model c.prog c.w) A (call (.builtin "min") its) R E s := by
  obtain ⟨i, j, e, w2⟩ := inv_two w
  clear w
  subst e
  obtain ⟨a, b, rfl, ⟨t, rfl⟩, t', rfl⟩ := two_rep r
  refine min_two_ints hh fun h' tk hk => ?_
  by_cases q : j < i
  · rw [if_pos q]; rw [Int.min_eq_right (Int.le_of_lt q)] at w2
    exact k.grown S w2 hk ⟨_, rfl⟩ tk
  · rw [if_neg q]; rw [Int.min_eq_left (Int.not_lt.mp q)] at w2
    exact k.grown S w2 hk ⟨_, rfl⟩ tk
theorem by_if {p : Prop} [Decidable p] {a b c : Prop} (h : if p then a else b) (h1 : p → a → c) (h2 : b → c) : c := by
  by_cases hp : p
  · rw [if_pos hp] at h; exact h1 hp h
  · rw [if_neg hp] at h; exact h2 h
theorem built_ok {f : String} (hh : A.handled = none) (hs : ∃ o, h₀.get? sysModules = some o) (S : Sim c h₀ env α ρ σ s.heap) {vs : List V} {its : List Value} (r : All2 (RepV α σ.length s.heap) vs its)
    (w : builtW f vs σ Q) (k : Kt c h₀ env ρ α σ s Q R) : wpAny (model c.prog c.w) A (call (bval f) its) R E s :=
  by_if w (fun e w => e ▸ len_ok S r w k) fun w => by_if w (fun e w => e ▸ rng_ok S r w k) fun w => by_if w (fun e w => e ▸ srt_ok hh hs S r w k) fun w => by_if w (fun e w => e ▸ cpy_ok S r w k) fun w => by_if w (fun e w => e ▸ max_ok hh S r w k) fun w => by_if w (fun e w => e ▸ min_ok hh S r w k) fun w => w.elim

end C187

namespace C187
open PySem PySem.W PyProof.Rows

variable {c : Cx} {h₀ h h' : Heap} {env : PySem.Env} {α α' : Nat → Addr} {ρ ρ' : Env} {σ σ' : Sto} {A : Around} {E : Value → Shared → Prop} {s : Shared} {Q : Ct} {R : Value → Shared → Prop}

theorem mapSeq_list (f : Array Value → Array Value) (its : Array Value) (n : Nat) : Obj.mapSeq f (listOf its n) = listOf (f its) (if (f its).size == its.size then n else n + 1) := rfl

/-- a list has turned -/
theorem Sim.updList (S : Sim c h₀ env α ρ σ h) {l : Nat} {vs us : List V} {its : Array Value} {n : Nat} (e : σ[l]? = some (.list vs)) (hs : Heap.SameBut (α (2 * l)) h h') (hn : h'.get? (α (2 * l)) = some (listOf its n))
    (r : All2 (RepV α σ.length h) us its.toList) (hb : us.length ≤ big) : Sim c h₀ env α ρ (σ.set l (.list us)) h' ∧ Ext α σ.length h α (σ.set l (.list us)).length h' := by
  obtain ⟨m, F, _⟩ := S.fr
  have hl := S.loc e
  have ho := S.own _ hl
  refine S.upd (i := 2 * l) e (by lia) hl ⟨fun ⟨_, _, h⟩ => (by cases h), fun ⟨_, _, h⟩ => (by cases h)⟩ F (F.change hs ho.2.1 ho.1) (fun b ob hb _ hob => (hs.2 b hb).trans hob)
    (fun X => ⟨its, n, hn, r.mono fun _ _ x => x.mono X, hb⟩)

theorem Ku.set {Q : Sto → Prop} {R : Unit → Shared → Prop} (k : Ku c h₀ env ρ α σ s Q R) {σ' : Sto} {h' : Heap} (q : Q σ') (SX : Sim c h₀ env α ρ σ' h' ∧ Ext α σ.length s.heap α σ'.length h') (tk : Nat) : R () { s with heap := h', toks := tk } :=
  k α σ' { s with heap := h', toks := tk } q SX.1 SX.2 ⟨rfl, rfl, rfl⟩
theorem Kt.set (k : Kt c h₀ env ρ α σ s Q R) {σ' : Sto} {h' : Heap} {V : V} {v : Value} (q : Q V σ') (SX : Sim c h₀ env α ρ σ' h' ∧ Ext α σ.length s.heap α σ'.length h') (r : RepV α σ.length s.heap V v) (tk : Nat) : R v { s with heap := h', toks := tk } :=
  k α V σ' v { s with heap := h', toks := tk } q SX.1 SX.2 (r.mono SX.2) ⟨rfl, rfl, rfl⟩

theorem append_ok (S : Sim c h₀ env α ρ σ s.heap) {l : Nat} {vs : List V} {x : V} {v : Value} (e : σ[l]? = some (.list vs)) (rx : RepV α σ.length s.heap x v) (hb : vs.length < big)
    (w : Q .none (σ.set l (.list (vs ++ [x])))) (k : Kt c h₀ env ρ α σ s Q R) : wpAny (model c.prog c.w) A (call (.builtin "list.append") [.ref (α (2 * l)), v]) R E s := by
  obtain ⟨its, n, ho, ra, _⟩ := S.list e
  refine append_at ho (fun h' hs hn => ?_) (by rw [← ra.arr, ← big_eq]; lia)
  refine k.set (tk := s.toks) w (S.updList e hs hn ?_ (by rw [List.length_append]; simp only [List.length_cons, List.length_nil]; lia)) rfl
  rw [Array.toList_push]; exact ra.append ⟨rx, trivial⟩

theorem pop_ok (S : Sim c h₀ env α ρ σ s.heap) {l : Nat} {vs : List V} {x : V} (e : σ[l]? = some (.list vs)) (hx : vs.getLast? = some x)
    (w : Q x (σ.set l (.list vs.dropLast))) (k : Kt c h₀ env ρ α σ s Q R) : wpAny (model c.prog c.w) A (call (.builtin "list.pop") [.ref (α (2 * l))]) R E s := by
  obtain ⟨its, n, ho, ra, hb⟩ := S.list e
  obtain ⟨y, hy, ry⟩ := ra.last hx
  have hy' : its[its.size - 1]? = some y := by
    rw [List.getLast?_eq_getElem?, Array.length_toList, Array.getElem?_toList] at hy; exact hy
  have hpos : 0 < its.size := by
    rcases Nat.eq_zero_or_pos its.size with h0 | h0
    · simp [h0] at hy'
    · exact h0
  refine call_meets PySem.F.slot_list_pop ⟨_, ho, rfl⟩ PySem.F.entry_list_pop (PySem.F.args_list_pop_1 _) (MeetsSeq.list_pop_last _ its n y hy' (by rw [← ra.arr, ← big_eq]; exact hb)) ⟨ho, ?_⟩
  obtain ⟨n', hn⟩ : ∃ n', (s.heap.update (α (2 * l)) (Obj.mapSeq fun xs => xs.eraseIdxIfInBounds (its.size - 1))).get? (α (2 * l)) = some (listOf (its.eraseIdxIfInBounds (its.size - 1)) n') :=
    ⟨_, by rw [Heap.get?_update_self _ ho rfl, mapSeq_list]⟩
  refine k.set (tk := s.toks) w (S.updList e (Heap.SameBut.update ..) hn ?_ (by rw [List.length_dropLast]; lia)) ry
  have el : (its.eraseIdxIfInBounds (its.size - 1)).toList = its.toList.dropLast := by
    have : (its.eraseIdxIfInBounds (its.size - 1)) = its.pop := by
      rw [Array.eraseIdxIfInBounds, dif_pos (by lia)]
      apply Array.ext'
      rw [Array.toList_eraseIdx, Array.toList_pop, List.eraseIdx_eq_take_drop_succ, List.dropLast_eq_take, Array.length_toList, List.drop_of_length_le (by rw [Array.length_toList]; lia), List.append_nil]
    rw [this, Array.toList_pop]
  rw [el]
  exact ra.dropLast

theorem getS_ok (hs : ∃ o, h₀.get? sysModules = some o) (S : Sim c h₀ env α ρ σ s.heap) {l : Nat} {es : List (Str × V)} {key : Str} {d : V} {t : Tok} {v : Value} (e : σ[l]? = some (.dS es)) (rd : RepV α σ.length s.heap d v)
    (w : Q ((lk es key).getD d) σ) (k : Kt c h₀ env ρ α σ s Q R) : wpAny (model c.prog c.w) A (call (.builtin "dict.get") [.ref (α (2 * l)), .str key t, v]) R E s := by
  obtain ⟨kvs, hm, r, hb⟩ := S.objs _ _ e
  refine call_meetsIn PySem.F.slot_dict_get hm.typeIs PySem.F.entry_dict_get (PySem.F.args_dict_get_3 _ _ _) (meets_dict_get_default (strKind c.prog c.w) _ (strKind_is _ _ key t) (notModules S hs (S.loc e)) v) ⟨_, hm.mapOf, ?_⟩
  cases q : lk es key with
  | none =>
    rw [q] at w
    rw [lk_none r q]
    exact k.same S w rd _
  | some x =>
    rw [q] at w
    obtain ⟨y, hy, ry⟩ := lk_of r q
    rw [hy]
    exact k.same S w ry _

theorem tupKey {n : Nat} {prog : Program} {w : World} {a b : Int} {v : Value} (r : RepV α n h (.tup [.int a, .int b]) v) : ∃ p, v = .ref p ∧ (tupleKind (intKind prog w)).is h [a, b] p := by
  obtain ⟨p, o, its, m, rfl, ho, hc, hd, _, rt⟩ := r
  refine ⟨p, rfl, o, its, m, ho, hc, hd, ?_⟩
  cases hl : its.toList with
  | nil => rw [hl] at rt; exact rt.elim
  | cons x xs =>
    cases xs with
    | nil => rw [hl] at rt; exact rt.2.elim
    | cons y ys =>
      cases ys with
      | nil =>
        rw [hl] at rt
        obtain ⟨⟨t, rfl⟩, ⟨u, rfl⟩, _⟩ := rt
        exact .cons (intKind_is _ _ _ _) (.cons (intKind_is _ _ _ _) .nil)
      | cons _ _ => rw [hl] at rt; exact rt.2.2.elim

theorem atKey_of {n : Nat} {key : List Int} : ∀ {es : List (List Int × V)} {xs : List (List Int × Addr × Value)}, All2 (fun p (x : List Int × Addr × Value) => p.1 = x.1 ∧ RepV α n h p.2 x.2.2) es xs →
    match lk es key with
    | some v => ∃ q, atKey xs key = some q ∧ RepV α n h v q.2
    | none => atKey xs key = none
  | [], [], _ => by simp [lk, atKey]
  | (a, x) :: es, (b, y) :: xs, r => by
    obtain ⟨⟨hab, rv⟩, r'⟩ := r
    simp only at hab
    subst hab
    have ih := atKey_of (key := key) r'
    unfold lk at ih ⊢
    unfold atKey at ih ⊢
    rw [List.find?_cons, List.find?_cons]
    by_cases hk : a = key
    · simp only [hk, decide_true, Option.map_some]
      exact ⟨y, rfl, rv⟩
    · simp only [hk, decide_false]
      exact ih
  | [], _ :: _, r => r.elim
  | _ :: _, [], r => r.elim

theorem getP_ok (hu : A.units + 64 < cLine) (hs : ∃ o, h₀.get? sysModules = some o) (S : Sim c h₀ env α ρ σ s.heap) {l : Nat} {es : List (List Int × V)} {a b : Int} {d : V} {kv v : Value} (e : σ[l]? = some (.dP es)) (rk : RepV α σ.length s.heap (.tup [.int a, .int b]) kv) (rd : RepV α σ.length s.heap d v)
    (w : Q ((lk es [a, b]).getD d) σ) (k : Kt c h₀ env ρ α σ s Q R) : wpAny (model c.prog c.w) A (call (.builtin "dict.get") [.ref (α (2 * l)), kv, v]) R E s := by
  obtain ⟨xs, hm, r, hb⟩ := S.objs _ _ e
  obtain ⟨p, rfl, hp⟩ := tupKey (prog := c.prog) (w := c.w) rk
  refine call_meetsIn PySem.F.slot_dict_get hm.typeIs PySem.F.entry_dict_get (PySem.F.args_dict_get_3 _ _ _) (meetsH_dict_get_default (tupleKind (intKind c.prog c.w)) _ p (notModules S hs (S.loc e)) v) ⟨tupleKind_room_in1 (by lia), [a, b], xs, hp, hm, ?_⟩
  have key := atKey_of (key := [a, b]) r
  cases q : lk es [a, b] with
  | none =>
    rw [q] at w key
    rw [key]
    exact k.same S w rd _
  | some x =>
    rw [q] at w key
    obtain ⟨y, hy, ry⟩ := key
    rw [hy]
    exact k.same S w ry _

theorem sto_of {κ : Type} [DecidableEq κ] {n : Nat} {k : κ} {x : V} {v : Value} (rx : RepV α n h x v) {es : List (κ × V)} {kvs : List (κ × Value)} (r : All2 (fun p q => p.1 = q.1 ∧ RepV α n h p.2 q.2) es kvs) :
    All2 (fun p q => p.1 = q.1 ∧ RepV α n h p.2 q.2) (sto es k x) (stored kvs k v) := by
  have hany : (es.any fun p => decide (p.1 = k)) = kvs.any fun p => decide (p.1 = k) := by
    have gen : ∀ {es : List (κ × V)} {kvs : List (κ × Value)}, All2 (fun p q => p.1 = q.1 ∧ RepV α n h p.2 q.2) es kvs → (es.any fun p => decide (p.1 = k)) = kvs.any fun p => decide (p.1 = k) := by
      intro es
      induction es with
      | nil => intro kvs r; cases kvs with
        | nil => rfl
        | cons _ _ => exact r.elim
      | cons p es ih => intro kvs r; cases kvs with
        | nil => exact r.elim
        | cons q kvs => rw [List.any_cons, List.any_cons, ih r.2, r.1.1]
    exact gen r
  unfold sto stored
  rw [hany]
  split
  · have gen : ∀ {es : List (κ × V)} {kvs : List (κ × Value)}, All2 (fun p q => p.1 = q.1 ∧ RepV α n h p.2 q.2) es kvs →
        All2 (fun p q => p.1 = q.1 ∧ RepV α n h p.2 q.2) (es.map fun p => if p.1 = k then (p.1, x) else p) (kvs.map fun kv => if kv.1 = k then (kv.1, v) else kv) := by
      intro es
      induction es with
      | nil => intro kvs r; cases kvs with
        | nil => trivial
        | cons _ _ => exact r.elim
      | cons p es ih => intro kvs r; cases kvs with
        | nil => exact r.elim
        | cons q kvs =>
          refine ⟨?_, ih r.2⟩
          have e1 := r.1.1
          dsimp only
          rw [← e1]
          split
          · exact ⟨rfl, rx⟩
          · exact r.1
    exact gen r
  · exact r.append ⟨⟨rfl, rx⟩, trivial⟩

theorem stoH_of {n : Nat} {k : List Int} {x : V} {v : Value} {a : Addr} (rx : RepV α n h x v) {es : List (List Int × V)} {xs : List (List Int × Addr × Value)} (r : All2 (fun p (x : List Int × Addr × Value) => p.1 = x.1 ∧ RepV α n h p.2 x.2.2) es xs) :
    All2 (fun p (x : List Int × Addr × Value) => p.1 = x.1 ∧ RepV α n h p.2 x.2.2) (sto es k x) (storedH xs k a v) := by
  have hany : ∀ {es : List (List Int × V)} {xs : List (List Int × Addr × Value)}, All2 (fun p (x : List Int × Addr × Value) => p.1 = x.1 ∧ RepV α n h p.2 x.2.2) es xs → (es.any fun p => decide (p.1 = k)) = (atKey xs k).isSome := by
    intro es
    induction es with
    | nil => intro xs r; cases xs with
      | nil => rfl
      | cons _ _ => exact r.elim
    | cons p es ih => intro xs r; cases xs with
      | nil => exact r.elim
      | cons q xs =>
        have := ih r.2
        unfold atKey at this ⊢
        rw [List.any_cons, this, r.1.1, List.find?_cons]
        by_cases hk : q.1 = k <;> simp [hk]
  unfold sto storedH
  rw [hany r]
  split
  · have gen : ∀ {es : List (List Int × V)} {xs : List (List Int × Addr × Value)}, All2 (fun p (x : List Int × Addr × Value) => p.1 = x.1 ∧ RepV α n h p.2 x.2.2) es xs →
        All2 (fun p (x : List Int × Addr × Value) => p.1 = x.1 ∧ RepV α n h p.2 x.2.2) (es.map fun p => if p.1 = k then (p.1, x) else p) (xs.map (putAt k v)) := by
      intro es
      induction es with
      | nil => intro xs r; cases xs with
        | nil => trivial
        | cons _ _ => exact r.elim
      | cons p es ih => intro xs r; cases xs with
        | nil => exact r.elim
        | cons q xs =>
          refine ⟨?_, ih r.2⟩
          have e1 := r.1.1
          unfold putAt
          dsimp only
          rw [← e1]
          split
          · exact ⟨rfl, rx⟩
          · exact r.1
    exact gen r
  · exact r.append ⟨⟨rfl, rx⟩, trivial⟩

theorem sto_length {κ : Type} [DecidableEq κ] (es : List (κ × V)) (k : κ) (x : V) : (sto es k x).length ≤ es.length + 1 := by
  unfold sto
  split
  · simp
  · simp

/-- a store into a dict from which nothing was ever taken: what it counts is how many keys it has -/
theorem setItem_at {prog : Program} {w : World} {κ : Type} [DecidableEq κ] {knd : KeyKind prog w κ} {A : Around} {E : Value → Shared → Prop} {s : Shared} {d : Addr} {k : κ} {key v : Value} {kvs : List (κ × Value)} {Q : Unit → Shared → Prop} (hkey : knd.is k key = true) (hm : s.heap.DictAt knd d kvs kvs.length)
    (hQ : ∀ h', h'.DictAt knd d (stored kvs k v) (stored kvs k v).length → Heap.SameBut d s.heap h' → Q () { s with heap := h', toks := s.toks + 1 }) (hsz : kvs.length ≤ sizeLine) :
    wpAny (model prog w) A (setItem (.ref d) key v) Q E s := by
  obtain ⟨o, es, ho, hc, hd, hk, hp, hn⟩ := id hm
  have hes : es.size ≤ sizeLine := by
    have e1 := hp.length
    have e2 : es.toList.length = es.size := by simp
    lia
  have hT := hm.dictOf.typeIs
  unfold setItem
  try with_reducible refine wpAny_holding ?_
  refine wpAny_bind (wpAny_sequenceKey hT (by decide) ?_)
  refine wpAny_bind (wpAny_callSpecial?_slot (name := Str.ofString "__setitem__") hT slot_dict_setitem (wpAny_call_entry slot_dict_setitem hT entry_dict_setitem ?_ (args_dict_setitem _ _ _)))
  refine wpAny_bind (wpAny_notOrdered_dict hT ?_)
  show wpAny _ _ (dictSet d key v >>= _) _ _ s
  refine wpAny_bind ?_
  unfold dictSet
  try with_reducible refine wpAny_holding ?_
  refine wpAny_bind (knd.pyHash hkey ?_)
  unfold dictSetHashed
  try with_reducible refine wpAny_holding ?_
  refine wpAny_bind (wpAny_dictFind_of (s := { s with toks := s.toks + 1 }) hkey ho hd hk ?_)
  have hidx : (es.findIdx? fun e => knd.is k e.key) = kvs.findIdx? fun kv => decide (kv.1 = k) := by
    rw [← hp.findIdx k]; obtain ⟨l⟩ := es; simp
  cases hi : es.findIdx? fun e => knd.is k e.key with
  | some i =>
    have hany := any_of_findIdx_some (hidx ▸ hi)
    have hst : (stored kvs k v).length = kvs.length := by rw [stored, if_pos hany, List.length_map]
    rw [hst] at hQ
    refine wpAny_bind (wpAny_rule (wpAny_bind (wpAny_updateDict (s := { s with toks := s.toks + 1 }) ho hd (wpAny_point ?_))))
    refine wpAny_pure ⟨.none, rfl, wpAny_pure (hQ _ ⟨_, _, Heap.get?_update_self _ ho (Obj.isFreed_of_dict (Obj.data_mapDict hd _)), hc.mapDict _, Obj.data_mapDict hd _, hk.modify _ _, ?_, ?_⟩ (Heap.SameBut.update ..))⟩
    · rw [stored, if_pos hany]
      have hl : (es.toList.findIdx? fun e => knd.is k e.key) = some i := by rw [← hi]; obtain ⟨l⟩ := es; simp
      have := hp.modify hn hl v
      obtain ⟨l⟩ := es
      simpa using this
    · rw [stored, if_pos hany, keys_map_store]; exact hn
  | none =>
    have hnot : k ∉ kvs.map (·.1) := not_mem_of_findIdx_none (hidx ▸ hi)
    have hany : ¬ (kvs.any fun kv => decide (kv.1 = k)) = true := by
      rw [List.any_eq_true]; rintro ⟨kv, hkv, he⟩
      exact hnot (List.mem_map.mpr ⟨kv, hkv, of_decide_eq_true he⟩)
    have hst : (stored kvs k v).length = kvs.length + 1 := by rw [stored, if_neg hany, List.length_append]; rfl
    rw [hst] at hQ
    refine wpAny_bind (wpAny_rule (wpAny_updateDictKeys (s := { s with toks := s.toks + 1 }) (hz := hes) ho hd ?_))
    refine wpAny_pure ⟨.none, rfl, wpAny_pure (hQ _ ⟨_, _, Heap.get?_update_self _ ho (Obj.isFreed_of_dict (Obj.data_mapDictKeys hd _)), hc.mapDictKeys _, Obj.data_mapDictKeys hd _, hk.push hkey _, ?_, ?_⟩ (Heap.SameBut.update ..))⟩
    · rw [stored, if_neg hany]
      have := hp.append hkey (knd.hash k) v
      obtain ⟨l⟩ := es
      simpa using this
    · rw [stored, if_neg hany, List.map_append, List.nodup_append]
      refine ⟨hn, by simp, ?_⟩
      intro a ha b hb
      simp only [List.map_cons, List.map_nil, List.mem_singleton] at hb
      subst hb
      exact fun e => hnot (e ▸ ha)

theorem setList_ok {Q : Sto → Prop} {R : Unit → Shared → Prop} (S : Sim c h₀ env α ρ σ s.heap) {l : Nat} {vs : List V} {j : Int} {x : V} {t : Tok} {d : Value} (e : σ[l]? = some (.list vs)) (rx : RepV α σ.length s.heap x d)
    (h0 : 0 ≤ j) (h1 : j.toNat < vs.length) (w : Q (σ.set l (.list (vs.set j.toNat x)))) (k : Ku c h₀ env ρ α σ s Q R) : wpAny (model c.prog c.w) A (setItem (.ref (α (2 * l))) (.int j t) d) R E s := by
  obtain ⟨its, n, ho, ra, hb⟩ := S.list e
  have hlen := ra.arr
  have hl := listOf_is ho
  unfold big at hb
  unfold setItem
  try with_reducible refine wpAny_holding ?_
  first | refine wpAny_bind (wpAny_pure ?_) | skip
  refine wpAny_bind (wpAny_sequenceKey hl.typeIs (by decide) ?_)
  refine wpAny_bind (wpAny_callSpecial?_slot (name := Str.ofString "__setitem__") hl.typeIs slot_list_setitem
    (wpAny_call_entry slot_list_setitem hl.typeIs entry_list_setitem ?_ (args_list_setitem _ _ _)))
  show wpAny _ _ (Builtin.List.listSubscript? (.int j t) >>= _) _ _ s
  refine wpAny_bind (wpAny_listSubscript_int (fitsIndex_of h0 (by lia)) ?_)
  obtain ⟨j, rfl⟩ := Int.eq_ofNat_of_zero_le h0
  have hj : j < its.size := hlen ▸ h1
  have hx' : its[j]? = some its[j] := Array.getElem?_eq_getElem hj
  show wpAny _ _ ((seqItemAt _ j >>= fun r => pure (r.map (j, ·))) >>= _) _ _ s
  refine wpAny_bind (wpAny_bind (wpAny_seqItemAt ho rfl (wpAny_pure ?_)))
  rw [hx']
  show wpAny _ _ (setSeqItemAt _ j d >>= _) _ _ s
  refine wpAny_bind (wpAny_setSeqItemAt ho rfl ?_)
  obtain ⟨n', hn⟩ : ∃ n', (s.heap.update (α (2 * l)) (Obj.mapSeq (·.setIfInBounds j d))).get? (α (2 * l)) = some (listOf (its.setIfInBounds j d) n') :=
    ⟨_, by rw [Heap.get?_update_self _ ho rfl, mapSeq_list]⟩
  have fin : R () { s with heap := s.heap.update (α (2 * l)) (Obj.mapSeq (·.setIfInBounds j d)) } := by
    refine k.set (tk := s.toks) w (S.updList e (Heap.SameBut.update ..) hn ?_ (by rw [List.length_set]; exact hb))
    rw [Array.toList_setIfInBounds]
    exact ra.set j rx
  first
    | exact wpAny_bind (wpAny_pure (wpAny_pure ⟨.none, rfl, wpAny_pure fin⟩))
    | exact wpAny_pure ⟨.none, rfl, wpAny_pure fin⟩
/-- a dict has turned -/
theorem Ku.dict {Q : Sto → Prop} {R : Unit → Shared → Prop} (k : Ku c h₀ env ρ α σ s Q R) (S : Sim c h₀ env α ρ σ s.heap) {l : Nat} {o o' : O} {h' : Heap} (e : σ[l]? = some o) (hp : o ≠ .pad) (hp' : o' ≠ .pad) (n1 : ∀ c fs, o ≠ .inst c fs) (n2 : ∀ c fs, o' ≠ .inst c fs) (hs : Heap.SameBut (α (2 * l)) s.heap h') (w : Q (σ.set l o'))
    (r : Ext α σ.length s.heap α σ.length h' → RepO c α σ.length h' l o') (tk : Nat) : R () { s with heap := h', toks := tk } := by
  obtain ⟨m, F, _⟩ := S.fr
  have hl := S.loc e hp
  have ho := S.own _ hl
  exact k.set (tk := tk) w (S.upd (i := 2 * l) e (by rw [Nat.mul_div_right _ (by decide)]) hl ⟨fun ⟨c, fs, h⟩ => absurd h (n2 c fs), fun ⟨c, fs, h⟩ => absurd h (n1 c fs)⟩ F (F.change hs ho.2.1 ho.1) (fun b ob hb _ hob => (hs.2 b hb).trans hob) r ⟨fun _ => hp, fun _ => hp'⟩)
theorem size_ok {β γ : Type} {P : β → γ → Prop} {es : List β} {kvs : List γ} (r : All2 P es kvs) (hb : es.length < big) : kvs.length ≤ sizeLine := by rw [← r.length, ← big_eq]; exact Nat.le_of_lt hb

theorem setItem_ok {Q : Sto → Prop} {R : Unit → Shared → Prop} (hu : A.units + 64 < cLine) (S : Sim c h₀ env α ρ σ s.heap) {u i x : V} {a b d : Value} (ru : RepV α σ.length s.heap u a) (ri : RepV α σ.length s.heap i b) (rx : RepV α σ.length s.heap x d)
    (w : setItemW u i x σ Q) (k : Ku c h₀ env ρ α σ s Q R) : wpAny (model c.prog c.w) A (setItem a b d) R E s := by
  cases u with
  | loc l =>
    obtain ⟨_, rfl⟩ := ru
    rcases inv_4 (o := σ[l]?) w with ⟨vs, e, w⟩ | ⟨es, e, w⟩ | ⟨es, e, w⟩ | ⟨es, e, w⟩
    · cases i with
      | int j =>
        obtain ⟨t, rfl⟩ := ri
        exact setList_ok S e rx w.1 w.2.1 w.2.2 k
      | _ => exact w.elim
    · cases i with
      | int j =>
        obtain ⟨hb, w⟩ := w
        obtain ⟨t, rfl⟩ := ri
        obtain ⟨kvs, hm, r, _⟩ := S.objs _ _ e
        exact setItem_at (intKind_is _ _ j t) hm (fun h' hm' hs => k.dict S (o' := .dI (sto es j x)) e (fun h => nomatch h) (fun h => nomatch h) (fun _ _ h => nomatch h) (fun _ _ h => nomatch h) hs w (fun X => ⟨_, hm', (sto_of rx r).mono fun _ _ y => ⟨y.1, y.2.mono X⟩, Nat.le_trans (sto_length es j x) hb⟩) _) (size_ok r hb)
      | _ => exact w.elim
    · cases i with
      | str j =>
        obtain ⟨hb, w⟩ := w
        obtain ⟨_, t, rfl⟩ := ri
        obtain ⟨kvs, hm, r, _⟩ := S.objs _ _ e
        exact wpAny_setItem_pairs (strKind_is _ _ j t) hm (fun h' hm' hs => k.dict S (o' := .dS (sto es j x)) e (fun h => nomatch h) (fun h => nomatch h) (fun _ _ h => nomatch h) (fun _ _ h => nomatch h) hs w (fun X => ⟨_, hm', (sto_of rx r).mono fun _ _ y => ⟨y.1, y.2.mono X⟩, Nat.le_trans (sto_length es j x) hb⟩) _) (size_ok r hb)
      | _ => exact w.elim
    · obtain ⟨⟨i₁, i₂⟩, ei, hb, w2⟩ := inv_t2 (i := i) w
      clear w
      subst ei
      obtain ⟨p, rfl, hp⟩ := tupKey (prog := c.prog) (w := c.w) ri
      obtain ⟨xs, hm, r, _⟩ := S.objs _ _ e
      exact wpAny_setItem_heap (tupleKind_room_in1 (by lia)) hp hm (fun h' hm' hs => k.dict S (o' := .dP (sto es [i₁, i₂] x)) e (fun h => nomatch h) (fun h => nomatch h) (fun _ _ h => nomatch h) (fun _ _ h => nomatch h) hs w2 (fun X => ⟨_, hm', (stoH_of rx r).mono fun _ _ y => ⟨y.1, y.2.mono X⟩, Nat.le_trans (sto_length es [i₁, i₂] x) hb⟩) _) (size_ok r hb)
  | _ => exact w.elim

end C187

namespace C187
open PySem PySem.W PyProof.Rows

variable {c : Cx} {h₀ h h' : Heap} {env : PySem.Env} {α α' : Nat → Addr} {ρ ρ' : Env} {σ σ' : Sto} {A : Around} {E : Value → Shared → Prop} {s : Shared} {Q : Ct} {R : Value → Shared → Prop}

theorem filter_zip {β : Type} (p : Nat → Bool) (j : Nat) : ∀ (l : List β) (n : Nat), (∀ i, n ≤ i → i < n + l.length → p i = decide (j ≤ i)) →
    ((l.zipIdx n).filterMap fun x : β × Nat => if p x.2 = true then none else some x.1) = l.take (j - n)
  | [], n, _ => by simp
  | x :: l, n, hp => by
    have h0 := hp n (Nat.le_refl _) (by simp)
    have ih := filter_zip p j l (n + 1) fun i h1 h2 => hp i (by lia) (by simp only [List.length_cons]; lia)
    rw [List.zipIdx_cons, List.filterMap_cons]
    dsimp only
    rw [h0, ih]
    by_cases hj : j ≤ n
    · have e1 : j - n = 0 := by lia
      have e2 : j - (n + 1) = 0 := by lia
      simp [hj, e1, e2]
    · have e1 : j - n = (j - (n + 1)) + 1 := by lia
      simp [hj, e1]

theorem del_call {l sl : Addr} {items : Array Value} {n : Nat} {j : Nat} {t : Tok} {Q : Value → Shared → Prop} {prog : Program} {w : World} (ho : s.heap.get? l = some (listOf items n))
    (hs : s.heap.IsSliceOf sl (.int j t) .none .none) (hj : j ≤ items.size) (hsz : items.size ≤ sizeLine)
    (h : ∀ f : Array Value → Array Value, (f items).toList = items.toList.take j → Q .none { s with heap := s.heap.update l (Obj.mapSeq f) }) :
    wpAny (model prog w) A (call (.builtin "list.__delitem__") [.ref l, .ref sl]) Q E s := by
  obtain ⟨os, hos, hcs, hds⟩ := id hs
  have hTs : s.TypeIs (.ref sl) "slice" := ⟨os, hos, hcs⟩
  refine wpAny_call_entry PySem.F.slot_list_delitem ⟨_, ho, rfl⟩ PySem.F.entry_list_delitem ?_ (PySem.F.args_list_delitem_2 _ _)
  show wpAny _ _ (Builtin.List.listSubscript? (.ref sl) >>= _) _ _ s
  refine wpAny_bind ?_
  unfold Builtin.List.listSubscript?
  refine wpAny_bind (wpAny_specialOf hTs slice_no_index ?_)
  simp only [Option.isNone_none, if_true]
  refine wpAny_pure ?_
  show wpAny _ _ (typeOf (.ref sl) >>= _) _ _ s
  refine wpAny_bind (wpAny_typeOf hTs ?_)
  rw [if_neg (by decide)]
  rw [listSliceParts_eq]
  refine wpAny_bind (wpAny_bind (wpAny_field hos hds (x := .none) rfl (wpAny_bind (wpAny_listPart .none ?_))))
  rw [if_neg (by decide)]
  refine wpAny_bind (wpAny_field hos hds (x := .int j t) rfl (wpAny_bind (wpAny_listPart (.int _ _) ?_)))
  refine wpAny_bind (wpAny_field hos hds (x := .none) rfl (wpAny_bind (wpAny_listPart .none (wpAny_pure ?_))))
  refine wpAny_bind (m := Builtin.List.listItems (.ref l)) ?_
  unfold Builtin.List.listItems
  refine wpAny_bind (wpAny_seqItems ho rfl (wpAny_pure ?_))
  refine wpAny_bind (wpAny_of_eq (sliceIndices_raw (some (j : Int)) none none items.size (by simp)) ?_)
  rw [sliceBounds_plain]
  simp only [Option.elim, clipAt_nat, Nat.min_eq_left hj]
  refine wpAny_bind (wpAny_rule ?_)
  refine wpAny_bind (m := Builtin.List.listUpdate (.ref l) _) ?_
  have key : ∀ (p : Nat → Bool), (∀ i, i < items.size → p i = decide (j ≤ i)) → ((items.toList.zipIdx.filterMap fun x : Value × Nat => if p x.2 = true then none else some x.1).toArray).toList = items.toList.take j := fun p hp => by
    show (items.toList.zipIdx.filterMap fun x : Value × Nat => if p x.2 = true then none else some x.1) = _
    rw [filter_zip p j items.toList 0 fun i _ h2 => hp i (by simpa using h2)]
    simp
  have hsel : ∀ (p : Nat → Bool), (∀ i, p i = (if (1 : Int) > 0 then decide ((j : Int) ≤ i) && decide ((i : Int) < items.size) && ((i : Int) - j) % 1 == 0 else false)) → ∀ i, i < items.size → p i = decide (j ≤ i) := fun p hp i hi => by
    rw [hp i, if_pos (by decide)]
    have e1 : decide ((i : Int) < items.size) = true := decide_eq_true (by lia)
    have e2 : (((i : Int) - j) % 1 == 0) = true := by rw [Int.emod_one]; rfl
    rw [e1, e2, Bool.and_true, Bool.and_true]
    by_cases q : j ≤ i
    · rw [decide_eq_true q, decide_eq_true (by lia)]
    · rw [decide_eq_false q, decide_eq_false (by lia)]
  have hf := key _ (hsel _ fun i => rfl)
  refine listUpdate_at ho rfl ?_ hsz ?_
  · refine wpAny_bind (wpAny_letGo ?_)
    exact wpAny_pure ⟨.none, rfl, h _ hf⟩
  · have := congrArg List.length hf
    rw [Array.length_toList, List.length_take] at this
    exact Nat.le_trans (Nat.le_of_eq this) (by rw [Array.length_toList]; lia)

theorem del_ok {Q : Sto → Prop} {R : Unit → Shared → Prop} (S : Sim c h₀ env α ρ σ s.heap) {u v : V} {a b : Value} (ru : RepV α σ.length s.heap u a) (rv : RepV α σ.length s.heap v b) (w : delW u v σ Q) (k : Ku c h₀ env ρ α σ s Q R) :
    wpAny (model c.prog c.w) A (delItem a (.ref s.heap.objs.size)) R E { s with heap := s.heap.push { cls := .type "slice", data := .fields #[b, .none, .none] } } := by
  cases u with
  | loc l => cases v with
    | int j =>
      obtain ⟨_, rfl⟩ := ru
      obtain ⟨t, rfl⟩ := rv
      obtain ⟨vs, e, h0, h1, w⟩ := inv_l (o := σ[l]?) w
      obtain ⟨j, rfl⟩ := Int.eq_ofNat_of_zero_le h0
      obtain ⟨its, n, ho, ra, hb⟩ := S.list e
      have hlen := ra.arr
      have ho' := push_keep s.heap { cls := .type "slice", data := .fields #[.int (j : Int) t, .none, .none] } _ _ ho
      obtain ⟨S1, X1⟩ := S.grow0 (push_keep s.heap { cls := .type "slice", data := .fields #[.int (j : Int) t, .none, .none] })
      refine wpAny_delItem_slot (listOf_is ho').typeIs (by decide) PySem.F.slot_list_delitem (del_call (s := { s with heap := s.heap.push { cls := .type "slice", data := .fields #[.int (j : Int) t, .none, .none] } }) ho' (Heap.IsSliceOf.new ..) (by lia) (by rw [← hlen, ← big_eq]; exact hb) (fun f hf => ?_))
      obtain ⟨n', hn⟩ : ∃ n', ((s.heap.push { cls := .type "slice", data := .fields #[.int (j : Int) t, .none, .none] }).update (α (2 * l)) (Obj.mapSeq f)).get? (α (2 * l)) = some (listOf (f its) n') :=
        ⟨_, by rw [Heap.get?_update_self _ ho' rfl, mapSeq_list]⟩
      obtain ⟨S2, X2⟩ := S1.updList (us := vs.take j) e (Heap.SameBut.update ..) hn (by rw [hf]; exact (ra.take j).mono fun _ _ x => x.mono X1) (by rw [List.length_take]; lia)
      exact k.set (tk := s.toks) w ⟨S2, X1.trans X2⟩
    | _ => exact w.elim
  | _ => exact w.elim

theorem dict_ok (kd : DK) (S : Sim c h₀ env α ρ σ s.heap) (w : Q (.loc σ.length) (σ ++ [kd.obj])) (k : Kt c h₀ env ρ α σ s Q R) :
    R (.ref s.heap.objs.size) { s with heap := s.heap.push { cls := .type "dict", data := .dict #[] } } := by
  obtain ⟨m, F, _⟩ := S.fr
  obtain ⟨α', S', X, e⟩ := S.alloc (o := kd.obj) (a := s.heap.objs.size) (a' := s.heap.objs.size + 1) F (F.push _) (fun b o _ => push_keep s.heap { cls := .type "dict", data := .dict #[] } b o)
    (get_size _) (get_ge (Nat.le_succ _)) (by simp) (fun α' e1 e2 e3 X => by
      cases kd with
      | i => exact ⟨[], by rw [e2]; exact ⟨_, #[], Heap.get?_push_size _ rfl, ⟨rfl, rfl, rfl⟩, rfl, fun _ he => by simp at he, Pairs.nil, List.nodup_nil⟩, trivial, by simp⟩
      | s => exact ⟨[], by rw [e2]; exact Heap.DictOf.new _, trivial, by simp⟩
      | p => exact ⟨[], by rw [e2]; exact Heap.DictOfH.new _, trivial, by simp⟩)
  refine k α' _ _ _ { s with heap := s.heap.push { cls := .type "dict", data := .dict #[] } } w S' X ?_ ⟨rfl, rfl, rfl⟩
  exact ⟨by simp, by rw [e]⟩

theorem unpack_ok {n : Nat} {R : List Value → Shared → Prop} (hh : A.handled = none) (S : Sim c h₀ env α ρ σ s.heap) {u : V} {a : Value} {vs : List V} (ru : RepV α σ.length s.heap u a) (e : unpackOf u σ = some vs) (hn : vs.length = n)
    (k : ∀ (its : List Value) (h' : Heap), Sim c h₀ env α ρ σ h' → Ext α σ.length s.heap α σ.length h' → All2 (RepV α σ.length h') vs its → R its { s with heap := h' }) :
    wpAny (model c.prog c.w) A (unpackItems a n none) R E s := by
  subst hn
  have fin : ∀ (its : Array Value) (h' : Heap), Heap.ExtBut s.heap.objs.size s.heap h' → All2 (RepV α σ.length s.heap) vs its.toList → R its.toList { s with heap := h' } := fun its h' he r => by
    obtain ⟨S', X⟩ := S.grow0 (h' := h') fun b o ho => he b o (Nat.ne_of_lt (Heap.lt_size ho)) ho
    exact k _ h' S' X (r.mono fun _ _ x => x.mono X)
  cases u with
  | tup us =>
    obtain rfl := Option.some.inj e
    obtain ⟨p, o, its, n, rfl, ho, hc, hd, hsz, r⟩ := ru
    have ra := repVs_iff.mp r
    rw [ra.arr]
    exact unpackItems_tuple hh (⟨o, ho, hc, n, hd⟩ : IsTup s.heap p its) fun h' he => fin its h' he ra
  | loc l =>
    obtain ⟨_, rfl⟩ := ru
    have e0 : σ[l]? = some (.list vs) := by
      unfold unpackOf at e
      dsimp only at e
      cases q : σ[l]? with
      | none => rw [q] at e; exact nso e
      | some o =>
        rw [q] at e
        cases o with
        | list us => rw [Option.some.inj e]
        | _ => exact nso e
    obtain ⟨its, n, ho, ra, hb⟩ := S.list e0
    rw [ra.arr]
    exact kun_itemsOf hh (listOf_is ho) fun h' he => fin its h' he ra
  | _ => exact nso e

end C187

namespace C187
open PySem PySem.W PyProof.Rows

abbrev Names := List (Str × NameKind)

/-- the IR's expression is the AST's -/
noncomputable def notSuper (a : Expr) : Bool := a.ctorIdx != 16
noncomputable def notSlice (a : Expr) : Bool := a.ctorIdx != 26
noncomputable def plainTest : Expr → Bool
  | .UnaryOp .Not _ _ => false
  | .BoolOp .. => false
  | .IfExp .. => false
  | .Compare .. => false
  | _ => true

/-- the AST's expressions, looked at -/
noncomputable def vConst (a : Expr) : Option (Const) := if h : a.ctorIdx = 19 then Expr.Constant.elim (motive_1 := fun _ => Option (Const)) a h fun c k p => some c else none
noncomputable def vName (a : Expr) : Option (Str) := if h : a.ctorIdx = 23 then Expr.Name.elim (motive_1 := fun _ => Option (Str)) a h fun y p => some y else none
noncomputable def vUn (a : Expr) : Option (UnaryOp × Expr) := if h : a.ctorIdx = 3 then Expr.UnaryOp.elim (motive_1 := fun _ => Option (UnaryOp × Expr)) a h fun o v p => some (o, v) else none
noncomputable def vBin (a : Expr) : Option (Expr × Operator × Expr) := if h : a.ctorIdx = 2 then Expr.BinOp.elim (motive_1 := fun _ => Option (Expr × Operator × Expr)) a h fun l o r p => some (l, o, r) else none
noncomputable def vCmp (a : Expr) : Option (Expr × List CmpOp × List Expr) := if h : a.ctorIdx = 15 then Expr.Compare.elim (motive_1 := fun _ => Option (Expr × List CmpOp × List Expr)) a h fun l o r p => some (l, o, r) else none
noncomputable def vIf (a : Expr) : Option (Expr × Expr × Expr) := if h : a.ctorIdx = 5 then Expr.IfExp.elim (motive_1 := fun _ => Option (Expr × Expr × Expr)) a h fun t x y p => some (t, x, y) else none
noncomputable def vAttr (a : Expr) : Option (Expr × Str) := if h : a.ctorIdx = 20 then Expr.Attribute.elim (motive_1 := fun _ => Option (Expr × Str)) a h fun v g p => some (v, g) else none
noncomputable def vSub (a : Expr) : Option (Expr × Expr) := if h : a.ctorIdx = 21 then Expr.Subscript.elim (motive_1 := fun _ => Option (Expr × Expr)) a h fun v j p => some (v, j) else none
noncomputable def vSlice (a : Expr) : Option (Option Expr × Option Expr × Option Expr) := if h : a.ctorIdx = 26 then Expr.Slice.elim (motive_1 := fun _ => Option (Option Expr × Option Expr × Option Expr)) a h fun l u t p => some (l, u, t) else none
noncomputable def vTup (a : Expr) : Option (List Expr) := if h : a.ctorIdx = 25 then Expr.Tuple.elim (motive_1 := fun _ => Option (List Expr)) a h fun es k p => some es else none
noncomputable def vList (a : Expr) : Option (List Expr) := if h : a.ctorIdx = 24 then Expr.List.elim (motive_1 := fun _ => Option (List Expr)) a h fun es p => some es else none
noncomputable def vDict (a : Expr) : Option (List (Option Expr) × List Expr) := if h : a.ctorIdx = 6 then Expr.Dict.elim (motive_1 := fun _ => Option (List (Option Expr) × List Expr)) a h fun ks vs p => some (ks, vs) else none
noncomputable def vComp (a : Expr) : Option (Expr × List Comprehension × Scope) := if h : a.ctorIdx = 8 then Expr.ListComp.elim (motive_1 := fun _ => Option (Expr × List Comprehension × Scope)) a h fun e g s p => some (e, g, s) else none
noncomputable def vCall (a : Expr) : Option (Expr × List Expr × List Keyword × Pos) := if h : a.ctorIdx = 16 then Expr.Call.elim (motive_1 := fun _ => Option (Expr × List Expr × List Keyword × Pos)) a h fun g es kws p => some (g, es, kws, p) else none
noncomputable def vBool (a : Expr) : Option (BoolOp × List Expr) := if h : a.ctorIdx = 0 then Expr.BoolOp.elim (motive_1 := fun _ => Option (BoolOp × List Expr)) a h fun o es p => some (o, es) else none
noncomputable def vAttrP (a : Expr) : Option (Expr × Str × Pos) := if h : a.ctorIdx = 20 then Expr.Attribute.elim (motive_1 := fun _ => Option (Expr × Str × Pos)) a h fun v g p => some (v, g, p) else none
/-- the only one of a list -/
noncomputable def one {α : Type} : List α → Option α
  | [] => none
  | a :: r => match r with
    | [] => some a
    | _ :: _ => none
theorem vin {β : Type} {p : Prop} [Decidable p] {k : p → Option β} {f : β → Bool} (h : (if h : p then k h else none).any f = true) : p := by
  by_cases hp : p
  · exact hp
  · rw [dif_neg hp] at h; cases h
theorem eBeq {α : Type} [BEq α] [LawfulBEq α] {x y : α} {P : α → Prop} (h : (x == y) = true) (k : P y) : P x := by rw [beq_iff_eq.mp h]; exact k
theorem eEq {α : Type} {x y : α} {P : α → Prop} (h : x = y) (k : P y) : P x := by rw [h]; exact k
theorem eOne {α : Type} {l : List α} {f : α → Bool} {P : List α → Prop} (h : (one l).any f = true) (k : ∀ a, f a = true → P [a]) : P l := by
  match l, h with
  | [a], h => exact k a h
  | [], h => exact nomatch (show false = true from h)
  | _ :: _ :: _, h => exact nomatch (show false = true from h)

section
variable {a : Expr}
theorem eConst {f : Const → Bool} {P : Expr → Prop} (h : (vConst a).any f = true) (k : ∀ c k p, f c = true → P (.Constant c k p)) : P a := Expr.Constant.elim (motive_1 := fun a => (vConst a).any f = true → P a) a (vin h) k h
theorem eName {f : Str → Bool} {P : Expr → Prop} (h : (vName a).any f = true) (k : ∀ y p, f y = true → P (.Name y p)) : P a := Expr.Name.elim (motive_1 := fun a => (vName a).any f = true → P a) a (vin h) k h
theorem iName {f : Str → Bool} (h : (vName a).any f = true) : ∃ y p, a = .Name y p ∧ f y = true := eName (P := fun b => ∃ y p, b = .Name y p ∧ f y = true) h fun y p h => ⟨_, _, rfl, h⟩
theorem eUn {f : UnaryOp × Expr → Bool} {P : Expr → Prop} (h : (vUn a).any f = true) (k : ∀ o v p, f (o, v) = true → P (.UnaryOp o v p)) : P a := Expr.UnaryOp.elim (motive_1 := fun a => (vUn a).any f = true → P a) a (vin h) k h
theorem eBin {f : Expr × Operator × Expr → Bool} {P : Expr → Prop} (h : (vBin a).any f = true) (k : ∀ l o r p, f (l, o, r) = true → P (.BinOp l o r p)) : P a := Expr.BinOp.elim (motive_1 := fun a => (vBin a).any f = true → P a) a (vin h) k h
theorem eCmp {f : Expr × List CmpOp × List Expr → Bool} {P : Expr → Prop} (h : (vCmp a).any f = true) (k : ∀ l o r p, f (l, o, r) = true → P (.Compare l o r p)) : P a := Expr.Compare.elim (motive_1 := fun a => (vCmp a).any f = true → P a) a (vin h) k h
theorem eIf {f : Expr × Expr × Expr → Bool} {P : Expr → Prop} (h : (vIf a).any f = true) (k : ∀ t x y p, f (t, x, y) = true → P (.IfExp t x y p)) : P a := Expr.IfExp.elim (motive_1 := fun a => (vIf a).any f = true → P a) a (vin h) k h
theorem eAttr {f : Expr × Str → Bool} {P : Expr → Prop} (h : (vAttr a).any f = true) (k : ∀ v g p, f (v, g) = true → P (.Attribute v g p)) : P a := Expr.Attribute.elim (motive_1 := fun a => (vAttr a).any f = true → P a) a (vin h) k h
theorem eSub {f : Expr × Expr → Bool} {P : Expr → Prop} (h : (vSub a).any f = true) (k : ∀ v j p, f (v, j) = true → P (.Subscript v j p)) : P a := Expr.Subscript.elim (motive_1 := fun a => (vSub a).any f = true → P a) a (vin h) k h
theorem eSlice {f : Option Expr × Option Expr × Option Expr → Bool} {P : Expr → Prop} (h : (vSlice a).any f = true) (k : ∀ l u t p, f (l, u, t) = true → P (.Slice l u t p)) : P a := Expr.Slice.elim (motive_1 := fun a => (vSlice a).any f = true → P a) a (vin h) k h
theorem eTup {f : List Expr → Bool} {P : Expr → Prop} (h : (vTup a).any f = true) (k : ∀ es k p, f es = true → P (.Tuple es k p)) : P a := Expr.Tuple.elim (motive_1 := fun a => (vTup a).any f = true → P a) a (vin h) k h
theorem eList {f : List Expr → Bool} {P : Expr → Prop} (h : (vList a).any f = true) (k : ∀ es p, f es = true → P (.List es p)) : P a := Expr.List.elim (motive_1 := fun a => (vList a).any f = true → P a) a (vin h) k h
theorem eDict {f : List (Option Expr) × List Expr → Bool} {P : Expr → Prop} (h : (vDict a).any f = true) (k : ∀ ks vs p, f (ks, vs) = true → P (.Dict ks vs p)) : P a := Expr.Dict.elim (motive_1 := fun a => (vDict a).any f = true → P a) a (vin h) k h
theorem eComp {f : Expr × List Comprehension × Scope → Bool} {P : Expr → Prop} (h : (vComp a).any f = true) (k : ∀ e g s p, f (e, g, s) = true → P (.ListComp e g s p)) : P a := Expr.ListComp.elim (motive_1 := fun a => (vComp a).any f = true → P a) a (vin h) k h
theorem eCall {f : Expr × List Expr × List Keyword × Pos → Bool} {P : Expr → Prop} (h : (vCall a).any f = true) (k : ∀ g es kws p, f (g, es, kws, p) = true → P (.Call g es kws p)) : P a := Expr.Call.elim (motive_1 := fun a => (vCall a).any f = true → P a) a (vin h) k h
theorem eBool {f : BoolOp × List Expr → Bool} {P : Expr → Prop} (h : (vBool a).any f = true) (k : ∀ o es p, f (o, es) = true → P (.BoolOp o es p)) : P a := Expr.BoolOp.elim (motive_1 := fun a => (vBool a).any f = true → P a) a (vin h) k h
theorem eAttrP {f : Expr × Str × Pos → Bool} {P : Expr → Prop} (h : (vAttrP a).any f = true) (k : ∀ v g p, f (v, g, p) = true → P (.Attribute v g p)) : P a := Expr.Attribute.elim (motive_1 := fun a => (vAttrP a).any f = true → P a) a (vin h) k h
end

/-- constants -/
noncomputable def cNone (c : Const) : Bool := c.ctorIdx == 0
noncomputable def cBool (b : Bool) (c : Const) : Bool := if h : c.ctorIdx = 1 then Const.bool.elim (motive := fun _ => Bool) c h fun d => b == d else false
noncomputable def cInt (i : Int) (c : Const) : Bool := if h : c.ctorIdx = 2 then Const.int.elim (motive := fun _ => Bool) c h fun d => i == d else false
noncomputable def cStr (x : String) (c : Const) : Bool := if h : c.ctorIdx = 5 then Const.str.elim (motive := fun _ => Bool) c h fun y => y == Str.ofString x else false
theorem cin {p : Prop} [Decidable p] {k : p → Bool} (h : (if h : p then k h else false) = true) : p := by
  by_cases hp : p
  · exact hp
  · rw [dif_neg hp] at h; cases h
theorem cNone_eq {k : Const} (h : cNone k = true) : k = .none := Const.none.elim (motive := fun k => k = .none) k (beq_iff_eq.mp h) rfl
theorem cBool_eq {k : Const} {b : Bool} (h : cBool b k = true) : k = .bool b := Const.bool.elim (motive := fun k => cBool b k = true → k = .bool b) k (cin h) (fun d h => congrArg _ (beq_iff_eq.mp h).symm) h
theorem cInt_eq {k : Const} {b : Int} (h : cInt b k = true) : k = .int b := Const.int.elim (motive := fun k => cInt b k = true → k = .int b) k (cin h) (fun d h => congrArg _ (beq_iff_eq.mp h).symm) h
theorem cStr_eq {k : Const} {b : String} (h : cStr b k = true) : k = .str (Str.ofString b) := Const.str.elim (motive := fun k => cStr b k = true → k = .str (Str.ofString b)) k (cin h) (fun d h => congrArg _ (beq_iff_eq.mp h)) h
noncomputable def ckPart (b : Bool) (f : Expr → Bool) : Option Expr → Bool
  | none => b
  | some a => f a
noncomputable def noKw : List Keyword → Bool
  | [] => true
  | _ :: _ => false
theorem noKw_eq {l : List Keyword} (h : noKw l = true) : l = [] := by
  cases l with
  | nil => rfl
  | cons _ _ => exact nomatch (show false = true from h)
noncomputable def noDict : List (Option Expr) × List Expr → Bool
  | ([], []) => true
  | _ => false

/-- what a pure expression of a block may be -/
noncomputable def ckP (ok : Str → Bool) : X → Expr → Bool
  | .none, e => (vConst e).any cNone
  | .int i, e => (vConst e).any (cInt i)
  | .str x, e => (vConst e).any (cStr x)
  | .var x, e => (vName e).any fun y => y == Str.ofString x && ok y && !(y == ("__debug__" : Str))
  | .item a i, e => (vSub e).any fun z => notSlice z.2 && ckP ok a z.1 && ckP ok i z.2
  | .tup l, e => (vTup e).any fun es => decide (es.length ≤ 1000) && ckPs ok l es
  | _, _ => false
where ckPs (ok : Str → Bool) : List X → List Expr → Bool
  | [], es => es.isEmpty
  | x :: xs, es => match es with
    | [] => false
    | e :: es => ckP ok x e && ckPs ok xs es

/-- the names of a block, as its environment has them -/
noncomputable def relNames (nm : Names) (scope : Scope) : Names := scope.names.map fun (n, k) => if (k == .free && nm.lookup n == some .cell) then (n, .cell) else (n, k)

/-- the names that an expression of the block may look at -/
noncomputable def okIn (nm : Names) (scope : Scope) (y : Str) : Str → Bool := fun z => z == y || (relNames nm scope).lookup z == some .cell

noncomputable def blockOk (nm : Names) (scope : Scope) (y : Str) : Bool :=
  scope.names.all (fun x => x.2 != .cell) && scope.kind == .function && scope.names.all (fun x => x.2 != .local || scope.names.lookup x.1 == some .local) && scope.names.lookup y == some .local &&
  scope.names.all (fun x => x.2 != .free || nm.lookup x.1 == some .cell)

noncomputable def noSet (a : Expr) : Bool := a.ctorIdx != 7
noncomputable def stored? (nm : Names) (y : Str) : Bool := nm.lookup y == some .local || nm.lookup y == some .cell

noncomputable def isNone : X → Bool
  | .none => true
  | _ => false
mutual
noncomputable def ckE (nm : Names) : X → Expr → Bool
  | .none, a => (vConst a).any cNone
  | .bool b, a => (vConst a).any (cBool b)
  | .int i, a => (vConst a).any (cInt i)
  | .str x, a => (vConst a).any (cStr x)
  | .var x, a => (vName a).any fun y => y == Str.ofString x && (nm.lookup y == some .local || nm.lookup y == some .cell) && !(y == ("__debug__" : Str))
  | .glob x, a => (vName a).any fun y => y == Str.ofString x && nm.lookup y == some .globalImplicit && !(y == ("__debug__" : Str))
  | .neg e, a => (vUn a).any fun z => z.1 == .USub && ckE nm e z.2
  | .bin o x y, a => (vBin a).any fun z => z.2.1 == opOf o && ckE nm x z.1 && ckE nm y z.2.2
  | .cmp o x y, a => (vCmp a).any fun z => (one z.2.1).any fun op => (one z.2.2).any fun r => op == cmpOf o && ckE nm x z.1 && ckE nm y r
  | .ite c x y, a => (vIf a).any fun z => ckT nm c z.1 && ckE nm x z.2.1 && ckE nm y z.2.2
  | .attr e f, a => (vAttr a).any fun z => z.2 == Str.ofString f && notSuper z.1 && ckE nm e z.1
  | .item e i, a => (vSub a).any fun z => notSlice z.2 && ckE nm e z.1 && ckE nm i z.2
  | .slice e lo hi st, a => (vSub a).any fun z => (vSlice z.2).any fun t => ckE nm e z.1 && ckPart (isNone lo) (fun b => ckE nm lo b) t.1 && ckPart (isNone hi) (fun b => ckE nm hi b) t.2.1 && ckPart (isNone st) (fun b => ckE nm st b) t.2.2
  | .tup l, a => (vTup a).any fun es => decide (es.length ≤ 1000) && ckEs nm l es
  | .list l, a => (vList a).any fun es => decide (es.length ≤ 1000) && ckEs nm l es
  | .dict _, a => (vDict a).any noDict
  | .map elt x it, a => (vComp a).any fun z => (one z.2.1).any fun g => (vName g.target).any fun y => g.ifs.isEmpty && decide (g.is_async = 0) && (y == Str.ofString x) && blockOk nm z.2.2 y && noSet g.iter && ckP (okIn nm z.2.2 y) elt z.1 && ckE nm it g.iter
  | .call f args, a => (vCall a).any fun z => (vName z.1).any fun g => noKw z.2.2.1 && g == Str.ofString f && nm.lookup g == some .globalImplicit && !(g == ("__debug__" : Str)) && (isFun f || isCls f || decide (f ∈ ["len", "range", "sorted", "list", "max", "min"])) && ckEs nm args z.2.1
  | .meth e f args, a => (vCall a).any fun z => (vAttrP z.1).any fun t => noKw z.2.2.1 && t.2.1 == Str.ofString f && notSuper t.1 && t.2.2.endLine == z.2.2.2.line && decide (z.2.1.length < 30) && ckE nm e t.1 && ckEs nm args z.2.1
  | .all _, _ => false
  | .any _, _ => false
  | .not _, _ => false
  | .tru _, _ => false
termination_by structural x => x
noncomputable def ckEs (nm : Names) : List X → List Expr → Bool
  | [], es => es.isEmpty
  | x :: xs, es => match es with
    | [] => false
    | e :: es => ckE nm x e && ckEs nm xs es
termination_by structural x => x
noncomputable def ckT (nm : Names) : X → Expr → Bool
  | .cmp o x y, a => (vCmp a).any fun z => (one z.2.1).any fun op => (one z.2.2).any fun r => op == cmpOf o && ckE nm x z.1 && ckE nm y r
  | .all l, a => (vBool a).any fun z => z.1 == .And && ckTs nm l z.2
  | .any l, a => (vBool a).any fun z => z.1 == .Or && ckTs nm l z.2
  | .not x, a => (vUn a).any fun z => z.1 == .Not && ckT nm x z.2
  | .tru x, a => plainTest a && ckE nm x a
  | _, _ => false
termination_by structural x => x
noncomputable def ckTs (nm : Names) : List X → List Expr → Bool
  | [], es => es.isEmpty
  | x :: xs, es => match es with
    | [] => false
    | e :: es => ckT nm x e && ckTs nm xs es
termination_by structural x => x
end
theorem ckEs_cons {nm : Names} {x : X} {xs : List X} {es : List Expr} (h : ckEs nm (x :: xs) es = true) : ∃ e r, es = e :: r ∧ ckE nm x e = true ∧ ckEs nm xs r = true := by
  cases es with
  | nil => exact nomatch (show false = true from h)
  | cons e r => exact ⟨e, r, rfl, Bool.and_eq_true_iff.mp h⟩
theorem ckTs_cons {nm : Names} {x : X} {xs : List X} {es : List Expr} (h : ckTs nm (x :: xs) es = true) : ∃ e r, es = e :: r ∧ ckT nm x e = true ∧ ckTs nm xs r = true := by
  cases es with
  | nil => exact nomatch (show false = true from h)
  | cons e r => exact ⟨e, r, rfl, Bool.and_eq_true_iff.mp h⟩
theorem ckPs_cons {ok : Str → Bool} {x : X} {xs : List X} {es : List Expr} (h : ckP.ckPs ok (x :: xs) es = true) : ∃ e r, es = e :: r ∧ ckP ok x e = true ∧ ckP.ckPs ok xs r = true := by
  cases es with
  | nil => exact nomatch (show false = true from h)
  | cons e r => exact ⟨e, r, rfl, Bool.and_eq_true_iff.mp h⟩
theorem nil_of {es : List Expr} (h : es.isEmpty = true) : es = [] := by
  cases es with
  | nil => rfl
  | cons _ _ => exact nomatch (show false = true from h)

noncomputable def ckO (nm : Names) (x : X) (a : Option Expr) : Bool := ckPart (isNone x) (fun b => ckE nm x b) a

end C187

namespace C187
open PySem PySem.W PyProof.Rows

noncomputable def vNameP (a : Expr) : Option (Str × Pos) := if h : a.ctorIdx = 23 then Expr.Name.elim (motive_1 := fun _ => Option (Str × Pos)) a h fun y p => some (y, p) else none
noncomputable def vCompP (a : Expr) : Option (Expr × List Comprehension × Scope × Pos) := if h : a.ctorIdx = 8 then Expr.ListComp.elim (motive_1 := fun _ => Option (Expr × List Comprehension × Scope × Pos)) a h fun e g s p => some (e, g, s, p) else none
section
variable {a : Expr}
theorem eNameP {f : Str × Pos → Bool} {P : Expr → Prop} (h : (vNameP a).any f = true) (k : ∀ y p, f (y, p) = true → P (.Name y p)) : P a := Expr.Name.elim (motive_1 := fun a => (vNameP a).any f = true → P a) a (vin h) k h
theorem eCompP {f : Expr × List Comprehension × Scope × Pos → Bool} {P : Expr → Prop} (h : (vCompP a).any f = true) (k : ∀ e g s p, f (e, g, s, p) = true → P (.ListComp e g s p)) : P a := Expr.ListComp.elim (motive_1 := fun a => (vCompP a).any f = true → P a) a (vin h) k h
end

noncomputable def ckNames (nm : Names) : List String → List Expr → Bool
  | [], es => es.isEmpty
  | x :: xs, es => match es with
    | [] => false
    | e :: es => (vName e).any fun y => y == Str.ofString x && nm.lookup y == some .local && ckNames nm xs es
noncomputable def noComp (a : Expr) : Bool := a.ctorIdx != 8 && a.ctorIdx != 9 && a.ctorIdx != 10
noncomputable def noDisp (e : Expr) : Bool := (vTup e).isNone && (vList e).isNone && noComp e
noncomputable def ckTest (ok : Str → Bool) (a : X) (b : List X) (ifs : List Expr) : Bool :=
  (one ifs).any fun t => (vCmp t).any fun z => (one z.2.1).any fun op => (one z.2.2).any fun t => (vTup t).any fun r => op == .Eq && ckP ok a z.1 && ckP.ckPs ok b r && decide (r.length ≤ 1000)
noncomputable def ckGen (nm : Names) (z : String) (it a : X) (b : List X) (scope : Scope) (e : Str) (gens : List Comprehension) : Bool :=
  (one gens).any fun g => (vName g.target).any fun z' => decide (g.is_async = 0) && z' == Str.ofString z && e == z' && blockOk nm scope z' && ckTest (okIn nm scope z') a b g.ifs && ckE nm it g.iter && noSet g.iter
noncomputable def ckFilt (nm : Names) (x z : String) (it a : X) (b : List X) (t w : Expr) : Bool :=
  (vNameP t).any fun y => (vCompP w).any fun q => (vName q.1).any fun e => y.1 == Str.ofString x && nm.lookup y.1 == some .local && y.2.line == q.2.2.2.line && !(q.2.2.1.names.any fun (n, k) => n == y.1 && (k == .local || k == .cell)) && !(e == ("__debug__" : Str)) && ckGen nm z it a b q.2.2.1 e q.2.1
/-- one target, what follows, and the value -/
noncomputable def sole (a : Stmt) : Option (Expr × Expr) := if h : a.ctorIdx = 5 then Stmt.Assign.elim (motive_2 := fun _ => Option (Expr × Expr)) a h fun ts w p => (one ts).map fun t => (t, w) else none
noncomputable def vAug (a : Stmt) : Option (Expr × Operator × Expr) := if h : a.ctorIdx = 7 then Stmt.AugAssign.elim (motive_2 := fun _ => Option (Expr × Operator × Expr)) a h fun t o w p => some (t, o, w) else none
noncomputable def vExpr (a : Stmt) : Option (Expr) := if h : a.ctorIdx = 24 then Stmt.Expr.elim (motive_2 := fun _ => Option (Expr)) a h fun w p => some w else none
noncomputable def vRet (a : Stmt) : Option (Option Expr) := if h : a.ctorIdx = 3 then Stmt.Return.elim (motive_2 := fun _ => Option (Option Expr)) a h fun w p => some w else none
noncomputable def vIte (a : Stmt) : Option (Expr × List Stmt × List Stmt) := if h : a.ctorIdx = 12 then Stmt.If.elim (motive_2 := fun _ => Option (Expr × List Stmt × List Stmt)) a h fun t x y p => some (t, x, y) else none
noncomputable def vWhile (a : Stmt) : Option (Expr × List Stmt × List Stmt) := if h : a.ctorIdx = 11 then Stmt.While.elim (motive_2 := fun _ => Option (Expr × List Stmt × List Stmt)) a h fun t x y p => some (t, x, y) else none
noncomputable def vFor (a : Stmt) : Option (Expr × Expr × List Stmt × List Stmt) := if h : a.ctorIdx = 9 then Stmt.For.elim (motive_2 := fun _ => Option (Expr × Expr × List Stmt × List Stmt)) a h fun t w x y p => some (t, w, x, y) else none
noncomputable def vDel (a : Stmt) : Option (List Expr) := if h : a.ctorIdx = 4 then Stmt.Delete.elim (motive_2 := fun _ => Option (List Expr)) a h fun ts p => some ts else none
noncomputable def isCont (a : Stmt) : Bool := a.ctorIdx == 27
section
variable {a : Stmt}
theorem eSole {f : Expr × Expr → Bool} {P : Stmt → Prop} (h : (sole a).any f = true) (k : ∀ t w p, f (t, w) = true → P (.Assign [t] w p)) : P a := Stmt.Assign.elim (motive_2 := fun a => (sole a).any f = true → P a) a (vin h) (fun ts w p h => by
  match ts, h with
  | [t], h => exact k t w p h
  | [], h => exact nomatch (show false = true from h)
  | _ :: _ :: _, h => exact nomatch (show false = true from h)) h
theorem eAug {f : Expr × Operator × Expr → Bool} {P : Stmt → Prop} (h : (vAug a).any f = true) (k : ∀ t o w p, f (t, o, w) = true → P (.AugAssign t o w p)) : P a := Stmt.AugAssign.elim (motive_2 := fun a => (vAug a).any f = true → P a) a (vin h) k h
theorem eExpr {f : Expr → Bool} {P : Stmt → Prop} (h : (vExpr a).any f = true) (k : ∀ w p, f w = true → P (.Expr w p)) : P a := Stmt.Expr.elim (motive_2 := fun a => (vExpr a).any f = true → P a) a (vin h) k h
theorem eRet {f : Option Expr → Bool} {P : Stmt → Prop} (h : (vRet a).any f = true) (k : ∀ w p, f w = true → P (.Return w p)) : P a := Stmt.Return.elim (motive_2 := fun a => (vRet a).any f = true → P a) a (vin h) k h
theorem eIte {f : Expr × List Stmt × List Stmt → Bool} {P : Stmt → Prop} (h : (vIte a).any f = true) (k : ∀ t x y p, f (t, x, y) = true → P (.If t x y p)) : P a := Stmt.If.elim (motive_2 := fun a => (vIte a).any f = true → P a) a (vin h) k h
theorem eWhile {f : Expr × List Stmt × List Stmt → Bool} {P : Stmt → Prop} (h : (vWhile a).any f = true) (k : ∀ t x y p, f (t, x, y) = true → P (.While t x y p)) : P a := Stmt.While.elim (motive_2 := fun a => (vWhile a).any f = true → P a) a (vin h) k h
theorem eFor {f : Expr × Expr × List Stmt × List Stmt → Bool} {P : Stmt → Prop} (h : (vFor a).any f = true) (k : ∀ t w x y p, f (t, w, x, y) = true → P (.For t w x y p)) : P a := Stmt.For.elim (motive_2 := fun a => (vFor a).any f = true → P a) a (vin h) k h
theorem eDel {f : List Expr → Bool} {P : Stmt → Prop} (h : (vDel a).any f = true) (k : ∀ ts p, f ts = true → P (.Delete ts p)) : P a := Stmt.Delete.elim (motive_2 := fun a => (vDel a).any f = true → P a) a (vin h) k h
theorem iCont (h : isCont a = true) : ∃ p, a = .Continue p := Stmt.Continue.elim (motive_2 := fun a => ∃ p, a = .Continue p) a (beq_iff_eq.mp h) fun p => ⟨p, rfl⟩
end
noncomputable def ckAsg (nm : Names) (x : String) (e : X) (t w : Expr) : Bool := (vName t).any fun y => y == Str.ofString x && stored? nm y && noComp w && ckE nm e w
noncomputable def ckAsgAttr (nm : Names) (o : X) (f : String) (e : X) (t w : Expr) : Bool := (vAttr t).any fun z => z.2 == Str.ofString f && noComp w && ckE nm o z.1 && ckE nm e w
noncomputable def ckAsgItem (nm : Names) (o i e : X) (t w : Expr) : Bool := (vSub t).any fun z => notSlice z.2 && noComp w && ckE nm o z.1 && (ckE nm i z.2 && ckE nm e w)
noncomputable def ckAsgTup (nm : Names) (xs : List String) (e : X) (t w : Expr) : Bool := (vTup t).any fun ts => noDisp w && ckNames nm xs ts && ckE nm e w
noncomputable def ckAug (nm : Names) (x : String) (o : Bop) (e : X) (t : Expr) (op : Operator) (w : Expr) : Bool := (vName t).any fun y => y == Str.ofString x && nm.lookup y == some .local && op == opOf o && ckE nm e w
noncomputable def ckDel (nm : Names) (o lo : X) (ts : List Expr) : Bool := (one ts).any fun t => (vSub t).any fun z => (vSlice z.2).any fun q => ckE nm o z.1 && ckPart false (fun l => ckE nm lo l) q.1 && q.2.1.isNone && q.2.2.isNone
mutual
noncomputable def ckS (nm : Names) : S → Stmt → Bool
  | .asg x e, a => (sole a).any fun z => ckAsg nm x e z.1 z.2
  | .asgFilt x z it u v, a => (sole a).any fun y => ckFilt nm x z it u v y.1 y.2
  | .asgAttr o f e, a => (sole a).any fun z => ckAsgAttr nm o f e z.1 z.2
  | .asgItem o i e, a => (sole a).any fun z => ckAsgItem nm o i e z.1 z.2
  | .asgTup xs e, a => (sole a).any fun z => ckAsgTup nm xs e z.1 z.2
  | .aug x o e, a => (vAug a).any fun z => ckAug nm x o e z.1 z.2.1 z.2.2
  | .expr e, a => (vExpr a).any fun w => noComp w && ckE nm e w
  | .ret e, a => (vRet a).any fun v => ckPart (isNone e) (fun w => ckE nm e w) v
  | .ite c x y, a => (vIte a).any fun z => ckT nm c z.1 && ckSs nm x z.2.1 && ckSs nm y z.2.2
  | .loop c b, a => (vWhile a).any fun z => z.2.2.isEmpty && ckT nm c z.1 && ckSs nm b z.2.1
  | .for x e b, a => (vFor a).any fun z => (vName z.1).any fun y => z.2.2.2.isEmpty && (y == Str.ofString x && nm.lookup y == some .local) && noSet z.2.1 && (ckE nm e z.2.1 && ckSs nm b z.2.2.1)
  | .del o lo, a => (vDel a).any fun ts => ckDel nm o lo ts
  | .cont, a => isCont a
  | .wall, _ => true
termination_by structural x => x
noncomputable def ckSs (nm : Names) : List S → List Stmt → Bool
  | [], es => es.isEmpty
  | x :: xs, es => match es with
    | [] => false
    | e :: es => ckS nm x e && ckSs nm xs es
termination_by structural x => x
end
theorem ckSs_cons {nm : Names} {x : S} {xs : List S} {es : List Stmt} (h : ckSs nm (x :: xs) es = true) : ∃ e r, es = e :: r ∧ ckS nm x e = true ∧ ckSs nm xs r = true := by
  cases es with
  | nil => exact nomatch (show false = true from h)
  | cons e r => exact ⟨e, r, rfl, Bool.and_eq_true_iff.mp h⟩
theorem ckSs_nil {nm : Names} {es : List Stmt} (h : ckSs nm [] es = true) : es = [] := by
  cases es with
  | nil => rfl
  | cons _ _ => exact nomatch (show false = true from h)
theorem ckNames_cons {nm : Names} {x : String} {xs : List String} {es : List Expr} (h : ckNames nm (x :: xs) es = true) : ∃ p r, es = .Name (Str.ofString x) p :: r ∧ nm.lookup (Str.ofString x) = some .local ∧ ckNames nm xs r = true := by
  cases es with
  | nil => exact nomatch (show false = true from h)
  | cons e r =>
    obtain ⟨y, p, rfl, h⟩ := iName h
    obtain ⟨h1, h3⟩ := Bool.and_eq_true_iff.mp h
    obtain ⟨h1, h2⟩ := Bool.and_eq_true_iff.mp h1
    obtain rfl := beq_iff_eq.mp h1
    exact ⟨p, r, rfl, beq_iff_eq.mp h2, h3⟩

end C187

namespace C187
open PySem PySem.W PyProof.Rows

structure EnvOk (env : PySem.Env) (nm : Names) : Prop where
  names : env.scope.names = nm
  kind : env.scope.kind = .function
  glob : env.globals = mainGlobals
  blt : env.builtins = builtinsNs
  cells : ∀ x, nm.lookup x = some .cell → ∃ k, env.cells.lookup x = some k
  cinj : ∀ x y k, env.cells.lookup x = some k → env.cells.lookup y = some k → x = y

structure Gd (c : Cx) (h₀ : Heap) : Prop where
  X : c.K.In h₀
  sys : ∃ o, h₀.get? sysModules = some o
  T : ∃ p loose mg mb, TopRead p loose mg mb h₀

/-- what holds of the written part, at every heap -/
structure KG (c : Cx) : Prop extends KF c where
  glob : ∀ x v, globOf x = some v → ∃ u, nsIn c.K mainGlobals (Str.ofString x) = some (some u) ∧ ∀ α n h, c.K.In h → RepV α n h v u
  fns : ∀ f, isFun f = true → ∃ a, c.fn f = some a ∧ nsIn c.K mainGlobals (Str.ofString f) = some (some (.ref a)) ∧ keepIn c.K (.ref a) = true
  clss : ∀ f, isCls f = true → ∃ C fI g, c.cls f = some C ∧ nsIn c.K mainGlobals (Str.ofString f) = some (some (.ref C)) ∧ keepIn c.K (.ref C) = true ∧ makesIn c.K C = true ∧
    methOf f "__init__" = some g ∧ c.fn g = some fI ∧ findIn c.K (.ref C) "__init__" = some (some (.ref fI)) ∧ isFn c.K (.ref fI) = true
  meths : ∀ cn C f g, c.cls cn = some C → methOf cn f = some g → ∃ a, c.fn g = some a ∧ plainGet c.K C (Str.ofString f) = true ∧ findIn c.K (.ref C) (Str.ofString f) = some (some (.ref a)) ∧ isFn c.K (.ref a) = true ∧ keepIn c.K (.ref a) = true
  blts : ∀ f, f ∈ ["len", "range", "sorted", "list", "max", "min"] → nsIn c.K mainGlobals (Str.ofString f) = some none ∧ bootBuiltins (Str.ofString f) = some (bval f)

variable {c : Cx} {h₀ h h' : Heap} {env : PySem.Env} {nm : Names} {α α' : Nat → Addr} {ρ ρ' : Env} {σ σ' : Sto} {A : Around} {E : Value → Shared → Prop} {s : Shared}

noncomputable def Kl (c : Cx) (h₀ : Heap) (env : PySem.Env) (ρ : Env) (α : Nat → Addr) (σ : Sto) (s : Shared) (n : Nat) (Q : List V → Sto → Prop) (R : List Value → Shared → Prop) : Prop :=
  ∀ α' vs σ' its s', Q vs σ' → Sim c h₀ env α' ρ σ' s'.heap → Ext α σ.length s.heap α' σ'.length s'.heap → All2 (RepV α' σ'.length s'.heap) vs its → vs.length = n → SameS s s' → R its s'
noncomputable def Kb (c : Cx) (h₀ : Heap) (env : PySem.Env) (ρ : Env) (α : Nat → Addr) (σ : Sto) (s : Shared) (Q : Bool → Sto → Prop) (R : Bool → Shared → Prop) : Prop :=
  ∀ α' t σ' s', Q t σ' → Sim c h₀ env α' ρ σ' s'.heap → Ext α σ.length s.heap α' σ'.length s'.heap → SameS s s' → R t s'

noncomputable def Room (A : Around) (d : Nat) : Prop := A.handled = none ∧ A.depth + 3 * d < recursionLimit ∧ A.units + 100 + 20 * d < cLine
noncomputable def Room1 (A : Around) (d : Nat) : Prop := A.handled = none ∧ A.depth + 3 * d + 2 < recursionLimit ∧ A.units + 110 + 20 * d < cLine
theorem Room1.room {d : Nat} (r : Room1 A d) : Room A d := ⟨r.1, by have := r.2.1; lia, by have := r.2.2; lia⟩

/-- the calls of the text's own functions do what C says -/
noncomputable def CallOk (c : Cx) (d : Nat) (C : Calls) : Prop :=
  ∀ (A : Around) (h₀ : Heap) (env : PySem.Env) (nm : Names) (ρ : Env) (α : Nat → Addr) (σ : Sto) (s : Shared) (f : String) (args : List V) (vals : List Value) (Q : Ct) (E : Value → Shared → Prop) (R : Value → Shared → Prop) (a : Addr),
    Room A d → Gd c h₀ → c.fn f = some a → C f args σ Q → Sim c h₀ env α ρ σ s.heap → All2 (RepV α σ.length s.heap) args vals → Kt c h₀ env ρ α σ s Q R →
    codeAny (model c.prog c.w) A (.call (.ref a) ⟨vals, []⟩) (fun r s' => match r with | .ok (.ret v) => R v s' | .ok _ => False | .error e => E e s') s

theorem Sim.K (S : Sim c h₀ env α ρ σ h) (G : Gd c h₀) : c.K.In h := let ⟨_, F, _⟩ := S.fr; G.X.keeps F.keep

theorem var_ok {x : String} {p : Pos} {Q : Ct} {R : Value → Shared → Prop} (V : EnvOk env nm) (hd : (Str.ofString x == ("__debug__" : Str)) = false) (S : Sim c h₀ env α ρ σ s.heap)
    (w : match ρ x with | some v => Q v σ | Option.none => False) (k : Kt c h₀ env ρ α σ s Q R) : wpAny (model c.prog c.w) A (eval (.Name (Str.ofString x) p) env) R E s := by
  split at w
  · rename_i v e
    obtain ⟨m, F, hv⟩ := S.fr
    obtain ⟨u, hu, r⟩ := hv x v e
    refine wpAny_Name ?_ hd
    rcases hu with ⟨h1, h2⟩ | ⟨h1, cc, h2, h3⟩
    · exact wpAny_loadName_local V.kind h1 F.ns h2 (k.same S w r _)
    · exact wpAny_loadName_cell V.kind h1 h2 h3 (k.same S w r _)
  · exact w.elim

theorem glob_name {x : Str} {p : Pos} {u : Value} {R : Value → Shared → Prop} (V : EnvOk env nm) (G : Gd c h₀) (hk : nm.lookup x = some .globalImplicit) (hd : (x == ("__debug__" : Str)) = false) (S : Sim c h₀ env α ρ σ s.heap)
    (hn : nsIn c.K mainGlobals x = some (some u)) (k : R u s) : wpAny (model c.prog c.w) A (eval (.Name x p) env) R E s := by
  obtain ⟨m, F, _⟩ := S.fr
  obtain ⟨_, _, mg, mb, T⟩ := G.T
  have hx : env.kindOf x = some .globalImplicit := by unfold Env.kindOf; rw [V.names]; exact hk
  exact Calls.Name_function_global V.kind hx (Calls.loadGlobal_global (env := env) (by rw [V.glob]; exact T.g.keeps F.keep) (mg_of G.X T.g hn) k) hd
theorem built_name {x : Str} {p : Pos} {u : Value} {R : Value → Shared → Prop} (V : EnvOk env nm) (G : Gd c h₀) (hk : nm.lookup x = some .globalImplicit) (hd : (x == ("__debug__" : Str)) = false) (S : Sim c h₀ env α ρ σ s.heap)
    (hn : nsIn c.K mainGlobals x = some none) (hb : bootBuiltins x = some u) (hne : x ≠ "__name__") (k : R u s) : wpAny (model c.prog c.w) A (eval (.Name x p) env) R E s := by
  obtain ⟨m, F, _⟩ := S.fr
  obtain ⟨_, _, mg, mb, T⟩ := G.T
  have hx : env.kindOf x = some .globalImplicit := by unfold Env.kindOf; rw [V.names]; exact hk
  exact Calls.Name_function_global V.kind hx (Calls.loadGlobal_builtin (env := env) (by rw [V.glob]; exact T.g.keeps F.keep) (mg_none_of G.X T.g hn) (by rw [V.blt]; exact T.b.keeps F.keep) ((T.builtins x hne).trans hb) k) hd

/-- arguments -/
theorem ck_noStar : ∀ {nm : Names} {x : X} {e : Expr}, ckE nm x e = true → ∀ v p, e ≠ .Starred v p := by
  rintro nm x _ h v p rfl
  cases x <;> exact nomatch (show false = true from h)

theorem starEach_of (env : PySem.Env) : ∀ {nm : Names} {xs : List X} {es : List Expr}, ckEs nm xs es = true → starEach es env = es.map fun e => (false, eval e env)
  | _, [], es, h => by rw [nil_of h]; rfl
  | nm, x :: xs, es, h => by
    obtain ⟨e, r, rfl, h1, h2⟩ := ckEs_cons h
    have ih := starEach_of env h2
    have hs := ck_noStar h1
    rw [List.map_cons, ← ih]
    cases e <;> first | rfl | exact absurd rfl (hs _ _)

theorem backTo_of (pos : Pos) : ∀ (es : List Expr), backTo pos (es.map fun e => (false, eval e env)) = es.map fun e => (false, eval e env)
  | [] => rfl
  | e :: es => by
    have ih := backTo_of pos es
    unfold backTo at ih ⊢
    rw [List.map_cons, List.map_cons, ih]
    rfl

theorem callWith_ok {f : Value} {first : List Value} {pos : Pos} {R : Value → Shared → Prop} {es : List Expr} (hk : ∀ h, c.K.In h → ∃ k, (k = Keeper.frame ∨ k = Keeper.machine ∨ k = Keeper.boundFrame) ∧ Looks (model c.prog c.w) h (keeperOf f) k)
    (h : wpAny (model c.prog c.w) A (spliced (es.map fun e => (false, eval e env))) (fun vs s₁ => c.K.In s₁.heap ∧ wpAny (model c.prog c.w) A (call f (first ++ vs)) R E s₁) E s) :
    wpAny (model c.prog c.w) A (callWith pos f first (es.map fun e => (false, eval e env)) []) R E s := by
  have hp : ((es.map fun e => (false, eval e env)).any (·.1) || ([] : List (Option Str × Sem Value)).any (·.1.isNone)) = false := by
    have : (es.map fun e => (false, eval e env)).any (·.1) = false := by
      rw [List.any_eq_false]
      intro x hx
      obtain ⟨e, _, rfl⟩ := List.mem_map.mp hx
      simp
    rw [this]; rfl
  refine callWith_of hp hk ?_
  cases es with
  | nil =>
    unfold evalArgs
    show wpAny (model c.prog c.w) A (spliced [] >>= _) _ E s
    refine wpAny_bind (wpAny_mono h (fun vs s' h' => ?_) fun _ _ x => x)
    refine wpAny_bind (wpAny_pure ?_)
    refine wpAny_holding ?_
    exact wpAny_bind (wpAny_pure (wpAny_bind (wpAny_pure (wpAny_pure h'))))
  | cons e es => exact Calls.evalArgs_plain h

end C187

namespace C187
open PySem PySem.W PyProof.Rows

variable {c : Cx} {h₀ h h' : Heap} {env : PySem.Env} {nm : Names} {α α' : Nat → Addr} {ρ ρ' : Env} {σ σ' : Sto} {A : Around} {E : Value → Shared → Prop} {s : Shared} {Q : Ct} {R : Value → Shared → Prop} {d : Nat} {C : Calls}

theorem creation_frames (cc : Addr) (rest : List Value) (kw : List (Str × Value)) : (Code.builtin "type.__call__" ⟨.ref cc :: rest, kw⟩).frames = 0 := by with_unfolding_all rfl
theorem Room1.under {cc : Addr} {rest : List Value} {kw : List (Str × Value)} (r : Room1 A d) : Room (A.under (.builtin "type.__call__" ⟨.ref cc :: rest, kw⟩)) d := by
  have hf := creation_frames cc rest kw
  refine ⟨r.1, ?_, ?_⟩
  · have h1 := r.2.1
    have : (Code.builtin "type.__call__" ⟨.ref cc :: rest, kw⟩).weight ≤ 1 := by
      have : (Code.builtin "type.__call__" ⟨.ref cc :: rest, kw⟩).weight = 1 := by with_unfolding_all rfl
      exact Nat.le_of_eq this
    show A.depth + _ + 3 * d < recursionLimit
    lia
  · have h1 := r.2.2
    have : (Code.builtin "type.__call__" ⟨.ref cc :: rest, kw⟩).cUnits ≤ 5 := by
      show 1 + 3 * (Code.builtin "type.__call__" ⟨.ref cc :: rest, kw⟩).frames ≤ 5
      rw [hf]; lia
    show A.units + _ + 100 + 20 * d < cLine
    lia

theorem cls_ok {f : String} (Kg : KG c) (CO : CallOk c d C) (rm : Room1 A d) (V : EnvOk env nm) (G : Gd c h₀) (S : Sim c h₀ env α ρ σ s.heap) {vs : List C187.V} {its : List Value} (r : All2 (RepV α σ.length s.heap) vs its)
    {cc fI : Addr} {g : String} (hc : c.cls f = some cc) (hm : makesIn c.K cc = true) (hg : methOf f "__init__" = some g) (hfn : c.fn g = some fI) (hi : findIn c.K (.ref cc) "__init__" = some (some (.ref fI))) (hf : isFn c.K (.ref fI) = true)
    (w : C g (.loc σ.length :: vs) (σ ++ [.inst f []]) fun v σ' => match v with | .none => Q (.loc σ.length) σ' | _ => False) (k : Kt c h₀ env ρ α σ s Q R) :
    wpAny (model c.prog c.w) A (call (.ref cc) its) R E s := by
  obtain ⟨m, F, _⟩ := S.fr
  refine call_cls F G.X (news_others (d := env.locals)) hm hi hf (fun x dx h' F' N' l1 l2 => ?_)
  have hk := keep_others F F' (fun p hp => N' p (.tail _ (.tail _ hp)))
  have fresh : ∀ b, dx ≤ b → (∃ o, (b, o) ∈ ((x, instObj cc dx) :: (dx, dictOf [] 0) :: others h₀ s.heap env.locals env.locals)) → s.heap.get? b = none := fun b hb ⟨o', ho'⟩ => by
    cases q : s.heap.get? b with
    | none => rfl
    | some o =>
      have h2 := (N' _ ho').2
      have := l1 _ (mem_others.mpr ⟨q, h2.2, h2.1, h2.1⟩)
      exact absurd (Nat.lt_of_lt_of_le this hb) (Nat.lt_irrefl _)
  have hx := fresh x (Nat.le_of_lt l2) ⟨_, .head _⟩
  have hdx := fresh dx (Nat.le_refl _) ⟨_, .tail _ (.head _)⟩
  have gx := (N' _ (.head _)).1
  have gdx := (N' _ (.tail _ (.head _))).1
  obtain ⟨α', S', X, e⟩ := S.alloc (o := .inst f []) (a := x) (a' := dx) F F' (fun b o hb he => hk b o hb hb he) hx hdx (Nat.ne_of_gt l2)
    (fun α' e1 e2 e3 X => ⟨cc, [], 0, hc, by rw [e2, e3]; exact gx, by rw [e3]; exact gdx, trivial⟩)
  have hself : RepV α' (σ ++ [O.inst f []]).length h' (.loc σ.length) (.ref x) := by
    exact ⟨by simp, by rw [e]⟩
  refine codeAny_mono (CO _ h₀ env nm ρ α' (σ ++ [.inst f []]) { s with heap := h' } g (.loc σ.length :: vs) (.ref x :: its) _ E (fun v s' => v = .none ∧ R (.ref x) s') fI rm.under G hfn w S' ⟨hself, r.mono fun _ _ y => y.mono X⟩ ?_) ?_
  · intro α'' V' σ'' v s'' w' S'' X'' rv sm
    cases V' with
    | none =>
      have hs := hself.mono X''
      exact ⟨rv, k α'' _ σ'' _ s'' w' S'' (X.trans X'') hs ⟨sm.1, sm.2.1, sm.2.2⟩⟩
    | _ => exact w'.elim
  · intro rr s'' hr
    rcases rr with e | (v | _ | _ | _) <;> first | exact hr | exact hr.elim

/-- a method's lookup -/
theorem inv_meth {C : Calls} {u : C187.V} {cn f : String} {fs : List (String × C187.V)} {as : (List C187.V → Sto → Prop) → Prop} (w : (match (motive := Option C187.V → Prop) getF f fs with
      | none => match (motive := Option String → Prop) methOf cn f with
        | some g => as fun vs σ => C g (u :: vs) σ Q
        | none => False
      | some _ => False)) : getF f fs = none ∧ ∃ g, methOf cn f = some g ∧ as fun vs σ => C g (u :: vs) σ Q := by
  cases hn : getF f fs with
  | some _ => rw [hn] at w; exact w.elim
  | none =>
    rw [hn] at w
    cases hg : methOf cn f with
    | none => rw [hg] at w; exact w.elim
    | some g => rw [hg] at w; exact ⟨rfl, g, rfl, w⟩
theorem getMethod_ok {pl : Sem Bool} {f : String} {as : (List V → Sto → Prop) → Prop} {R : Value × List Value → Shared → Prop} (Kg : KG c) (G : Gd c h₀) (S : Sim c h₀ env α ρ σ s.heap) {u : V} {a : Value} (ru : RepV α σ.length s.heap u a)
    (w : methW C u f σ as Q)
    (k1 : ∀ g fa, c.fn g = some fa → keepIn c.K (.ref fa) = true → as (fun vs σ => C g (u :: vs) σ Q) → R (.ref fa, [a]) s)
    (k2 : ∀ l, u = .loc l → (f = "append" ∨ f = "pop") → as (fun vs σ => listW l f vs σ Q) → R (.builtin ("list." ++ f), [a]) s)
    (k3 : ∀ l, u = .loc l → f = "get" → as (fun vs σ => dictW l vs σ Q) → R (.builtin "dict.get", [a]) s) : wpAny (model c.prog c.w) A (getMethod a (Str.ofString f) pl) R E s := by
  cases u with
  | loc l =>
    have ru' := ru
    obtain ⟨_, rfl⟩ := ru'
    rcases inv_m (o := σ[l]?) w with ⟨cn, fs, e, w⟩ | ⟨us, e, w⟩ | ⟨es, e, w⟩ | ⟨es, e, w⟩
    · obtain ⟨hn, g, hg, w⟩ := inv_meth w
      obtain ⟨cc, ds, n, hc, I, ra⟩ := S.inst e
      obtain ⟨m, F, _⟩ := S.fr
      obtain ⟨fa, q1, q2, q3, q4, q5⟩ := Kg.meths cn cc f g hc hg
      exact method_inst F G.X I q2 q3 q4 (getL_none ra hn) (k1 g fa q1 q5 w)
    · obtain ⟨its, n, ho, ra, hb⟩ := S.list e
      obtain ⟨hf, w⟩ := guard_of w
      rcases Bool.or_eq_true_iff.mp hf with hf | hf <;> obtain rfl := of_decide_eq_true hf
      · exact PyProof.Rows.getMethod_list_of PySem.F.slot_list_append PySem.F.type_list_append (listOf_is ho) ⟨_, ho, rfl⟩ (k2 l rfl (.inl rfl) w)
      · exact PyProof.Rows.getMethod_list_of PySem.F.slot_list_pop PySem.F.type_list_pop (listOf_is ho) ⟨_, ho, rfl⟩ (k2 l rfl (.inr rfl) w)
    · obtain ⟨hf, w⟩ := guard_of w
      obtain rfl := of_decide_eq_true hf
      obtain ⟨kvs, hm, _⟩ := S.objs _ _ e
      exact getMethod_builtin hm.typeIs PySem.F.plainAttrs_dict PySem.F.slot_dict_get PySem.F.type_dict_get hm.mapOf.noDict (k3 l rfl rfl w)
    · obtain ⟨hf, w⟩ := guard_of w
      obtain rfl := of_decide_eq_true hf
      obtain ⟨kvs, hm, _⟩ := S.objs _ _ e
      exact getMethod_builtin hm.typeIs PySem.F.plainAttrs_dict PySem.F.slot_dict_get PySem.F.type_dict_get (dictOfH_noDict hm) (k3 l rfl rfl w)
  | _ => exact w.elim

theorem listW_ok {f : String} (hf : f = "append" ∨ f = "pop") (S : Sim c h₀ env α ρ σ s.heap) {l : Nat} {vs : List V} {its : List Value} (r : All2 (RepV α σ.length s.heap) vs its) (hl : l < σ.length) (w : listW l f vs σ Q) (k : Kt c h₀ env ρ α σ s Q R) :
    wpAny (model c.prog c.w) A (call (.builtin ("list." ++ f)) ([.ref (α (2 * l))] ++ its)) R E s := by
  obtain ⟨us, e, w⟩ := inv_l (o := σ[l]?) w
  rcases hf with rfl | rfl
  · cases vs with
    | nil => exact w.elim
    | cons x t => cases t with
      | cons _ _ => exact w.elim
      | nil =>
        obtain ⟨v, rfl, rv⟩ := one_rep r
        exact append_ok S e rv w.1 w.2 k
  · cases vs with
    | cons _ _ => exact w.elim
    | nil =>
      obtain rfl : its = [] := by cases its with
        | nil => rfl
        | cons _ _ => exact r.elim
      obtain ⟨v, ev, w⟩ := inv_v (o := us.getLast?) w
      exact pop_ok S e ev w k

theorem dictW_ok (hu : A.units + 64 < cLine) (G : Gd c h₀) (S : Sim c h₀ env α ρ σ s.heap) {l : Nat} {vs : List V} {its : List Value} (r : All2 (RepV α σ.length s.heap) vs its) (w : dictW l vs σ Q) (k : Kt c h₀ env ρ α σ s Q R) :
    wpAny (model c.prog c.w) A (call (.builtin "dict.get") ([.ref (α (2 * l))] ++ its)) R E s := by
  cases vs with
  | nil => exact w.elim
  | cons u t => cases t with
    | nil => exact w.elim
    | cons d t => cases t with
      | cons _ _ => exact w.elim
      | nil =>
        obtain ⟨a, b, rfl, r1, r2⟩ := two_rep r
        rcases inv_sp (o := σ[l]?) w with ⟨es, e, w⟩ | ⟨es, e, w⟩
        · cases u with
          | str k' =>
            obtain ⟨_, t, rfl⟩ := r1
            exact getS_ok G.sys S e r2 w k
          | _ => exact w.elim
        · obtain ⟨⟨x, y⟩, rfl, w⟩ := inv_t2 (i := u) w
          exact getP_ok hu G.sys S e r1 r2 w k

end C187

namespace C187
open PySem PySem.W PyProof.Rows

variable {c : Cx} {h₀ : Heap} {env : PySem.Env} {nm : Names} {ok : Str → Bool} {A : Around} {d : Nat} {C : Calls}

theorem strOk_ofString (x : String) : PyData.strOk (Str.ofString x) = true := by
  rw [Str.ofString_eq_toList]
  unfold PyData.strOk
  rw [Array.all_eq_true]
  intro i hi
  simp only [decide_eq_true_eq, List.getElem_toArray, List.getElem_map]
  have := (x.toList[i]'(by simpa using hi)).valid
  unfold UInt32.isValidChar Nat.isValidChar at this
  show Char.toNat _ < _
  unfold Char.toNat
  lia

theorem neDebug {y : Str} (h : (!(y == ("__debug__" : Str))) = true) : (y == ("__debug__" : Str)) = false := by
  revert h; cases (y == ("__debug__" : Str)) <;> simp

/-- what a pure expression of a block needs -/
structure PS (c : Cx) (ok : Str → Bool) (cenv : PySem.Env) (α : Nat → Addr) (ρ : Env) (σ : Sto) (h : Heap) (m : Str → Option Value) : Prop where
  vars : ∀ x v, ok (Str.ofString x) = true → ρ x = some v → ∃ u, VarAt h cenv m (Str.ofString x) u ∧ RepV α σ.length h v u
  objs : ∀ l o, σ[l]? = some o → RepO c α σ.length h l o
  ns : h.Ns cenv.locals m

theorem PS.keeps {cenv : PySem.Env} {α : Nat → Addr} {ρ : Env} {σ : Sto} {h h' : Heap} {m : Str → Option Value} (P : PS c ok cenv α ρ σ h m) (hk : ∀ b o, h.get? b = some o → h'.get? b = some o) : PS c ok cenv α ρ σ h' m :=
  ⟨fun x v q e => let ⟨u, hu, r⟩ := P.vars x v q e; ⟨u, hu.tr fun _ k _ o => hk k o, r.mono (Ext.of_keep hk)⟩,
   fun l o e => (P.objs l o e).tr (Ext.of_keep hk) (List.getElem?_eq_some_iff.mp e).1 (fun _ o => hk _ o) (fun _ o => hk _ o), P.ns.at' fun o => hk _ o⟩

theorem keeps_refl (s : Shared) : Keeps s s := ⟨s.heap, s.toks, rfl, fun _ _ e => e⟩
theorem keeps_trans {s s' s'' : Shared} (x : Keeps s s') (y : Keeps s' s'') : Keeps s s'' := by
  obtain ⟨h1, t1, rfl, k1⟩ := x
  obtain ⟨h2, t2, rfl, k2⟩ := y
  exact ⟨h2, t2, rfl, fun b o e => k2 b o (k1 b o e)⟩
theorem keeps_keep {s s' : Shared} (x : Keeps s s') : ∀ b o, s.heap.get? b = some o → s'.heap.get? b = some o := by
  obtain ⟨h1, t1, rfl, k1⟩ := x; exact k1

theorem no_slice {j : Expr} (h : notSlice j = true) : ∀ l u t p, j ≠ .Slice l u t p := by rintro l u t p rfl; exact nft h
theorem ckP_noStar : ∀ {ok : Str → Bool} {x : X} {e : Expr}, ckP ok x e = true → ∀ v p, e ≠ .Starred v p := by
  rintro ok x _ h v p rfl
  cases x <;> exact nomatch (show false = true from h)
theorem starEach_pure (env : PySem.Env) : ∀ {ok : Str → Bool} {xs : List X} {es : List Expr}, ckP.ckPs ok xs es = true → starEach es env = es.map fun e => (false, eval e env)
  | _, [], es, h => by rw [nil_of h]; rfl
  | ok, x :: xs, es, h => by
    obtain ⟨e, r, rfl, h1, h2⟩ := ckPs_cons h
    have ih := starEach_pure env h2
    have hs := ckP_noStar h1
    rw [List.map_cons, ← ih]
    cases e <;> first | rfl | exact absurd rfl (hs _ _)

section
variable {cenv : PySem.Env} {m : Str → Option Value} {ρ : Env} {α : Nat → Addr} {σ : Sto}
noncomputable def PureOk (c : Cx) (ok : Str → Bool) (cenv : PySem.Env) (m : Str → Option Value) (ρ : Env) (α : Nat → Addr) (σ : Sto) (A : Around) (x : X) : Prop :=
  ∀ (e : Expr), ckP ok x e = true → ∀ v, pureE x ρ σ = some v → ∀ (s : Shared), PS c ok cenv α ρ σ s.heap m →
    ∀ (E R : Value → Shared → Prop), (∀ y s', RepV α σ.length s'.heap v y → Keeps s s' → R y s') → wpAny (model c.prog c.w) A (eval e cenv) R E s
theorem pure_var (hkd : cenv.scope.kind = .function) {x : String} : PureOk c ok cenv m ρ α σ A (.var x) := fun e ck => by
  apply eName (a := e) ck; intro y p ck
  obtain ⟨ck, hd⟩ := Bool.and_eq_true_iff.mp ck
  obtain ⟨c1, hok⟩ := Bool.and_eq_true_iff.mp ck
  obtain rfl := beq_iff_eq.mp c1
  intro v w s P E R k
  obtain ⟨u, hu, r⟩ := P.vars x v hok w
  refine wpAny_Name ?_ (neDebug hd)
  rcases hu with ⟨h1, h2⟩ | ⟨h1, cc, h2, h3⟩
  · exact wpAny_loadName_local hkd h1 P.ns h2 (k _ _ r ⟨s.heap, _, rfl, fun _ _ e => e⟩)
  · exact wpAny_loadName_cell hkd h1 h2 h3 (k _ _ r ⟨s.heap, _, rfl, fun _ _ e => e⟩)
theorem pure_item2 {x i : X} (ih1 : PureOk c ok cenv m ρ α σ A x) (ih2 : PureOk c ok cenv m ρ α σ A i) : PureOk c ok cenv m ρ α σ A (.item x i) := fun e ck => by
  apply eSub (a := e) ck; intro a j p ck
  obtain ⟨ck, c2⟩ := Bool.and_eq_true_iff.mp ck
  obtain ⟨c0, c1⟩ := Bool.and_eq_true_iff.mp ck
  intro v w s P E R k
  obtain ⟨u, e1, w⟩ := Option.bind_eq_some_iff.mp (show (pureE x ρ σ).bind (fun u => (pureE i ρ σ).bind fun v => itemP u v σ) = some v from w)
  obtain ⟨b, e2, w⟩ := Option.bind_eq_some_iff.mp w
  refine Subscript_ (ih1 a c1 u e1 s P E _ fun y1 s1 r1 K1 => ?_)
  have P1 := P.keeps (keeps_keep K1)
  refine ih2 j c2 b e2 s1 P1 E _ fun y2 s2 r2 K2 => ?_
  exact item_any (no_slice c0) (P1.keeps (keeps_keep K2)).objs (r1.mono (Ext.of_keep (keeps_keep K2))) r2 (itemP_w (Q := fun y _ => y = v) w rfl) fun y z tk q r => k z _ (q ▸ r) (keeps_trans (keeps_trans K1 K2) ⟨s2.heap, tk, rfl, fun _ _ e => e⟩)
end

mutual
theorem pure_ok {cenv : PySem.Env} {m : Str → Option Value} {ρ : Env} {α : Nat → Addr} {σ : Sto} (hkd : cenv.scope.kind = .function) : ∀ (x : X), PureOk c ok cenv m ρ α σ A x
  | .none => fun e ck => by
    apply eConst (a := e) ck; intro cst kd p ck
    apply eEq (x := cst) (cNone_eq ck)
    intro v w s P E R k
    obtain rfl : V.none = v := Option.some.inj w
    exact wpAny_Constant_none (k _ s rfl (keeps_refl s))
  | .int i => fun e ck => by
    apply eConst (a := e) ck; intro cst kd p ck
    apply eEq (x := cst) (cInt_eq ck)
    intro v w s P E R k
    obtain rfl : V.int i = v := Option.some.inj w
    exact wpAny_Constant_int (k _ _ (⟨_, rfl⟩) ⟨s.heap, _, rfl, fun _ _ e => e⟩)
  | .str x => fun e ck => by
    apply eConst (a := e) ck; intro cst kd p ck
    apply eEq (x := cst) (cStr_eq ck)
    intro v w s P E R k
    obtain rfl : V.str (Str.ofString x) = v := Option.some.inj w
    exact wpAny_mkText (k _ _ (⟨strOk_ofString x, _, rfl⟩) ⟨s.heap, _, rfl, fun _ _ e => e⟩)
  | .var x => pure_var hkd
  | .item x i => pure_item2 (pure_ok hkd x) (pure_ok hkd i)
  | .tup l => fun e ck => by
    apply eTup (a := e) ck; intro es kd p ck
    intro v w s P E R k
    have ck := Bool.and_eq_true_iff.mp ck
    have ckl := of_decide_eq_true ck.1
    obtain ⟨vs, ev, rfl⟩ := Option.map_eq_some_iff.mp w
    refine Tuple_ ?_
    rw [starEach_pure cenv ck.2, backTo_of]
    refine pures_ok hkd l es ck.2 vs ev s P E _ fun ys s1 r hl K1 => ?_
    refine wpAny_newObj_type ?_ (by show ys.toArray.size ≤ sizeLine; rw [List.size_toArray, ← r.length, hl, ← big_eq]; unfold big; lia)
    refine k _ _ ?_ (keeps_trans K1 ⟨_, _, rfl, push_keep _ _⟩)
    exact ⟨_, _, _, _, rfl, Heap.get?_push_size _ rfl, rfl, rfl, by rw [hl]; unfold big; lia, repVs_iff.mpr (r.mono fun _ _ x => x.mono (Ext.of_keep (push_keep _ _)))⟩
  | .bool _ => fun e ck v w => nso w
  | .glob _ => fun e ck v w => nso w
  | .neg _ => fun e ck v w => nso w
  | .bin .. => fun e ck v w => nso w
  | .cmp .. => fun e ck v w => nso w
  | .ite .. => fun e ck v w => nso w
  | .all _ => fun e ck v w => nso w
  | .any _ => fun e ck v w => nso w
  | .not _ => fun e ck v w => nso w
  | .tru _ => fun e ck v w => nso w
  | .attr .. => fun e ck v w => nso w
  | .slice .. => fun e ck v w => nso w
  | .list _ => fun e ck v w => nso w
  | .dict _ => fun e ck v w => nso w
  | .map .. => fun e ck v w => nso w
  | .call .. => fun e ck v w => nso w
  | .meth .. => fun e ck v w => nso w
theorem pures_ok {cenv : PySem.Env} {m : Str → Option Value} {ρ : Env} {α : Nat → Addr} {σ : Sto} (hkd : cenv.scope.kind = .function) : ∀ (x : List X) (e : List Expr), ckP.ckPs ok x e = true → ∀ vs, pureE.pureEs x ρ σ = some vs → ∀ (s : Shared), PS c ok cenv α ρ σ s.heap m →
    ∀ (E : Value → Shared → Prop) (R : List Value → Shared → Prop), (∀ ys s', All2 (RepV α σ.length s'.heap) vs ys → vs.length = e.length → Keeps s s' → R ys s') → wpAny (model c.prog c.w) A (spliced (e.map fun e => (false, eval e cenv))) R E s
  | [], e, ck, vs, w, s, P, E, R, k => by
    obtain rfl := nil_of ck
    obtain rfl : [] = vs := Option.some.inj w
    exact Calls.spliced_nil (k [] s trivial rfl (keeps_refl s))
  | x :: xs, e, ck, vs, w, s, P, E, R, k => by
    obtain ⟨e, es, rfl, ck1, ck2⟩ := ckPs_cons ck
    obtain ⟨u, e1, w⟩ := Option.bind_eq_some_iff.mp (show (pureE x ρ σ).bind (fun v => (pureE.pureEs xs ρ σ).map fun vs => v :: vs) = some vs from w)
    obtain ⟨us, e2, w⟩ := Option.map_eq_some_iff.mp w
    subst w
    refine Calls.spliced_cons (pure_ok hkd x e ck1 u e1 s P E _ fun y1 s1 r1 K1 => ?_)
    exact pures_ok hkd xs es ck2 us e2 s1 (P.keeps (keeps_keep K1)) E _ fun ys s2 r2 hl K2 => k (y1 :: ys) s2 ⟨r1.mono (Ext.of_keep (keeps_keep K2)), r2⟩ (congrArg (· + 1) hl) (keeps_trans K1 K2)
end

end C187

namespace C187
open PySem PySem.W PyProof.Rows

variable {c : Cx} {h₀ : Heap} {env : PySem.Env} {nm : Names} {A : Around} {d : Nat} {C : Calls}

theorem closure_aux : ∀ (l : List (Str × NameKind)) (cs : List (Str × Addr)), (∀ x ∈ l, x.2 = .free → ∃ k, env.cells.lookup x.1 = some k) → (∀ x k, cs.lookup x = some k → env.cells.lookup x = some k) →
    ∃ cl, (forIn l cs (fun x r => (match x with | (name, kind) => if (kind == NameKind.free) = true then do let a ← cellOf env name; pure (ForInStep.yield ((name, a) :: r)) else pure (ForInStep.yield r) : Sem (ForInStep (List (Str × Addr)))))) = pure cl ∧
      (∀ x k, cl.lookup x = some k → env.cells.lookup x = some k) ∧ (∀ x, ((x, NameKind.free) ∈ l ∨ (cs.lookup x).isSome = true) → (cl.lookup x).isSome = true)
  | [], cs, _, h => ⟨cs, rfl, h, fun x hx => by simpa using hx⟩
  | (n, k) :: l, cs, hl, h => by
    rw [List.forIn_cons]
    by_cases hk : k = .free
    · subst hk
      obtain ⟨a, ha⟩ := hl (n, .free) List.mem_cons_self rfl
      obtain ⟨cl, e, h1, h2⟩ := closure_aux l ((n, a) :: cs) (fun x hx => hl x (List.mem_cons_of_mem _ hx)) (fun x k hx => by
        rw [List.lookup_cons] at hx
        split at hx
        · rename_i q
          cases hx
          rw [show x = n from by simpa using q]; exact ha
        · exact h x k hx)
      refine ⟨cl, ?_, h1, fun x hx => h2 x ?_⟩
      · have hcell : cellOf env n = pure a := by unfold cellOf; rw [ha]
        simp only [beq_self_eq_true, if_true, hcell, pure_bind]
        exact e
      · rcases hx with hx | hx
        · rcases List.mem_cons.mp hx with q | q
          · cases q
            exact .inr (by simp [List.lookup_cons])
          · exact .inl q
        · refine .inr ?_
          rw [List.lookup_cons]
          split
          · rfl
          · exact hx
    · obtain ⟨cl, e, h1, h2⟩ := closure_aux l cs (fun x hx => hl x (List.mem_cons_of_mem _ hx)) h
      refine ⟨cl, ?_, h1, fun x hx => h2 x ?_⟩
      · have hb : (k == NameKind.free) = false := by simpa using hk
        simp only [hb, Bool.false_eq_true, if_false, pure_bind]
        exact e
      · rcases hx with hx | hx
        · rcases List.mem_cons.mp hx with q | q
          · cases q; exact absurd rfl hk
          · exact .inl q
        · exact .inr hx

theorem closure_ok {scope : Scope} (h : ∀ x ∈ scope.names, x.2 = .free → ∃ k, env.cells.lookup x.1 = some k) :
    ∃ cl, closureFor scope env = pure cl ∧ (∀ x k, cl.lookup x = some k → env.cells.lookup x = some k) ∧ (∀ x, (x, NameKind.free) ∈ scope.names → (cl.lookup x).isSome = true) := by
  obtain ⟨cl, e, h1, h2⟩ := closure_aux (env := env) scope.names [] h (fun _ _ q => by simp at q)
  refine ⟨cl, ?_, h1, fun x hx => h2 x (.inl hx)⟩
  unfold closureFor
  refine Eq.trans (congrArg (· >>= pure) (Eq.trans ?_ e)) (pure_bind cl pure)
  congr 1

theorem relNames_cell (nm : Names) : ∀ {l : List (Str × NameKind)} {x : Str}, (∀ y ∈ l, y.2 ≠ .cell) → (l.map fun (n, k) => if (k == NameKind.free && nm.lookup n == some .cell) = true then (n, NameKind.cell) else (n, k)).lookup x = some .cell →
    nm.lookup x = some .cell ∧ (x, NameKind.free) ∈ l
  | [], _, _, h => by simp at h
  | (n, k) :: r, x, hc, h => by
    rw [List.map_cons] at h
    by_cases hb : (k == NameKind.free && nm.lookup n == some .cell) = true
    · simp only [hb, if_true, List.lookup_cons] at h
      split at h
      · rename_i q
        obtain rfl : x = n := by simpa using q
        simp only [Bool.and_eq_true, beq_iff_eq] at hb
        obtain ⟨rfl, hb⟩ := hb
        exact ⟨hb, List.mem_cons_self⟩
      · obtain ⟨h1, h2⟩ := relNames_cell nm (fun y hy => hc y (List.mem_cons_of_mem _ hy)) h
        exact ⟨h1, List.mem_cons_of_mem _ h2⟩
    · dsimp only at h
      rw [if_neg hb, List.lookup_cons] at h
      split at h
      · cases h
        exact absurd rfl (hc (n, .cell) List.mem_cons_self)
      · obtain ⟨h1, h2⟩ := relNames_cell nm (fun y hy => hc y (List.mem_cons_of_mem _ hy)) h
        exact ⟨h1, List.mem_cons_of_mem _ h2⟩

theorem relabel_names (V : EnvOk env nm) (scope : Scope) : (relabel scope env).names = relNames nm scope := by
  unfold relabel relNames
  show List.map _ _ = List.map _ _
  refine congrArg (fun f => List.map f scope.names) (funext fun x => ?_)
  obtain ⟨n, k⟩ := x
  have h1 : (env.scope.kind == ScopeKind.function) = true := by rw [V.kind]; rfl
  have h2 : env.kindOf n = nm.lookup n := by unfold PySem.Env.kindOf; rw [V.names]
  simp only [h1, h2, Bool.and_true]

structure BlockOk (nm : Names) (scope : Scope) (y : Str) : Prop where
  cell : ∀ x ∈ scope.names, x.2 ≠ .cell
  kind : scope.kind = .function
  names : ∀ x ∈ scope.names, x.2 = .local → scope.names.lookup x.1 = some .local
  hx : scope.names.lookup y = some .local
  free : ∀ x ∈ scope.names, x.2 = .free → nm.lookup x.1 = some .cell

theorem blockOk_of {nm : Names} {scope : Scope} {y : Str} (h : blockOk nm scope y = true) : BlockOk nm scope y := by
  unfold blockOk at h
  simp only [Bool.and_eq_true, List.all_eq_true, beq_iff_eq, bne_iff_ne, ne_eq, Bool.or_eq_true] at h
  obtain ⟨⟨⟨⟨h1, h2⟩, h3⟩, h4⟩, h5⟩ := h
  refine ⟨fun x hx => h1 x hx, h2, fun x hx hl => ?_, h4, fun x hx hl => ?_⟩
  · rcases h3 x hx with q | q
    · exact absurd hl q
    · exact q
  · rcases h5 x hx with q | q
    · exact absurd hl q
    · exact q

/-- the block's own view -/
theorem PS.block {scope : Scope} {x : String} {cl : List (Str × Addr)} {α : Nat → Addr} {ρ : Env} {σ : Sto} {h h₃ : Heap} {C : Addr} {m₃ : Str → Option Value} {v : Value} {W : V} (V : EnvOk env nm) (B : BlockOk nm scope (Str.ofString x))
    (S : Sim c h₀ env α ρ σ h) (h1 : ∀ x k, cl.lookup x = some k → env.cells.lookup x = some k) (h2 : ∀ x, (x, NameKind.free) ∈ scope.names → (cl.lookup x).isSome = true)
    (hn : h₃.Ns C m₃) (hm : m₃ (Str.ofString x) = some v) (r : RepV α σ.length h W v) (hk : ∀ b o, h.get? b = some o → h₃.get? b = some o) :
    PS c (okIn nm scope (Str.ofString x)) (compEnvC scope cl C env) α (ρ.set x W) σ h₃ m₃ := by
  refine ⟨fun z u hz e => ?_, fun l o e => (S.objs l o e).tr (Ext.of_keep hk) (List.getElem?_eq_some_iff.mp e).1 (fun _ o => hk _ o) (fun _ o => hk _ o), hn⟩
  unfold Env.set at e
  by_cases q : z = x
  · subst q
    rw [if_pos rfl] at e; cases e
    exact ⟨v, .inl ⟨lookup_relabel_local B.hx, hm⟩, r.mono (Ext.of_keep hk)⟩
  · rw [if_neg q] at e
    unfold okIn at hz
    simp only [Bool.or_eq_true, beq_iff_eq] at hz
    rcases hz with hz | hz
    · exact absurd (ofString_inj hz) q
    · obtain ⟨m, F, hv⟩ := S.fr
      obtain ⟨w, hw, rw⟩ := hv z u e
      obtain ⟨hc, hf⟩ := relNames_cell nm B.cell hz
      have hko : env.kindOf (Str.ofString z) = some .cell := by unfold PySem.Env.kindOf; rw [V.names]; exact hc
      rcases hw with ⟨k1, _⟩ | ⟨_, k, k2, k3⟩
      · rw [hko] at k1; cases k1
      · refine ⟨w, .inr ⟨?_, k, ?_, IsCell_tr k3 fun o => hk _ o⟩, rw.mono (Ext.of_keep hk)⟩
        · show (relabel scope env).names.lookup _ = _
          rw [relabel_names V]; exact hz
        · show cl.lookup _ = _
          obtain ⟨k', hk'⟩ := Option.isSome_iff_exists.mp (h2 _ hf)
          have := h1 _ _ hk'
          rw [k2] at this; cases this
          exact hk'

theorem immK_sameBut {h h' : Heap} {D : Addr} (hs : Heap.SameBut D h h') (hD : ∀ o, h.get? D = some o → ¬ Imm o) : ∀ b o, h.get? b = some o → Imm o → h'.get? b = some o :=
  fun b o e i => (hs.2 b (by rintro rfl; exact hD o e i)).trans e
theorem ns_nimm {h : Heap} {a : Addr} {m : Str → Option Value} (n : h.Ns a m) : ∀ o, h.get? a = some o → ¬ Imm o := fun o e => by
  obtain ⟨oL, es, ep, hL, hd, _⟩ := n
  rw [hL] at e; cases e
  rintro (⟨_, _, _, i⟩ | ⟨_, _, i⟩) <;> rw [hd] at i <;> cases i
theorem plain_nimm {h : Heap} {a : Addr} {its : Array Value} (n : h.PlainList a its) : ∀ o, h.get? a = some o → ¬ Imm o := fun o e => by
  obtain ⟨k, hL⟩ := n
  rw [hL] at e; cases e
  rintro (⟨i, _⟩ | ⟨i, _⟩)
  · injection i with i; exact absurd i (by decide)
  · injection i with i; exact absurd i (by decide)
theorem Ext.of_imm {α : Nat → Addr} {n : Nat} {h h' : Heap} (hk : ∀ b o, h.get? b = some o → Imm o → h'.get? b = some o) : Ext α n h α n h' := ⟨Nat.le_refl _, fun _ _ => rfl, hk⟩

theorem mapM_length {β γ : Type} {f : β → Option γ} : ∀ {l : List β} {r : List γ}, l.mapM f = some r → r.length = l.length
  | [], _, h => by cases h; rfl
  | a :: l, r, h => by
    obtain ⟨b, bs, h1, h2, rfl⟩ := mapM_cons_some h
    exact congrArg (· + 1) (mapM_length h2)
theorem mapM_get {β γ : Type} {f : β → Option γ} : ∀ {l : List β} {r : List γ} {i : Nat} {a : β}, l.mapM f = some r → l[i]? = some a → ∃ b, r[i]? = some b ∧ f a = some b
  | [], _, _, _, _, e => nso (List.getElem?_nil.symm.trans e)
  | x :: l, r, i, a, h, e => by
    obtain ⟨b, bs, h1, h2, rfl⟩ := mapM_cons_some h
    cases i with
    | zero => cases e; exact ⟨b, rfl, h1⟩
    | succ i =>
      have := mapM_get (i := i) h2 e
      exact this

/-- a source of a loop that stands beside the state -/
structure Src (c : Cx) (A : Around) (α : Nat → Addr) (n : Nat) (vs : List V) (I : Addr) (fp wr : List Addr) (P : Nat → Value → Prop) (St : Nat → Heap → Prop) (h : Heap) (s₂ : Shared) : Prop where
  W : Walks c.prog c.w A I fp wr vs.length P St
  hsz : vs.length ≤ sizeLine
  st : St 0 s₂.heap
  keep : ∀ b o, h.get? b = some o → s₂.heap.get? b = some o
  fresh : ∀ b ∈ wr, h.get? b = none
  low : ∀ b ∈ fp, b < s₂.heap.objs.size
  nimm : ∀ i h, St i h → ∀ b ∈ wr, ∀ o, h.get? b = some o → ¬ Imm o
  item : ∀ i v, i < vs.length → P i v → ∃ V, vs[i]? = some V ∧ RepV α n h V v

theorem compLoop_pure {elt iter : Expr} {x : String} {px : Pos} {scope : Scope} {pos : Pos} {cl : List (Str × Addr)} {α : Nat → Addr} {ρ : Env} {σ : Sto} {h : Heap} {s₂ s : Shared} {I D C : Addr} {fp wr : List Addr} {vs r : List V} {P : Nat → Value → Prop} {St : Nat → Heap → Prop} {m : Str → Option Value} {eltX : X} {R : Result → Shared → Prop}
    (V : EnvOk env nm) (B : BlockOk nm scope (Str.ofString x)) (S : Sim c h₀ env α ρ σ h) (Z : Src c A α σ.length vs I fp wr P St h s₂)
    (h1 : ∀ x k, cl.lookup x = some k → env.cells.lookup x = some k) (h2 : ∀ x, (x, NameKind.free) ∈ scope.names → (cl.lookup x).isSome = true)
    (ck : ckP (okIn nm scope (Str.ofString x)) eltX elt = true) (hr : vs.mapM (fun v => pureE eltX (ρ.set x v) σ) = some r)
    (hDC : D ≠ C) (hDf : D ∉ fp) (hCf : C ∉ fp) (hD0 : h.get? D = none) (hC0 : h.get? C = none)
    (hk0 : ∀ b o, h.get? b = some o → s.heap.get? b = some o)
    (hst : St 0 s.heap) (hacc : s.heap.PlainList D #[]) (hn : s.heap.Ns C m)
    (hR : ∀ h' tk m' ys, h'.Ns C m' → h'.PlainList D ys → All2 (RepV α σ.length h') r ys.toList → (∀ b o, h.get? b = some o → h'.get? b = some o) → R (.ok .next) { s with heap := h', toks := tk }) :
    codeAny (model c.prog c.w) A (.compLoop (.ListComp elt [⟨.Name (Str.ofString x) px, iter, [], 0⟩] scope pos) 0 (.ref I) (.ref D) (compEnvC scope cl C env)) R s := by
  have hlen : r.length = vs.length := mapM_length hr
  have hDw : D ∉ wr := fun hb => hDf (Z.W.sub _ hb)
  have hCw : C ∉ wr := fun hb => hCf (Z.W.sub _ hb)
  refine codeAny_compLoop_list
    (fun k s' => ∃ h' tk m' ys, s' = { s with heap := h', toks := tk } ∧ St ys.size h' ∧ h'.PlainList D ys ∧ h'.Ns C m' ∧ All2 (RepV α σ.length h') (r.take ys.size) ys.toList ∧ ys.size ≤ vs.length ∧ k = vs.length + 1 - ys.size ∧
      (∀ b o, h.get? b = some o → h'.get? b = some o)) ?_ (vs.length + 1)
    ⟨s.heap, s.toks, m, #[], rfl, hst, hacc, hn, by simp [All2], Nat.zero_le _, rfl, hk0⟩
  rintro k s' ⟨H, tk, m', ys, rfl, hst', hacc', hn', hys, hi, rfl, hk⟩
  have hwK : ∀ b ∈ wr, ∀ o, h.get? b = some o → False := fun b hb o e => by rw [Z.fresh b hb] at e; cases e
  by_cases hlt : ys.size < vs.length
  · refine Z.W.item ys.size _ _ _ hlt hst' fun v h₁ tk₁ hPv hst₁ hk₁ => ?_
    obtain ⟨W, eW, rW⟩ := Z.item _ _ hlt hPv
    obtain ⟨u, eu, pu⟩ := mapM_get hr eW
    have K1 : ∀ b o, h.get? b = some o → h₁.get? b = some o := fun b o e => hk₁ b o (fun hb => hwK b hb o e) (hk b o e)
    have I1 : ∀ b o, H.get? b = some o → Imm o → h₁.get? b = some o := fun b o e i => hk₁ b o (fun hb => Z.nimm _ _ hst' b hb o e i) e
    have n1 : h₁.Ns C m' := hn'.at' fun o e => hk₁ _ o hCw e
    have a1 : h₁.PlainList D ys := hacc'.at fun o e => hk₁ _ o hDw e
    refine wpAny_assign_Name (wpAny_storeName_local (env := compEnvC scope cl C env) (lookup_relabel_local B.hx) n1 (fun h₂ hn₂ hs₂ => ?_) (by show ((relabel scope env).kind == _ || ((relabel scope env).kind == _ && _)) = false; have : (relabel scope env).kind = .function := B.kind; rw [this]; rfl))
    have K2 : ∀ b o, h.get? b = some o → h₂.get? b = some o := fun b o e => hs₂.extBut b o (fun q => by rw [show b = C from q, hC0] at e; cases e) (K1 b o e)
    have I2 := immK_sameBut hs₂ (ns_nimm n1)
    have a2 : h₂.PlainList D ys := a1.extBut hs₂.extBut hDC
    have st2 : St (ys.size + 1) h₂ := Z.W.frame _ _ _ hst₁ fun b hb o e => hs₂.extBut b o (by rintro rfl; exact hCf hb) e
    have P2 := PS.block (x := x) (W := W) (v := v) V B S h1 h2 hn₂ (by simp) rW K2
    refine pure_ok (cenv := compEnvC scope cl C env) (show (relabel scope env).kind = .function from B.kind) eltX elt ck u pu _ P2 _ _ fun y s₃ ry K3 => ?_
    obtain ⟨h₃, tk₃, rfl, hk₃⟩ := K3
    have a3 : h₃.PlainList D ys := a2.at fun o e => hk₃ _ o e
    refine wpAny_list_append_plain (hsz := Nat.le_trans hi Z.hsz) a3 fun h₅ hl₅ hs₅ => ?_
    have I5 := immK_sameBut hs₅ (plain_nimm a3)
    refine ⟨vs.length + 1 - (ys.size + 1), by lia, h₅, tk₃, _, ys.push y, rfl, ?_, hl₅, (hn₂.keeps hk₃).sameBut hs₅ (Ne.symm hDC), ?_, by rw [Array.size_push]; lia, by rw [Array.size_push], fun b o e => hs₅.extBut b o (by rintro rfl; rw [hD0] at e; cases e) (hk₃ b o (K2 b o e))⟩
    · rw [Array.size_push]
      exact Z.W.frame _ _ h₅ st2 fun b hb o e => hs₅.extBut b o (fun q => hDf (q ▸ hb)) (hk₃ b o e)
    · have mv : Ext α σ.length H α σ.length h₅ := Ext.of_imm fun b o e i => I5 b o (hk₃ b o (I2 b o (I1 b o e i) i)) i
      have hlt' : ys.size < r.length := by rw [hlen]; exact hlt
      rw [Array.size_push, Array.toList_push, List.take_add_one, eu]
      exact (hys.mono fun _ _ z => z.mono mv).append ⟨ry.mono (Ext.of_imm I5), trivial⟩
  · have hin : ys.size = vs.length := by lia
    refine Z.W.done _ _ _ (hin ▸ hst') fun h₁ tk₁ hk₁ => ?_
    have I1 : ∀ b o, H.get? b = some o → Imm o → h₁.get? b = some o := fun b o e i => hk₁ b o (fun hb => Z.nimm _ _ hst' b hb o e i) e
    refine hR h₁ tk₁ m' ys (hn'.at' fun o e => hk₁ _ o hCw e) (hacc'.at fun o e => hk₁ _ o hDw e) ?_ fun b o e => hk₁ b o (fun hb => hwK b hb o e) (hk b o e)
    rw [hin, ← hlen, List.take_length] at hys
    exact hys.mono fun _ _ z => z.mono (Ext.of_imm I1)

end C187

namespace C187
open PySem PySem.W PyProof.Rows

variable {c : Cx} {h₀ : Heap} {env : PySem.Env} {nm : Names} {A : Around} {d : Nat} {C : Calls}

theorem src_of {α : Nat → Addr} {ρ : Env} {σ : Sto} {s : Shared} {u : V} {v : Value} {vs : List V} {R : Value → Shared → Prop} {E : Value → Shared → Prop} (hh : A.handled = none) (S : Sim c h₀ env α ρ σ s.heap) (ru : RepV α σ.length s.heap u v) (e : itemsOf u σ = some vs)
    (k : ∀ I fp wr P St s₂, Keeps s s₂ → Src c A α σ.length vs I fp wr P St s.heap s₂ → R (.ref I) s₂) : wpAny (model c.prog c.w) A (pyIter v) R E s := by
  unfold itemsOf at e
  split at e
  · rename_i l
    split at e
    · rename_i us el
      obtain rfl : us = vs := Option.some.inj e
      obtain ⟨hl, rfl⟩ := ru
      obtain ⟨its, n, ho, ra, hb⟩ := S.list el
      have hlen := ra.arr
      have hL := listOf_is ho
      have hne : α (2 * l) ≠ s.heap.objs.size := Nat.ne_of_lt (Heap.lt_size ho)
      have W0 := Walks.list (prog := c.prog) (w := c.w) hh _ _ hne its
      rw [← hlen] at W0
      refine wpAny_pyIter_list hL (k _ [s.heap.objs.size, α (2 * l)] [s.heap.objs.size] _ _ _ ⟨_, _, rfl, push_keep _ _⟩ ⟨W0, by rw [← big_eq]; exact hb, ⟨⟨_, Heap.get?_push_size _ rfl, rfl, rfl⟩, hL.push _⟩, push_keep _ _, ?_, ?_, ?_, ?_⟩)
      · intro b hb'
        obtain rfl : b = s.heap.objs.size := by simpa using hb'
        exact get_size _
      · intro b hb'
        show b < (s.heap.push _).objs.size
        rw [Heap.size_push]
        rcases List.mem_cons.mp hb' with rfl | hb'
        · exact Nat.lt_succ_self _
        · obtain rfl : b = α (2 * l) := by simpa using hb'
          exact Nat.lt_succ_of_lt (Heap.lt_size ho)
      · rintro i h ⟨⟨o', ho', hc', _⟩, _⟩ b hb' o e'
        obtain rfl : b = s.heap.objs.size := by simpa using hb'
        rw [ho'] at e'; cases e'
        rintro (⟨q, _⟩ | ⟨q, _⟩)
        · rw [hc'] at q; injection q with q; exact absurd q (by decide)
        · rw [hc'] at q; injection q with q; exact absurd q (by decide)
      · intro i v hi hP
        exact ra.get' (by rw [Array.getElem?_toList]; exact hP)
    · cases e
  · rename_i a b
    split at e
    · rename_i hb
      cases e
      obtain ⟨b1, b2, b3, b5, b4⟩ := hb
      obtain ⟨r, t, u', w', rfl, hr⟩ := ru
      have hlen : (rangeVs a b).length = (b - a).toNat := by simp [rangeVs]
      have hsm : Builtin.Range.small a b 1 = true := small_one (by lia) (by lia) (by lia) (by lia)
      have W0 := Walks.range (prog := c.prog) (w := c.w) hh s.heap.objs.size a 1 (b - a).toNat
      have hst0 : IsRangeIter (s.heap.push { cls := .type "range_iterator", data := .fields #[rawInt a, rawInt (Builtin.Range.rangeSize a b 1), rawInt 1] }) s.heap.objs.size a (Builtin.Range.rangeSize a b 1) 1 := Heap.get?_push_size _ rfl
      rw [rangeSize_nat, ← hlen] at hst0
      rw [← hlen] at W0
      refine wpAny_pyIter_range hr hsm (k _ [s.heap.objs.size] [s.heap.objs.size] _ _ _ ⟨_, _, rfl, push_keep _ _⟩ ⟨W0, by rw [← big_eq, hlen]; exact b4, ?_, push_keep _ _, ?_, ?_, ?_, ?_⟩)
      · rw [rangeSize_nat, ← hlen]
        simpa using hst0
      · intro b hb'
        obtain rfl : b = s.heap.objs.size := by simpa using hb'
        exact get_size _
      · intro b hb'
        obtain rfl : b = s.heap.objs.size := by simpa using hb'
        show _ < (s.heap.push _).objs.size
        rw [Heap.size_push]
        exact Nat.lt_succ_self _
      · intro i h ho' b hb' o e'
        obtain rfl : b = s.heap.objs.size := by simpa using hb'
        have ho'' := ho'
        unfold IsRangeIter at ho''
        rw [ho''] at e'; cases e'
        rintro (⟨q, _⟩ | ⟨q, _⟩)
        · injection q with q; exact absurd q (by decide)
        · injection q with q; exact absurd q (by decide)
      · rintro i v hi ⟨t, rfl⟩
        rw [hlen] at hi
        refine ⟨.int (a + (i : Int)), ?_, ⟨t, by rw [Int.mul_one]⟩⟩
        simp [rangeVs, hi]
    · cases e
  · cases e

theorem Kt.newListAt {ρ : Env} {α : Nat → Addr} {σ : Sto} {s : Shared} {Q : Ct} {R : Value → Shared → Prop} (k : Kt c h₀ env ρ α σ s Q R) (S : Sim c h₀ env α ρ σ s.heap) {vs : List V} {its : Array Value} {D : Addr} {n : Nat} {h' : Heap} (hk : ∀ b o, s.heap.get? b = some o → h'.get? b = some o)
    (hf : s.heap.get? D = none) (hD : h'.get? D = some (listOf its n)) (q : Q (.loc σ.length) (σ ++ [.list vs])) (r : All2 (RepV α σ.length h') vs its.toList) (hb : vs.length ≤ big) (tk : Nat) : R (.ref D) { s with heap := h', toks := tk } := by
  obtain ⟨m, F, _⟩ := S.fr
  have hD' : s.heap.get? (max (D + 1) s.heap.objs.size) = none := get_ge (Nat.le_max_right _ _)
  obtain ⟨α', S', X, e⟩ := S.alloc (o := .list vs) (a := D) (a' := max (D + 1) s.heap.objs.size) F (F.after hk) (fun b o _ => hk b o) hf hD' (Nat.ne_of_lt (Nat.lt_of_lt_of_le (Nat.lt_succ_self _) (Nat.le_max_left _ _)))
    (fun α' e1 e2 e3 X => ⟨its, n, by rw [e2]; exact hD, r.mono fun _ _ x => x.mono ⟨Nat.le_succ _, e1, fun _ _ e _ => e⟩, hb⟩)
  refine k α' _ _ _ { s with heap := h', toks := tk } q S' X ?_ ⟨rfl, rfl, rfl⟩
  exact ⟨by simp, by rw [e]⟩

theorem noSet_ok {iter : Expr} (h : noSet iter = true) (x : Value) : foldedSetIterable iter env x = pure x := by
  cases iter <;> first | exact rfl | exact absurd h Bool.false_ne_true

/-- a map over a range -/
theorem map_ok {x : String} {elt it : X} {y : Str} {e iter : Expr} {scope : Scope} {p py : Pos} (hh : A.handled = none) (V : EnvOk env nm) (G : Gd c h₀) (hb : blockOk nm scope y = true) (hy : y = Str.ofString x) (hp : ckP (okIn nm scope y) elt e = true) (hns : noSet iter = true)
    {ρ : Env} {σ : Sto} {α : Nat → Addr} {s : Shared} {E : Value → Shared → Prop} {R : Value → Shared → Prop}
    (h : ∀ R', (∀ α' u σ' v s', (match itemsOf u σ' with
        | some vs => match vs.mapM (fun v => pureE elt (ρ.set x v) σ') with
          | some r => Kt c h₀ env ρ α' σ' s' (fun V σ => V = .loc σ'.length ∧ σ = σ' ++ [.list r]) R
          | Option.none => False
        | Option.none => False) → Sim c h₀ env α' ρ σ' s'.heap → RepV α' σ'.length s'.heap u v → R' v s') → wpAny (model c.prog c.w) A (eval iter env) R' E s) :
    wpAny (model c.prog c.w) A (eval (.ListComp e [⟨.Name y py, iter, [], 0⟩] scope p) env) R E s := by
  subst hy
  have B := blockOk_of hb
  obtain ⟨cl, hcl, h1, h2⟩ := closure_ok (env := env) (scope := scope) (fun x hx hf => V.cells _ (B.free x hx hf))
  rw [eval_ListComp]
  refine wpAny_comprehension_free (use := none) rfl (noSet_ok hns) hcl B.kind B.names (h _ fun α' u σ' v s' w S r => ?_)
  split at w
  · rename_i vs ei
    split at w
    · rename_i r' er
      refine src_of hh S r ei fun I fp wr P St s₂ K Z => ?_
      obtain ⟨H₂, tk₂, rfl, hk₂⟩ := K
      refine wpAny_newObj_type (wpAny_newFunctionEnv B.cell (by intro y hy; simp at hy) (fun h₁ hns₁ hsb₁ => ?_) B.kind)
      dsimp only at hns₁ hsb₁ ⊢
      generalize hH2 : H₂.push { cls := .type "list", dict := none, data := .seq ([] : List Value).toArray } = H2 at hns₁ hsb₁ ⊢
      have hC : H2.objs.size = H₂.objs.size + 1 := by rw [← hH2, Heap.size_push]
      have hDC : H₂.objs.size ≠ H2.objs.size := by rw [hC]; exact Nat.ne_of_lt (Nat.lt_succ_self _)
      have old : ∀ b o, H₂.get? b = some o → h₁.get? b = some o := fun b o e => hsb₁.extBut b o (by rintro rfl; have := Heap.lt_size e; rw [hC] at this; exact absurd this (Nat.not_lt.mpr (Nat.le_succ _))) (Heap.get?_push_of_some _ (hH2 ▸ Heap.get?_push_of_some _ e))
      have old2 : ∀ b o, s'.heap.get? b = some o → h₁.get? b = some o := fun b o e => old b o (hk₂ b o e)
      have hacc : h₁.PlainList H₂.objs.size #[] := ⟨_, hsb₁.extBut _ _ hDC (Heap.get?_push_of_some _ (hH2 ▸ Heap.get?_push_size _ rfl))⟩
      have fresh : ∀ a, H₂.objs.size ≤ a → s'.heap.get? a = none := fun a ha => by
        cases e : s'.heap.get? a with
        | none => rfl
        | some o' => exact absurd (Heap.lt_size (hk₂ _ _ e)) (Nat.not_lt.mpr ha)
      have st1 : St 0 h₁ := Z.W.frame _ _ _ Z.st fun b _ o e => old b o e
      have loop : ∀ s₃ : Shared, s₃ = { s' with heap := h₁, toks := tk₂ + ([] : List (Str × Value)).length } →
          codeAny (model c.prog c.w) A (.compLoop (.ListComp e [⟨.Name (Str.ofString x) py, iter, [], 0⟩] scope p) 0 (.ref I) (.ref H₂.objs.size) (compEnvC scope cl H2.objs.size env))
            (compPost (model c.prog c.w) A E none R (.ref H₂.objs.size) H2.objs.size) s₃ := by
        rintro s₃ rfl
        refine compLoop_pure V B S Z h1 h2 hp er hDC (fun hm => Nat.lt_irrefl _ (Z.low _ hm)) (fun hm => by have := Z.low _ hm; rw [hC] at this; exact absurd this (Nat.not_lt.mpr (Nat.le_succ _))) (fresh _ (Nat.le_refl _)) (fresh _ (by rw [hC]; exact Nat.le_succ _)) old2 st1 hacc hns₁ ?_
        intro h' tk m' ys hn hl ry hk
        refine ⟨m', hn, fun h'' hs'' => ?_⟩
        have K'' : ∀ b o, s'.heap.get? b = some o → h''.get? b = some o := fun b o e => hs''.extBut b o (fun q => by rw [q, fresh _ (by rw [hC]; exact Nat.le_succ _)] at e; cases e) (hk b o e)
        obtain ⟨n', hD''⟩ := hl.extBut hs''.extBut hDC
        have ry' : All2 (RepV α' σ'.length h'') r' ys.toList := ry.mono fun _ _ z => z.mono (Ext.of_imm (immK_sameBut hs'' (ns_nimm hn)))
        refine (show Kt _ _ _ _ _ _ _ _ _ from w).newListAt (tk := tk) S K'' (fresh _ (Nat.le_refl _)) hD'' ⟨rfl, rfl⟩ ry' ?_
        rw [mapM_length er]
        exact Nat.le_trans Z.hsz (by rw [← big_eq]; exact Nat.le_refl _)
      exact codeAny_compStart_list (loop _ rfl) (Z.W.self 0 _ _ _ st1 (loop _ rfl))
    · exact w.elim
  · exact w.elim

end C187

namespace C187
open PySem PySem.W PyProof.Rows

variable {c : Cx} {h₀ : Heap} {env : PySem.Env} {nm : Names} {A : Around} {d : Nat} {C : Calls}

theorem attr_eval {o : Expr} {f : Str} {p : Pos} (h : notSuper o = true) : eval (.Attribute o f p) env = (do
      let v ← eval o env
      standAt p.atName
      let r ← holding [v] (getAttr v f true)
      letTemporaryGo o v r
      pure r) := by
  cases o <;> first | with_unfolding_all exact rfl | exact absurd h Bool.false_ne_true

theorem noSuper_base {o : Expr} (h : notSuper o = true) (f : Str) : attributeBase o f env (eval o env) = eval o env := by
  cases o <;> first | exact rfl | exact absurd h Bool.false_ne_true

theorem glob_ok (Kg : KG c) (V : EnvOk env nm) (G : Gd c h₀) {x : String} {p : Pos} {ρ : Env} {σ : Sto} {α : Nat → Addr} {s : Shared} {E : Value → Shared → Prop} {Q : Ct} {R : Value → Shared → Prop} (hk : nm.lookup (Str.ofString x) = some .globalImplicit) (hd : (Str.ofString x == ("__debug__" : Str)) = false)
    (S : Sim c h₀ env α ρ σ s.heap) (w : match globOf x with | some v => Q v σ | Option.none => False) (k : Kt c h₀ env ρ α σ s Q R) : wpAny (model c.prog c.w) A (eval (.Name (Str.ofString x) p) env) R E s := by
  split at w
  · rename_i v e
    obtain ⟨u, hu, hr⟩ := Kg.glob x v e
    exact glob_name V G hk hd S hu (k.same S w (hr _ _ _ (S.K G)) _)
  · exact w.elim

theorem behind_false {o : Cop} (r : Expr) : behindInMarks (cmpOf o) r = false := by
  have h : (cmpOf o == .In || cmpOf o == .NotIn) = false := by cases o <;> exact rfl
  cases r <;> first | exact rfl | (unfold behindInMarks; rw [h]; dsimp only; rw [Bool.and_false, Bool.false_and])

/-- the name of a callee, and its call -/
theorem callee_ok (Kg : KG c) (CO : CallOk c d C) (rm : Room1 A d) (V : EnvOk env nm) (G : Gd c h₀) {f : String} {np pos : Pos} {as : List Expr} {ρ : Env} {σ : Sto} {α : Nat → Addr} {s : Shared} {E : Value → Shared → Prop} {Q : Ct} {R : Value → Shared → Prop} {args : List X}
    (hk : nm.lookup (Str.ofString f) = some .globalImplicit) (hd : (Str.ofString f == ("__debug__" : Str)) = false) (hkn : (isFun f || isCls f || decide (f ∈ ["len", "range", "sorted", "list", "max", "min"])) = true) (hst : starEach as env = as.map fun e => (false, eval e env))
    (S : Sim c h₀ env α ρ σ s.heap) (k : Kt c h₀ env ρ α σ s Q R)
    (h : ∀ R', Kl c h₀ env ρ α σ s as.length (fun vs σ => callW C f vs σ Q) R' → wpAny (model c.prog c.w) A (spliced (as.map fun e => (false, eval e env))) R' E s) :
    wpAny (model c.prog c.w) A (eval (.Call (.Name (Str.ofString f) np) as [] pos) env) R E s := by
  refine wpAny_Call_Name_kw ?_
  rw [hst, backTo_of]
  show wpAny _ _ _ (fun f s₁ => wpAny _ _ (callWith pos f [] (as.map fun e => (false, eval e env)) []) R E s₁) E s
  by_cases h1 : isFun f = true
  · obtain ⟨fa, q1, q2, q3⟩ := Kg.fns f h1
    refine glob_name V G hk hd S q2 (callWith_ok (keeps_K q3) (h _ fun α' vs σ' its s' w S' X r _ sm => ⟨S'.K G, ?_⟩))
    simp only [callW] at w
    rw [if_pos h1] at w
    exact wpAny_call (CO A h₀ env nm ρ α' σ' s' f vs its Q E R fa rm.room G q1 w S' r fun α'' V' σ'' v s'' w' S'' X' rv sm' => k α'' V' σ'' v s'' w' S'' (X.trans X') rv (sm.trans sm'))
  · by_cases h2 : isCls f = true
    · obtain ⟨cc, fI, g, q1, q2, q3, q4, q5, q6, q7, q8⟩ := Kg.clss f h2
      refine glob_name V G hk hd S q2 (callWith_ok (keeps_K q3) (h _ fun α' vs σ' its s' w S' X r _ sm => ⟨S'.K G, ?_⟩))
      simp only [callW] at w
      rw [if_neg h1, if_pos h2, q5] at w
      exact cls_ok Kg CO rm V G S' r q1 q4 q5 q6 q7 q8 w fun α'' V' σ'' v s'' w' S'' X' rv sm' => k α'' V' σ'' v s'' w' S'' (X.trans X') rv (sm.trans sm')
    · have h3 : f ∈ ["len", "range", "sorted", "list", "max", "min"] := by
        have e1 : isFun f = false := by revert h1; cases isFun f <;> simp
        have e2 : isCls f = false := by revert h2; cases isCls f <;> simp
        rw [e1, e2] at hkn
        simpa using hkn
      obtain ⟨q1, q2⟩ := Kg.blts f h3
      have hne : Str.ofString f ≠ ("__name__" : Str) := by
        intro e
        have := ofString_inj e
        subst this
        revert h3; decide
      have hkeep : ∀ h, c.K.In h → ∃ k, (k = Keeper.frame ∨ k = Keeper.machine ∨ k = Keeper.boundFrame) ∧ Looks (model c.prog c.w) h (keeperOf (bval f)) k := fun h _ => by
        refine ⟨.machine, .inr (.inl rfl), ?_⟩
        have : ∃ z, (bval f = .builtin z ∨ bval f = .type z) := by
          unfold bval; split <;> exact ⟨_, by first | exact .inl rfl | exact .inr rfl⟩
        obtain ⟨z, e | e⟩ := this <;> rw [e] <;> exact Looks.of_pure rfl
      refine built_name V G hk hd S q1 q2 hne (callWith_ok hkeep (h _ fun α' vs σ' its s' w S' X r _ sm => ⟨S'.K G, ?_⟩))
      simp only [callW] at w
      rw [if_neg h1, if_neg h2] at w
      exact built_ok rm.1 G.sys S' r w fun α'' V' σ'' v s'' w' S'' X' rv sm' => k α'' V' σ'' v s'' w' S'' (X.trans X') rv (sm.trans sm')


/-- what each expression does -/
noncomputable def WkE (c : Cx) (h₀ : Heap) (env : PySem.Env) (nm : Names) (A : Around) (C : Calls) (x : X) (a : Expr) : Prop := ∀ (ρ : Env) (σ : Sto) (Q : Ct), evE C x ρ σ Q →
    ∀ (α : Nat → Addr) (s : Shared), Sim c h₀ env α ρ σ s.heap → ∀ (E R : Value → Shared → Prop), Kt c h₀ env ρ α σ s Q R → wpAny (model c.prog c.w) A (eval a env) R E s
noncomputable def OkE (c : Cx) (h₀ : Heap) (env : PySem.Env) (nm : Names) (A : Around) (C : Calls) (x : X) : Prop := ∀ (a : Expr), ckE nm x a = true → WkE c h₀ env nm A C x a
noncomputable def WkT (c : Cx) (h₀ : Heap) (env : PySem.Env) (nm : Names) (A : Around) (C : Calls) (x : X) (a : Expr) : Prop := ∀ (ρ : Env) (σ : Sto) (Q : Bool → Sto → Prop), evT C x ρ σ Q →
    ∀ (α : Nat → Addr) (s : Shared), Sim c h₀ env α ρ σ s.heap → ∀ (E : Value → Shared → Prop) (R : Bool → Shared → Prop), Kb c h₀ env ρ α σ s Q R → wpAny (model c.prog c.w) A (isTrue a env (eval a env)) R E s
noncomputable def OkT (c : Cx) (h₀ : Heap) (env : PySem.Env) (nm : Names) (A : Around) (C : Calls) (x : X) : Prop := ∀ (a : Expr), ckT nm x a = true → WkT c h₀ env nm A C x a
noncomputable def WkEs (c : Cx) (h₀ : Heap) (env : PySem.Env) (nm : Names) (A : Around) (C : Calls) (x : List X) (a : List Expr) : Prop := ∀ (ρ : Env) (σ : Sto) (Q : List C187.V → Sto → Prop), evEs C x ρ σ Q →
    ∀ (α : Nat → Addr) (s : Shared), Sim c h₀ env α ρ σ s.heap → ∀ (E : Value → Shared → Prop) (R : List Value → Shared → Prop), Kl c h₀ env ρ α σ s a.length Q R → wpAny (model c.prog c.w) A (spliced (a.map fun e => (false, eval e env))) R E s
noncomputable def OkEs (c : Cx) (h₀ : Heap) (env : PySem.Env) (nm : Names) (A : Around) (C : Calls) (x : List X) : Prop := ∀ (a : List Expr), ckEs nm x a = true → WkEs c h₀ env nm A C x a
noncomputable def WkAll (c : Cx) (h₀ : Heap) (env : PySem.Env) (nm : Names) (A : Around) (C : Calls) (x : List X) (a : List Expr) : Prop := ∀ (ρ : Env) (σ : Sto) (Q : Bool → Sto → Prop), evAll C x ρ σ Q →
    ∀ (α : Nat → Addr) (s : Shared), Sim c h₀ env α ρ σ s.heap → ∀ (E : Value → Shared → Prop) (R : Bool → Shared → Prop), Kb c h₀ env ρ α σ s Q R → wpAny (model c.prog c.w) A (allTrue .And a env) R E s
noncomputable def OkAll (c : Cx) (h₀ : Heap) (env : PySem.Env) (nm : Names) (A : Around) (C : Calls) (x : List X) : Prop := ∀ (a : List Expr), ckTs nm x a = true → WkAll c h₀ env nm A C x a
noncomputable def WkAny (c : Cx) (h₀ : Heap) (env : PySem.Env) (nm : Names) (A : Around) (C : Calls) (x : List X) (a : List Expr) : Prop := ∀ (ρ : Env) (σ : Sto) (Q : Bool → Sto → Prop), evAny C x ρ σ Q →
    ∀ (α : Nat → Addr) (s : Shared), Sim c h₀ env α ρ σ s.heap → ∀ (E : Value → Shared → Prop) (R : Bool → Shared → Prop), Kb c h₀ env ρ α σ s Q R → wpAny (model c.prog c.w) A (allTrue .Or a env) R E s
noncomputable def OkAny (c : Cx) (h₀ : Heap) (env : PySem.Env) (nm : Names) (A : Around) (C : Calls) (x : List X) : Prop := ∀ (a : List Expr), ckTs nm x a = true → WkAny c h₀ env nm A C x a

theorem and2 {a b : Bool} (h : (a && b) = true) : a = true ∧ b = true := Bool.and_eq_true_iff.mp h
theorem and2i {a b : Bool} (h : a = true) (h' : b = true) : (a && b) = true := Bool.and_eq_true_iff.mpr ⟨h, h'⟩
theorem and3 {a b e : Bool} (h : (a && b && e) = true) : a = true ∧ b = true ∧ e = true := ⟨(and2 (and2 h).1).1, (and2 (and2 h).1).2, (and2 h).2⟩
theorem and4 {a b e f : Bool} (h : (a && b && e && f) = true) : a = true ∧ b = true ∧ e = true ∧ f = true := ⟨(and3 (and2 h).1).1, (and3 (and2 h).1).2.1, (and3 (and2 h).1).2.2, (and2 h).2⟩

section
variable (Kg : KG c) (CO : CallOk c d C) (rm : Room1 A d) (V : EnvOk env nm) (G : Gd c h₀)

theorem okE_none : OkE c h₀ env nm A C .none := fun a ck => by
  apply eConst (a := a) ck; intro cst kd p ck
  apply eEq (x := cst) (cNone_eq ck)
  intro ρ σ Q w α s S E R k
  exact wpAny_pure (k.same S w rfl _)
theorem okE_bool {b : Bool} : OkE c h₀ env nm A C (.bool b) := fun a ck => by
  apply eConst (a := a) ck; intro cst kd p ck
  apply eEq (x := cst) (cBool_eq ck)
  intro ρ σ Q w α s S E R k
  exact wpAny_pure (k.same S w rfl _)
theorem okE_int {i : Int} : OkE c h₀ env nm A C (.int i) := fun a ck => by
  apply eConst (a := a) ck; intro cst kd p ck
  apply eEq (x := cst) (cInt_eq ck)
  intro ρ σ Q w α s S E R k
  exact wpAny_Constant_int (k.same S w (⟨_, rfl⟩) _)
theorem okE_str {x : String} : OkE c h₀ env nm A C (.str x) := fun a ck => by
  apply eConst (a := a) ck; intro cst kd p ck
  apply eEq (x := cst) (cStr_eq ck)
  intro ρ σ Q w α s S E R k
  exact wpAny_mkText (k.same S w (⟨strOk_ofString x, _, rfl⟩) _)
include V
theorem okE_var {x : String} : OkE c h₀ env nm A C (.var x) := fun a ck => by
  apply eName (a := a) ck; intro y p ck
  obtain ⟨c1, _, c3⟩ := and3 ck
  obtain rfl := beq_iff_eq.mp c1
  intro ρ σ Q w α s S E R k
  exact var_ok V (neDebug c3) S w k
include Kg G
theorem okE_glob {x : String} : OkE c h₀ env nm A C (.glob x) := fun a ck => by
  apply eName (a := a) ck; intro y p ck
  obtain ⟨c1, c2, c3⟩ := and3 ck
  obtain rfl := beq_iff_eq.mp c1
  intro ρ σ Q w α s S E R k
  exact glob_ok Kg V G (beq_iff_eq.mp c2) (neDebug c3) S w k
omit Kg V G
theorem okE_neg {e : X} (ih : OkE c h₀ env nm A C e) : OkE c h₀ env nm A C (.neg e) := fun a ck => by
  apply eUn (a := a) ck; intro op v p ck
  obtain ⟨c1, c2⟩ := and2 ck
  apply eBeq (x := op) c1
  intro ρ σ Q w α s S E R k
  refine wpAny_UnaryOp (ih v c2 ρ σ _ w α s S E _ fun α' V' σ' u s' w' S' X ru sm => ?_)
  cases V' with
  | int i =>
    obtain ⟨t, rfl⟩ := ru
    exact PyProof.Rows.neg_int (k α' _ σ' _ { s' with toks := s'.toks + 1 } w' S' X (⟨_, rfl⟩) ⟨sm.1, sm.2.1, sm.2.2⟩)
  | _ => exact w'.elim
theorem okE_bin {o : Bop} {x y : X} (ih1 : OkE c h₀ env nm A C x) (ih2 : OkE c h₀ env nm A C y) : OkE c h₀ env nm A C (.bin o x y) := fun a ck => by
  apply eBin (a := a) ck; intro l op r p ck
  obtain ⟨c0, c1, c2⟩ := and3 ck
  apply eBeq (x := op) c0
  intro ρ σ Q w α s S E R k
  refine wpAny_BinOp (ih1 l c1 ρ σ _ w α s S E _ fun α1 V1 σ1 v1 s1 w1 S1 X1 r1 sm1 => ?_)
  refine ih2 r c2 ρ σ1 _ w1 α1 s1 S1 E _ fun α2 V2 σ2 v2 s2 w2 S2 X2 r2 sm2 => ?_
  exact bin_ok S2 (r1.mono X2) r2 w2 fun α3 V3 σ3 v3 s3 w3 S3 X3 r3 sm3 => k α3 V3 σ3 v3 s3 w3 S3 ((X1.trans X2).trans X3) r3 ((sm1.trans sm2).trans sm3)
include rm
theorem okE_cmp {o : Cop} {x y : X} (ih1 : OkE c h₀ env nm A C x) (ih2 : OkE c h₀ env nm A C y) : OkE c h₀ env nm A C (.cmp o x y) := fun a ck => by
  apply eCmp (a := a) ck; intro l ops rs p ck
  apply eOne (l := ops) ck; intro op ck
  apply eOne (l := rs) ck; intro r ck
  obtain ⟨c0, c1, c2⟩ := and3 ck
  apply eBeq (x := op) c0
  intro ρ σ Q w α s S E R k
  refine wpAny_Compare1 (ih1 l c1 ρ σ _ w α s S E _ fun α1 V1 σ1 v1 s1 w1 S1 X1 r1 sm1 => ?_) (behind_false r)
  refine ih2 r c2 ρ σ1 _ w1 α1 s1 S1 E _ fun α2 V2 σ2 v2 s2 w2 S2 X2 r2 sm2 => ?_
  exact cmp_ok (by have := rm.2.2; lia) S2 (r1.mono X2) r2 w2 fun α3 V3 σ3 v3 s3 w3 S3 X3 r3 sm3 => k α3 V3 σ3 v3 s3 w3 S3 ((X1.trans X2).trans X3) r3 ((sm1.trans sm2).trans sm3)
omit rm
theorem okE_ite {t x y : X} (ih0 : OkT c h₀ env nm A C t) (ih1 : OkE c h₀ env nm A C x) (ih2 : OkE c h₀ env nm A C y) : OkE c h₀ env nm A C (.ite t x y) := fun a ck => by
  apply eIf (a := a) ck; intro tt l r p ck
  obtain ⟨c0, c1, c2⟩ := and3 ck
  intro ρ σ Q w α s S E R k
  refine wpAny_IfExp (ih0 tt c0 ρ σ _ w α s S E _ fun α1 b σ1 s1 w1 S1 X1 sm1 => ?_)
  cases b with
  | true => exact ih1 l c1 ρ σ1 _ ((if_pos rfl).mp w1) α1 s1 S1 E _ fun α2 V2 σ2 v2 s2 w2 S2 X2 r2 sm2 => k α2 V2 σ2 v2 s2 w2 S2 (X1.trans X2) r2 (sm1.trans sm2)
  | false => exact ih2 r c2 ρ σ1 _ ((if_neg Bool.false_ne_true).mp w1) α1 s1 S1 E _ fun α2 V2 σ2 v2 s2 w2 S2 X2 r2 sm2 => k α2 V2 σ2 v2 s2 w2 S2 (X1.trans X2) r2 (sm1.trans sm2)
include Kg G
theorem okE_attr {e : X} {f : String} (ih : OkE c h₀ env nm A C e) : OkE c h₀ env nm A C (.attr e f) := fun a ck => by
  apply eAttr (a := a) ck; intro v g p ck
  obtain ⟨c0, c1, c2⟩ := and3 ck
  apply eBeq (x := g) c0
  intro ρ σ Q w α s S E R k
  refine Attribute_any_ (ih v c2 ρ σ _ w α s S E _ fun α1 V1 σ1 v1 s1 w1 S1 X1 r1 sm1 => ?_) (attr_eval c1)
  exact attr_ok Kg.toKF G.X S1 r1 w1 fun α3 V3 σ3 v3 s3 w3 S3 X3 r3 sm3 => k α3 V3 σ3 v3 s3 w3 S3 (X1.trans X3) r3 (sm1.trans sm3)
omit Kg G
theorem okE_item {e i : X} (ih1 : OkE c h₀ env nm A C e) (ih2 : OkE c h₀ env nm A C i) : OkE c h₀ env nm A C (.item e i) := fun a ck => by
  apply eSub (a := a) ck; intro v j p ck
  obtain ⟨c0, c1, c2⟩ := and3 ck
  have hs : ∀ l u t p, j ≠ .Slice l u t p := by rintro l u t p rfl; exact nomatch (show false = true from c0)
  intro ρ σ Q w α s S E R k
  refine Subscript_ (ih1 v c1 ρ σ _ w α s S E _ fun α1 V1 σ1 v1 s1 w1 S1 X1 r1 sm1 => ?_)
  refine ih2 j c2 ρ σ1 _ w1 α1 s1 S1 E _ fun α2 V2 σ2 v2 s2 w2 S2 X2 r2 sm2 => ?_
  exact item_ok hs S2 (r1.mono X2) r2 w2 fun α3 V3 σ3 v3 s3 w3 S3 X3 r3 sm3 => k α3 V3 σ3 v3 s3 w3 S3 ((X1.trans X2).trans X3) r3 ((sm1.trans sm2).trans sm3)
theorem okO {x : X} (ih : OkE c h₀ env nm A C x) (a : Option Expr) (ck : ckO nm x a = true) (ρ : Env) (σ : Sto) (Q : Ct) (w : evE C x ρ σ Q) (α : Nat → Addr) (s : Shared) (S : Sim c h₀ env α ρ σ s.heap) (E R : Value → Shared → Prop) (k : Kt c h₀ env ρ α σ s Q R) : wpAny (model c.prog c.w) A (evalPart a env) R E s := by
  cases a with
  | some e => exact ih e ck ρ σ Q w α s S E R k
  | none =>
    cases x <;> first | exact nomatch (show false = true from ck) | exact wpAny_pure (k.same S w rfl _)
theorem okE_slice {e lo hi st : X} (ih : OkE c h₀ env nm A C e) (ih1 : OkE c h₀ env nm A C lo) (ih2 : OkE c h₀ env nm A C hi) (ih3 : OkE c h₀ env nm A C st) : OkE c h₀ env nm A C (.slice e lo hi st) := fun a ck => by
  apply eSub (a := a) ck; intro v j p ck
  apply eSlice (a := j) ck; intro l u t p' ck
  obtain ⟨c0, c1, c2, c3⟩ := and4 ck
  intro ρ σ Q w α s S E R k
  refine Subscript_ (ih v c0 ρ σ _ w α s S E _ fun α1 V1 σ1 v1 s1 w1 S1 X1 r1 sm1 => ?_)
  refine wpAny_Slice (okO ih1 l c1 ρ σ1 _ w1 α1 s1 S1 E _ fun α2 V2 σ2 v2 s2 w2 S2 X2 r2 sm2 => ?_)
  refine okO ih2 u c2 ρ σ2 _ w2 α2 s2 S2 E _ fun α3 V3 σ3 v3 s3 w3 S3 X3 r3 sm3 => ?_
  refine okO ih3 t c3 ρ σ3 _ w3 α3 s3 S3 E _ fun α4 V4 σ4 v4 s4 w4 S4 X4 r4 sm4 => ?_
  exact slice_ok S4 (((r1.mono X2).mono X3).mono X4) ((r2.mono X3).mono X4) (r3.mono X4) r4 w4 fun α5 V5 σ5 v5 s5 w5 S5 X5 r5 sm5 =>
    k α5 V5 σ5 v5 s5 w5 S5 ((((X1.trans X2).trans X3).trans X4).trans X5) r5 ((((sm1.trans sm2).trans sm3).trans sm4).trans sm5)
theorem big_1000 {n m : Nat} (h : n = m) (hm : m ≤ 1000) : n ≤ big := by unfold big; lia
theorem okE_tup {l : List X} (ih : OkEs c h₀ env nm A C l) : OkE c h₀ env nm A C (.tup l) := fun a ck => by
  apply eTup (a := a) ck; intro es kd p ck
  obtain ⟨c1, c2⟩ := and2 ck
  intro ρ σ Q w α s S E R k
  refine Tuple_ ?_
  rw [starEach_of env c2, backTo_of]
  exact ih es c2 ρ σ _ w α s S E _ fun α1 vs σ1 its s1 w1 S1 X1 r1 hl sm1 =>
    tuple_ok S1 r1 (big_1000 hl (of_decide_eq_true c1)) w1 fun α3 V3 σ3 v3 s3 w3 S3 X3 r3 sm3 => k α3 V3 σ3 v3 s3 w3 S3 (X1.trans X3) r3 (sm1.trans sm3)
theorem okE_list {l : List X} (ih : OkEs c h₀ env nm A C l) : OkE c h₀ env nm A C (.list l) := fun a ck => by
  apply eList (a := a) ck; intro es p ck
  obtain ⟨c1, c2⟩ := and2 ck
  intro ρ σ Q w α s S E R k
  refine List_ ?_
  rw [starEach_of env c2, backTo_of]
  exact ih es c2 ρ σ _ w α s S E _ fun α1 vs σ1 its s1 w1 S1 X1 r1 hl sm1 =>
    list_ok S1 r1 (big_1000 hl (of_decide_eq_true c1)) w1 fun α3 V3 σ3 v3 s3 w3 S3 X3 r3 sm3 => k α3 V3 σ3 v3 s3 w3 S3 (X1.trans X3) r3 (sm1.trans sm3)
theorem okE_dict {kd : DK} : OkE c h₀ env nm A C (.dict kd) := fun a ck => by
  apply eDict (a := a) ck; intro ks vs p ck
  intro ρ σ Q w α s S E R k
  match ks, vs, ck with
  | [], [], _ => exact wpAny_Dict_empty (dict_ok kd S w k)
  | _ :: _, _, ck => exact nomatch (show false = true from ck)
  | [], _ :: _, ck => exact nomatch (show false = true from ck)
include rm V G
theorem okE_map {elt it : X} {x : String} (ih : OkE c h₀ env nm A C it) : OkE c h₀ env nm A C (.map elt x it) := fun a ck => by
  apply eComp (a := a) ck; intro e gens scope p ck
  apply eOne (l := gens) ck; intro g ck
  obtain ⟨tg, iter, ifs, asy⟩ := g
  apply eName (a := tg) ck; intro y py ck
  obtain ⟨ck, c4⟩ := and2 ck
  obtain ⟨ck, c3⟩ := and2 ck
  obtain ⟨ck, c5⟩ := and2 ck
  obtain ⟨ck, c2⟩ := and2 ck
  obtain ⟨cf, h0, c1⟩ := and3 ck
  apply eEq (x := ifs) (y := []) (by cases ifs with | nil => rfl | cons _ _ => exact nomatch (show false = true from cf))
  apply eEq (x := asy) (y := 0) (of_decide_eq_true h0)
  intro ρ σ Q w α s S E R k
  refine map_ok (x := x) (elt := elt) (it := it) (ρ := ρ) (σ := σ) (α := α) rm.1 V G c2 (beq_iff_eq.mp c1) c3 c5 fun R' hR' => ?_
  refine ih iter c4 ρ σ _ w α s S E R' fun α1 V1 σ1 v1 s1 w1 S1 X1 r1 sm1 => hR' α1 V1 σ1 v1 s1 ?_ S1 r1
  dsimp only at w1 ⊢
  cases e1 : itemsOf V1 σ1 with
  | none => rw [e1] at w1; exact w1.elim
  | some vs =>
    rw [e1] at w1
    dsimp only at w1 ⊢
    cases e2 : vs.mapM (fun v => pureE elt (ρ.set x v) σ1) with
    | none => rw [e2] at w1; exact w1.elim
    | some r =>
      rw [e2] at w1
      intro α3 V3 σ3 v3 s3 w3 S3 X3 r3 sm3
      obtain ⟨rfl, rfl⟩ := w3
      exact k α3 _ _ v3 s3 w1 S3 (X1.trans X3) r3 (sm1.trans sm3)
include Kg CO
theorem okE_call {f : String} {as : List X} (ih : OkEs c h₀ env nm A C as) : OkE c h₀ env nm A C (.call f as) := fun a ck => by
  apply eCall (a := a) ck; intro fn es kws p ck
  apply eName (a := fn) ck; intro g np ck
  obtain ⟨ck, c4⟩ := and2 ck
  obtain ⟨ck, c3⟩ := and2 ck
  obtain ⟨c0, c01, c1, c2⟩ := and4 ck
  apply eEq (x := kws) (noKw_eq c0)
  obtain rfl := beq_iff_eq.mp c01
  intro ρ σ Q w α s S E R k
  exact callee_ok (args := as) Kg CO rm V G (beq_iff_eq.mp c1) (neDebug c2) c3 (starEach_of env c4) S k fun R' hR' => ih es c4 ρ σ _ w α s S E R' hR'
theorem okE_meth {e : X} {f : String} {as : List X} (ih : OkE c h₀ env nm A C e) (ihs : OkEs c h₀ env nm A C as) : OkE c h₀ env nm A C (.meth e f as) := fun a ck => by
  apply eCall (a := a) ck; intro fn es kws p ck
  apply eAttrP (a := fn) ck; intro v g ap ck
  obtain ⟨ck, c5⟩ := and2 ck
  obtain ⟨ck, c4⟩ := and2 ck
  obtain ⟨ck, c3⟩ := and2 ck
  obtain ⟨c00, c0, c1, c2⟩ := and4 ck
  apply eEq (x := kws) (noKw_eq c00)
  apply eBeq (x := g) c0
  have c2 := beq_iff_eq.mp c2
  have c3 := of_decide_eq_true c3
  intro ρ σ Q w α s S E R k
  simp only at c1 c2 c3 c4 c5
  rw [arm_eval_Call, noSuper_base c1, starEach_of env c5, backTo_of]
  refine wpAny_bind (ih v c4 ρ σ _ w α s S E _ fun α1 V1 σ1 v1 s1 w1 S1 X1 r1 sm1 => ?_)
  refine wpAny_bind (wpAny_standAt ?_)
  have hform : methodCallForm (es.length + ([] : List Keyword).length) (es.map fun e => (false, eval e env)) (backToKw p (keywordEach [] env)) = true := by
    unfold methodCallForm
    have h1 : (es.map fun e => (false, eval e env)).all (fun x => !x.1) = true := by
      rw [List.all_eq_true]
      intro x hx
      obtain ⟨e', _, rfl⟩ := List.mem_map.mp hx
      rfl
    have h2 : backToKw p (keywordEach [] env) = [] := rfl
    rw [h1, h2]
    simp only [List.all_nil, List.isEmpty_nil, if_true, List.length_nil, Nat.add_zero, Bool.and_true, Bool.true_and, decide_eq_true_eq]
    exact c3
  have hpos : methodCallPos true v env ap p = pure p := by unfold methodCallPos; simp [c2]
  unfold methodCall
  rw [hform]
  have fin : ∀ {u : Value}, wpAny (model c.prog c.w) A (callWith p u [v1] (es.map fun e => (false, eval e env)) (backToKw p (keywordEach [] env))) R E s1 →
      (fun (x : Value × List Value) s' => wpAny (model c.prog c.w) A (match x with | (f, first) => methodCallPos true v env ap p >>= fun cp => callWith cp f first (es.map fun e => (false, eval e env)) (backToKw p (keywordEach [] env))) R E s') (u, [v1]) s1 := fun h => wpAny_bind (wpAny_of_eq hpos h)
  refine wpAny_bind (wpAny_holding (getMethod_ok Kg G S1 r1 w1 (fun g fa q1 q2 w2 => fin ?_) (fun l hl hf w2 => fin ?_) (fun l hl hf w2 => fin ?_)))
  · refine callWith_ok (keeps_K q2) (ihs es c5 ρ σ1 _ w2 α1 s1 S1 E _ fun α2 vs σ2 its s2 w3 S2 X2 r2 _ sm2 => ⟨S2.K G, ?_⟩)
    exact wpAny_call (CO A h₀ env nm ρ α2 σ2 s2 g (V1 :: vs) (v1 :: its) Q E R fa rm.room G q1 w3 S2 ⟨r1.mono X2, r2⟩ fun α3 V3 σ3 v3 s3 w3 S3 X3 r3 sm3 => k α3 V3 σ3 v3 s3 w3 S3 ((X1.trans X2).trans X3) r3 ((sm1.trans sm2).trans sm3))
  · subst hl
    have r1' := r1
    obtain ⟨hlt, rfl⟩ := r1'
    refine callWith_ok (fun h _ => ⟨.machine, .inr (.inl rfl), Looks.of_pure rfl⟩) (ihs es c5 ρ σ1 _ w2 α1 s1 S1 E _ fun α2 vs σ2 its s2 w3 S2 X2 r2 _ sm2 => ⟨S2.K G, ?_⟩)
    rw [← X2.al _ (by lia)]
    exact listW_ok hf S2 r2 (Nat.lt_of_lt_of_le hlt X2.le) w3 fun α3 V3 σ3 v3 s3 w3 S3 X3 r3 sm3 => k α3 V3 σ3 v3 s3 w3 S3 ((X1.trans X2).trans X3) r3 ((sm1.trans sm2).trans sm3)
  · subst hl
    have r1' := r1
    obtain ⟨hlt, rfl⟩ := r1'
    refine callWith_ok (fun h _ => ⟨.machine, .inr (.inl rfl), Looks.of_pure rfl⟩) (ihs es c5 ρ σ1 _ w2 α1 s1 S1 E _ fun α2 vs σ2 its s2 w3 S2 X2 r2 _ sm2 => ⟨S2.K G, ?_⟩)
    rw [← X2.al _ (by lia)]
    exact dictW_ok (by have := rm.2.2; lia) G S2 r2 w3 fun α3 V3 σ3 v3 s3 w3 S3 X3 r3 sm3 => k α3 V3 σ3 v3 s3 w3 S3 ((X1.trans X2).trans X3) r3 ((sm1.trans sm2).trans sm3)
omit Kg CO V G
theorem okT_cmp {o : Cop} {x y : X} (ih1 : OkE c h₀ env nm A C x) (ih2 : OkE c h₀ env nm A C y) : OkT c h₀ env nm A C (.cmp o x y) := fun a ck => by
  apply eCmp (a := a) ck; intro l ops rs p ck
  apply eOne (l := ops) ck; intro op ck
  apply eOne (l := rs) ck; intro r ck
  obtain ⟨c0, c1, c2⟩ := and3 ck
  apply eBeq (x := op) c0
  intro ρ σ Q w α s S E R k
  refine wpAny_isTrue_Compare1 (ih1 l c1 ρ σ _ w α s S E _ fun α1 V1 σ1 v1 s1 w1 S1 X1 r1 sm1 => ?_) (behind_false r)
  refine ih2 r c2 ρ σ1 _ w1 α1 s1 S1 E _ fun α2 V2 σ2 v2 s2 w2 S2 X2 r2 sm2 => ?_
  refine cmp_ok (by have := rm.2.2; lia) S2 (r1.mono X2) r2 w2 fun α3 V3 σ3 v3 s3 w3 S3 X3 r3 sm3 => ?_
  cases V3 with
  | bool t =>
    subst r3
    exact wpAny_truthy_bool (k α3 t σ3 s3 w3 S3 ((X1.trans X2).trans X3) ((sm1.trans sm2).trans sm3))
  | _ => exact w3.elim
omit rm
theorem okT_all {l : List X} (ih : OkAll c h₀ env nm A C l) : OkT c h₀ env nm A C (.all l) := fun a ck => by
  apply eBool (a := a) ck; intro op es p ck
  obtain ⟨c1, c2⟩ := and2 ck
  apply eBeq (x := op) c1
  intro ρ σ Q w α s S E R k
  exact wpAny_isTrue_BoolOp (ih es c2 ρ σ Q w α s S E R k)
theorem okT_any {l : List X} (ih : OkAny c h₀ env nm A C l) : OkT c h₀ env nm A C (.any l) := fun a ck => by
  apply eBool (a := a) ck; intro op es p ck
  obtain ⟨c1, c2⟩ := and2 ck
  apply eBeq (x := op) c1
  intro ρ σ Q w α s S E R k
  exact wpAny_isTrue_BoolOp (ih es c2 ρ σ Q w α s S E R k)
theorem okT_not {x : X} (ih : OkT c h₀ env nm A C x) : OkT c h₀ env nm A C (.not x) := fun a ck => by
  apply eUn (a := a) ck; intro op e p ck
  obtain ⟨c1, c2⟩ := and2 ck
  apply eBeq (x := op) c1
  intro ρ σ Q w α s S E R k
  exact wpAny_isTrue_Not (ih e c2 ρ σ _ w α s S E _ fun α1 t σ1 s1 w1 S1 X1 sm1 => k α1 (!t) σ1 s1 w1 S1 X1 sm1)
theorem okT_tru {x : X} (ih : OkE c h₀ env nm A C x) : OkT c h₀ env nm A C (.tru x) := fun a ck ρ σ Q w α s S E R k => by
  obtain ⟨h1, c2⟩ := and2 ck
  have he : isTrue a env (eval a env) = (do let v ← eval a env; standAt a.pos; holding [v] (truthy v)) := by
    cases a with
    | UnaryOp op e p => cases op <;> first | rfl | exact nomatch (show false = true from h1)
    | BoolOp => exact nomatch (show false = true from h1)
    | IfExp => exact nomatch (show false = true from h1)
    | Compare => exact nomatch (show false = true from h1)
    | _ => rfl
  refine wpAny_isTrue_value (ih a c2 ρ σ _ w α s S E _ fun α1 V1 σ1 v1 s1 w1 S1 X1 r1 sm1 => ?_) he
  cases V1 with
  | bool t =>
    subst r1
    exact wpAny_truthy_bool (k α1 t σ1 s1 w1 S1 X1 sm1)
  | _ => exact w1.elim
theorem okT_no {x : X} (h : ∀ a, ckT nm x a = false) : OkT c h₀ env nm A C x := fun a ck => by rw [h a] at ck; cases ck
theorem okE_no {x : X} (h : ∀ a, ckE nm x a = false) : OkE c h₀ env nm A C x := fun a ck => by rw [h a] at ck; cases ck
theorem okEs_nil : OkEs c h₀ env nm A C [] := fun a ck => by
  apply eEq (x := a) (nil_of ck)
  intro ρ σ Q w α s S E R k
  exact Calls.spliced_nil (k α [] σ [] s w S (Ext.refl ..) trivial rfl (SameS.refl s))
theorem okEs_cons {x : X} {xs : List X} (ih1 : OkE c h₀ env nm A C x) (ih2 : OkEs c h₀ env nm A C xs) : OkEs c h₀ env nm A C (x :: xs) := fun a ck => by
  obtain ⟨e, es, e0, c1, c2⟩ := ckEs_cons ck
  apply eEq (x := a) e0
  intro ρ σ Q w α s S E R k
  refine Calls.spliced_cons (ih1 e c1 ρ σ _ w α s S E _ fun α1 V1 σ1 v1 s1 w1 S1 X1 r1 sm1 => ?_)
  exact ih2 es c2 ρ σ1 _ w1 α1 s1 S1 E _ fun α2 vs σ2 its s2 w2 S2 X2 r2 hl sm2 => k α2 (V1 :: vs) σ2 (v1 :: its) s2 w2 S2 (X1.trans X2) ⟨r1.mono X2, r2⟩ (congrArg (· + 1) hl) (sm1.trans sm2)
theorem okAll_nil : OkAll c h₀ env nm A C [] := fun a ck => by
  apply eEq (x := a) (nil_of ck)
  intro ρ σ Q w α s S E R k
  exact wpAny_allTrue_And_nil (k α true σ s w S (Ext.refl ..) (SameS.refl s))
theorem okAll_cons {x : X} {xs : List X} (ih1 : OkT c h₀ env nm A C x) (ih2 : OkAll c h₀ env nm A C xs) : OkAll c h₀ env nm A C (x :: xs) := fun a ck => by
  obtain ⟨e, es, e0, c1, c2⟩ := ckTs_cons ck
  apply eEq (x := a) e0
  intro ρ σ Q w α s S E R k
  refine wpAny_allTrue_And_cons (ih1 e c1 ρ σ _ w α s S E _ fun α1 t σ1 s1 w1 S1 X1 sm1 => ?_)
  cases t with
  | true => exact ih2 es c2 ρ σ1 Q ((if_pos rfl).mp w1) α1 s1 S1 E R fun α2 t σ2 s2 w2 S2 X2 sm2 => k α2 t σ2 s2 w2 S2 (X1.trans X2) (sm1.trans sm2)
  | false => exact k α1 false σ1 s1 ((if_neg Bool.false_ne_true).mp w1) S1 X1 sm1
theorem okAny_nil : OkAny c h₀ env nm A C [] := fun a ck => by
  apply eEq (x := a) (nil_of ck)
  intro ρ σ Q w α s S E R k
  exact wpAny_allTrue_Or_nil (k α false σ s w S (Ext.refl ..) (SameS.refl s))
theorem okAny_cons {x : X} {xs : List X} (ih1 : OkT c h₀ env nm A C x) (ih2 : OkAny c h₀ env nm A C xs) : OkAny c h₀ env nm A C (x :: xs) := fun a ck => by
  obtain ⟨e, es, e0, c1, c2⟩ := ckTs_cons ck
  apply eEq (x := a) e0
  intro ρ σ Q w α s S E R k
  refine wpAny_allTrue_Or_cons (ih1 e c1 ρ σ _ w α s S E _ fun α1 t σ1 s1 w1 S1 X1 sm1 => ?_)
  cases t with
  | true => exact k α1 true σ1 s1 ((if_pos rfl).mp w1) S1 X1 sm1
  | false => exact ih2 es c2 ρ σ1 Q ((if_neg Bool.false_ne_true).mp w1) α1 s1 S1 E R fun α2 t σ2 s2 w2 S2 X2 sm2 => k α2 t σ2 s2 w2 S2 (X1.trans X2) (sm1.trans sm2)
end

mutual
theorem okX (Kg : KG c) (CO : CallOk c d C) (rm : Room1 A d) (V : EnvOk env nm) (G : Gd c h₀) : ∀ x : X, OkE c h₀ env nm A C x ∧ OkT c h₀ env nm A C x
  | .none => ⟨okE_none, okT_no fun _ => rfl⟩
  | .bool _ => ⟨okE_bool, okT_no fun _ => rfl⟩
  | .int _ => ⟨okE_int, okT_no fun _ => rfl⟩
  | .str _ => ⟨okE_str, okT_no fun _ => rfl⟩
  | .var _ => ⟨okE_var V, okT_no fun _ => rfl⟩
  | .glob _ => ⟨okE_glob Kg V G, okT_no fun _ => rfl⟩
  | .neg e => ⟨okE_neg (okX Kg CO rm V G e).1, okT_no fun _ => rfl⟩
  | .bin _ x y => ⟨okE_bin (okX Kg CO rm V G x).1 (okX Kg CO rm V G y).1, okT_no fun _ => rfl⟩
  | .cmp _ x y => ⟨okE_cmp rm (okX Kg CO rm V G x).1 (okX Kg CO rm V G y).1, okT_cmp rm (okX Kg CO rm V G x).1 (okX Kg CO rm V G y).1⟩
  | .ite t x y => ⟨okE_ite (okX Kg CO rm V G t).2 (okX Kg CO rm V G x).1 (okX Kg CO rm V G y).1, okT_no fun _ => rfl⟩
  | .attr e _ => ⟨okE_attr Kg G (okX Kg CO rm V G e).1, okT_no fun _ => rfl⟩
  | .item e i => ⟨okE_item (okX Kg CO rm V G e).1 (okX Kg CO rm V G i).1, okT_no fun _ => rfl⟩
  | .slice e lo hi st => ⟨okE_slice (okX Kg CO rm V G e).1 (okX Kg CO rm V G lo).1 (okX Kg CO rm V G hi).1 (okX Kg CO rm V G st).1, okT_no fun _ => rfl⟩
  | .tup l => ⟨okE_tup (okXs Kg CO rm V G l).1, okT_no fun _ => rfl⟩
  | .list l => ⟨okE_list (okXs Kg CO rm V G l).1, okT_no fun _ => rfl⟩
  | .dict _ => ⟨okE_dict, okT_no fun _ => rfl⟩
  | .map _ _ it => ⟨okE_map rm V G (okX Kg CO rm V G it).1, okT_no fun _ => rfl⟩
  | .call _ as => ⟨okE_call Kg CO rm V G (okXs Kg CO rm V G as).1, okT_no fun _ => rfl⟩
  | .meth e _ as => ⟨okE_meth Kg CO rm V G (okX Kg CO rm V G e).1 (okXs Kg CO rm V G as).1, okT_no fun _ => rfl⟩
  | .all l => ⟨okE_no fun _ => rfl, okT_all (okXs Kg CO rm V G l).2.1⟩
  | .any l => ⟨okE_no fun _ => rfl, okT_any (okXs Kg CO rm V G l).2.2⟩
  | .not x => ⟨okE_no fun _ => rfl, okT_not (okX Kg CO rm V G x).2⟩
  | .tru x => ⟨okE_no fun _ => rfl, okT_tru (okX Kg CO rm V G x).1⟩
theorem okXs (Kg : KG c) (CO : CallOk c d C) (rm : Room1 A d) (V : EnvOk env nm) (G : Gd c h₀) : ∀ l : List X, OkEs c h₀ env nm A C l ∧ OkAll c h₀ env nm A C l ∧ OkAny c h₀ env nm A C l
  | [] => ⟨okEs_nil, okAll_nil, okAny_nil⟩
  | x :: l => ⟨okEs_cons (okX Kg CO rm V G x).1 (okXs Kg CO rm V G l).1, okAll_cons (okX Kg CO rm V G x).2 (okXs Kg CO rm V G l).2.1, okAny_cons (okX Kg CO rm V G x).2 (okXs Kg CO rm V G l).2.2⟩
end
theorem evE_sound (Kg : KG c) (CO : CallOk c d C) (rm : Room1 A d) (V : EnvOk env nm) (G : Gd c h₀) (x : X) : OkE c h₀ env nm A C x := (okX Kg CO rm V G x).1
theorem evT_sound (Kg : KG c) (CO : CallOk c d C) (rm : Room1 A d) (V : EnvOk env nm) (G : Gd c h₀) (x : X) : OkT c h₀ env nm A C x := (okX Kg CO rm V G x).2

end C187

namespace C187
open PySem PySem.W PyProof.Rows

noncomputable def Cx.pin (c : Cx) (P : List (Addr × Obj)) : Cx := { c with pins := P }

variable {c : Cx} {h₀ : Heap} {env : PySem.Env} {nm : Names} {A : Around} {d : Nat} {C : Calls} {P : List (Addr × Obj)}

theorem KG.pin (k : KG c) : KG (c.pin P) := ⟨⟨k.toKF.get⟩, k.glob, k.fns, k.clss, k.meths, k.blts⟩
theorem Gd.pin (g : Gd c h₀) : Gd (c.pin P) h₀ := ⟨g.X, g.sys, g.T⟩

theorem RepO_pin {α : Nat → Addr} {n : Nat} {h : Heap} {l : Nat} {o : O} {P P' : List (Addr × Obj)} : RepO (c.pin P) α n h l o → RepO (c.pin P') α n h l o := by
  cases o <;> exact id

theorem Sim.repin {α : Nat → Addr} {ρ : Env} {σ : Sto} {h : Heap} {P P' : List (Addr × Obj)} (S : Sim (c.pin P) h₀ env α ρ σ h) (hp : ∀ p ∈ P', h.get? p.1 = some p.2 ∧ p.1 ≠ env.locals ∧ (∀ x k, env.cells.lookup x = some k → k ≠ p.1) ∧ ∀ i, Live σ i → α i ≠ p.1) :
    Sim (c.pin P') h₀ env α ρ σ h := ⟨S.fr, fun l o e => RepO_pin (S.objs l o e), S.own, S.inj, S.cell, hp⟩

/-- what a statement must tell what follows -/
noncomputable def FlR (α : Nat → Addr) (n : Nat) (h : Heap) : Fl → Flow → Prop
  | .next, .next => True
  | .cont, .cont => True
  | .ret V, .ret v => RepV α n h V v
  | _, _ => False
noncomputable def Kc (c : Cx) (h₀ : Heap) (env : PySem.Env) (α : Nat → Addr) (σ : Sto) (s : Shared) (Q : Cs) (R : Flow → Shared → Prop) : Prop :=
  ∀ α' fl ρ' σ' f s', Q fl ρ' σ' → Sim c h₀ env α' ρ' σ' s'.heap → Ext α σ.length s.heap α' σ'.length s'.heap → FlR α' σ'.length s'.heap fl f → SameS s s' → R f s'

theorem Kc.next {α : Nat → Addr} {σ : Sto} {s : Shared} {Q : Cs} {R : Flow → Shared → Prop} (k : Kc c h₀ env α σ s Q R) {α' : Nat → Addr} {ρ' : Env} {σ' : Sto} {s' : Shared} (q : Q .next ρ' σ') (S : Sim c h₀ env α' ρ' σ' s'.heap) (X : Ext α σ.length s.heap α' σ'.length s'.heap) (sm : SameS s s') : R .next s' :=
  k α' .next ρ' σ' .next s' q S X trivial sm
theorem Kc.via {α α₁ : Nat → Addr} {σ σ₁ : Sto} {s s₁ : Shared} {Q : Cs} {R : Flow → Shared → Prop} (k : Kc c h₀ env α σ s Q R) (X : Ext α σ.length s.heap α₁ σ₁.length s₁.heap) (sm : SameS s s₁) : Kc c h₀ env α₁ σ₁ s₁ Q R :=
  fun α' fl ρ' σ' f s' q S X' r sm' => k α' fl ρ' σ' f s' q S (X.trans X') r (sm.trans sm')

theorem EnvOk.hp (V : EnvOk env nm) : (env.scope.kind == .class || (env.scope.kind == .module && env.locals != env.globals)) = false := by rw [V.kind]; rfl

/-- a name is stored -/
theorem store_ok {x : String} {α : Nat → Addr} {ρ : Env} {σ : Sto} {s : Shared} {E : Value → Shared → Prop} {R : Unit → Shared → Prop} {W : C187.V} {v : Value} (V : EnvOk env nm) (hx : stored? nm (Str.ofString x) = true) (S : Sim c h₀ env α ρ σ s.heap) (r : RepV α σ.length s.heap W v)
    (k : ∀ h' tk, Sim c h₀ env α (ρ.set x W) σ h' → Ext α σ.length s.heap α σ.length h' → R () { s with heap := h', toks := tk }) : wpAny (model c.prog c.w) A (storeName env (Str.ofString x) v) R E s := by
  obtain ⟨m, F, hv⟩ := S.fr
  unfold stored? at hx
  simp only [Bool.or_eq_true, beq_iff_eq] at hx
  have hk : env.kindOf (Str.ofString x) = nm.lookup (Str.ofString x) := by unfold PySem.Env.kindOf; rw [V.names]
  rcases hx with hx | hx
  · refine wpAny_storeName_local (hk.trans hx) F.ns (fun h' hn hs => ?_) V.hp
    obtain ⟨S', X⟩ := S.setLocal (hk.trans hx) hs (fun m' n' => (show m = m' from funext fun y => Heap.Ns.agree F.ns n' y) ▸ hn) r
    exact k h' _ S' X
  · obtain ⟨kc, hkc⟩ := V.cells _ hx
    obtain ⟨c1, c2, v0, ic⟩ := S.cell _ _ hkc
    refine wpAny_storeName_cell V.kind (hk.trans hx) hkc ic fun h' hn hs => ?_
    obtain ⟨S', X⟩ := S.setCell (hk.trans hx) hkc (fun y e => V.cinj _ _ _ e hkc) hs hn r
    exact k h' _ S' X

theorem swaps_none {value : Expr} {t : Option Expr} {n : Nat} (h : noComp value = true) : swapsWith value t n env = pure false := by
  cases value <;> first | exact rfl | exact absurd h Bool.false_ne_true

/-- what stands beside the state has turned -/
theorem Sim.aside {α : Nat → Addr} {ρ : Env} {σ : Sto} {h h' : Heap} {it : Addr} (S : Sim c h₀ env α ρ σ h) (hk : ∀ b o, b ≠ it → h.get? b = some o → h'.get? b = some o) (h0 : h₀.get? it = none) (hL : it ≠ env.locals) (hc : ∀ x k, env.cells.lookup x = some k → k ≠ it)
    (hlive : ∀ i, Live σ i → α i ≠ it) (hpin : ∀ p ∈ c.pins, p.1 ≠ it) (hi : ∀ o, h.get? it = some o → ¬ Imm o) : Sim c h₀ env α ρ σ h' ∧ Ext α σ.length h α σ.length h' := by
  have X : Ext α σ.length h α σ.length h' := Ext.of_imm fun b o e i => hk b o (by rintro rfl; exact hi o e i) e
  have hcell : ∀ y k, env.cells.lookup y = some k → ∀ o, h.get? k = some o → h'.get? k = some o := fun y k e o ho => hk k o (hc y k e) ho
  refine ⟨⟨?_, fun l o e => ?_, S.own, S.inj, fun x k e => let ⟨a, b, v, d⟩ := S.cell x k e; ⟨a, b, v, IsCell_tr d (hcell x k e)⟩, fun p hp => let ⟨a, b, d, e⟩ := S.pin p hp; ⟨hk _ _ (hpin p hp) a, b, d, e⟩⟩, X⟩
  · obtain ⟨m, F, hv⟩ := S.fr
    refine ⟨m, ⟨F.ns.at' fun o e => hk _ o (Ne.symm hL) e, fun b o e => hk b o (by rintro rfl; rw [h0] at e; cases e) (F.keep b o e), F.above⟩, fun x v e => ?_⟩
    obtain ⟨u, hu, r⟩ := hv x v e
    exact ⟨u, hu.tr hcell, r.mono X⟩
  · exact (S.objs l o e).tr X (List.getElem?_eq_some_iff.mp e).1 (fun hnp o₁ h₁ => hk _ _ (hlive _ (S.loc e hnp)) h₁) (fun ⟨cn, fs, q⟩ o₁ h₁ => hk _ _ (hlive _ (S.loc1 (cn := cn) (fs := fs) (by rw [e, q]))) h₁)

/-- where an iterator stands -/
structure At (P : List (Addr × Obj)) (h₀ : Heap) (env : PySem.Env) (it : Addr) : Prop where
  h0 : h₀.get? it = none
  hL : it ≠ env.locals
  hc : ∀ x k, env.cells.lookup x = some k → k ≠ it
  hp : ∀ p ∈ P, p.1 ≠ it

theorem Sim.at_new {α : Nat → Addr} {ρ : Env} {σ : Sto} {h : Heap} (S : Sim (c.pin P) h₀ env α ρ σ h) : At P h₀ env h.objs.size ∧ ∀ i, Live σ i → α i ≠ h.objs.size := by
  obtain ⟨m, F, hv⟩ := S.fr
  refine ⟨⟨?_, ?_, fun x k e => ?_, fun p hp => ?_⟩, fun i hi => ?_⟩
  · cases q : h₀.get? h.objs.size with
    | none => rfl
    | some o => have := Heap.lt_size (F.keep _ _ q); exact absurd this (Nat.lt_irrefl _)
  · have := F.ns.lt; exact Nat.ne_of_gt this
  · obtain ⟨_, _, v, o, ho, _⟩ := S.cell x k e
    exact Nat.ne_of_lt (Heap.lt_size ho)
  · exact Nat.ne_of_lt (Heap.lt_size (S.pin p hp).1)
  · obtain ⟨o, ho, _⟩ := S.old hi
    exact Nat.ne_of_lt (Heap.lt_size ho)

/-- a loop over an iterator -/
theorem for_gen {x : String} {px : Pos} {body : List Stmt} {it : Addr} {α : Nat → Addr} {ρ : Env} {σ : Sto} {s : Shared} {Q : Cs} {R : Flow → Shared → Prop} {E : Result → Shared → Prop} (bodyW : Env → Sto → Cs → Prop) (Wk : Nat → Nat → Env → Sto → Prop) (IsIt : Nat → Heap → Prop)
    (V : EnvOk env nm) (hx : nm.lookup (Str.ofString x) = some .local) (ha : At P h₀ env it)
    (hIt : ∀ i h, IsIt i h → ∃ o, h.get? it = some o ∧ ¬ Imm o ∧ ∀ h', h'.get? it = some o → IsIt i h')
    (hE : ∀ f s', R f s' → E (.ok f) s')
    (hbody : ∀ (P : List (Addr × Obj)) (ρ : Env) (σ : Sto) (Q : Cs), bodyW ρ σ Q → ∀ (α : Nat → Addr) (s : Shared), Sim (c.pin P) h₀ env α ρ σ s.heap → ∀ (E : Value → Shared → Prop) (R : Flow → Shared → Prop), Kc (c.pin P) h₀ env α σ s Q R → wpAny (model c.prog c.w) A (execs body env) R E s)
    (hstep : ∀ n i ρ' σ' α' s', Wk n i ρ' σ' → Sim (c.pin P) h₀ env α' ρ' σ' s'.heap → Ext α σ.length s.heap α' σ'.length s'.heap → IsIt i s'.heap → (∀ j, Live σ' j → α' j ≠ it) → ∀ (QQ : Option Value → Shared → Prop) (EE : Value → Shared → Prop),
      (∀ W v n' h' tk, n' < n → bodyW (ρ'.set x W) σ' (lop Q fun ρ σ => Wk n' (i + 1) ρ σ) → RepV α' σ'.length s'.heap W v → IsIt (i + 1) h' → (∀ b o, b ≠ it → s'.heap.get? b = some o → h'.get? b = some o) → QQ (some v) { s' with heap := h', toks := tk }) →
      (∀ h' tk, Q .next ρ' σ' → (∀ b o, b ≠ it → s'.heap.get? b = some o → h'.get? b = some o) → QQ none { s' with heap := h', toks := tk }) → wpAny (model c.prog c.w) A (pyNext (.ref it)) QQ EE s')
    (k : Kc (c.pin P) h₀ env α σ s Q R) (n : Nat) (w : Wk n 0 ρ σ) (S : Sim (c.pin P) h₀ env α ρ σ s.heap) (hit : IsIt 0 s.heap) (hl : ∀ j, Live σ j → α j ≠ it) :
    codeAny (model c.prog c.w) A (.forLoop (.Name (Str.ofString x) px) (.ref it) body [] env) E s := by
  refine codeAny_forLoop (fun n s' => ∃ i α' ρ' σ', Wk n i ρ' σ' ∧ Sim (c.pin P) h₀ env α' ρ' σ' s'.heap ∧ Ext α σ.length s.heap α' σ'.length s'.heap ∧ SameS s s' ∧ IsIt i s'.heap ∧ ∀ j, Live σ' j → α' j ≠ it) ?_ n
    ⟨0, α, ρ, σ, w, S, Ext.refl .., SameS.refl s, hit, hl⟩
  rintro n s' ⟨i, α', ρ', σ', w', S', X', sm', hit', hl'⟩
  obtain ⟨ob, hob, him, _⟩ := hIt _ _ hit'
  refine hstep n i ρ' σ' α' s' w' S' X' hit' hl' _ _ (fun W v n' h₁ tk₁ hn w₁ r₁ it₁ hk₁ => ?_) (fun h₁ tk₁ q hk₁ => ?_)
  · obtain ⟨S₁, X₁⟩ := S'.aside hk₁ ha.h0 ha.hL ha.hc hl' ha.hp (fun o e => by rw [hob] at e; cases e; exact him)
    obtain ⟨ob₁, hob₁, _, hst₁⟩ := hIt _ _ it₁
    have S₁' : Sim (c.pin ((it, ob₁) :: P)) h₀ env α' ρ' σ' h₁ := S₁.repin fun p hp => by
      rcases List.mem_cons.mp hp with rfl | hp
      · exact ⟨hob₁, ha.hL, ha.hc, hl'⟩
      · exact S₁.pin p hp
    refine wpAny_assign_Name (store_ok (c := c.pin ((it, ob₁) :: P)) (s := { s' with heap := h₁, toks := tk₁ }) V (by unfold stored?; rw [hx]; rfl) S₁' (r₁.mono X₁) fun h₂ tk₂ S₂ X₂ => ?_)
    refine hbody _ _ _ _ w₁ _ _ S₂ _ _ fun α₃ fl ρ₃ σ₃ f s₃ q₃ S₃ X₃ r₃ sm₃ => ?_
    have p₃ := S₃.pin (it, ob₁) List.mem_cons_self
    have S₄ : Sim (c.pin P) h₀ env α₃ ρ₃ σ₃ s₃.heap := S₃.repin fun p hp => S₃.pin p (List.mem_cons_of_mem _ hp)
    have XX := ((X'.trans X₁).trans X₂).trans X₃
    have sm := (sm'.trans (s'' := { s' with heap := h₂, toks := tk₂ }) ⟨rfl, rfl, rfl⟩).trans sm₃
    cases fl with
    | next =>
      cases f with
      | next => exact ⟨n', hn, i + 1, α₃, ρ₃, σ₃, q₃, S₄, XX, sm, hst₁ _ p₃.1, p₃.2.2.2⟩
      | _ => exact r₃.elim
    | cont =>
      cases f with
      | cont => exact ⟨n', hn, i + 1, α₃, ρ₃, σ₃, q₃, S₄, XX, sm, hst₁ _ p₃.1, p₃.2.2.2⟩
      | _ => exact r₃.elim
    | ret W' =>
      cases f with
      | ret v' => exact hE _ _ (k α₃ (.ret W') ρ₃ σ₃ (.ret v') s₃ q₃ S₄ XX r₃ sm)
      | _ => exact r₃.elim
  · obtain ⟨S₁, X₁⟩ := S'.aside hk₁ ha.h0 ha.hL ha.hc hl' ha.hp (fun o e => by rw [hob] at e; cases e; exact him)
    exact wpAny_execs_nil (hE _ _ (k.next (s' := { s' with heap := h₁, toks := tk₁ }) q S₁ (X'.trans X₁) (sm'.trans ⟨rfl, rfl, rfl⟩)))

end C187

namespace C187
open PySem PySem.W PyProof.Rows

variable {c : Cx} {h₀ : Heap} {env : PySem.Env} {nm : Names} {A : Around} {d : Nat} {C : Calls} {P : List (Addr × Obj)}

theorem forV_drop {x : String} {bodyW : Env → Sto → Cs → Prop} {vs : List V} {i : Nat} {ρ : Env} {σ : Sto} {Q : Cs} (w : forV x bodyW (vs.drop i) ρ σ Q) :
    (∃ v, vs[i]? = some v ∧ i < vs.length ∧ bodyW (ρ.set x v) σ (lop Q fun ρ σ => forV x bodyW (vs.drop (i + 1)) ρ σ Q)) ∨ (vs.length ≤ i ∧ Q .next ρ σ) := by
  by_cases h : i < vs.length
  · rw [List.drop_eq_getElem_cons h] at w
    exact .inl ⟨vs[i], by simp [h], h, w⟩
  · rw [List.drop_eq_nil_of_le (by lia)] at w
    exact .inr ⟨by lia, w⟩
theorem forD_drop {x : String} {bodyW : Env → Sto → Cs → Prop} {l : Nat} {es : List (Int × V)} {i : Nat} {ρ : Env} {σ : Sto} {Q : Cs} (w : forD x bodyW l es (es.drop i) ρ σ Q) :
    σ[l]? = some (.dI es) ∧ ((∃ k u, es[i]? = some (k, u) ∧ i < es.length ∧ bodyW (ρ.set x (.int k)) σ (lop Q fun ρ σ => forD x bodyW l es (es.drop (i + 1)) ρ σ Q)) ∨ (es.length ≤ i ∧ Q .next ρ σ)) := by
  by_cases h : i < es.length
  · rw [List.drop_eq_getElem_cons h] at w
    exact ⟨w.1, .inl ⟨es[i].1, es[i].2, by simp [h], h, w.2⟩⟩
  · rw [List.drop_eq_nil_of_le (by lia)] at w
    exact ⟨w.1, .inr ⟨by lia, w.2⟩⟩

theorem nimm_of {o : Obj} (h : (o.cls == .type "tuple") = false ∧ (o.cls == .type "range") = false) : ¬ Imm o := by
  rintro (⟨q, _⟩ | ⟨q, _⟩) <;> rw [q] at h
  · exact absurd h.1 (by decide)
  · exact absurd h.2 (by decide)

theorem for_ok {x : String} {px : Pos} {body : List Stmt} {α : Nat → Addr} {ρ : Env} {σ : Sto} {s : Shared} {Q : Cs} {R : Flow → Shared → Prop} {E : Result → Shared → Prop} {EE : Value → Shared → Prop} (bodyW : Env → Sto → Cs → Prop)
    (hh : A.handled = none) (G : Gd c h₀) (V : EnvOk env nm) (hx : nm.lookup (Str.ofString x) = some .local) (hE : ∀ f s', R f s' → E (.ok f) s')
    (hbody : ∀ (P : List (Addr × Obj)) (ρ : Env) (σ : Sto) (Q : Cs), bodyW ρ σ Q → ∀ (α : Nat → Addr) (s : Shared), Sim (c.pin P) h₀ env α ρ σ s.heap → ∀ (E : Value → Shared → Prop) (R : Flow → Shared → Prop), Kc (c.pin P) h₀ env α σ s Q R → wpAny (model c.prog c.w) A (execs body env) R E s)
    {u : C187.V} {v : Value} (ru : RepV α σ.length s.heap u v) (w : forW x u bodyW ρ σ Q) (S : Sim (c.pin P) h₀ env α ρ σ s.heap) (k : Kc (c.pin P) h₀ env α σ s Q R) :
    wpAny (model c.prog c.w) A (pyIter v) (fun it s₂ => codeAny (model c.prog c.w) A (.forLoop (.Name (Str.ofString x) px) it body [] env) E s₂) EE s := by
  obtain ⟨ha, hl⟩ := S.at_new
  cases u with
  | tup vs =>
    obtain ⟨p, o, its, n, rfl, ho, hc, hd, hsz, r⟩ := ru
    have ra := repVs_iff.mp r
    have ht : s.heap.IsTuple p its := ⟨o, ho, hc, n, hd⟩
    refine wpAny_pyIter_tuple ht ?_
    obtain ⟨S', X'⟩ := S.grow0 (push_keep s.heap { cls := .type "tuple_iterator", data := .fields #[.ref p, .int 0 0] })
    refine for_gen (s := { s with heap := s.heap.push { cls := .type "tuple_iterator", data := .fields #[.ref p, .int 0 0] } }) bodyW (fun n i ρ σ => n = vs.length - i ∧ forV x bodyW (vs.drop i) ρ σ Q) (fun i h => h.IsTupleIter s.heap.objs.size p i) V hx ha ?_ hE hbody ?_ (k.via X' ⟨rfl, rfl, rfl⟩) _ ⟨rfl, w⟩ S' ⟨_, Heap.get?_push_size _ rfl, rfl, rfl⟩ hl
    · rintro i h ⟨o', h1, h2, h3⟩
      exact ⟨o', h1, nimm_of (by rw [h2]; decide), fun h' e => ⟨o', e, h2, h3⟩⟩
    · rintro n i ρ' σ' α' s' ⟨rfl, w'⟩ S₁ X₁ it₁ hl₁ QQ EE k1 k2
      have ho' := X₁.imm _ _ (push_keep s.heap { cls := .type "tuple_iterator", data := .fields #[.ref p, .int 0 0] } _ _ ho) (.inl ⟨hc, _, _, hd⟩)
      have ht' : s'.heap.IsTuple p its := ⟨o, ho', hc, _, hd⟩
      rcases forV_drop w' with ⟨W, eW, hlt, w₁⟩ | ⟨hle, q⟩
      · obtain ⟨y, ey, ry⟩ := ra.get eW
        refine wpAny_pyNext_tuple_item it₁ ht' (by rw [← Array.getElem?_toList]; exact ey) fun h' hi' hs' => ?_
        exact k1 W y (vs.length - (i + 1)) h' s'.toks (Nat.sub_lt_sub_left hlt (Nat.lt_succ_self i)) (by simpa only [eq_self, true_and] using w₁) ((ry.mono X').mono X₁) hi' (fun b o hb e => (hs'.2 b hb).trans e)
      · refine wpAny_pyNext_tuple_end hh it₁ ht' (by rw [← Array.getElem?_toList]; exact List.getElem?_eq_none (by rw [← ra.length]; exact hle)) fun h' he => ?_
        exact k2 h' s'.toks q fun b o hb e => he b o hb e
  | rng a b =>
    obtain ⟨b1, b2, b3, b5, w⟩ := w
    obtain ⟨r, t, u', w', rfl, hr⟩ := ru
    have hsm : Builtin.Range.small a b 1 = true := small_one (by lia) (by lia) (by lia) (by lia)
    have hlen : (rangeVs a b).length = (b - a).toNat := by simp [rangeVs]
    have W0 := Walks.range (prog := c.prog) (w := c.w) hh s.heap.objs.size a 1 (b - a).toNat
    have hst0 : IsRangeIter (s.heap.push { cls := .type "range_iterator", data := .fields #[rawInt a, rawInt (Builtin.Range.rangeSize a b 1), rawInt 1] }) s.heap.objs.size a (Builtin.Range.rangeSize a b 1) 1 := Heap.get?_push_size _ rfl
    refine wpAny_pyIter_range hr hsm ?_
    obtain ⟨S', X'⟩ := S.grow0 (push_keep s.heap { cls := .type "range_iterator", data := .fields #[rawInt a, rawInt (Builtin.Range.rangeSize a b 1), rawInt 1] })
    refine for_gen (s := { s with heap := s.heap.push { cls := .type "range_iterator", data := .fields #[rawInt a, rawInt (Builtin.Range.rangeSize a b 1), rawInt 1] } }) bodyW (fun n i ρ σ => (n = (rangeVs a b).length - i ∧ i ≤ (rangeVs a b).length) ∧ forV x bodyW ((rangeVs a b).drop i) ρ σ Q)
      (fun i h => IsRangeIter h s.heap.objs.size (a + (i : Nat) * 1) ((((b - a).toNat : Nat) : Int) - (i : Nat)) 1) V hx ha ?_ hE hbody ?_ (k.via X' ⟨rfl, rfl, rfl⟩) _ ⟨⟨rfl, Nat.zero_le _⟩, w⟩ S' (by rw [rangeSize_nat] at hst0; rw [rangeSize_nat]; simpa using hst0) hl
    · rintro i h hi
      exact ⟨_, hi, nimm_of ⟨(by decide : ((.type "range_iterator" : Value) == .type "tuple") = false), (by decide : ((.type "range_iterator" : Value) == .type "range") = false)⟩, fun h' e => e⟩
    · rintro n i ρ' σ' α' s' ⟨⟨rfl, hil⟩, w'⟩ S₁ X₁ it₁ hl₁ QQ EE k1 k2
      rcases forV_drop w' with ⟨W, eW, hlt, w₁⟩ | ⟨hle, q⟩
      · refine W0.item i s' QQ EE (by rw [← hlen]; exact hlt) it₁ fun v h' tk hP hi' hk => ?_
        obtain ⟨t, rfl⟩ := hP
        refine k1 W _ ((rangeVs a b).length - (i + 1)) h' tk (Nat.sub_lt_sub_left hlt (Nat.lt_succ_self i)) (by simpa only [eq_self, true_and, show (i + 1 ≤ (rangeVs a b).length) = True from eq_true hlt] using w₁) ?_ hi' (fun b o hb e => hk b o (by simpa using hb) e)
        have : W = .int (a + (i : Int)) := by
          simp only [rangeVs, List.getElem?_map, Option.map_eq_some_iff] at eW
          obtain ⟨j, ej, rfl⟩ := eW
          rw [hlen] at hlt
          rw [List.getElem?_range hlt] at ej
          cases ej; rfl
        subst this
        exact ⟨_, by rw [Int.mul_one]⟩
      · have hi : i = (b - a).toNat := by rw [hlen] at hil hle; exact Nat.le_antisymm hil hle
        refine W0.done s' QQ EE (hi ▸ it₁) fun h' tk hk => k2 h' tk q fun b o hb e => hk b o (by simpa using hb) e
  | loc l =>
    obtain ⟨hlt0, rfl⟩ := ru
    rcases inv_ld (o := σ[l]?) w with ⟨vs, e, n, w⟩ | ⟨es, e, w⟩
    · skip
      obtain ⟨its, nn, ho, ra, hb⟩ := S.list e
      refine wpAny_pyIter_list (listOf_is ho) ?_
      obtain ⟨S', X'⟩ := S.grow0 (push_keep s.heap { cls := .type "list_iterator", data := .fields #[.ref (α (2 * l)), .int 0 0] })
      refine for_gen (s := { s with heap := s.heap.push { cls := .type "list_iterator", data := .fields #[.ref (α (2 * l)), .int 0 0] } }) bodyW (fun n i ρ σ => forL x bodyW l n i ρ σ Q) (fun i h => h.IsListIter s.heap.objs.size (α (2 * l)) i) V hx ha ?_ hE hbody ?_ (k.via X' ⟨rfl, rfl, rfl⟩) n w S' ⟨_, Heap.get?_push_size _ rfl, rfl, rfl⟩ hl
      · rintro i h ⟨o', h1, h2, h3⟩
        exact ⟨o', h1, nimm_of (by rw [h2]; decide), fun h' e => ⟨o', e, h2, h3⟩⟩
      · rintro n i ρ' σ' α' s' w' S₁ X₁ it₁ hl₁ QQ EE k1 k2
        cases n with
        | zero => exact w'.elim
        | succ n =>
          obtain ⟨us, e1, w'⟩ := inv_l (o := σ'[l]?) w'
          · obtain ⟨its1, n1, ho1, ra1, hb1⟩ := S₁.list e1
            rw [X₁.al _ (by lia)] at ho1
            cases eW : us[i]? with
            | some W =>
              rw [eW] at w'
              obtain ⟨y, ey, ry⟩ := ra1.get eW
              refine wpAny_pyNext_list_item it₁ (listOf_is ho1) (by rw [← Array.getElem?_toList]; exact ey) fun h' hi' hs' => ?_
              exact k1 W y n h' s'.toks (Nat.lt_succ_self _) w' ry hi' (fun b o hb e => (hs'.2 b hb).trans e)
            | none =>
              rw [eW] at w'
              refine wpAny_pyNext_list_end hh it₁ (listOf_is ho1) (by rw [← Array.getElem?_toList]; exact List.getElem?_eq_none (by rw [← ra1.length]; exact List.getElem?_eq_none_iff.mp eW)) fun h' he => ?_
              exact k2 h' s'.toks w' fun b o hb e => he b o hb e
    · obtain ⟨kvs, hm, ra, hb⟩ := S.objs _ _ e
      refine wpAny_pyIter_dict (notModules S G.sys (S.loc e)) hm ?_
      obtain ⟨S', X'⟩ := S.grow0 (push_keep s.heap { cls := .type "dict_keyiterator", data := .fields #[.ref (α (2 * l)), .int 0 0, .int kvs.length 0, .int kvs.length 0] })
      refine for_gen (s := { s with heap := s.heap.push { cls := .type "dict_keyiterator", data := .fields #[.ref (α (2 * l)), .int 0 0, .int kvs.length 0, .int kvs.length 0] } }) bodyW (fun n i ρ σ => n = es.length - i ∧ forD x bodyW l es (es.drop i) ρ σ Q) (fun i h => h.IsKeyIter s.heap.objs.size (α (2 * l)) i es.length es.length) V hx ha ?_ hE hbody ?_ (k.via X' ⟨rfl, rfl, rfl⟩) _ ⟨rfl, w⟩ S' ⟨_, Heap.get?_push_size _ rfl, by rw [ra.length]; exact ⟨rfl, rfl⟩⟩ hl
      · rintro i h ⟨o', h1, h2, h3⟩
        exact ⟨o', h1, nimm_of (by rw [h2]; decide), fun h' e => ⟨o', e, h2, h3⟩⟩
      · rintro n i ρ' σ' α' s' ⟨rfl, w'⟩ S₁ X₁ it₁ hl₁ QQ EE k1 k2
        obtain ⟨e1, w'⟩ := forD_drop w'
        obtain ⟨kvs1, hm1, ra1, hb1⟩ := S₁.objs _ _ e1
        rw [X₁.al _ (by lia)] at hm1
        have hln : es.length = kvs1.length := ra1.length
        rw [hln] at it₁
        rcases w' with ⟨kk, u, eW, hlt, w₁⟩ | ⟨hle, q⟩
        · obtain ⟨⟨kk', y⟩, ey, ry⟩ := ra1.get eW
          refine wpAny_pyNext_dict_item it₁ hm1 ey fun key h' hkey hi' hs' => ?_
          refine k1 (.int kk) key (es.length - (i + 1)) h' s'.toks (Nat.sub_lt_sub_left hlt (Nat.lt_succ_self i)) (by simpa only [eq_self, true_and] using w₁) ?_ (by rw [hln]; exact hi') (fun b o hb e => (hs'.2 b hb).trans e)
          have : kk = kk' := ry.1
          subst this
          obtain ⟨t, rfl⟩ := Value.isInt_shape hkey
          exact ⟨_, rfl⟩
        · refine wpAny_pyNext_dict_end hh it₁ hm1 (List.getElem?_eq_none (by rw [← hln]; exact hle)) fun h' he => ?_
          exact k2 h' s'.toks q fun b o hb e => he b o hb e
  | _ => exact w.elim

end C187

namespace C187
open PySem PySem.W PyProof.Rows

variable {c : Cx} {h₀ : Heap} {env : PySem.Env} {nm : Names} {A : Around} {d : Nat} {C : Calls} {P : List (Addr × Obj)}

theorem assigns_names (env : PySem.Env) : ∀ {nm : Names} {xs : List String} {ts : List Expr}, ckNames nm xs ts = true → ((assignEach ts env).length = xs.length ∧ (assignEach ts env).findIdx? (·.1) = none)
  | _, [], ts, h => by
    obtain rfl := nil_of h
    exact ⟨rfl, rfl⟩
  | nm, x :: xs, ts, h => by
    obtain ⟨p, ts, rfl, _, h'⟩ := ckNames_cons h
    obtain ⟨h1, h2⟩ := assigns_names env h'
    have e : assignEach (.Name (Str.ofString x) p :: ts) env = (false, assign (.Name (Str.ofString x) p) env) :: assignEach ts env := rfl
    rw [e]
    refine ⟨congrArg (· + 1) h1, ?_⟩
    rw [List.findIdx?_cons, h2]
    rfl

theorem inOrder_ok (V : EnvOk env nm) : ∀ {xs : List String} {ts : List Expr}, ckNames nm xs ts = true → ∀ (vs : List C187.V) (its : List Value) (α : Nat → Addr) (ρ : Env) (σ : Sto) (s : Shared) (E : Value → Shared → Prop) (R : Unit → Shared → Prop),
    Sim c h₀ env α ρ σ s.heap → All2 (RepV α σ.length s.heap) vs its → vs.length = xs.length →
    (∀ h' tk, Sim c h₀ env α (ρ.sets xs vs) σ h' → Ext α σ.length s.heap α σ.length h' → R () { s with heap := h', toks := tk }) →
    wpAny (model c.prog c.w) A (assignInOrder ((assignEach ts env).map (·.2)) its) R E s
  | [], ts, h, vs, its, α, ρ, σ, s, E, R, S, r, hl, k => by
    obtain rfl := nil_of h
    cases vs with
    | nil =>
      cases its with
      | nil => exact wpAny_pure (k s.heap s.toks S (Ext.refl ..))
      | cons _ _ => exact r.elim
    | cons _ _ => exact nomatch hl
  | x :: xs, ts, h, vs, its, α, ρ, σ, s, E, R, S, r, hl, k => by
    obtain ⟨p, ts, rfl, h1, h2⟩ := ckNames_cons h
    cases vs with
    | nil => exact nomatch hl
    | cons v vs =>
      cases its with
      | nil => exact r.elim
      | cons a its =>
        have e : assignEach (.Name (Str.ofString x) p :: ts) env = (false, assign (.Name (Str.ofString x) p) env) :: assignEach ts env := rfl
        rw [e]
        show wpAny _ _ (holding its (assign (.Name (Str.ofString x) p) env a) >>= fun _ => assignInOrder ((assignEach ts env).map (·.2)) its) R E s
        refine wpAny_bind (wpAny_holding (wpAny_assign_Name (store_ok V (by unfold stored?; rw [h1]; rfl) S r.1 fun h' tk S' X' => ?_)))
        exact inOrder_ok V h2 vs its α _ σ _ E R S' (r.2.mono fun _ _ z => z.mono X') (Nat.succ.inj hl) fun h'' tk' S'' X'' => k h'' tk' S'' (X'.trans X'')

theorem tup_ok {xs : List String} {ts : List Expr} {kk : Nat} {tp : Pos} {u : C187.V} {v : Value} {vs : List C187.V} {α : Nat → Addr} {ρ : Env} {σ : Sto} {s : Shared} {E : Value → Shared → Prop} {R : Unit → Shared → Prop} (hh : A.handled = none) (V : EnvOk env nm) (hn : ckNames nm xs ts = true)
    (S : Sim c h₀ env α ρ σ s.heap) (ru : RepV α σ.length s.heap u v) (e : unpackOf u σ = some vs) (hl : vs.length = xs.length)
    (k : ∀ h' tk, Sim c h₀ env α (ρ.sets xs vs) σ h' → Ext α σ.length s.heap α σ.length h' → R () { s with heap := h', toks := tk }) : wpAny (model c.prog c.w) A (assign (.Tuple ts kk tp) env v) R E s := by
  obtain ⟨h1, h2⟩ := assigns_names env hn
  rw [PyProof.Rows.assign_Tuple]
  refine wpAny_bind (wpAny_standAt ?_)
  unfold unpack
  rw [h2]
  refine wpAny_bind (wpAny_holding (unpack_ok hh S ru e (hl.trans h1.symm) fun its h' S' X' r' => ?_))
  exact inOrder_ok V hn vs its α ρ σ _ E R S' r' hl fun h'' tk S'' X'' => k h'' tk S'' (X'.trans X'')

theorem noDisp_comp {value : Expr} (h : noDisp value = true) : noComp value = true := (Bool.and_eq_true_iff.mp h).2
theorem noDisp_swapped {ts : List Expr} {kk : Nat} {tp : Pos} {value : Expr} (h : noDisp value = true) : swappedStores [.Tuple ts kk tp] value env = pure none := by
  cases value <;> first | rfl | exact nomatch (show false = true from h)

end C187

namespace C187
open PySem PySem.W PyProof.Rows

variable {c : Cx} {h₀ : Heap} {env : PySem.Env} {nm : Names} {A : Around} {d : Nat} {C : Calls} {P : List (Addr × Obj)}

noncomputable def valTest (a b : X) (y : String) (ρ : Env) (σ : Sto) : Value → Bool
  | .int i _ => testOf a b y ρ σ (.int i) == some true
  | _ => false

theorem filter_rep {a b : X} {y : String} {ρ : Env} {σ : Sto} {α : Nat → Addr} {n : Nat} {h h' : Heap} (hm : ∀ V v, RepV α n h V v → RepV α n h' V v) : ∀ {vs : List C187.V} {us : List Value} {r : List (C187.V × Bool)} {ys : List Value}, All2 (RepV α n h) vs us → vs.all C187.V.isInt = true →
    vs.mapM (fun v => (testOf a b y ρ σ v).map fun t => (v, t)) = some r → Paired (fun v y => y = v) (us.filter (valTest a b y ρ σ)) ys → All2 (RepV α n h') ((r.filter (·.2)).map (·.1)) ys
  | [], us, r, ys, ra, hi, hr, hp => by
    simp at hr
    subst hr
    cases us with
    | nil => simp at hp; cases hp; trivial
    | cons _ _ => exact ra.elim
  | v :: vs, us, r, ys, ra, hi, hr, hp => by
    cases us with
    | nil => exact ra.elim
    | cons u us =>
      rw [List.mapM_cons] at hr
      simp only [List.all_cons, Bool.and_eq_true] at hi
      cases e1 : testOf a b y ρ σ v with
      | none => rw [e1] at hr; simp at hr
      | some t =>
        cases e2 : vs.mapM (fun v => (testOf a b y ρ σ v).map fun t => (v, t)) with
        | none => rw [e1, e2] at hr; simp at hr
        | some rs =>
          rw [e1, e2] at hr
          simp at hr
          subst hr
          have hv : valTest a b y ρ σ u = t := by
            have r1 := ra.1
            cases v with
            | int i =>
              obtain ⟨t', rfl⟩ := r1
              simp only [valTest, e1]
              cases t <;> rfl
            | _ => simp [C187.V.isInt] at hi
          cases t with
          | true =>
            rw [List.filter_cons_of_pos hv] at hp
            cases hp with
            | cons h1 h2 =>
              subst h1
              simp only [List.filter_cons, if_true, List.map_cons]
              exact ⟨hm _ _ ra.1, filter_rep hm ra.2 hi.2 e2 h2⟩
          | false =>
            rw [List.filter_cons_of_neg (by rw [hv]; simp)] at hp
            simp only [List.filter_cons]
            exact filter_rep hm ra.2 hi.2 e2 hp

theorem all2_of {α β : Type} {R : α → β → Prop} : ∀ {l : List α} {r : List β}, l.length = r.length → (∀ (j : Nat) a b, l[j]? = some a → r[j]? = some b → R a b) → All2 R l r
  | [], [], _, _ => trivial
  | a :: l, b :: r, h, k => ⟨k 0 a b rfl rfl, all2_of (by simpa using h) fun j a b h1 h2 => k (j + 1) a b (by simpa using h1) (by simpa using h2)⟩
  | [], _ :: _, h, _ => by simp at h
  | _ :: _, [], h, _ => by simp at h

theorem mapM_some {α β : Type} {f : α → Option β} {l : List α} {r : List β} {i : Nat} {a : α} (h : l.mapM f = some r) (e : l[i]? = some a) : ∃ b, f a = some b := let ⟨b, _, h⟩ := mapM_get h e; ⟨b, h⟩

theorem inv_L {o : Option (List C187.V)} {F : List C187.V → Prop} (w : (match (motive := Option (List C187.V) → Prop) o with | some v => F v | none => False)) : ∃ v, o = some v ∧ F v := by
  cases o with
  | none => exact w.elim
  | some v => exact ⟨v, rfl, w⟩
theorem inv_LB {o : Option (List (C187.V × Bool))} {F : List (C187.V × Bool) → Prop} (w : (match (motive := Option (List (C187.V × Bool)) → Prop) o with | some v => F v | none => False)) : ∃ v, o = some v ∧ F v := by
  cases o with
  | none => exact w.elim
  | some v => exact ⟨v, rfl, w⟩
theorem te_inv {a b : X} {y : String} {ρ : Env} {σ : Sto} {v : C187.V} {t : Bool} (e : testOf a b y ρ σ v = some t) : ∃ pa pb da db, pureE a (ρ.set y v) σ = some pa ∧ pureE b (ρ.set y v) σ = some pb ∧ rd σ 6 pa = some da ∧ rd σ 6 pb = some db ∧ t = PyData.eqv da db := by
  unfold testOf at e
  cases e1 : pureE a (ρ.set y v) σ with
  | none => rw [e1] at e; cases e
  | some pa =>
    cases e2 : pureE b (ρ.set y v) σ with
    | none => rw [e1, e2] at e; cases e
    | some pb =>
      rw [e1, e2] at e
      cases e3 : rd σ 6 pa with
      | none => dsimp only at e; rw [e3] at e; cases e
      | some da =>
        cases e4 : rd σ 6 pb with
        | none => dsimp only at e; rw [e3, e4] at e; cases e
        | some db =>
          dsimp only at e
          rw [e3, e4] at e
          exact ⟨pa, pb, da, db, rfl, rfl, e3, e4, (Option.some.inj e).symm⟩

theorem filt_core {x z : String} {it a : X} {b : List X} {py gp zp : Pos} {l : Expr} {r : List Expr} {kk : Nat} {rp cp p : Pos} {iter : Expr} {scope : Scope} {pos : Pos} (V : EnvOk env nm) (G : Gd c h₀) (rm : Room1 A d)
    (c1 : nm.lookup (Str.ofString x) = some .local) (c2 : py.line = p.line) (c3 : (!(scope.names.any fun (n, k) => n == Str.ofString x && (k == .local || k == .cell))) = true) (c4 : (!(Str.ofString z == ("__debug__" : Str))) = true)
    (hb : blockOk nm scope (Str.ofString z) = true) (ct1 : ckP (okIn nm scope (Str.ofString z)) a l = true) (ct2 : ckP.ckPs (okIn nm scope (Str.ofString z)) b r = true) (ct3 : r.length ≤ 1000) (ci : ckE nm it iter = true) (hns : noSet iter = true)
    (P : List (Addr × Obj)) (ρ : Env) (σ : Sto) (Q : Cs) (w : evS C (.asgFilt x z it a b) ρ σ Q)
    (α : Nat → Addr) (s : Shared) (S : Sim (c.pin P) h₀ env α ρ σ s.heap) (E : Value → Shared → Prop) (R : Flow → Shared → Prop) (k : Kc (c.pin P) h₀ env α σ s Q R)
    (hit : ∀ iter, ckE nm it iter = true → ∀ (P : List (Addr × Obj)) (ρ : Env) (σ : Sto) (Q : Ct), evE C it ρ σ Q → ∀ (α : Nat → Addr) (s : Shared), Sim (c.pin P) h₀ env α ρ σ s.heap → ∀ (E R : Value → Shared → Prop), Kt (c.pin P) h₀ env ρ α σ s Q R → wpAny (model c.prog c.w) A (eval iter env) R E s) :
    wpAny (model c.prog c.w) A (exec (.Assign [.Name (Str.ofString x) py] (.ListComp (.Name (Str.ofString z) gp) [⟨.Name (Str.ofString z) zp, iter, [.Compare l [.Eq] [.Tuple r kk rp] cp], 0⟩] scope p) pos) env) R E s := by
  have B := blockOk_of hb
  obtain ⟨cl, hcl, h1, h2⟩ := closure_ok (env := env) (scope := scope) (fun x hx hf => V.cells _ (B.free x hx hf))
  have hkn : env.kindOf (Str.ofString x) = some .local := by unfold PySem.Env.kindOf; rw [V.names]; exact c1
  have hsw : swapsWith (.ListComp (.Name (Str.ofString z) gp) [⟨.Name (Str.ofString z) zp, iter, [.Compare l [.Eq] [.Tuple r kk rp] cp], 0⟩] scope p) (some (.Name (Str.ofString x) py)) pos.line env = pure true := by
    have h1 : env.blockKind = .function := by unfold PySem.Env.blockKind; rw [V.kind]; rfl
    show (pure (env.blockKind == .function && env.kindOf (Str.ofString x) == some .local && py.line == p.line && !(scope.names.any fun (n, k) => n == Str.ofString x && (k == .local || k == .cell))) : Sem Bool) = pure true
    rw [h1, hkn, c2, c3]; simp
  rw [exec_Assign_Name_used _ _ _ _ hsw]
  refine wpAny_bind (wpAny_standAt (wpAny_bind ?_))
  show wpAny _ A (do let _ ← comprehension (.ListComp (.Name (Str.ofString z) gp) [⟨.Name (Str.ofString z) zp, iter, [.Compare l [.Eq] [.Tuple r kk rp] cp], 0⟩] scope p) scope env _ (newList []) false (eval iter env) (some (assign (.Name (Str.ofString x) py) env))) _ _ s
  refine wpAny_bind (wpAny_mono (wpAny_comprehension_free (use := some (assign (.Name (Str.ofString x) py) env)) (Q := fun _ s' => R .next s') rfl (noSet_ok hns) hcl B.kind B.names
    (hit iter ci P ρ σ _ w α s S E _ fun α1 V1 σ1 v1 s1 w1 S1 X1 r1 sm1 => ?_)) (fun _ s' hq => wpAny_pure (wpAny_pure hq)) fun _ _ e => e)
  dsimp only at w1
  obtain ⟨vs, ei, w1⟩ := inv_L (o := itemsOf V1 σ1) w1
  obtain ⟨rs, er, hall, w1⟩ := inv_LB (o := vs.mapM (fun v => (testOf a (.tup b) z ρ σ1 v).map fun t => (v, t))) w1
  · · skip
      refine src_of (c := c.pin P) rm.1 S1 r1 ei fun I fp wr P' St s₂ K Z => ?_
      obtain ⟨H₂, tk₂, rfl, hk₂⟩ := K
      have up : ∀ (h₃ : Heap), (∀ b o, b ∉ wr → H₂.get? b = some o → h₃.get? b = some o) → ∀ b o, s1.heap.get? b = some o → h₃.get? b = some o :=
        fun h₃ hk b o e => hk b o (fun hb => by rw [Z.fresh b hb] at e; cases e) (hk₂ b o e)
      refine comp_block_walkC (RR := fun acc C => compPost (model c.prog c.w) A E (some (assign (.Name (Str.ofString x) py) env)) (fun _ s' => R .next s') acc C) Z.W.bound Z.hsz (valTest a (.tup b) z ρ σ1) (fun v y => y = v) B.cell B.kind B.hx Z.st Z.low ⟨?_, ?_⟩ ?_
      · intro C i v s₃ m₃ E' hC hP hn hm hk htk
        obtain ⟨W, eW, rW⟩ := Z.item i v hP.1 hP.2
        have hW := List.all_eq_true.mp hall W (List.mem_of_getElem? eW)
        have PSb := PS.block (c := c.pin P) (x := z) (W := W) (v := v) V B S1 h1 h2 hn hm rW (up s₃.heap hk)
        obtain ⟨⟨W', t⟩, et⟩ := mapM_some er eW
        obtain ⟨t', et, eq⟩ := Option.map_eq_some_iff.mp et
        cases eq
        have hv : valTest a (.tup b) z ρ σ1 v = t := by
          cases W with
          | int i =>
            obtain ⟨t', rfl⟩ := rW
            simp only [valTest, et]
            cases t <;> rfl
          | _ => simp [C187.V.isInt] at hW
        rw [hv]
        obtain ⟨pa, pb, da, db, ea, eb, ra, rb, et⟩ := te_inv et
        subst et
        · · skip
            rw [List.forIn_cons]
            refine wpAny_bind ?_
            rw [if_pos rfl]
            refine wpAny_bind (wpAny_isTrue_Compare1 ?_ (behind_false (o := .eq) _))
            refine pure_ok (cenv := compEnvC scope cl C env) (show (relabel scope env).kind = .function from B.kind) a l ct1 pa ea s₃ PSb _ _ fun y1 s4 r4 K4 => ?_
            have PS4 := PSb.keeps (keeps_keep K4)
            refine pure_ok (ok := okIn nm scope (Str.ofString z)) (cenv := compEnvC scope cl C env) (show (relabel scope env).kind = .function from B.kind) (.tup b) (.Tuple r kk rp) (and2i (decide_eq_true ct3) ct2) pb eb s4 PS4 _ _ fun y2 s5 r5 K5 => ?_
            have PS5 := PS4.keeps (keeps_keep K5)
            obtain ⟨as, q1, q2, q3⟩ := readsOf PS5.objs 6 pa y1 da ra (r4.mono (Ext.of_keep (keeps_keep K5)))
            obtain ⟨bs, q4, q5, q6⟩ := readsOf PS5.objs 6 pb y2 db rb r5
            refine SeqAt.compareEq_reads q1 q4 q2 q5 (by
              have := Nat.min_le_left da.depth db.depth
              have := rm.2.2
              lia) ?_
            refine wpAny_truthy_bool (wpAny_pure ?_)
            dsimp only
            rw [List.forIn_nil]
            exact wpAny_pure ⟨rfl, keeps_trans K4 K5⟩
      · intro C i v s₃ m₃ E' hC hP hp hn hm hk htk
        refine wpAny_Name (wpAny_loadName_local (env := compEnvC scope cl C env) (show (relabel scope env).kind = .function from B.kind) (lookup_relabel_local B.hx) hn hm ⟨rfl, ⟨s₃.heap, _, rfl, fun _ _ e => e⟩⟩) (neDebug c4)
      · intro D C h' tk m' ys vs' hD hC hDC hnC hlD hplD hlen hP hF hk
        have K1 := up h' hk
        obtain ⟨n', hD'⟩ := hplD
        have hD1 : s1.heap.get? D = none := by
          cases q : s1.heap.get? D with
          | none => rfl
          | some o => have := hk₂ _ _ q; rw [show H₂.get? D = none from hD] at this; cases this
        have hC1 : s1.heap.get? C = none := by
          cases q : s1.heap.get? C with
          | none => rfl
          | some o => have := hk₂ _ _ q; rw [show H₂.get? C = none from hC] at this; cases this
        obtain ⟨us, hus⟩ : ∃ us : List Value, us = vs' := ⟨_, rfl⟩
        have ra : All2 (RepV α1 σ1.length s1.heap) vs vs' := by
          refine all2_of hlen.symm fun j W u hj hu => ?_
          obtain ⟨W', eW', rW'⟩ := Z.item j u (hP j u hu).1 (hP j u hu).2
          rw [hj] at eW'; cases eW'
          exact rW'
        have rf := filter_rep (h' := h') (fun V v r => r.mono (Ext.of_keep K1)) ra hall er hF
        obtain ⟨mm, FF, _⟩ := S1.fr
        have hfr : s1.heap.get? (max (D + 1) s1.heap.objs.size) = none := get_ge (Nat.le_max_right _ _)
        obtain ⟨α2, S2, X2, e2⟩ := S1.alloc (o := .list ((rs.filter (·.2)).map (·.1))) (a := D) (a' := max (D + 1) s1.heap.objs.size) FF (FF.after K1) (fun b o _ => K1 b o) hD1 hfr (Nat.ne_of_lt (Nat.lt_of_lt_of_le (Nat.lt_succ_self _) (Nat.le_max_left _ _)))
          (fun α' e1 e2 e3 X => ⟨ys, n', by rw [e2]; exact hD', rf.mono fun _ _ x => x.mono ⟨Nat.le_succ _, e1, fun _ _ e _ => e⟩, by
            have g1 : ((rs.filter (·.2)).map (·.1)).length ≤ rs.length := by rw [List.length_map]; exact List.length_filter_le _ _
            rw [mapM_length er] at g1
            exact Nat.le_trans g1 (Nat.le_trans Z.hsz (by rw [← big_eq]; exact Nat.le_refl _))⟩)
        obtain ⟨oC, _, _, hoC, _⟩ := id hnC
        have cL : C ≠ env.locals := by rintro rfl; have := FF.ns.lt; exact absurd hC1 (by obtain ⟨o, _, _, ho, _⟩ := FF.ns; rw [ho]; simp)
        have cC : ∀ x k, env.cells.lookup x = some k → k ≠ C := fun x k e => by
          rintro rfl
          obtain ⟨_, _, v, o, ho, _⟩ := S1.cell x _ e
          rw [ho] at hC1; cases hC1
        have cl2 : ∀ i, Live (σ1 ++ [O.list ((rs.filter (·.2)).map (·.1))]) i → α2 i ≠ C := by
          rintro i ⟨o, eo, hnp, hp⟩
          by_cases hlt : i / 2 < σ1.length
          · rw [List.getElem?_append_left hlt] at eo
            rw [X2.al i (by lia)]
            obtain ⟨o', ho', _⟩ := S1.old (i := i) ⟨o, eo, hnp, hp⟩
            rintro q
            rw [q, hC1] at ho'; cases ho'
          · have hb := (List.getElem?_eq_some_iff.mp eo).1
            rw [List.length_append, List.length_singleton] at hb
            have hi : i / 2 = σ1.length := by lia
            rw [hi, List.getElem?_append_right (Nat.le_refl _)] at eo
            simp at eo
            subst eo
            have : i = 2 * σ1.length := by
              rcases hp with hp | ⟨_, _, q⟩
              · lia
              · cases q
            rw [this, e2]
            exact hDC
        have pC : ∀ p ∈ P, p.1 ≠ C := fun p hp q => by
          have := (S1.pin p hp).1
          rw [q, hC1] at this; cases this
        have S3 : Sim (c.pin ((C, oC) :: P)) h₀ env α2 ρ (σ1 ++ [O.list ((rs.filter (·.2)).map (·.1))]) h' := S2.repin fun p hp => by
          rcases List.mem_cons.mp hp with rfl | hp
          · exact ⟨hoC, cL, cC, cl2⟩
          · exact S2.pin p hp
        show wpAny _ A (assign (.Name (Str.ofString x) py) env (.ref D)) _ _ _
        refine wpAny_assign_Name (store_ok (c := c.pin ((C, oC) :: P)) (W := .loc σ1.length) V (by unfold stored?; rw [c1]; rfl) S3 (⟨by simp, by rw [e2]⟩) fun h2 tk2 S4 X4 => ?_)
        have p4 := S4.pin (C, oC) List.mem_cons_self
        refine ⟨m', hnC.at' (fun o e => by rw [hoC] at e; cases e; exact p4.1), fun h3 hs3 => ?_⟩
        have S5 : Sim (c.pin P) h₀ env α2 (ρ.set x (.loc σ1.length)) (σ1 ++ [O.list ((rs.filter (·.2)).map (·.1))]) h2 := S4.repin fun p hp => S4.pin p (List.mem_cons_of_mem _ hp)
        obtain ⟨S6, X6⟩ := S5.aside (it := C) (h' := h3) (fun b o hb e => (hs3.2 b hb).trans e) (by
          cases q : h₀.get? C with
          | none => rfl
          | some o => have := FF.keep _ _ q; rw [hC1] at this; cases this) cL cC p4.2.2.2 pC (ns_nimm (hnC.at' (fun o e => by rw [hoC] at e; cases e; exact p4.1)))
        exact k.next (s' := { s1 with heap := h3, toks := tk2 }) w1 S6 (((X1.trans X2).trans X4).trans X6) (sm1.trans ⟨rfl, rfl, rfl⟩)

/-- what each statement does -/
noncomputable def WkS (c : Cx) (h₀ : Heap) (env : PySem.Env) (nm : Names) (A : Around) (C : Calls) (x : S) (a : Stmt) : Prop := ∀ (P : List (Addr × Obj)) (ρ : Env) (σ : Sto) (Q : Cs), evS C x ρ σ Q →
    ∀ (α : Nat → Addr) (s : Shared), Sim (c.pin P) h₀ env α ρ σ s.heap → ∀ (E : Value → Shared → Prop) (R : Flow → Shared → Prop), Kc (c.pin P) h₀ env α σ s Q R → wpAny (model c.prog c.w) A (exec a env) R E s
noncomputable def OkS (c : Cx) (h₀ : Heap) (env : PySem.Env) (nm : Names) (A : Around) (C : Calls) (x : S) : Prop := ∀ (a : Stmt), ckS nm x a = true → WkS c h₀ env nm A C x a

theorem filt_ok {x z : String} {it a : X} {b : List X} {t v : Expr} {pos : Pos} (V : EnvOk env nm) (G : Gd c h₀) (rm : Room1 A d)
    (hit : ∀ iter, ckE nm it iter = true → ∀ (P : List (Addr × Obj)) (ρ : Env) (σ : Sto) (Q : Ct), evE C it ρ σ Q → ∀ (α : Nat → Addr) (s : Shared), Sim (c.pin P) h₀ env α ρ σ s.heap → ∀ (E R : Value → Shared → Prop), Kt (c.pin P) h₀ env ρ α σ s Q R → wpAny (model c.prog c.w) A (eval iter env) R E s) (ck : ckFilt nm x z it a b t v = true) : WkS c h₀ env nm A C (.asgFilt x z it a b) (.Assign [t] v pos) := by
  apply eNameP (a := t) ck; intro y py ck
  apply eCompP (a := v) ck; intro ge gens scope p ck
  apply eName (a := ge) ck; intro e gp ck
  obtain ⟨ck, c5⟩ := and2 ck
  obtain ⟨ck, c4⟩ := and2 ck
  obtain ⟨c0, c1, c2, c3⟩ := and4 ck
  obtain rfl : y = Str.ofString x := beq_iff_eq.mp c0
  apply eOne (l := gens) c5; intro g c5
  obtain ⟨tg, iter, ifs, asy⟩ := g
  apply eName (a := tg) c5; intro z' zp c5
  obtain ⟨c5, hns⟩ := and2 c5
  obtain ⟨c5, ci⟩ := and2 c5
  obtain ⟨c5, ht⟩ := and2 c5
  obtain ⟨h0, h1, h2, hb⟩ := and4 c5
  apply eEq (x := asy) (y := 0) (of_decide_eq_true h0)
  obtain rfl : z' = Str.ofString z := beq_iff_eq.mp h1
  obtain rfl : e = Str.ofString z := beq_iff_eq.mp h2
  apply eOne (l := ifs) ht; intro t ht
  apply eCmp (a := t) ht; intro l ops rs cp ht
  apply eOne (l := ops) ht; intro op ht
  apply eOne (l := rs) ht; intro t ht
  apply eTup (a := t) ht; intro r kk rp ht
  obtain ⟨h3, ct1, ct2, ct3⟩ := and4 ht
  apply eBeq (x := op) h3
  exact fun P ρ σ Q w α s S E R k => filt_core V G rm (beq_iff_eq.mp c1) (beq_iff_eq.mp c2) c3 c4 hb ct1 ct2 (of_decide_eq_true ct3) ci hns P ρ σ Q w α s S E R k hit

end C187

namespace C187
open PySem PySem.W PyProof.Rows

variable {c : Cx} {h₀ : Heap} {env : PySem.Env} {nm : Names} {A : Around} {d : Nat} {C : Calls} {P : List (Addr × Obj)}

theorem interactive_none (V : EnvOk env nm) : interactive env = false := by unfold interactive; rw [V.kind]; rfl

theorem swaps_sole {value t : Expr} {n : Nat} (h : noComp value = true) : swapsWithSole [t] value n env = pure false := by
  cases value <;> first | rfl | exact nomatch (show false = true from h)

noncomputable def WkSs (c : Cx) (h₀ : Heap) (env : PySem.Env) (nm : Names) (A : Around) (C : Calls) (x : List S) (a : List Stmt) : Prop := ∀ (P : List (Addr × Obj)) (ρ : Env) (σ : Sto) (Q : Cs), evSs C x ρ σ Q →
    ∀ (α : Nat → Addr) (s : Shared), Sim (c.pin P) h₀ env α ρ σ s.heap → ∀ (E : Value → Shared → Prop) (R : Flow → Shared → Prop), Kc (c.pin P) h₀ env α σ s Q R → wpAny (model c.prog c.w) A (execs a env) R E s
noncomputable def OkSs (c : Cx) (h₀ : Heap) (env : PySem.Env) (nm : Names) (A : Around) (C : Calls) (x : List S) : Prop := ∀ (a : List Stmt), ckSs nm x a = true → WkSs c h₀ env nm A C x a

theorem if_t {p q : Prop} (h : if true = true then p else q) : p := h
theorem if_f {p q : Prop} (h : if false = true then p else q) : q := h

section
variable (Kg : KG c) (CO : ∀ P, CallOk (c.pin P) d C) (rm : Room1 A d) (V : EnvOk env nm) (G : Gd c h₀)
include Kg CO rm V G
theorem okS_asg {x : String} {e : X} : OkS c h₀ env nm A C (.asg x e) := fun a ck => by
  apply eSole (a := a) ck; intro t v pos ck
  apply eName (a := t) ck; intro y p ck
  obtain ⟨c0, c1, c2, c3⟩ := and4 ck
  obtain rfl := beq_iff_eq.mp c0
  intro P ρ σ Q w α s S E R k
  refine wpAny_Assign_Name (evE_sound Kg.pin (CO P) rm V G.pin e v c3 ρ σ _ w α s S E _ fun α1 V1 σ1 v1 s1 w1 S1 X1 r1 sm1 => ?_) (swaps_none c2)
  exact store_ok (c := c.pin P) V c1 S1 r1 fun h' tk S2 X2 => k.next (s' := { s1 with heap := h', toks := tk }) w1 S2 (X1.trans X2) (sm1.trans ⟨rfl, rfl, rfl⟩)
theorem okS_asgFilt {x z : String} {it u : X} {b : List X} : OkS c h₀ env nm A C (.asgFilt x z it u b) := fun a ck => by
  apply eSole (a := a) ck; intro t v pos ck
  exact filt_ok V G rm (fun iter ci P' ρ' σ' Q' w' α' s' S' E' R' k' => evE_sound Kg.pin (CO P') rm V G.pin it iter ci ρ' σ' Q' w' α' s' S' E' R' k') ck
theorem okS_asgAttr {o : X} {f : String} {e : X} : OkS c h₀ env nm A C (.asgAttr o f e) := fun a ck => by
  apply eSole (a := a) ck; intro t v pos ck
  apply eAttr (a := t) ck; intro b g p ck
  obtain ⟨c0, c1, c2, c3⟩ := and4 ck
  apply eBeq (x := g) c0
  intro P ρ σ Q w α s S E R k
  refine plainObj_wpAny_Assign_Attribute (evE_sound Kg.pin (CO P) rm V G.pin e v c3 ρ σ _ w α s S E _ fun α1 V1 σ1 v1 s1 w1 S1 X1 r1 sm1 => ?_) (swaps_none c1)
  refine evE_sound Kg.pin (CO P) rm V G.pin o b c2 ρ σ1 _ w1 α1 s1 S1 E _ fun α2 V2 σ2 v2 s2 w2 S2 X2 r2 sm2 => ?_
  exact setAttr_ok Kg.pin.toKF G.pin.X S2 r2 (r1.mono X2) w2 fun α3 σ3 s3 w3 S3 X3 sm3 => k.next w3 S3 ((X1.trans X2).trans X3) ((sm1.trans sm2).trans sm3)
theorem okS_asgItem {o i e : X} : OkS c h₀ env nm A C (.asgItem o i e) := fun a ck => by
  apply eSole (a := a) ck; intro t v pos ck
  apply eSub (a := t) ck; intro b j p ck
  obtain ⟨c0, c1, c2, c34⟩ := and4 ck
  obtain ⟨c3, c4⟩ := and2 c34
  intro P ρ σ Q w α s S E R k
  refine wpAny_Assign_Subscript (evE_sound Kg.pin (CO P) rm V G.pin e v c4 ρ σ _ w α s S E _ fun α1 V1 σ1 v1 s1 w1 S1 X1 r1 sm1 => ?_) (swaps_none c1)
  refine evE_sound Kg.pin (CO P) rm V G.pin o b c2 ρ σ1 _ w1 α1 s1 S1 E _ fun α2 V2 σ2 v2 s2 w2 S2 X2 r2 sm2 => ?_
  refine evE_sound Kg.pin (CO P) rm V G.pin i j c3 ρ σ2 _ w2 α2 s2 S2 E _ fun α3 V3 σ3 v3 s3 w3 S3 X3 r3 sm3 => ?_
  exact setItem_ok (by have := rm.2.2; lia) S3 (r2.mono X3) r3 ((r1.mono X2).mono X3) w3 fun α4 σ4 s4 w4 S4 X4 sm4 => k.next w4 S4 (((X1.trans X2).trans X3).trans X4) (((sm1.trans sm2).trans sm3).trans sm4)
theorem okS_asgTup {xs : List String} {e : X} : OkS c h₀ env nm A C (.asgTup xs e) := fun a ck => by
  apply eSole (a := a) ck; intro t v pos ck
  apply eTup (a := t) ck; intro es kk p ck
  obtain ⟨c1, c2, c3⟩ := and3 ck
  intro P ρ σ Q w α s S E R k
  refine Assign_Tuple (evE_sound Kg.pin (CO P) rm V G.pin e v c3 ρ σ _ w α s S E _ fun α1 V1 σ1 v1 s1 w1 S1 X1 r1 sm1 => ?_) (swaps_sole (noDisp_comp c1)) (noDisp_swapped c1)
  dsimp only at w1
  split at w1
  · rename_i vs ev
    exact tup_ok (c := c.pin P) rm.1 V c2 S1 r1 ev w1.1 fun h' tk S2 X2 => k.next (s' := { s1 with heap := h', toks := tk }) w1.2 S2 (X1.trans X2) (sm1.trans ⟨rfl, rfl, rfl⟩)
  · exact w1.elim
theorem okS_aug {x : String} {o : Bop} {e : X} : OkS c h₀ env nm A C (.aug x o e) := fun a ck => by
  apply eAug (a := a) ck; intro t op v pos ck
  apply eName (a := t) ck; intro y p ck
  obtain ⟨c0, c1, c2, c3⟩ := and4 ck
  obtain rfl := beq_iff_eq.mp c0
  apply eBeq (x := op) c2
  have c1 := beq_iff_eq.mp c1
  intro P ρ σ Q w α s S E R k
  obtain ⟨i, ei, w⟩ := inv_vi (o := ρ x) w
  · obtain ⟨m, F, hv⟩ := S.fr
    obtain ⟨u, hu, r⟩ := hv x _ ei
    have hkn : env.kindOf (Str.ofString x) = some .local := by unfold PySem.Env.kindOf; rw [V.names]; exact c1
    obtain ⟨t, rfl⟩ := r
    rcases hu with ⟨_, h2⟩ | ⟨h1, _⟩
    · refine wpAny_AugAssign_Name (wpAny_loadName_local V.kind hkn F.ns h2 ?_)
      refine evE_sound Kg.pin (CO P) rm V G.pin e v c3 ρ σ _ w α _ S E _ fun α1 V1 σ1 v1 s1 w1 S1 X1 r1 sm1 => ?_
      cases o with
      | add =>
        cases V1 with
        | int j =>
          obtain ⟨t', rfl⟩ := r1
          refine wpAny_iadd_int (store_ok (c := c.pin P) (s := { s1 with toks := s1.toks + 1 }) V (by unfold stored?; rw [c1]; rfl) S1 (W := .int (i + j)) (⟨_, rfl⟩) fun h' tk S2 X2 => ?_)
          exact k.next (s' := { s1 with heap := h', toks := tk }) w1 S2 (X1.trans X2) (sm1.trans ⟨rfl, rfl, rfl⟩)
        | _ => exact w1.elim
      | _ => exact w1.elim
    · rw [hkn] at h1; cases h1
theorem okS_expr {e : X} : OkS c h₀ env nm A C (.expr e) := fun a ck => by
  apply eExpr (a := a) ck; intro v pos ck
  obtain ⟨c1, c2⟩ := and2 ck
  intro P ρ σ Q w α s S E R k
  refine wpAny_Expr (evE_sound Kg.pin (CO P) rm V G.pin e v c2 ρ σ _ w α s S E _ fun α1 V1 σ1 v1 s1 w1 S1 X1 r1 sm1 => ?_) (interactive_none V) (swaps_none c1)
  cases V1 with
  | none =>
    subst r1
    exact k.next w1 S1 X1 sm1
  | int i =>
    obtain ⟨t, rfl⟩ := r1
    exact k.next w1 S1 X1 sm1
  | _ => exact w1.elim
theorem okS_ret {e : X} : OkS c h₀ env nm A C (.ret e) := fun a ck => by
  apply eRet (a := a) ck; intro v pos ck
  intro P ρ σ Q w α s S E R k
  cases v with
  | none =>
    cases e <;> first | exact nomatch (show false = true from ck) | exact wpAny_Return_none (k α (.ret .none) ρ σ (.ret .none) s w S (Ext.refl ..) rfl (SameS.refl s))
  | some v =>
    exact wpAny_Return_some (evE_sound Kg.pin (CO P) rm V G.pin e v ck ρ σ _ w α s S E _ fun α1 V1 σ1 v1 s1 w1 S1 X1 r1 sm1 => k α1 (.ret V1) ρ σ1 (.ret v1) s1 w1 S1 X1 r1 sm1)
theorem okS_ite {t : X} {x y : List S} (i1 : OkSs c h₀ env nm A C x) (i2 : OkSs c h₀ env nm A C y) : OkS c h₀ env nm A C (.ite t x y) := fun a ck => by
  apply eIte (a := a) ck; intro tt l r pos ck
  obtain ⟨c0, c1, c2⟩ := and3 ck
  intro P ρ σ Q w α s S E R k
  refine wpAny_If (evT_sound Kg.pin (CO P) rm V G.pin t tt c0 ρ σ _ w α s S E _ fun α1 b σ1 s1 w1 S1 X1 sm1 => ?_)
  cases b with
  | true => exact i1 l c1 P ρ σ1 Q (if_t w1) α1 s1 S1 E R (k.via X1 sm1)
  | false => exact i2 r c2 P ρ σ1 Q (if_f w1) α1 s1 S1 E R (k.via X1 sm1)
theorem okS_loop {t : X} {x : List S} (i1 : OkSs c h₀ env nm A C x) : OkS c h₀ env nm A C (.loop t x) := fun a ck => by
  apply eWhile (a := a) ck; intro tt b els pos ck
  obtain ⟨c0, c1, c2⟩ := and3 ck
  apply eEq (x := els) (y := []) (by cases els with | nil => rfl | cons _ _ => exact nomatch (show false = true from c0))
  intro P ρ σ Q w α s S E R k
  obtain ⟨n, w⟩ := (show ∃ n, whileI (evT C t) (evSs C x) n ρ σ Q from w)
  refine wpAny_While (codeAny_whileLoop (fun n s' => ∃ α' ρ' σ', whileI (evT C t) (evSs C x) n ρ' σ' Q ∧ Sim (c.pin P) h₀ env α' ρ' σ' s'.heap ∧ Ext α σ.length s.heap α' σ'.length s'.heap ∧ SameS s s') ?_ n ⟨α, ρ, σ, w, S, Ext.refl .., SameS.refl s⟩)
  rintro n s' ⟨α', ρ', σ', w', S', X', sm'⟩
  cases n with
  | zero => exact w'.elim
  | succ n =>
    refine evT_sound Kg.pin (CO P) rm V G.pin t tt c1 ρ' σ' _ w' α' s' S' _ _ fun α1 b1 σ1 s1 w1 S1 X1 sm1 => ?_
    cases b1 with
    | true =>
      refine i1 b c2 P ρ' σ1 _ (if_t w1) α1 s1 S1 _ _ fun α2 fl ρ2 σ2 f s2 q2 S2 X2 r2 sm2 => ?_
      have XX := (X'.trans X1).trans X2
      have sm := (sm'.trans sm1).trans sm2
      cases fl with
      | next =>
        cases f with
        | next => exact ⟨n, Nat.lt_succ_self _, α2, ρ2, σ2, q2, S2, XX, sm⟩
        | _ => exact r2.elim
      | cont =>
        cases f with
        | cont => exact ⟨n, Nat.lt_succ_self _, α2, ρ2, σ2, q2, S2, XX, sm⟩
        | _ => exact r2.elim
      | ret V' =>
        cases f with
        | ret v' => exact k α2 (.ret V') ρ2 σ2 (.ret v') s2 q2 S2 XX r2 sm
        | _ => exact r2.elim
    | false => exact wpAny_execs_nil (k.next (if_f w1) S1 (X'.trans X1) (sm'.trans sm1))
theorem okS_for {x : String} {e : X} {b : List S} (i1 : OkSs c h₀ env nm A C b) : OkS c h₀ env nm A C (.for x e b) := fun a ck => by
  apply eFor (a := a) ck; intro t it bd els pos ck
  apply eName (a := t) ck; intro y p ck
  obtain ⟨c0, cy, c2, c34⟩ := and4 ck
  obtain ⟨c3, c4⟩ := and2 c34
  obtain ⟨cy, c1⟩ := and2 cy
  obtain rfl := beq_iff_eq.mp cy
  apply eEq (x := els) (y := []) (by cases els with | nil => rfl | cons _ _ => exact nomatch (show false = true from c0))
  intro P ρ σ Q w α s S E R k
  refine wpAny_For (evE_sound Kg.pin (CO P) rm V G.pin e it c3 ρ σ _ w α s S E _ fun α1 V1 σ1 v1 s1 w1 S1 X1 r1 sm1 => ?_) (noSet_ok c2)
  exact for_ok (evSs C b) rm.1 G V (beq_iff_eq.mp c1) (fun f s' h => h) (fun P' ρ' σ' Q' w' α' s' S' E' R' k' => i1 bd c4 P' ρ' σ' Q' w' α' s' S' E' R' k') r1 w1 S1 (k.via X1 sm1)
theorem okS_del {o lo : X} : OkS c h₀ env nm A C (.del o lo) := fun a ck => by
  apply eDel (a := a) ck; intro ts pos ck
  apply eOne (l := ts) ck; intro t ck
  apply eSub (a := t) ck; intro v j p ck
  apply eSlice (a := j) ck; intro l u q ps ck
  obtain ⟨c1, c2, c3, c4⟩ := and4 ck
  apply eEq (x := u) (y := none) (by cases u with | none => rfl | some _ => exact nomatch (show false = true from c3))
  apply eEq (x := q) (y := none) (by cases q with | none => rfl | some _ => exact nomatch (show false = true from c4))
  intro P ρ σ Q w α s S E R k
  cases l with
  | none => exact nomatch (show false = true from c2)
  | some l =>
    refine wpAny_Delete (wpAny_deleteEach_cons (wpAny_delete_Subscript ?_))
    refine evE_sound Kg.pin (CO P) rm V G.pin o v c1 ρ σ _ w α s S E _ fun α1 V1 σ1 v1 s1 w1 S1 X1 r1 sm1 => ?_
    refine wpAny_Slice (evE_sound Kg.pin (CO P) rm V G.pin lo l c2 ρ σ1 _ w1 α1 s1 S1 E _ fun α2 V2 σ2 v2 s2 w2 S2 X2 r2 sm2 => ?_)
    refine wpAny_pure (wpAny_pure ?_)
    refine del_ok S2 (r1.mono X2) r2 w2 fun α3 σ3 s3 w3 S3 X3 sm3 => wpAny_deleteEach_nil (k.next w3 S3 ((X1.trans X2).trans X3) ((sm1.trans sm2).trans sm3))
omit Kg CO rm V G
theorem okS_cont : OkS c h₀ env nm A C .cont := fun a ck => by
  obtain ⟨pos, e0⟩ := iCont ck
  apply eEq (x := a) e0
  intro P ρ σ Q w α s S E R k
  exact wpAny_Continue (k α .cont ρ σ .cont s w S (Ext.refl ..) trivial (SameS.refl s))
theorem okSs_nil : OkSs c h₀ env nm A C [] := fun a ck => by
  apply eEq (x := a) (ckSs_nil ck)
  intro P ρ σ Q w α s S E R k
  exact wpAny_execs_nil (k.next w S (Ext.refl ..) (SameS.refl s))
theorem okSs_cons {x : S} {xs : List S} (i1 : OkS c h₀ env nm A C x) (i2 : OkSs c h₀ env nm A C xs) : OkSs c h₀ env nm A C (x :: xs) := fun a ck => by
  obtain ⟨b, as, e0, c1, c2⟩ := ckSs_cons ck
  apply eEq (x := a) e0
  intro P ρ σ Q w α s S E R k
  refine wpAny_execs_cons (i1 b c1 P ρ σ _ w α s S E _ fun α' fl ρ' σ' f s' q S' X' r sm => ?_)
  cases fl with
  | next =>
    cases f with
    | next => exact i2 as c2 P ρ' σ' Q q α' s' S' E R (k.via X' sm)
    | _ => exact r.elim
  | cont =>
    cases f with
    | cont => exact k α' .cont ρ' σ' .cont s' q S' X' r sm
    | _ => exact r.elim
  | ret V' =>
    cases f with
    | ret v' => exact k α' (.ret V') ρ' σ' (.ret v') s' q S' X' r sm
    | _ => exact r.elim
end

mutual
theorem okS (Kg : KG c) (CO : ∀ P, CallOk (c.pin P) d C) (rm : Room1 A d) (V : EnvOk env nm) (G : Gd c h₀) : ∀ x : S, OkS c h₀ env nm A C x
  | .asg .. => okS_asg Kg CO rm V G
  | .asgFilt .. => okS_asgFilt Kg CO rm V G
  | .asgAttr .. => okS_asgAttr Kg CO rm V G
  | .asgItem .. => okS_asgItem Kg CO rm V G
  | .asgTup .. => okS_asgTup Kg CO rm V G
  | .aug .. => okS_aug Kg CO rm V G
  | .expr _ => okS_expr Kg CO rm V G
  | .ret _ => okS_ret Kg CO rm V G
  | .ite _ x y => okS_ite Kg CO rm V G (okSs Kg CO rm V G x) (okSs Kg CO rm V G y)
  | .loop _ x => okS_loop Kg CO rm V G (okSs Kg CO rm V G x)
  | .for _ _ b => okS_for Kg CO rm V G (okSs Kg CO rm V G b)
  | .del .. => okS_del Kg CO rm V G
  | .cont => okS_cont
  | .wall => fun _ _ _ _ _ _ w => w.elim
theorem okSs (Kg : KG c) (CO : ∀ P, CallOk (c.pin P) d C) (rm : Room1 A d) (V : EnvOk env nm) (G : Gd c h₀) : ∀ x : List S, OkSs c h₀ env nm A C x
  | [] => okSs_nil
  | x :: xs => okSs_cons (okS Kg CO rm V G x) (okSs Kg CO rm V G xs)
end
theorem evSs_sound (Kg : KG c) (CO : ∀ P, CallOk (c.pin P) d C) (rm : Room1 A d) (V : EnvOk env nm) (G : Gd c h₀) (x : List S) : OkSs c h₀ env nm A C x := okSs Kg CO rm V G x

end C187

namespace C187
open PySem PySem.W PyProof.Rows

variable {c : Cx} {h₀ : Heap} {env : PySem.Env} {nm : Names} {A : Around} {d : Nat} {C : Calls} {P : List (Addr × Obj)}

/-- what the written part holds of a function -/
structure FnD where
  oc : Value
  od : Option Addr
  osl : Array (Option Value)
  name : Str
  qual : Str
  params : Arguments
  body : List Stmt
  scope : Scope
  dV : Value
  kV : Value
  doc : Value
  pm : Value
  an : Option Addr
  cdv : Value
  ct : Value
noncomputable def FnD.data (D : FnD) : FuncData := fnOf D.name D.qual D.params D.body D.scope D.dV D.kV D.doc D.pm D.an D.cdv D.ct
structure FnIs (c : Cx) (f : String) (fn : Fn) (fa : Addr) (D : FnD) : Prop where
  e1 : c.fn f = some fa
  e2 : c.K.lookup fa = some ⟨D.oc, D.od, .func D.data, D.osl⟩
  e3 : codeIn c.K D.cdv D.qual = true
  e4 : ckSs D.scope.names fn.body D.body = true
  e5 : D.scope.kind = .function
  e6 : D.scope.isCoroutine = false
  e7 : D.scope.isGenerator = false
  e8 : ∀ x ∈ D.scope.names, x.2 ≠ .cell
  e9 : ∀ p ∈ fn.params, D.scope.names.lookup (Str.ofString p) = some .local
  e10 : ∀ vals : List Value, vals.length ≤ fn.params.length → vals.length + (fn.dflts.drop (vals.length + fn.dflts.length - fn.params.length)).length = fn.params.length → ∃ extra : List Value,
      (∀ S, peek c.K S (bindArgs D.data ⟨vals, []⟩) = some ((fn.params.map Str.ofString).zip (vals ++ extra))) ∧
      ∀ α n h, c.K.In h → All2 (RepV α n h) (fn.dflts.drop (vals.length + fn.dflts.length - fn.params.length)) extra
/-- a function of the text: what the written part holds of it, and that its body is checked -/
structure FnOk (c : Cx) (f : String) (fn : Fn) : Prop where
  ex : ∃ fa D, FnIs c f fn fa D
  nodup : fn.params.Nodup

theorem FnOk.of {c : Cx} {f : String} {fn : Fn} {K : Frag} (fa : Addr) {oc : Value} {od : Option Addr} {osl : Array (Option Value)} {name qual : Str} {params : Arguments} {body : List Stmt} {scope : Scope} {dV kV doc pm : Value} {an : Option Addr} {cdv ct : Value} (hK : c.K = K) (e1 : c.fn f = some fa)
    (lk : K.lookup fa = some ⟨oc, od, .func (fnOf name qual params body scope dV kV doc pm an cdv ct), osl⟩) (cd : codeIn K cdv qual = true)
    (ck : ckSs scope.names fn.body body = true) (k1 : scope.kind = .function) (k2 : scope.isCoroutine = false) (k3 : scope.isGenerator = false) (k4 : ∀ x ∈ scope.names, x.2 ≠ .cell) (k5 : ∀ p ∈ fn.params, scope.names.lookup (Str.ofString p) = some .local)
    (bi : ∀ vals : List Value, vals.length ≤ fn.params.length → vals.length + (fn.dflts.drop (vals.length + fn.dflts.length - fn.params.length)).length = fn.params.length → ∃ extra : List Value,
      (∀ S, peek K S (bindArgs (fnOf name qual params body scope dV kV doc pm an cdv ct) ⟨vals, []⟩) = some ((fn.params.map Str.ofString).zip (vals ++ extra))) ∧
      ∀ α n h, K.In h → All2 (RepV α n h) (fn.dflts.drop (vals.length + fn.dflts.length - fn.params.length)) extra)
    (nd : fn.params.Nodup) : FnOk c f fn := by
  subst hK
  exact ⟨⟨fa, ⟨oc, od, osl, name, qual, params, body, scope, dV, kV, doc, pm, an, cdv, ct⟩, ⟨e1, lk, cd, ck, k1, k2, k3, k4, k5, bi⟩⟩, nd⟩

theorem lookup_mem {β : Type} : ∀ {l : List (Str × β)} {x : Str} {u : β}, (l.map (·.1)).Nodup → (x, u) ∈ l → l.lookup x = some u
  | (y, v) :: l, x, u, hn, hm => by
    rw [List.lookup_cons]
    rw [List.map_cons, List.nodup_cons] at hn
    rcases List.mem_cons.mp hm with h | h
    · cases h; simp
    · have : x ≠ y := by rintro rfl; exact hn.1 (List.mem_map.mpr ⟨(x, u), h, rfl⟩)
      have hb : (x == y) = false := by simpa using this
      rw [hb]
      exact lookup_mem hn.2 h

theorem ofList_zip {α : Nat → Addr} {n : Nat} {h : Heap} : ∀ {ps : List String} {vs : List C187.V} {us : List Value} {x : String} {W : C187.V}, All2 (RepV α n h) vs us → Env.ofList (ps.zip vs) x = some W → ∃ u, (Str.ofString x, u) ∈ (ps.map Str.ofString).zip us ∧ RepV α n h W u
  | [], vs, us, x, W, r, e => nso e
  | p :: ps, [], us, x, W, r, e => nso e
  | p :: ps, v :: vs, [], x, W, r, e => r.elim
  | p :: ps, v :: vs, u :: us, x, W, r, e => by
    have e : (if x = p then some v else Env.ofList (ps.zip vs) x) = some W := e
    by_cases hx : x = p
    · rw [if_pos hx] at e
      cases e
      subst hx
      exact ⟨u, List.mem_cons_self, r.1⟩
    · rw [if_neg hx] at e
      obtain ⟨u', hm, r'⟩ := ofList_zip r.2 e
      exact ⟨u', List.mem_cons_of_mem _ hm, r'⟩

theorem zip_keys : ∀ {ps : List String} {us : List Value}, ps.length = us.length → ((ps.map Str.ofString).zip us).map (·.1) = ps.map Str.ofString
  | [], [], _ => rfl
  | p :: ps, u :: us, h => by simp only [List.map_cons, List.zip_cons_cons, zip_keys (Nat.succ.inj h)]
  | [], _ :: _, h => by simp at h
  | _ :: _, [], h => by simp at h

theorem lookup_mem' {β : Type} : ∀ {l : List (Str × β)} {x : Str} {u : β}, l.lookup x = some u → (x, u) ∈ l
  | [], x, u, h => by simp at h
  | (y, v) :: l, x, u, h => by
    rw [List.lookup_cons] at h
    split at h
    · rename_i q
      cases h
      obtain rfl : x = y := by simpa using q
      exact List.mem_cons_self
    · exact List.mem_cons_of_mem _ (lookup_mem' h)
theorem nodup_ofString : ∀ {l : List String}, l.Nodup → (l.map Str.ofString).Nodup
  | [], _ => List.nodup_nil
  | x :: l, h => by
    rw [List.nodup_cons] at h
    rw [List.map_cons, List.nodup_cons]
    refine ⟨fun hm => ?_, nodup_ofString h.2⟩
    obtain ⟨y, hy, q⟩ := List.mem_map.mp hm
    exact h.1 (ofString_inj q ▸ hy)

open Classical in
/-- the addresses of what lives -/
noncomputable def lives (α : Nat → Addr) (σ : Sto) : List Addr := ((List.range (2 * σ.length)).filter fun i => decide (Live σ i)).map α
theorem mem_lives {α : Nat → Addr} {σ : Sto} {a : Addr} : a ∈ lives α σ ↔ ∃ i, Live σ i ∧ α i = a := by
  unfold lives
  rw [List.mem_map]
  constructor
  · rintro ⟨i, hi, rfl⟩
    exact ⟨i, by simpa using (List.mem_filter.mp hi).2, rfl⟩
  · rintro ⟨i, hi, rfl⟩
    exact ⟨i, List.mem_filter.mpr ⟨List.mem_range.mpr hi.lt, by simpa using hi⟩, rfl⟩

theorem Room.down {fd : FuncData} {L a : Addr} (r : Room A (d + 1)) : Room1 (A.deeper (callEnv fd L a)) d := by
  obtain ⟨h1, h2, h3⟩ := r
  refine ⟨h1, ?_, ?_⟩
  · show A.depth + 1 + 3 * d + 2 < recursionLimit
    lia
  · show A.units + 3 + 110 + 20 * d < cLine
    lia

theorem inv_fn {o : Option Fn} {F : Fn → Prop} (w : (match (motive := Option Fn → Prop) o with | some v => F v | none => False)) : ∃ v, o = some v ∧ F v := by
  cases o with
  | none => exact w.elim
  | some v => exact ⟨v, rfl, w⟩
theorem call_ok (Kg : KG c) (Pg : String → Option Fn) (FO : ∀ f fn, Pg f = some fn → FnOk c f fn) : ∀ (d : Nat) (P : List (Addr × Obj)), CallOk (c.pin P) d (callD Pg d)
  | 0, P => fun A h₀ env nm ρ α σ s f args vals Q E R a rm G hfa w => w.elim
  | d + 1, P => fun A h₀ env nm ρ α σ s f args vals Q E R a rm G hfa w S r k => by
    obtain ⟨fn, hf, w1, w2, w3⟩ := inv_fn (o := Pg f) w
    · skip
      obtain ⟨⟨fa, D, I⟩, nd⟩ := FO f fn hf
      obtain rfl : fa = a := Option.some.inj (I.e1.symm.trans hfa)
      have hlen := r.length
      obtain ⟨extra, b1, b2⟩ := I.e10 vals (by rw [← hlen]; exact w1) (by
        unfold Fn.full at w2; rw [List.length_append] at w2; rw [← hlen]; exact w2)
      obtain ⟨m, F, hv⟩ := S.fr
      have X : c.K.In s.heap := G.X.keeps F.keep
      have T : s.heap.NoLimit := by
        obtain ⟨_, _, _, _, T⟩ := G.T
        exact T.nolimit.keeps F.keep
      have rfull : All2 (RepV α σ.length s.heap) (fn.full args) (vals ++ extra) := by
        unfold Fn.full
        exact r.append (by rw [hlen]; exact b2 α σ.length s.heap X)
      have hl2 : fn.params.length = (vals ++ extra).length := by rw [← rfull.length, w2]
      have hkeys := zip_keys hl2
      refine codeAny_call_def (fd := D.data) (body := D.body) (binds := (fn.params.map Str.ofString).zip (vals ++ extra)) (by have := rm.2.1; lia) (X _ _ I.e2) rfl T (codeRec_of X I.e3) rfl (kp_binds X b1) I.e8 ?_ (fun h₁ hns hk₁ => ?_) I.e6 I.e7 I.e5
      · intro x hx
        have : x.1 ∈ fn.params.map Str.ofString := by rw [← hkeys]; exact List.mem_map_of_mem hx
        obtain ⟨p, hp, q⟩ := List.mem_map.mp this
        rw [← q]; exact I.e9 p hp
      · obtain ⟨g, hg⟩ : ∃ g, g = hideAll s.heap (lives α σ) := ⟨_, rfl⟩
        have gs : ∀ b o, g.get? b = some o → s.heap.get? b = some o := fun b o e => of_hideAll _ (hg ▸ e)
        have sg : ∀ b o, s.heap.get? b = some o → (∀ i, Live σ i → α i ≠ b) → g.get? b = some o := fun b o e n => by
          rw [hg]
          refine hideAll_get _ e fun hm => ?_
          obtain ⟨i, hi, q⟩ := mem_lives.mp hm
          exact n i hi q
        have gn : ∀ i, Live σ i → g.get? (α i) = none := fun i hi => by rw [hg]; exact hideAll_none _ (mem_lives.mpr ⟨i, hi, rfl⟩)
        have hg0 : ∀ b o, h₀.get? b = some o → g.get? b = some o := fun b o e => sg b o (F.keep b o e) fun i hi q => by
          have := (S.own i hi).1
          rw [q, e] at this; cases this
        have gsz : g.objs.size = s.heap.objs.size := by rw [hg]; exact hideAll_size _ _
        have GD : Gd c g := ⟨G.X.keeps hg0, let ⟨o, e⟩ := G.sys; ⟨o, hg0 _ _ e⟩, let ⟨p, l, mg, mb, T⟩ := G.T; ⟨p, l, mg, mb, T.keeps hg0⟩⟩
        have VE : EnvOk (callEnv (D.data) s.heap.objs.size fa) D.scope.names :=
          ⟨rfl, I.e5, rfl, rfl, fun x hx => absurd rfl (I.e8 (x, .cell) (lookup_mem' hx)), fun x y k hx => by cases hx⟩
        have hXt : Ext α σ.length s.heap α σ.length h₁ := Ext.of_keep hk₁
        have S1 : Sim (c.pin []) g (callEnv (D.data) s.heap.objs.size fa) α (Env.ofList (fn.params.zip (fn.full args))) σ h₁ := by
          refine ⟨⟨_, ⟨hns, fun b o e => hk₁ b o (gs b o e), Nat.le_of_eq gsz⟩, fun x W e => ?_⟩, fun l o e => RepO_pin ((S.objs l o e).tr hXt (List.getElem?_eq_some_iff.mp e).1 (fun _ o => hk₁ _ o) (fun _ o => hk₁ _ o)), fun i hi => ⟨gn i hi, ?_, fun x k e => (by cases e)⟩, S.inj, fun x k e => (by cases e), fun p hp => (by cases hp)⟩
          · obtain ⟨u, hm, ru⟩ := ofList_zip rfull e
            refine ⟨u, .inl ⟨?_, ?_⟩, ru.mono hXt⟩
            · obtain ⟨hx, _⟩ := List.of_mem_zip hm
              obtain ⟨p, hp, q⟩ := List.mem_map.mp hx
              show D.scope.names.lookup _ = _
              rw [← q]; exact I.e9 p hp
            · have hnd : (((fn.params.map Str.ofString).zip (vals ++ extra)).reverse.map (·.1)).Nodup := by
                rw [List.map_reverse, hkeys]
                exact (List.reverse_perm _).nodup_iff.mpr (nodup_ofString nd)
              exact lookup_mem hnd (List.mem_reverse.mpr hm)
          · obtain ⟨o, ho, _⟩ := S.old hi
            exact Nat.ne_of_lt (Heap.lt_size ho)
        refine evSs_sound Kg (fun P => call_ok Kg Pg FO d P) rm.down VE GD fn.body D.body I.e4 [] _ σ _ w3 α _ S1 _ _ fun α' fl ρ' σ' fl' s' q S' X' rf sm => ?_
        obtain ⟨mF, F', _⟩ := S'.fr
        have keep : ∀ b o, s.heap.get? b = some o → (∀ i, Live σ i → α i ≠ b) → s'.heap.get? b = some o := fun b o e n => F'.keep b o (sg b o e n)
        have hcell : ∀ y k, env.cells.lookup y = some k → ∀ o, s.heap.get? k = some o → s'.heap.get? k = some o := fun y k e o ho => keep k o ho fun i hi q => (S.own i hi).2.2 y k e q.symm
        have hne : ∀ b o, s.heap.get? b = some o → (∀ i, Live σ i → α i ≠ b) → ∀ i, Live σ' i → α' i ≠ b := fun b o e n i hi q => by
          have := (S'.own i hi).1
          rw [q, sg b o e n] at this; cases this
        have XX : Ext α σ.length s.heap α' σ'.length s'.heap := hXt.trans X'
        have SS : Sim (c.pin P) h₀ env α' ρ σ' s'.heap := by
          refine ⟨⟨m, ⟨F.ns.at' fun o e => keep _ o e fun i hi q => (S.own i hi).2.1 q, fun b o e => F'.keep b o (hg0 b o e), F.above⟩, fun x W e => ?_⟩, fun l o e => RepO_pin (S'.objs l o e), fun i hi => ⟨?_, ?_, fun x k e => ?_⟩, S'.inj, fun x k e => ?_, fun p hp => ?_⟩
          · obtain ⟨u, hu, ru⟩ := hv x W e
            exact ⟨u, hu.tr hcell, ru.mono XX⟩
          · cases q : h₀.get? (α' i) with
            | none => rfl
            | some o => have := (S'.own i hi).1; rw [hg0 _ _ q] at this; cases this
          · obtain ⟨oL, _, _, hL, _⟩ := F.ns
            exact hne _ oL hL (fun j hj => (S.own j hj).2.1) i hi
          · obtain ⟨_, _, v, o, ho, _⟩ := S.cell x k e
            exact Ne.symm (hne _ o ho (fun j hj q => (S.own j hj).2.2 x k e q.symm) i hi)
          · obtain ⟨a1, b1, v, dd⟩ := S.cell x k e
            exact ⟨a1, b1, v, IsCell_tr dd (hcell x k e)⟩
          · obtain ⟨a1, b1, c1, d1⟩ := S.pin p hp
            exact ⟨keep _ _ a1 d1, b1, c1, fun i hi => hne _ _ a1 d1 i hi⟩
        have sm' : SameS s s' := sm
        cases fl with
        | next =>
          cases fl' with
          | next => exact k α' .none σ' .none s' q SS XX rfl sm'
          | _ => exact rf.elim
        | cont => exact q.elim
        | ret W =>
          cases fl' with
          | ret v => exact k α' W σ' v s' q SS XX rf sm'
          | _ => exact rf.elim

end C187

namespace C187
open PySem

structure Mach where
  cp : Int
  e : Int
  b : Int
  hb : Int
  bb : Int
  heap : List V
  stack : List V
  trail : List V
  x : List V

structure Pre where
  o0 : O
  o1 : O
  o2 : O
  scr : List V
  pa : Int
  pp : Int
  o5 : O
  o6 : O
  o7 : O
  o8 : O
  o9 : O

noncomputable def codeV : List V := [.tup [.str (Str.ofString "call"), .int 0, .int 0], .tup [.str (Str.ofString "call"), .int 0, .int 1], .tup [.str (Str.ofString "call"), .int 0, .int 2], .tup [.str (Str.ofString "call"), .int 0, .int 3]]

noncomputable def areasO (M : Mach) : O := .inst "Areas" [("symbols", .loc 5), ("code", .loc 10), ("max_heap", .int 100000), ("occurs", .bool true), ("max_bits", .int 4096), ("store", .loc 12), ("x", .loc 16), ("p", .int 0), ("cp", .int M.cp), ("e", .int M.e), ("b", .int M.b), ("b0", .int (-1)),
  ("mode", .str (Str.ofString "read")), ("s", .int 0), ("guard", .tup [.int 5, .int 0]), ("roots", .loc 17), ("bags", .loc 18), ("collect_wanted", .bool false)]
noncomputable def storeO (M : Mach) : O := .inst "Store" [("symbols", .loc 5), ("max_heap", .int 100000), ("heap", .loc 13), ("stack", .loc 14), ("trail", .loc 15), ("hb", .int M.hb), ("bb", .int M.bb)]

/-- the store of the law: what stands, the machine, the rest -/
noncomputable def Wd (P : Pre) (M : Mach) (D : Sto) : Sto :=
  P.o0 :: P.o1 :: P.o2 :: .list P.scr :: .list [.int P.pa, .int P.pp, .loc 3] :: P.o5 :: P.o6 :: P.o7 :: P.o8 :: P.o9 :: .list codeV :: areasO M :: storeO M :: .list M.heap :: .list M.stack :: .list M.trail :: .list M.x :: .list [] :: .dI [] :: D

section
variable (P : Pre) (M : Mach) (D : Sto)
theorem Wd_get (i : Nat) : (Wd P M D)[i + 19]? = D[i]? := rfl
theorem Wd_set (i : Nat) (o : O) : (Wd P M D).set (i + 19) o = Wd P M (D.set i o) := rfl
end


section
variable (P : Pre) (M : Mach) (D : Sto) (Q : Ct)
end
section
variable (P : Pre) (M : Mach) (D : Sto) (Q : Sto → Prop) (i : Int)
end

end C187

namespace C187
open PySem

noncomputable def retQ (Q : Ct) : Cs := fun fl _ σ => match fl with
  | .ret v => Q v σ
  | .next => Q .none σ
  | .cont => False

theorem callD_of {f : String} {fn : Fn} {args : List V} {d : Nat} {σ : Sto} {Q : Ct} (hp : prog f = some fn) (hl : args.length = fn.params.length) (hd : fn.dflts = [])
    (h : evSs (callD prog d) fn.body (Env.ofList (fn.params.zip args)) σ (retQ Q)) : callD prog (d + 1) f args σ Q := by
  have hfull : fn.full args = args := by unfold Fn.full; rw [hd]; simp
  show (match prog f with | some fn => args.length ≤ fn.params.length ∧ _ | none => False)
  rw [hp]
  refine ⟨Nat.le_of_eq hl, by rw [hfull, hl], ?_⟩
  rw [hfull]
  exact h

theorem callC {f : String} {fn : Fn} {args : List V} {d : Nat} {σ : Sto} {Q : Ct} (hp : prog f = some fn) (hl : args.length = fn.params.length) (hd : fn.dflts = [])
    (h : ∀ C, C = callD prog d → evSs C fn.body (Env.ofList (fn.params.zip args)) σ (retQ Q)) : callD prog (d + 1) f args σ Q := callD_of hp hl hd (h _ rfl)
theorem useC {C C' : Calls} (e : C = C') {f : String} {args : List V} {σ : Sto} {Q : Ct} (h : C' f args σ Q) : C f args σ Q := by rw [e]; exact h
theorem ifT {b : Bool} {p q : Prop} (h : b = true) (k : p) : if b = true then p else q := by rw [if_pos h]; exact k
theorem ifF {b : Bool} {p q : Prop} (h : b = false) (k : q) : if b = true then p else q := by rw [if_neg (by rw [h]; exact Bool.false_ne_true)]; exact k
theorem som {o : Option V} {v : V} {F : V → Prop} (h : o = some v) (k : F v) : (match (motive := Option V → Prop) o with | some v => F v | none => False) := by rw [h]; exact k
theorem soi {o : Option V} {a : Int} {F : Int → Prop} (h : o = some (.int a)) (k : F a) : (match (motive := Option V → Prop) o with | some (.int a) => F a | _ => False) := by rw [h]; exact k
/-- the loop over a list -/
theorem fwl {o : Option O} {vs : List V} {F : List V → Prop} {G : List (Int × V) → Prop} (h : o = some (.list vs)) (k : F vs) : (match (motive := Option O → Prop) o with | some (.list vs) => F vs | some (.dI es) => G es | _ => False) := by rw [h]; exact k
theorem sqn {Q : Cs} {K : Env → Sto → Prop} {ρ : Env} {σ : Sto} (h : K ρ σ) : sq Q K .next ρ σ := h
theorem fwd {o : Option O} {es : List (Int × V)} {F : List V → Prop} {G : List (Int × V) → Prop} (h : o = some (.dI es)) (k : G es) : (match (motive := Option O → Prop) o with | some (.list vs) => F vs | some (.dI es) => G es | _ => False) := by rw [h]; exact k
theorem sod {o : Option O} {es : List (Int × V)} {G : List (Int × V) → Prop} (h : o = some (.dI es)) (k : G es) : (match (motive := Option O → Prop) o with | some (.dI es) => G es | _ => False) := by rw [h]; exact k
theorem soL {o : Option (List V)} {r : List V} {F : List V → Prop} (h : o = some r) (k : F r) : (match (motive := Option (List V) → Prop) o with | some r => F r | none => False) := by rw [h]; exact k
theorem sil {o : Option O} {vs : List V} {F : List V → Prop} {G1 : List (Int × V) → Prop} {G2 : List (Str × V) → Prop} {G3 : List (List Int × V) → Prop} (h : o = some (.list vs)) (k : F vs) :
    (match (motive := Option O → Prop) o with | some (.list vs) => F vs | some (.dI es) => G1 es | some (.dS es) => G2 es | some (.dP es) => G3 es | _ => False) := by rw [h]; exact k
theorem sid {o : Option O} {es : List (Int × V)} {F : List V → Prop} {G1 : List (Int × V) → Prop} {G2 : List (Str × V) → Prop} {G3 : List (List Int × V) → Prop} (h : o = some (.dI es)) (k : G1 es) :
    (match (motive := Option O → Prop) o with | some (.list vs) => F vs | some (.dI es) => G1 es | some (.dS es) => G2 es | some (.dP es) => G3 es | _ => False) := by rw [h]; exact k
theorem sl {o : Option O} {vs : List V} {F : List V → Prop} (h : o = some (.list vs)) (k : F vs) : (match (motive := Option O → Prop) o with | some (.list vs) => F vs | _ => False) := by rw [h]; exact k
theorem sm {o : Option O} {vs : List V} {F : List V → Prop} {G1 : String → List (String × V) → Prop} {G2 : List (Str × V) → Prop} {G3 : List (List Int × V) → Prop} (h : o = some (.list vs)) (k : F vs) :
    (match (motive := Option O → Prop) o with | some (.inst c fs) => G1 c fs | some (.list vs) => F vs | some (.dS es) => G2 es | some (.dP es) => G3 es | _ => False) := by rw [h]; exact k
theorem tt {p : Prop} [Decidable p] (h : p) : decide p = true := decide_eq_true h
theorem ff {p : Prop} [Decidable p] (h : ¬ p) : decide p = false := decide_eq_false h
theorem eqv_cell (t k t' k' : Int) : PyData.eqv (.tuple [.int t, .int k]) (.tuple [.int t', .int k']) = decide (t = t' ∧ k = k') := by
  show (decide (t = t') && (decide (k = k') && true)) = _
  by_cases h1 : t = t' <;> by_cases h2 : k = k' <;> simp [h1, h2]
theorem eqT {t k t' k' : Int} (h1 : t = t') (h2 : k = k') : PyData.eqv (.tuple [.int t, .int k]) (.tuple [.int t', .int k']) = true := (eqv_cell ..).trans (decide_eq_true ⟨h1, h2⟩)
theorem eqF {t k t' k' : Int} (h : ¬ (t = t' ∧ k = k')) : PyData.eqv (.tuple [.int t, .int k]) (.tuple [.int t', .int k']) = false := (eqv_cell ..).trans (decide_eq_false h)
theorem notF {b : Bool} (h : b = true) : (!b) = false := by rw [h]; rfl

noncomputable def cell (t k : Int) : V := .tup [.int t, .int k]
theorem cell_inj {t k t' k' : Int} (h : cell t k = cell t' k') : t = t' ∧ k = k' := by cases h; exact ⟨rfl, rfl⟩


/-- items -/
noncomputable def atL (vs : List V) (k : Int) (Q : V → Prop) : Prop := 0 ≤ k ∧ ∃ v, vs[k.toNat]? = some v ∧ Q v


end C187

namespace C187
open PySem

variable {P : Pre} {M : Mach} {D : Sto} {Q : Ct} {d : Nat}

noncomputable def put (s : List V) (i : Int) (v : V) : List V := if i.toNat < s.length then s.set i.toNat v else s ++ [v]
noncomputable def void : V := .tup [.int 5, .int 0]
theorem put_in {s : List V} {i : Int} (v : V) (h : i.toNat < s.length) : put s i v = s.set i.toNat v := if_pos h
theorem put_end {s : List V} {i : Int} (v : V) (h : ¬ i.toNat < s.length) : put s i v = s ++ [v] := if_neg h

theorem stack_put_ok {i : Int} {v : V} (h0 : 0 ≤ i) (hi : i ≤ M.stack.length) (hb : M.stack.length < big) (hQ : Q .none (Wd P { M with stack := put M.stack i v } D)) :
    callD prog (d + 1) "Cells.stack_put" [.loc 12, .int i, v] (Wd P M D) Q := by
  refine callC rfl rfl rfl fun C hC => ?_
  by_cases h : i < M.stack.length
  · rw [put_in v (by lia)] at hQ
    exact ifT (tt h) ⟨h0, by lia, hQ⟩
  · rw [put_end v (by lia)] at hQ
    exact ifF (ff h) ⟨1, ifF (ff (by lia)) ⟨hb, hQ⟩⟩

theorem pop_env {a c : Int} (h0 : 0 ≤ M.e) (h1 : M.stack[(M.e + 1).toNat]? = some (.int a)) (h2 : M.stack[M.e.toNat]? = some (.int c))
    (hQ : Q .none (Wd P { M with cp := a, e := c } D)) : callD prog (d + 1) "Areas.pop_environment" [.loc 11] (Wd P M D) Q :=
  callC rfl rfl rfl fun C hC => at_ok (by lia) h1 (at_ok h0 h2 hQ)

theorem top_ok (h1 : M.b < M.e → 1 ≤ M.cp ∧ M.cp ≤ 4 ∧ Q (.int (M.e + 2 + (M.cp - 1))) (Wd P M D)) (h2 : ¬ M.b < M.e → 0 ≤ M.b → ∃ n, M.stack[M.b.toNat]? = some (.int n) ∧ Q (.int (M.b + n + 8)) (Wd P M D))
    (h3 : ¬ M.b < M.e → ¬ 0 ≤ M.b → Q (.int 0) (Wd P M D)) : callD prog (d + 1) "Areas.top" [.loc 11] (Wd P M D) Q := by
  refine callC rfl rfl rfl fun C hC => ?_
  by_cases h : M.b < M.e
  · obtain ⟨q1, q2, q3⟩ := h1 h
    refine ifT (tt h) (at_ok (v := .tup [.str (Str.ofString "call"), .int 0, .int (M.cp - 1)]) (by lia) ?_ q3)
    have : M.cp = 1 ∨ M.cp = 2 ∨ M.cp = 3 ∨ M.cp = 4 := by lia
    rcases this with h | h | h | h <;> rw [h] <;> rfl
  · refine ifF (ff h) ?_
    by_cases h' : 0 ≤ M.b
    · obtain ⟨n, e, q⟩ := h2 h h'
      exact ifT (tt h') (at_ok h' e q)
    · exact ifF (ff h') (h3 h h')

theorem set_x_ok {k : Int} {v : V} (h0 : 0 ≤ k) (hk : k ≤ M.x.length) (hb : M.x.length < big) (hQ : Q .none (Wd P { M with x := put M.x k v } D)) :
    callD prog (d + 1) "Areas.set_x" [.loc 11, .int k, v] (Wd P M D) Q := by
  refine callC rfl rfl rfl fun C hC => ?_
  by_cases h : k < M.x.length
  · rw [put_in v (by lia)] at hQ
    exact ⟨1, ifF (ff (by lia)) ⟨h0, by lia, hQ⟩⟩
  · rw [put_end v (by lia)] at hQ
    have hl : (M.x ++ [void]).length = M.x.length + 1 := List.length_append
    have e : k.toNat = M.x.length := by lia
    have hs : (M.x ++ [void]).set k.toNat v = M.x ++ [v] := by rw [e, List.set_append_right _ _ (Nat.le_refl _), Nat.sub_self]; rfl
    refine ⟨2, ifT (tt (by lia)) ⟨hb, ifF (ff (show ¬ (((M.x ++ [void]).length : Int) ≤ k) by lia)) ⟨h0, show k.toNat < (M.x ++ [void]).length by lia, ?_⟩⟩⟩
    rw [← hs] at hQ
    exact hQ

theorem set_choice_neg {b : Int} (h : b < 0) (hQ : Q .none (Wd P { M with b := b, hb := 0, bb := 0 } D)) : callD prog (d + 1) "Areas.set_choice" [.loc 11, .int b] (Wd P M D) Q :=
  callC rfl rfl rfl fun C hC => ifT (tt h) hQ
theorem set_choice_pos {b n h : Int} (h0 : 0 ≤ b) (h1 : M.stack[b.toNat]? = some (.int n)) (h2 : 0 ≤ b + n + 6) (h3 : M.stack[(b + n + 6).toNat]? = some (.int h)) (hQ : Q .none (Wd P { M with b := b, hb := h, bb := b } D)) :
    callD prog (d + 1) "Areas.set_choice" [.loc 11, .int b] (Wd P M D) Q :=
  callC rfl rfl rfl fun C hC => ifF (ff (Int.not_lt.mpr h0)) (at_ok h0 h1 (at_ok h2 h3 hQ))

theorem choice_part_ok {n k : Int} {v : V} (h0 : 0 ≤ M.b) (h1 : M.stack[M.b.toNat]? = some (.int n)) (h2 : 0 ≤ M.b + n + k) (h3 : M.stack[(M.b + n + k).toNat]? = some v) (hQ : Q v (Wd P M D)) :
    callD prog (d + 1) "Areas.choice_part" [.loc 11, .int k] (Wd P M D) Q :=
  callC rfl rfl rfl fun C hC => at_ok h0 h1 (at_ok h2 h3 hQ)

theorem pop_choice_neg {n p : Int} (h0 : 0 ≤ M.b) (h1 : M.stack[M.b.toNat]? = some (.int n)) (h2 : 0 ≤ M.b + n + 3) (h3 : M.stack[(M.b + n + 3).toNat]? = some (.int p)) (h4 : p < 0) (hQ : Q .none (Wd P { M with b := p, hb := 0, bb := 0 } D)) :
    callD prog (d + 2) "Areas.pop_choice" [.loc 11] (Wd P M D) Q :=
  callC rfl rfl rfl fun C hC => useC hC (choice_part_ok h0 h1 h2 h3 (useC hC (set_choice_neg h4 hQ)))
theorem pop_choice_pos {n p n' h : Int} (h0 : 0 ≤ M.b) (h1 : M.stack[M.b.toNat]? = some (.int n)) (h2 : 0 ≤ M.b + n + 3) (h3 : M.stack[(M.b + n + 3).toNat]? = some (.int p)) (h4 : 0 ≤ p) (h5 : M.stack[p.toNat]? = some (.int n')) (h6 : 0 ≤ p + n' + 6) (h7 : M.stack[(p + n' + 6).toNat]? = some (.int h))
    (hQ : Q .none (Wd P { M with b := p, hb := h, bb := p } D)) : callD prog (d + 2) "Areas.pop_choice" [.loc 11] (Wd P M D) Q :=
  callC rfl rfl rfl fun C hC => useC hC (choice_part_ok h0 h1 h2 h3 (useC hC (set_choice_pos h4 h5 h6 h7 hQ)))
theorem cut_back_no {b : Int} (h : ¬ b < M.b) (hQ : Q .none (Wd P M D)) : callD prog (d + 2) "Areas.cut_back" [.loc 11, .int b] (Wd P M D) Q :=
  callC rfl rfl rfl fun C hC => ifF (ff h) hQ
theorem cut_back_neg {b : Int} (h : b < M.b) (h4 : b < 0) (hQ : Q .none (Wd P { M with b := b, hb := 0, bb := 0 } D)) : callD prog (d + 2) "Areas.cut_back" [.loc 11, .int b] (Wd P M D) Q :=
  callC rfl rfl rfl fun C hC => ifT (tt h) (useC hC (set_choice_neg h4 hQ))
theorem cut_back_pos {b n' h' : Int} (h : b < M.b) (h4 : 0 ≤ b) (h5 : M.stack[b.toNat]? = some (.int n')) (h6 : 0 ≤ b + n' + 6) (h7 : M.stack[(b + n' + 6).toNat]? = some (.int h')) (hQ : Q .none (Wd P { M with b := b, hb := h', bb := b } D)) :
    callD prog (d + 2) "Areas.cut_back" [.loc 11, .int b] (Wd P M D) Q :=
  callC rfl rfl rfl fun C hC => ifT (tt h) (useC hC (set_choice_pos h4 h5 h6 h7 hQ))
theorem set_alt_ok {n a : Int} (h0 : 0 ≤ M.b) (h1 : M.stack[M.b.toNat]? = some (.int n)) (h2 : 0 ≤ M.b + n + 4) (h3 : (M.b + n + 4).toNat < M.stack.length) (hQ : Q .none (Wd P { M with stack := M.stack.set (M.b + n + 4).toNat (.int a) } D)) :
    callD prog (d + 1) "Areas.set_alternative" [.loc 11, .int a] (Wd P M D) Q :=
  callC rfl rfl rfl fun C hC => at_ok h0 h1 ⟨h2, h3, hQ⟩

theorem mark_ok (hQ : Q (.int M.trail.length) (Wd P M D)) : callD prog (d + 1) "Cells.mark" [.loc 12] (Wd P M D) Q :=
  callC rfl rfl rfl fun C hC => hQ
theorem trim_ok {h : Int} (h0 : 0 ≤ h) (h1 : h ≤ M.heap.length) (hQ : Q .none (Wd P { M with heap := M.heap.take h.toNat } D)) : callD prog (d + 1) "Cells.trim" [.loc 12, .int h] (Wd P M D) Q :=
  callC rfl rfl rfl fun C hC => ⟨h0, h1, hQ⟩

/-- heap and stack -/
theorem push_ok {v : V} (h : M.heap.length < 100000) (hQ : Q (.int M.heap.length) (Wd P { M with heap := M.heap ++ [v] } D)) : callD prog (d + 1) "Cells.push" [.loc 12, v] (Wd P M D) Q :=
  callC rfl rfl rfl fun C hC => ifF (ff (show ¬ ((100000 : Int) ≤ (M.heap.length : Int)) by lia)) ⟨Nat.lt_trans h (by decide), hQ⟩
theorem new_var_ok (h : M.heap.length < 100000) (hQ : Q (cell 0 M.heap.length) (Wd P { M with heap := M.heap ++ [cell 0 M.heap.length] } D)) : callD prog (d + 2) "Cells.new_var" [.loc 12] (Wd P M D) Q :=
  callC rfl rfl rfl fun C hC => useC hC (push_ok h hQ)
theorem bind_heap {k : Int} {v : V} (h0 : 0 ≤ k) (h1 : k.toNat < M.heap.length) (hb : M.trail.length < big)
    (hQ : Q .none (Wd P { M with heap := M.heap.set k.toNat v, trail := if k < M.hb then M.trail ++ [.int k] else M.trail } D)) : callD prog (d + 1) "Cells.bind" [.loc 12, cell 0 k, v] (Wd P M D) Q := by
  refine callC rfl rfl rfl fun C hC => ⟨h0, h1, ?_⟩
  by_cases h : k < M.hb
  · rw [if_pos h] at hQ
    exact ifT (tt h) ⟨hb, hQ⟩
  · rw [if_neg h] at hQ
    exact ifF (ff h) hQ
theorem bind_stack {k : Int} {v : V} (h0 : 0 ≤ k) (h1 : k.toNat < M.stack.length) (hb : M.trail.length < big)
    (hQ : Q .none (Wd P { M with stack := M.stack.set k.toNat v, trail := if k < M.bb then M.trail ++ [.int (-1 - k)] else M.trail } D)) : callD prog (d + 1) "Cells.bind" [.loc 12, cell 1 k, v] (Wd P M D) Q := by
  refine callC rfl rfl rfl fun C hC => ⟨h0, h1, ?_⟩
  by_cases h : k < M.bb
  · rw [if_pos h] at hQ
    exact ifT (tt h) ⟨hb, hQ⟩
  · rw [if_neg h] at hQ
    exact ifF (ff h) hQ
/-- two of the heap: the younger to the older -/
theorem bind_pair_hh {j k : Int} (hne : j ≠ k) (h0 : 0 ≤ max j k) (h1 : (max j k).toNat < M.heap.length) (hb : M.trail.length < big)
    (hQ : Q .none (Wd P { M with heap := M.heap.set (max j k).toNat (cell 0 (min j k)), trail := if max j k < M.hb then M.trail ++ [.int (max j k)] else M.trail } D)) :
    callD prog (d + 2) "Cells.bind_pair" [.loc 12, cell 0 j, cell 0 k] (Wd P M D) Q := by
  refine callC rfl rfl rfl fun C hC => ifF (eqF fun h => hne h.2) ?_
  by_cases h : j < k
  · rw [show max j k = k from Int.max_eq_right (Int.le_of_lt h), show min j k = j from Int.min_eq_left (Int.le_of_lt h)] at *
    exact ifT (tt h) (useC hC (bind_heap h0 h1 hb hQ))
  · rw [show max j k = j from Int.max_eq_left (Int.not_lt.mp h), show min j k = k from Int.min_eq_right (Int.not_lt.mp h)] at *
    exact ifF (ff h) (useC hC (bind_heap h0 h1 hb hQ))
theorem bind_pair_hs {j k : Int} (h0 : 0 ≤ k) (h1 : k.toNat < M.stack.length) (hb : M.trail.length < big)
    (hQ : Q .none (Wd P { M with stack := M.stack.set k.toNat (cell 0 j), trail := if k < M.bb then M.trail ++ [.int (-1 - k)] else M.trail } D)) :
    callD prog (d + 2) "Cells.bind_pair" [.loc 12, cell 0 j, cell 1 k] (Wd P M D) Q :=
  callC rfl rfl rfl fun C hC => useC hC (bind_stack h0 h1 hb hQ)
theorem bind_pair_sh {j k : Int} (h0 : 0 ≤ k) (h1 : k.toNat < M.stack.length) (hb : M.trail.length < big)
    (hQ : Q .none (Wd P { M with stack := M.stack.set k.toNat (cell 0 j), trail := if k < M.bb then M.trail ++ [.int (-1 - k)] else M.trail } D)) :
    callD prog (d + 2) "Cells.bind_pair" [.loc 12, cell 1 k, cell 0 j] (Wd P M D) Q :=
  callC rfl rfl rfl fun C hC => useC hC (bind_stack h0 h1 hb hQ)

theorem slot_index_ok {k : Int} (hQ : Q (.int (M.e + 1 + k)) (Wd P M D)) : callD prog (d + 1) "slot_index" [.loc 11, .int k] (Wd P M D) Q :=
  callC rfl rfl rfl fun C hC => hQ

end C187

namespace C187
open PySem

variable {P : Pre} {M : Mach} {D : Sto} {Q : Ct} {d : Nat}

theorem Wd_last (P : Pre) (M : Mach) (D : Sto) (o : O) : (Wd P M (D ++ [o]))[D.length + 19]? = some o := by rw [Wd_get, List.getElem?_append_right (Nat.le_refl _), Nat.sub_self]; rfl
theorem set_last (D : Sto) (o o' : O) : (D ++ [o]).set D.length o' = D ++ [o'] := by rw [List.set_append_right _ _ (Nat.le_refl _), Nat.sub_self]; rfl
/-- down a chain of places -/
noncomputable def EPath (stk : List V) : Int → List Int → Prop
  | e, [] => e < 0
  | e, p :: r => e = p ∧ 0 ≤ e ∧ ∃ e', stk[e.toNat]? = some (.int e') ∧ EPath stk e' r
noncomputable def BPath (stk : List V) : Int → List Int → Prop
  | e, [] => e < 0
  | e, p :: r => e = p ∧ 0 ≤ e ∧ ∃ n e', stk[e.toNat]? = some (.int n) ∧ 0 ≤ e + n + 3 ∧ stk[(e + n + 3).toNat]? = some (.int e') ∧ BPath stk e' r

noncomputable def lc_env : X := .cmp .ge (.var "e") (.int 0)
noncomputable def lb_env : List S := [.expr (.meth (.var "found") "append" [(.var "e")]), .asg "e" (.item (.attr (.attr (.var "self") "store") "stack") (.var "e"))]
noncomputable def lc_ch : X := .cmp .ge (.var "b") (.int 0)
noncomputable def lb_ch : List S := [.expr (.meth (.var "found") "append" [(.var "b")]), .asg "b" (.item (.var "stack") (.bin .add (.bin .add (.var "b") (.item (.var "stack") (.var "b"))) (.glob "AT_PREVIOUS")))]
noncomputable def lc_in : X := .cmp .gt (.var "e") (.var "index")
noncomputable def lb_in : List S := [.asg "e" (.item (.attr (.attr (.var "self") "store") "stack") (.var "e"))]
noncomputable def lc_dr : X := .tru (.bool true)
noncomputable def lb_dr : List S := [.asg "tag" (.item (.var "cell") (.int 0)),
     .ite (.cmp .eq (.var "tag") (.glob "REF"))
      [.asg "found" (.item (.attr (.var "self") "heap") (.item (.var "cell") (.int 1)))]
      [.ite (.cmp .eq (.var "tag") (.glob "SRF"))
        [.asg "found" (.item (.attr (.var "self") "stack") (.item (.var "cell") (.int 1)))]
        [.ret (.var "cell")]],
     .ite (.cmp .eq (.var "found") (.var "cell"))
      [.ret (.var "cell")]
      [],
     .asg "cell" (.var "found")]

theorem app_cons {α : Type} {acc : List α} {a : α} {r : List α} : acc ++ [a] ++ r = acc ++ a :: r := by rw [List.append_assoc]; rfl
theorem acc_lt {α : Type} {acc : List α} {a : α} {n : Nat} (h : acc.length + (n + 1) < big) : (acc ++ [a]).length + n < big := by rw [List.length_append, List.length_singleton]; lia

theorem env_loop {C : Calls} {Q : Cs} : ∀ (ps : List Int) (acc : List V) (e : Int) (ρ : Env), ρ "e" = some (.int e) → ρ "found" = some (.loc (D.length + 19)) → ρ "self" = some (.loc 11) → EPath M.stack e ps → acc.length + ps.length < big →
    (∀ ρ', ρ' "found" = some (.loc (D.length + 19)) → Q .next ρ' (Wd P M (D ++ [.list (acc ++ ps.map .int)]))) →
    whileI (evT C lc_env) (evSs C lb_env) (ps.length + 1) ρ (Wd P M (D ++ [.list acc])) Q
  | [], acc, e, ρ, h1, h2, h3, hp, hb, hQ => som h1 (ifF (ff (Int.not_le.mpr hp)) (by simpa using hQ ρ h2))
  | p :: ps, acc, e, ρ, h1, h2, h3, hp, hb, hQ => by
    obtain ⟨rfl, h0, e', he, hp⟩ := hp
    refine som h1 (ifT (tt h0) (som h2 (sm (Wd_last ..) (som h1 (sl (Wd_last ..) ⟨Nat.lt_of_le_of_lt (Nat.le_add_right ..) hb, ?_⟩)))))
    rw [Wd_set, set_last]
    refine som h3 (som h1 (at_ok h0 he ?_))
    exact env_loop ps (acc ++ [.int e]) e' (ρ.set "e" (.int e')) rfl h2 h3 hp (acc_lt hb) fun ρ' h => by rw [app_cons]; exact hQ ρ' h

theorem environments_ok {ps : List Int} (hp : EPath M.stack M.e ps) (hb : ps.length < big) (hQ : Q (.loc (D.length + 19)) (Wd P M (D ++ [.list (ps.map .int)]))) : callD prog (d + 1) "Areas.environments" [.loc 11] (Wd P M D) Q :=
  callC rfl rfl rfl fun C hC => ⟨ps.length + 1, env_loop (C := C) ps [] M.e _ rfl rfl rfl hp (by rw [List.length_nil, Nat.zero_add]; exact hb) fun ρ' h => som h hQ⟩

theorem ch_loop {C : Calls} {Q : Cs} : ∀ (ps : List Int) (acc : List V) (e : Int) (ρ : Env), ρ "b" = some (.int e) → ρ "found" = some (.loc (D.length + 19)) → ρ "stack" = some (.loc 14) → BPath M.stack e ps → acc.length + ps.length < big →
    (∀ ρ', ρ' "found" = some (.loc (D.length + 19)) → Q .next ρ' (Wd P M (D ++ [.list (acc ++ ps.map .int)]))) →
    whileI (evT C lc_ch) (evSs C lb_ch) (ps.length + 1) ρ (Wd P M (D ++ [.list acc])) Q
  | [], acc, e, ρ, h1, h2, h3, hp, hb, hQ => som h1 (ifF (ff (Int.not_le.mpr hp)) (by simpa using hQ ρ h2))
  | p :: ps, acc, e, ρ, h1, h2, h3, hp, hb, hQ => by
    obtain ⟨rfl, h0, n, e', hn, hn0, he, hp⟩ := hp
    refine som h1 (ifT (tt h0) (som h2 (sm (Wd_last ..) (som h1 (sl (Wd_last ..) ⟨Nat.lt_of_le_of_lt (Nat.le_add_right ..) hb, ?_⟩)))))
    rw [Wd_set, set_last]
    refine som h3 (som h1 (som h3 (som h1 (at_ok h0 hn (at_ok hn0 he ?_)))))
    exact ch_loop ps (acc ++ [.int e]) e' (ρ.set "b" (.int e')) rfl h2 h3 hp (acc_lt hb) fun ρ' h => by rw [app_cons]; exact hQ ρ' h

theorem choices_ok {ps : List Int} (hp : BPath M.stack M.b ps) (hb : ps.length < big) (hQ : Q (.loc (D.length + 19)) (Wd P M (D ++ [.list (ps.map .int)]))) : callD prog (d + 1) "Areas.choices" [.loc 11] (Wd P M D) Q :=
  callC rfl rfl rfl fun C hC => ⟨ps.length + 1, ch_loop (C := C) ps [] M.b _ rfl rfl rfl hp (by rw [List.length_nil, Nat.zero_add]; exact hb) fun ρ' h => som h hQ⟩

theorem in_loop {C : Calls} {Q : Cs} {idx : Int} : ∀ (ps : List Int) (e : Int) (ρ : Env), ρ "e" = some (.int e) → ρ "index" = some (.int idx) → ρ "self" = some (.loc 11) → EPath M.stack e ps → ps.Pairwise (fun a b => b < a) → idx ∈ ps →
    (∀ ρ', ρ' "e" = some (.int idx) → ρ' "index" = some (.int idx) → Q .next ρ' (Wd P M D)) →
    whileI (evT C lc_in) (evSs C lb_in) (ps.length + 1) ρ (Wd P M D) Q
  | [], e, ρ, h1, h2, h3, hp, hd, hm, hQ => nomatch hm
  | p :: ps, e, ρ, h1, h2, h3, hp, hd, hm, hQ => by
    obtain ⟨rfl, h0, e', he, hp⟩ := hp
    rw [List.pairwise_cons] at hd
    by_cases h : e = idx
    · subst h
      exact som h1 (som h2 (ifF (ff (Int.lt_irrefl _)) (hQ ρ h1 h2)))
    · have hm' : idx ∈ ps := (List.mem_cons.mp hm).resolve_left fun q => h q.symm
      exact som h1 (som h2 (ifT (tt (hd.1 idx hm')) (som h3 (som h1 (at_ok h0 he (in_loop ps e' (ρ.set "e" (.int e')) rfl h2 h3 hp hd.2 hm' hQ))))))

theorem in_chain_ok {ps : List Int} {idx : Int} (hp : EPath M.stack M.e ps) (hd : ps.Pairwise (fun a b => b < a)) (hm : idx ∈ ps) (hQ : Q (.bool true) (Wd P M D)) : callD prog (d + 1) "Areas.in_chain" [.loc 11, .int idx] (Wd P M D) Q :=
  callC rfl rfl rfl fun C hC => ⟨ps.length + 1, in_loop (C := C) ps M.e _ rfl rfl rfl hp hd hm fun ρ' h1 h2 => som h1 (som h2 (by
    show Q (.bool (decide (idx = idx))) _
    rw [decide_eq_true rfl]
    exact hQ))⟩

/-- what a cell stands for in the end -/
inductive Dr (h s : List V) : Int → Int → V → Prop where
  | other {t k} : t ≠ 0 → t ≠ 1 → Dr h s t k (cell t k)
  | self0 {k} : 0 ≤ k → h[k.toNat]? = some (cell 0 k) → Dr h s 0 k (cell 0 k)
  | step0 {k t' k' r} : 0 ≤ k → h[k.toNat]? = some (cell t' k') → ¬ (t' = 0 ∧ k' = k) → Dr h s t' k' r → Dr h s 0 k r
  | self1 {k} : 0 ≤ k → s[k.toNat]? = some (cell 1 k) → Dr h s 1 k (cell 1 k)
  | step1 {k t' k' r} : 0 ≤ k → s[k.toNat]? = some (cell t' k') → ¬ (t' = 1 ∧ k' = k) → Dr h s t' k' r → Dr h s 1 k r

theorem dr_loop {C : Calls} {Q : Cs} {t k : Int} {r : V} (hd : Dr M.heap M.stack t k r) (hQ : ∀ ρ, Q (.ret r) ρ (Wd P M D)) : ∃ n, ∀ (ρ : Env), ρ "cell" = some (cell t k) → ρ "self" = some (.loc 12) →
    whileI (evT C lc_dr) (evSs C lb_dr) n ρ (Wd P M D) Q := by
  induction hd with
  | other h1 h2 => exact ⟨1, fun ρ e1 e2 => som e1 (ifF (ff h1) (ifF (ff h2) (som e1 (hQ _))))⟩
  | self0 h0 hh => exact ⟨1, fun ρ e1 e2 => som e1 (som e2 (som e1 (at_ok h0 hh (som e1 (ifT (eqT rfl rfl) (som e1 (hQ _)))))))⟩
  | step0 h0 hh hn _ ih =>
    obtain ⟨n, ih⟩ := ih hQ
    exact ⟨n + 1, fun ρ e1 e2 => som e1 (som e2 (som e1 (at_ok h0 hh (som e1 (ifF (eqF hn) (ih _ rfl e2))))))⟩
  | self1 h0 hh => exact ⟨1, fun ρ e1 e2 => som e1 (som e2 (som e1 (at_ok h0 hh (som e1 (ifT (eqT rfl rfl) (som e1 (hQ _)))))))⟩
  | step1 h0 hh hn _ ih =>
    obtain ⟨n, ih⟩ := ih hQ
    exact ⟨n + 1, fun ρ e1 e2 => som e1 (som e2 (som e1 (at_ok h0 hh (som e1 (ifF (eqF hn) (ih _ rfl e2))))))⟩

theorem deref_ok {t k : Int} {r : V} (hd : Dr M.heap M.stack t k r) (hQ : Q r (Wd P M D)) : callD prog (d + 1) "Cells.deref" [.loc 12, cell t k] (Wd P M D) Q := by
  obtain ⟨n, h⟩ := dr_loop (P := P) (M := M) (D := D) (C := callD prog d) (Q := sq (retQ Q) fun ρ σ => retQ Q .next ρ σ) hd (fun ρ => hQ)
  exact callD_of rfl rfl rfl ⟨n, h _ rfl rfl⟩

end C187

namespace C187
open PySem

variable {P : Pre} {M : Mach} {D : Sto} {Q : Ct} {d : Nat}

theorem len_snoc' {α : Type} {l : List α} {a : α} : (l ++ [a]).length = l.length + 1 := List.length_append
theorem put_nat {s : List V} {n : Nat} {v : V} (h : n ≤ s.length) : (put s (n : Int) v).length = max s.length (n + 1) := by
  unfold put
  by_cases q : n < s.length
  · rw [if_pos (show (n : Int).toNat < s.length from q), List.length_set, Nat.max_eq_left q]
  · rw [if_neg (show ¬ (n : Int).toNat < s.length from q), len_snoc', Nat.max_eq_right (Nat.le_succ_of_le (Nat.not_lt.mp q)), Nat.le_antisymm h (Nat.not_lt.mp q)]
theorem put_up {s : List V} {i : Int} {v : V} : (put s i v).length ≤ s.length + 1 := by
  unfold put
  split
  · rw [List.length_set]; exact Nat.le_succ _
  · rw [len_snoc']; exact Nat.le_refl _
theorem put_at {s : List V} {i : Int} {v : V} (h : i ≤ s.length) : i + 1 ≤ ((put s i v).length : Int) := by
  unfold put
  by_cases q : i.toNat < s.length
  · rw [if_pos q, List.length_set]; lia
  · rw [if_neg q, len_snoc']; exact Int.add_le_add_right h 1
theorem put_get {s : List V} {i : Int} {v : V} (h : i ≤ s.length) (j : Nat) : (put s i v)[j]? = if j = i.toNat then some v else s[j]? := by
  unfold put
  by_cases q : i.toNat < s.length
  · rw [if_pos q, List.getElem?_set]
    by_cases e : i.toNat = j
    · rw [if_pos e, if_pos q, if_pos e.symm]
    · rw [if_neg e, if_neg (fun x => e x.symm)]
  · have hi : i.toNat = s.length := Nat.le_antisymm (Int.toNat_le.mpr h) (Nat.not_lt.mp q)
    rw [if_neg q, List.getElem?_append, hi]
    by_cases e : j = s.length
    · rw [if_pos e, if_neg (e ▸ Nat.lt_irrefl _), e, Nat.sub_self]; rfl
    · rw [if_neg e]
      split
      · rfl
      · rename_i hn
        have hg : s.length + 1 ≤ j := Nat.lt_of_le_of_ne (Nat.not_lt.mp hn) (Ne.symm e)
        rw [List.getElem?_eq_none (Nat.sub_pos_of_lt hg), List.getElem?_eq_none (Nat.not_lt.mp hn)]

noncomputable def puts (s : List V) (p : Int) : List V → List V
  | [] => s
  | v :: r => puts (put s p v) (p + 1) r
theorem max_step (L n r : Nat) : max (max L (n + 1)) (n + 1 + r) = max L (n + (r + 1)) := by rw [Nat.max_assoc, Nat.max_eq_right (Nat.le_add_right (n + 1) r), Nat.add_right_comm, Nat.add_assoc]
theorem puts_nat : ∀ {vs : List V} {s : List V} {n : Nat}, n ≤ s.length → (puts s (n : Int) vs).length = max s.length (n + vs.length)
  | [], s, n, h => (Nat.max_eq_left h).symm
  | v :: r, s, n, h => by
    have hl := put_nat (v := v) h
    have := puts_nat (vs := r) (s := put s (n : Int) v) (n := n + 1) (hl ▸ Nat.le_max_right ..)
    rw [hl, max_step] at this
    exact this
theorem puts_length {vs : List V} {s : List V} {p : Int} (h0 : 0 ≤ p) (h : p ≤ s.length) : (puts s p vs).length = max s.length (p.toNat + vs.length) := by
  obtain ⟨n, rfl⟩ := Int.eq_ofNat_of_zero_le h0
  exact puts_nat (Int.ofNat_le.mp h)
theorem puts_up {vs : List V} {s : List V} {p : Int} (h0 : 0 ≤ p) (h : p ≤ s.length) : (puts s p vs).length ≤ s.length + vs.length := by
  obtain ⟨n, rfl⟩ := Int.eq_ofNat_of_zero_le h0
  have h := Int.ofNat_le.mp h
  rw [puts_nat h]
  exact Nat.max_le.mpr ⟨Nat.le_add_right .., Nat.add_le_add_right h _⟩
theorem puts_at {vs : List V} {s : List V} {p : Int} (h0 : 0 ≤ p) (h : p ≤ s.length) : p + vs.length ≤ ((puts s p vs).length : Int) := by
  obtain ⟨n, rfl⟩ := Int.eq_ofNat_of_zero_le h0
  rw [puts_nat (Int.ofNat_le.mp h)]
  exact Int.ofNat_le.mpr (Nat.le_max_right ..)
theorem putn_get : ∀ {vs : List V} {s : List V} {n : Nat}, n ≤ s.length → ∀ j : Nat, (puts s (n : Int) vs)[j]? = if n ≤ j ∧ j < n + vs.length then vs[j - n]? else s[j]?
  | [], s, n, h, j => (if_neg (fun q => Nat.lt_irrefl _ (Nat.lt_of_le_of_lt q.1 q.2))).symm
  | v :: r, s, n, h, j => by
    have hg := put_get (v := v) (Int.ofNat_le.mpr h) j
    have := putn_get (vs := r) (s := put s (n : Int) v) (n := n + 1) (put_nat (v := v) h ▸ Nat.le_max_right ..) j
    rw [hg, Int.toNat_natCast] at this
    refine Eq.trans this ?_
    rw [List.length_cons]
    by_cases e : j = n
    · rw [if_neg (fun q => Nat.not_succ_le_self n (Nat.le_trans q.1 (Nat.le_of_eq e))), if_pos e, if_pos ⟨Nat.le_of_eq e.symm, by rw [e]; exact Nat.lt_add_of_pos_right (Nat.succ_pos _)⟩, e, Nat.sub_self]; rfl
    · by_cases e2 : n ≤ j ∧ j < n + (r.length + 1)
      · have h1 : n + 1 ≤ j := Nat.lt_of_le_of_ne e2.1 (Ne.symm e)
        obtain ⟨k, rfl⟩ := Nat.exists_eq_add_of_le h1
        rw [if_pos e2, if_pos ⟨h1, Nat.lt_of_lt_of_eq e2.2 (Nat.add_right_comm n r.length 1)⟩, Nat.add_sub_cancel_left, Nat.add_assoc, Nat.add_sub_cancel_left, Nat.add_comm 1 k]; rfl
      · rw [if_neg e2, if_neg (fun q => e2 ⟨Nat.le_of_succ_le q.1, Nat.lt_of_lt_of_eq q.2 (Nat.add_right_comm n 1 r.length)⟩), if_neg e]
theorem puts_get {vs : List V} {s : List V} {p : Int} (h0 : 0 ≤ p) (h : p ≤ s.length) (j : Nat) : (puts s p vs)[j]? = if p.toNat ≤ j ∧ j < p.toNat + vs.length then vs[j - p.toNat]? else s[j]? := by
  obtain ⟨n, rfl⟩ := Int.eq_ofNat_of_zero_le h0
  exact putn_get (Int.ofNat_le.mp h) j
theorem puts_append : ∀ {vs us : List V} {s : List V} {p : Int}, puts s p (vs ++ us) = puts (puts s p vs) (p + vs.length) us
  | [], us, s, p => congrArg (puts s · us) (Int.add_zero p).symm
  | v :: r, us, s, p => (puts_append (vs := r) (us := us) (s := put s p v) (p := p + 1)).trans (congrArg (puts (puts (put s p v) (p + 1) r) · us) (by rw [List.length_cons, Int.natCast_succ, Int.add_assoc, Int.add_comm 1]))

/-- where the next thing is laid -/
structure TopIs (M : Mach) (p : Int) : Prop where
  env : M.b < M.e → 1 ≤ M.cp ∧ M.cp ≤ 4 ∧ p = M.e + 2 + (M.cp - 1)
  ch : ¬ M.b < M.e → 0 ≤ M.b → ∃ n, M.stack[M.b.toNat]? = some (.int n) ∧ p = M.b + n + 8
  zero : ¬ M.b < M.e → ¬ 0 ≤ M.b → p = 0
theorem TopIs.ok {p : Int} (T : TopIs M p) (hQ : Q (.int p) (Wd P M D)) : callD prog (d + 1) "Areas.top" [.loc 11] (Wd P M D) Q :=
  top_ok (fun h => let ⟨a, b, e⟩ := T.env h; ⟨a, b, e ▸ hQ⟩) (fun h h' => let ⟨n, a, e⟩ := T.ch h h'; ⟨n, a, e ▸ hQ⟩) (fun h h' => T.zero h h' ▸ hQ)

/-- the loop that lays the empty slots -/
noncomputable def lb_void : List S := [.expr (.meth (.var "store") "stack_put" [(.bin .add (.bin .add (.var "place") (.int 2)) (.var "number")), (.glob "VOID")])]
theorem void_loop {C : Calls} (hC : C = callD prog (d + 1)) {Q : Cs} {p : Int} (hp : 0 ≤ p) : ∀ (n i : Nat) (M : Mach) (ρ : Env), ρ "place" = some (.int p) → ρ "store" = some (.loc 12) → ρ "self" = some (.loc 11) → p + 2 + i ≤ M.stack.length → M.stack.length + n < big →
    (∀ ρ', ρ' "place" = some (.int p) → ρ' "self" = some (.loc 11) → Q .next ρ' (Wd P { M with stack := puts M.stack (p + 2 + i) (List.replicate n void) } D)) →
    forV "number" (evSs C lb_void) ((List.range' i n).map fun (i : Nat) => V.int (0 + (i : Int))) ρ (Wd P M D) Q
  | 0, i, M, ρ, h1, h2, h3, h4, h5, hQ => hQ ρ h1 h3
  | n + 1, i, M, ρ, h1, h2, h3, h4, h5, hQ => by
    refine som h2 (som h1 (useC hC (stack_put_ok (M := M) (i := p + 2 + (0 + (i : Int))) (by lia) (by lia) (by lia) ?_)))
    rw [Int.zero_add]
    have e1 : p + 2 + ((i + 1 : Nat) : Int) = p + 2 + i + 1 := (Int.add_assoc (p + 2) i 1).symm
    refine void_loop hC hp n (i + 1) { M with stack := put M.stack (p + 2 + i) void } _ h1 h2 h3 (by rw [e1]; exact put_at h4) (Nat.lt_of_le_of_lt (Nat.add_le_add_right put_up n) (by rw [Nat.add_right_comm]; exact h5)) fun ρ' q1 q2 => ?_
    have := hQ ρ' q1 q2
    rw [e1]
    exact this

theorem range_w (w : Nat) : rangeVs 0 (w : Int) = (List.range' 0 w).map fun (i : Nat) => V.int (0 + (i : Int)) := by
  unfold rangeVs
  rw [show ((w : Int) - 0).toNat = w by lia, List.range_eq_range']
theorem forW_w {x : String} {w : Nat} {B : Env → Sto → Cs → Prop} {ρ : Env} {σ : Sto} {Q : Cs} (hb : w < big) (h : forV x B ((List.range' 0 w).map fun (i : Nat) => V.int (0 + (i : Int))) ρ σ Q) : forW x (.rng 0 w) B ρ σ Q := by
  refine ⟨by decide, by decide, by lia, by unfold big at hb; lia, ?_⟩
  rw [range_w]
  exact h

theorem push_env_ok {p : Int} {w : Nat} (T : TopIs M p) (h0 : 0 ≤ p) (h1 : p ≤ M.stack.length) (hb : M.stack.length + w + 8 < big)
    (hQ : Q .none (Wd P { M with e := p, stack := puts M.stack p (.int M.e :: .int M.cp :: List.replicate w void) } D)) :
    callD prog (d + 2) "Areas.push_environment" [.loc 11, .int w] (Wd P M D) Q := by
  refine callC rfl rfl rfl fun C hC => useC hC (T.ok (useC hC (stack_put_ok (M := M) h0 h1 (by lia) ?_)))
  have a1 := put_at (v := .int M.e) h1
  have a2 := put_at (v := .int M.cp) a1
  have u1 := put_up (s := M.stack) (i := p) (v := .int M.e)
  have u2 := put_up (s := put M.stack p (.int M.e)) (i := p + 1) (v := .int M.cp)
  refine useC hC (stack_put_ok (M := { M with stack := put M.stack p (.int M.e) }) (i := p + 1) (Int.le_add_one h0) a1 (show (put M.stack p (.int M.e)).length < big by lia) ?_)
  refine forW_w (x := "number") (B := evSs C lb_void) (by lia) (void_loop hC h0 w 0 { M with stack := put (put M.stack p (.int M.e)) (p + 1) (.int M.cp) } _ rfl rfl rfl (by rw [show p + 2 + ((0 : Nat) : Int) = p + 1 + 1 by lia]; exact a2) (show (put (put M.stack p (.int M.e)) (p + 1) (.int M.cp)).length + w < big by lia) fun ρ' q1 q2 => som q1 (som q2 ?_))
  rw [puts, puts, show p + 1 + 1 = p + 2 from Int.add_assoc p 1 1] at hQ
  rw [show p + 2 + ((0 : Nat) : Int) = p + 2 from Int.add_zero _]
  exact hQ

/-- the loop that lays the row -/
noncomputable def lb_row : List S := [.aug "at" .add (.int 1), .expr (.meth (.var "store") "stack_put" [(.var "at"), (.var "cell")])]
theorem done_len {α : Type} (done : List α) (v : α) (p : Int) : p + ((done ++ [v]).length : Int) = p + done.length + 1 := by rw [List.length_append, List.length_singleton]; lia
theorem get_done {α : Type} (done rest : List α) (v : α) : (done ++ v :: rest)[done.length]? = some v := by rw [List.getElem?_append_right (Nat.le_refl _), Nat.sub_self]; rfl
theorem row_loop {C : Calls} (hC : C = callD prog (d + 1)) {Q : Cs} {p : Int} {l : Nat} {alt : V} (hp : 0 ≤ p) : ∀ (rest done : List V) (M : Mach) (ρ : Env), (Wd P M D)[l + 19]? = some (.list (done ++ rest)) → ρ "at" = some (.int (p + done.length)) → ρ "place" = some (.int p) → ρ "store" = some (.loc 12) → ρ "self" = some (.loc 11) → ρ "alternative" = some alt →
    p + done.length + 1 ≤ M.stack.length → M.stack.length + rest.length < big →
    (∀ ρ', ρ' "at" = some (.int (p + done.length + rest.length)) → ρ' "place" = some (.int p) → ρ' "store" = some (.loc 12) → ρ' "self" = some (.loc 11) → ρ' "alternative" = some alt → Q .next ρ' (Wd P { M with stack := puts M.stack (p + done.length + 1) rest } D)) →
    forL "cell" (evSs C lb_row) (l + 19) (rest.length + 1) done.length ρ (Wd P M D) Q
  | [], done, M, ρ, hl, h1, h2, h3, h4, h5, h6, h7, hQ => by
    refine sl hl ?_
    rw [List.append_nil, List.getElem?_eq_none (Nat.le_refl _)]
    exact hQ ρ (h1.trans (by rw [List.length_nil]; exact congrArg (fun x => some (V.int x)) (Int.add_zero _).symm)) h2 h3 h4 h5
  | v :: rest, done, M, ρ, hl, h1, h2, h3, h4, h5, h6, h7, hQ => by
    rw [List.length_cons] at h7
    refine sl hl ?_
    rw [get_done]
    refine soi h1 (som h3 (useC hC (stack_put_ok (M := M) (i := p + done.length + 1) (by lia) h6 (by lia) ?_)))
    have hat := put_at (v := v) h6
    have hup := put_up (s := M.stack) (i := p + done.length + 1) (v := v)
    have e2 : p + ((done ++ [v]).length : Int) = p + done.length + 1 := done_len ..
    have e1 : (done ++ [v]).length = done.length + 1 := List.length_append
    refine (e1 ▸ row_loop hC (alt := alt) hp rest (done ++ [v]) { M with stack := put M.stack (p + done.length + 1) v } ((ρ.set "cell" v).set "at" (.int (p + done.length + 1))) (hl.trans (by rw [app_cons])) (by rw [e2]; rfl) h2 h3 h4 h5 (by rw [e2]; show p + done.length + 1 + 1 ≤ ((put M.stack (p + done.length + 1) v).length : Int); lia) (show (put M.stack (p + done.length + 1) v).length + rest.length < big by lia) fun ρ' q1 q2 q3 q4 q5 => ?_ : forL "cell" (evSs C lb_row) (l + 19) (rest.length + 1) (done.length + 1) _ _ _)
    rw [e2] at q1 ⊢
    refine hQ ρ' (q1.trans ?_) q2 q3 q4 q5
    rw [List.length_cons, show p + done.length + ((rest.length + 1 : Nat) : Int) = p + done.length + 1 + rest.length by lia]

/-- what a choice lays -/
noncomputable def record (M : Mach) (row : List V) (alt : Int) : List V := .int row.length :: (row ++ [.int M.e, .int M.cp, .int M.b, .int alt, .int M.trail.length, .int M.heap.length, .int (-1)])

theorem put_l {s : List V} {p : Int} {n : V} {row l : List V} {v : V} {k : Int} (h0 : 0 ≤ p) (h1 : p ≤ s.length) (hb : s.length + row.length + 20 < big) (hl : l.length ≤ 8) (hk : (l.length : Int) + 1 = k)
    (hQ : Q .none (Wd P { M with stack := puts s p (n :: (row ++ (l ++ [v]))) } D)) : callD prog (d + 1) "Cells.stack_put" [.loc 12, .int (p + row.length + k), v] (Wd P { M with stack := puts s p (n :: (row ++ l)) } D) Q := by
  have e1 : (n :: (row ++ l)).length = row.length + l.length + 1 := by rw [List.length_cons, List.length_append]
  have hat := puts_at (vs := n :: (row ++ l)) h0 h1
  have hup := puts_up (vs := n :: (row ++ l)) h0 h1
  have e3 : p + row.length + k = p + ((n :: (row ++ l)).length : Int) := by lia
  rw [← e3] at hat
  refine stack_put_ok (M := { M with stack := puts s p (n :: (row ++ l)) }) (by lia) hat (Nat.lt_of_le_of_lt hup (by lia)) ?_
  have e4 : put (puts s p (n :: (row ++ l))) (p + row.length + k) v = puts s p (n :: (row ++ (l ++ [v]))) := by
    rw [e3]
    exact (puts_append (vs := n :: (row ++ l)) (us := [v])).symm.trans (by rw [List.cons_append, List.append_assoc])
  rw [e4]
  exact hQ

theorem record_get {M : Mach} {row : List V} {alt p : Int} {s : List V} (h0 : 0 ≤ p) (h1 : p ≤ s.length) : (puts s p (record M row alt))[p.toNat]? = some (.int row.length) ∧ (puts s p (record M row alt))[(p + row.length + 6).toNat]? = some (.int M.heap.length) := by
  obtain ⟨n, rfl⟩ := Int.eq_ofNat_of_zero_le h0
  have hrl : (record M row alt).length = row.length + 8 := by unfold record; rw [List.length_cons, List.length_append]; rfl
  have hg := putn_get (vs := record M row alt) (Int.ofNat_le.mp h1)
  rw [hrl] at hg
  constructor
  · exact (hg n).trans ((if_pos ⟨Nat.le_refl _, Nat.lt_add_of_pos_right (Nat.succ_pos _)⟩).trans (by rw [Nat.sub_self]; rfl))
  · refine (hg (n + row.length + 6)).trans ((if_pos ⟨by lia, by lia⟩).trans ?_)
    rw [show n + row.length + 6 - n = row.length + 5 + 1 by lia]
    unfold record
    rw [List.getElem?_cons_succ, List.getElem?_append_right (Nat.le_add_right ..), Nat.add_sub_cancel_left]
    rfl

theorem push_choice_ok {p alt : Int} {l : Nat} {row : List V} (T : TopIs M p) (h0 : 0 ≤ p) (h1 : p ≤ M.stack.length) (hb : M.stack.length + row.length + 20 < big) (hl : (Wd P M D)[l + 19]? = some (.list row))
    (hQ : Q .none (Wd P { M with b := p, hb := M.heap.length, bb := p, stack := puts M.stack p (record M row alt) } D)) :
    callD prog (d + 2) "Areas.push_choice" [.loc 11, .loc (l + 19), .int alt] (Wd P M D) Q := by
  have hat := put_at (v := .int row.length) h1
  have hup := put_up (s := M.stack) (i := p) (v := .int row.length)
  refine callC rfl rfl rfl fun C hC => useC hC (T.ok (sl hl (useC hC (stack_put_ok (M := M) h0 h1 (by lia) (fwl hl ⟨row.length + 1, ?_⟩)))))
  refine row_loop (C := C) hC (alt := .int alt) h0 row [] { M with stack := put M.stack p (.int row.length) } _ hl (by rw [List.length_nil]; exact congrArg (fun x => some (V.int x)) (Int.add_zero _).symm) rfl rfl rfl rfl (show p + ((0 : Nat) : Int) + 1 ≤ ((put M.stack p (.int row.length)).length : Int) by lia) (show (put M.stack p (.int row.length)).length + row.length < big by lia) fun ρ' q1 q2 q3 q4 q5 => ?_
  rw [show p + (([] : List V).length : Int) = p from Int.add_zero _] at q1 ⊢
  have hst : puts (put M.stack p (.int row.length)) (p + 1) row = puts M.stack p (.int row.length :: (row ++ [])) := by rw [List.append_nil]; rfl
  rw [hst]
  dsimp only
  have hr := record_get (M := M) (row := row) (alt := alt) h0 h1
  refine som q3 (som q1 (som q4 (useC hC (put_l (M := M) h0 h1 hb (Nat.le_of_ble_eq_true rfl) rfl ?_))))
  refine som q3 (som q1 (som q4 (useC hC (put_l (M := M) h0 h1 hb (Nat.le_of_ble_eq_true rfl) rfl ?_))))
  refine som q3 (som q1 (som q4 (useC hC (put_l (M := M) h0 h1 hb (Nat.le_of_ble_eq_true rfl) rfl ?_))))
  refine som q3 (som q1 (som q5 (useC hC (put_l (M := M) h0 h1 hb (Nat.le_of_ble_eq_true rfl) rfl ?_))))
  refine som q3 (som q1 (som q3 (useC hC (mark_ok (M := { M with stack := _ }) (useC hC (put_l (M := M) h0 h1 hb (Nat.le_of_ble_eq_true rfl) rfl ?_))))))
  refine som q3 (som q1 (som q3 (useC hC (put_l (M := M) h0 h1 hb (Nat.le_of_ble_eq_true rfl) rfl ?_))))
  refine som q3 (som q1 (som q4 (useC hC (put_l (M := M) h0 h1 hb (Nat.le_of_ble_eq_true rfl) rfl ?_))))
  exact som q4 (som q2 (useC hC (set_choice_pos (M := { M with stack := puts M.stack p (record M row alt) }) h0 hr.1 (by lia) hr.2 hQ)))

end C187

namespace C187
open PySem

variable {P : Pre} {M : Mach} {D : Sto} {Q : Ct} {d : Nat}

noncomputable def undoH (h : List V) (es : List Int) : List V := es.foldr (fun e h => if 0 ≤ e then h.set e.toNat (cell 0 e) else h) h
noncomputable def undoS (s : List V) (es : List Int) : List V := es.foldr (fun e s => if 0 ≤ e then s else s.set (-1 - e).toNat (cell 1 (-1 - e))) s

theorem undoH_length (h : List V) : ∀ (es : List Int), (undoH h es).length = h.length
  | [] => rfl
  | e :: es => by
    have := undoH_length h es
    unfold undoH at this ⊢
    rw [List.foldr_cons]
    split
    · rw [List.length_set, this]
    · exact this
theorem undoS_length (h : List V) : ∀ (es : List Int), (undoS h es).length = h.length
  | [] => rfl
  | e :: es => by
    have := undoS_length h es
    unfold undoS at this ⊢
    rw [List.foldr_cons]
    split
    · exact this
    · rw [List.length_set, this]
theorem undoH_snoc (h : List V) (es : List Int) (e : Int) : undoH h (es ++ [e]) = undoH (if 0 ≤ e then h.set e.toNat (cell 0 e) else h) es := by
  unfold undoH; rw [List.foldr_append]; rfl
theorem undoS_snoc (h : List V) (es : List Int) (e : Int) : undoS h (es ++ [e]) = undoS (if 0 ≤ e then h else h.set (-1 - e).toNat (cell 1 (-1 - e))) es := by
  unfold undoS; rw [List.foldr_append]; rfl

theorem undoH_get (h : List V) (j : Nat) : ∀ (es : List Int), (∀ e ∈ es, 0 ≤ e → e.toNat < h.length) → (undoH h es)[j]? = if ((j : Int) ∈ es) then some (cell 0 j) else h[j]?
  | [], _ => by simp [undoH]
  | e :: es, hv => by
    have ih := undoH_get h j es fun e he => hv e (List.mem_cons_of_mem _ he)
    have hl := undoH_length h es
    unfold undoH at ih hl ⊢
    rw [List.foldr_cons]
    by_cases h0 : 0 ≤ e
    · rw [if_pos h0, List.getElem?_set, ih]
      have := hv e List.mem_cons_self h0
      by_cases q : e.toNat = j
      · have : e = (j : Int) := by lia
        rw [if_pos q, if_pos (by lia), if_pos (by rw [this]; exact List.mem_cons_self), this]
      · rw [if_neg q]
        have hne : (j : Int) ≠ e := by lia
        simp [hne]
    · rw [if_neg h0, ih]
      have hne : (j : Int) ≠ e := by lia
      simp [hne]
theorem undoS_get (h : List V) (j : Nat) : ∀ (es : List Int), (∀ e ∈ es, e < 0 → (-1 - e).toNat < h.length) → (undoS h es)[j]? = if ((-1 - (j : Int)) ∈ es) then some (cell 1 j) else h[j]?
  | [], _ => by simp [undoS]
  | e :: es, hv => by
    have ih := undoS_get h j es fun e he => hv e (List.mem_cons_of_mem _ he)
    have hl := undoS_length h es
    unfold undoS at ih hl ⊢
    rw [List.foldr_cons]
    by_cases h0 : 0 ≤ e
    · rw [if_pos h0, ih]
      have hne : -1 - (j : Int) ≠ e := by lia
      simp [hne]
    · rw [if_neg h0, List.getElem?_set, ih]
      have := hv e List.mem_cons_self (by lia)
      by_cases q : (-1 - e).toNat = j
      · have he : e = -1 - (j : Int) := by lia
        rw [if_pos q, if_pos (by lia), if_pos (by rw [he]; exact List.mem_cons_self)]
        rw [show -1 - e = (j : Int) by lia]
      · rw [if_neg q]
        have hne : -1 - (j : Int) ≠ e := by lia
        simp [hne]

noncomputable def lc_undo : X := .cmp .gt (.call "len" [(.attr (.var "self") "trail")]) (.var "mark")
noncomputable def lb_undo : List S := [.asg "entry" (.meth (.attr (.var "self") "trail") "pop" []),
     .ite (.cmp .ge (.var "entry") (.int 0))
      [.asgItem (.attr (.var "self") "heap") (.var "entry") (.tup [(.glob "REF"), (.var "entry")])]
      [.asg "slot" (.bin .sub (.neg (.int 1)) (.var "entry")),
       .asgItem (.attr (.var "self") "stack") (.var "slot") (.tup [(.glob "SRF"), (.var "slot")])]]

theorem undo_loop {C : Calls} {Q : Cs} {tr : List V} : ∀ (n : Nat) (es : List Int) (M : Mach) (ρ : Env), es.length = n → ρ "self" = some (.loc 12) → ρ "mark" = some (.int tr.length) → M.trail = tr ++ es.map .int →
    (∀ e ∈ es, (0 ≤ e → e.toNat < M.heap.length) ∧ (e < 0 → (-1 - e).toNat < M.stack.length)) →
    (∀ ρ', Q .next ρ' (Wd P { M with heap := undoH M.heap es, stack := undoS M.stack es, trail := tr } D)) →
    whileI (evT C lc_undo) (evSs C lb_undo) (n + 1) ρ (Wd P M D) Q
  | 0, es, M, ρ, hn, h1, h2, ht, hv, hQ => by
    obtain rfl : es = [] := List.eq_nil_of_length_eq_zero hn
    have ht' : M.trail = tr := ht.trans (List.append_nil _)
    refine som h1 (som h2 (ifF (ff (by rw [ht']; exact Int.lt_irrefl _)) ?_))
    have := hQ ρ
    rw [← ht'] at this
    exact this
  | n + 1, es, M, ρ, hn, h1, h2, ht, hv, hQ => by
    rcases List.eq_nil_or_concat es with rfl | ⟨es', e, rfl⟩
    · exact nomatch hn
    · rw [List.concat_eq_append] at *
      have hn' : es'.length = n := by rw [List.length_append] at hn; exact Nat.succ.inj hn
      have hlen : M.trail.length = tr.length + (es'.length + 1) := by rw [ht, List.length_append, List.length_map, List.length_append]; rfl
      have hv1 := hv e (List.mem_append_right _ List.mem_cons_self)
      have hdrop : M.trail = (tr ++ es'.map .int) ++ [.int e] := by rw [ht, List.map_append, ← List.append_assoc]; rfl
      have hlast : M.trail.getLast? = some (.int e) := by rw [hdrop]; exact List.getLast?_concat
      have hdrop' : M.trail.dropLast = tr ++ es'.map .int := by rw [hdrop]; exact List.dropLast_concat
      refine som h1 (som h2 (ifT (tt (show (tr.length : Int) < (M.trail.length : Int) by lia)) (som h1 (som hlast ?_))))
      by_cases h0 : 0 ≤ e
      · refine ifT (tt h0) (som h1 ⟨h0, hv1.1 h0, ?_⟩)
        refine undo_loop n es' { M with heap := M.heap.set e.toNat (cell 0 e), trail := M.trail.dropLast } (ρ.set "entry" (.int e)) hn' h1 h2 hdrop' (fun e' he' => ⟨fun q => by rw [List.length_set]; exact (hv e' (List.mem_append_left _ he')).1 q, (hv e' (List.mem_append_left _ he')).2⟩) fun ρ' => ?_
        have := hQ ρ'
        rw [undoH_snoc, undoS_snoc, if_pos h0, if_pos h0] at this
        exact this
      · refine ifF (ff h0) (som h1 ⟨show 0 ≤ -1 - e by lia, hv1.2 (Int.not_le.mp h0), ?_⟩)
        refine undo_loop n es' { M with stack := M.stack.set (-1 - e).toNat (cell 1 (-1 - e)), trail := M.trail.dropLast } ((ρ.set "entry" (.int e)).set "slot" (.int (-1 - e))) hn' h1 h2 hdrop' (fun e' he' => ⟨(hv e' (List.mem_append_left _ he')).1, fun q => by rw [List.length_set]; exact (hv e' (List.mem_append_left _ he')).2 q⟩) fun ρ' => ?_
        have := hQ ρ'
        rw [undoH_snoc, undoS_snoc, if_neg h0, if_neg h0] at this
        exact this

theorem undo_ok {es : List Int} {tr : List V} (ht : M.trail = tr ++ es.map .int) (hv : ∀ e ∈ es, (0 ≤ e → e.toNat < M.heap.length) ∧ (e < 0 → (-1 - e).toNat < M.stack.length))
    (hQ : Q .none (Wd P { M with heap := undoH M.heap es, stack := undoS M.stack es, trail := tr } D)) : callD prog (d + 1) "Cells.undo_to" [.loc 12, .int tr.length] (Wd P M D) Q :=
  callC rfl rfl rfl fun C hC => ⟨_, undo_loop (C := C) es.length es M _ rfl rfl rfl ht hv fun ρ' => hQ⟩

/-- writes into a slot of the environment -/
theorem write_ok {n : Int} {v : V} (h0 : 0 ≤ M.e + 1 + n) (h1 : M.e + 1 + n ≤ M.stack.length) (hb : M.stack.length < big) (ht : M.trail.length < big)
    (hQ : Q .none (Wd P { M with stack := put M.stack (M.e + 1 + n) v, trail := if M.e + 1 + n < M.bb then M.trail ++ [.int (-1 - (M.e + 1 + n))] else M.trail } D)) :
    callD prog (d + 2) "write" [.loc 11, .tup [.str (Str.ofString "y"), .int n], v] (Wd P M D) Q := by
  refine callC rfl rfl rfl fun C hC => useC hC (slot_index_ok ?_)
  by_cases h : M.e + 1 + n < M.bb
  · rw [if_pos h] at hQ
    exact ifT (tt h) ⟨ht, useC hC (stack_put_ok (M := { M with trail := M.trail ++ [.int (-1 - (M.e + 1 + n))] }) h0 h1 hb hQ)⟩
  · rw [if_neg h] at hQ
    exact ifF (ff h) (useC hC (stack_put_ok (M := M) h0 h1 hb hQ))

/-- the loop that lays the row back -/
noncomputable def lb_back : List S := [.expr (.meth (.var "self") "set_x" [(.var "i"), (.item (.attr (.var "store") "stack") (.bin .add (.attr (.var "self") "b") (.var "i")))])]
theorem back_loop {C : Calls} (hC : C = callD prog (d + 1)) {Q : Cs} : ∀ (rest : List V) (k : Nat) (M : Mach) (ρ : Env), ρ "self" = some (.loc 11) → ρ "store" = some (.loc 12) → 0 ≤ M.b → (∀ j v, rest[j]? = some v → M.stack[(M.b + ((k + j : Nat) : Int)).toNat]? = some v) → k ≤ M.x.length → M.x.length + rest.length < big →
    (∀ ρ', ρ' "self" = some (.loc 11) → ρ' "store" = some (.loc 12) → Q .next ρ' (Wd P { M with x := puts M.x k rest } D)) →
    forV "i" (evSs C lb_back) ((List.range' k rest.length).map fun (i : Nat) => V.int (i : Int)) ρ (Wd P M D) Q
  | [], k, M, ρ, h1, h2, h0, hs, h3, h4, hQ => hQ ρ h1 h2
  | v :: rest, k, M, ρ, h1, h2, h0, hs, h3, h4, hQ => by
    rw [List.length_cons] at h4
    have hat : k + 1 ≤ (put M.x k v).length := Int.ofNat_le.mp (put_at (Int.ofNat_le.mpr h3))
    refine som h1 (som h2 (som h1 (at_ok (k := M.b + (k : Int)) (Int.add_nonneg h0 (Int.natCast_nonneg _)) (hs 0 v rfl) (useC hC (set_x_ok (M := M) (k := (k : Int)) (Int.natCast_nonneg _) (Int.ofNat_le.mpr h3) (Nat.lt_of_le_of_lt (Nat.le_add_right ..) h4) ?_)))))
    refine back_loop hC rest (k + 1) { M with x := put M.x k v } (ρ.set "i" (.int k)) h1 h2 h0 (fun j u hj => ?_) hat (Nat.lt_of_le_of_lt (Nat.add_le_add_right put_up rest.length) (by rw [Nat.add_right_comm]; exact h4)) fun ρ' q1 q2 => hQ ρ' q1 q2
    rw [Nat.add_assoc, Nat.add_comm 1 j]
    exact hs (j + 1) u hj

theorem range_1 (n : Nat) : rangeVs 1 ((n : Int) + 1) = (List.range' 1 n).map fun (i : Nat) => V.int (i : Int) := by
  unfold rangeVs
  rw [show ((n : Int) + 1 - 1).toNat = n from congrArg Int.toNat (Int.add_sub_cancel (n : Int) 1), List.range_eq_range', List.range'_eq_map_range, List.range'_eq_map_range, List.map_map, List.map_map]
  refine List.map_congr_left fun i _ => congrArg V.int ?_
  show 1 + ((0 + i : Nat) : Int) = ((1 + i : Nat) : Int)
  lia
theorem forW_1 {x : String} {n : Nat} {B : Env → Sto → Cs → Prop} {ρ : Env} {σ : Sto} {Q : Cs} (hb : n < 1000) (h : forV x B ((List.range' 1 n).map fun (i : Nat) => V.int (i : Int)) ρ σ Q) : forW x (.rng 1 ((n : Int) + 1)) B ρ σ Q := by
  refine ⟨by decide, by decide, by lia, by lia, ?_⟩
  rw [range_1]
  exact h

theorem restore_ok {row tr : List V} {es : List Int} {e' cp' hl : Int} (hb0 : 0 ≤ M.b) (hn : M.stack[M.b.toNat]? = some (.int row.length)) (hr : ∀ j v, row[j]? = some v → M.stack[(M.b + ((1 + j : Nat) : Int)).toNat]? = some v)
    (hx : 1 ≤ M.x.length) (hxb : M.x.length + row.length < big) (hE : M.stack[(M.b + row.length + 1).toNat]? = some (.int e')) (hC : M.stack[(M.b + row.length + 2).toNat]? = some (.int cp')) (hT : M.stack[(M.b + row.length + 5).toNat]? = some (.int tr.length))
    (ht : M.trail = tr ++ es.map .int) (hv : ∀ e ∈ es, (0 ≤ e → e.toNat < M.heap.length) ∧ (e < 0 → (-1 - e).toNat < M.stack.length))
    (hn2 : (undoS M.stack es)[M.b.toNat]? = some (.int row.length)) (hH : (undoS M.stack es)[(M.b + row.length + 6).toNat]? = some (.int hl)) (hl0 : 0 ≤ hl) (hl1 : hl ≤ M.heap.length) (hbig : row.length < 1000)
    (hQ : Q .none (Wd P { M with x := puts M.x 1 row, e := e', cp := cp', heap := (undoH M.heap es).take hl.toNat, stack := undoS M.stack es, trail := tr } D)) :
    callD prog (d + 2) "Areas.restore_choice" [.loc 11] (Wd P M D) Q := by
  have p1 : 0 ≤ M.b + (row.length : Int) := Int.add_nonneg hb0 (Int.natCast_nonneg _)
  have p : ∀ k : Nat, 0 ≤ M.b + (row.length : Int) + (k : Int) := fun k => Int.add_nonneg p1 (Int.natCast_nonneg k)
  refine callC rfl rfl rfl fun C hC' => at_ok hb0 hn (forW_1 (B := evSs C lb_back) hbig (back_loop hC' row 1 M _ rfl rfl hb0 hr hx hxb fun ρ' q1 q2 => ?_))
  refine som q1 (useC hC' (choice_part_ok (M := { M with x := puts M.x 1 row }) (k := 1) hb0 hn (p 1) hE (som q1 ?_)))
  refine som q1 (useC hC' (choice_part_ok (M := { M with x := puts M.x 1 row, e := e' }) (k := 2) hb0 hn (p 2) hC (som q1 ?_)))
  refine som q2 (som q1 (useC hC' (choice_part_ok (M := { M with x := puts M.x 1 row, e := e', cp := cp' }) (k := 5) hb0 hn (p 5) hT ?_)))
  refine useC hC' (undo_ok (M := { M with x := puts M.x 1 row, e := e', cp := cp' }) ht hv ?_)
  refine som q2 (som q1 (useC hC' (choice_part_ok (M := { M with x := puts M.x 1 row, e := e', cp := cp', heap := undoH M.heap es, stack := undoS M.stack es, trail := tr }) (k := 6) hb0 hn2 (p 6) hH ?_)))
  exact useC hC' (trim_ok (M := { M with x := puts M.x 1 row, e := e', cp := cp', heap := undoH M.heap es, stack := undoS M.stack es, trail := tr }) hl0 (by rw [undoH_length]; exact hl1) hQ)

end C187

namespace C187
open PySem

variable {P : Pre} {M : Mach} {D : Sto} {Q : Ct} {d : Nat}

structure PoolOk (P : Pre) : Prop where
  pa : 0 ≤ P.pa
  pp : 0 ≤ P.pp
  scr : ∃ zs : List Int, P.scr = zs.map .int ∧ zs ≠ []

noncomputable def lb_draw : List S := [.asg "drawn" (.bin .mod (.item (.var "pool") (.int 0)) (.var "most")),
   .asgItem (.var "pool") (.int 0) (.bin .fdiv (.item (.var "pool") (.int 0)) (.var "most")),
   .ret (.var "drawn")]
theorem draw_tail {C : Calls} {ρ : Env} {most : Int} (h1 : ρ "pool" = some (.loc 4)) (h2 : ρ "most" = some (.int most)) (hm : 1 ≤ most) (hm2 : most < 1000) {P : Pre} (hQ : ∀ a, a = P.pa / most → Q (.int (P.pa % most)) (Wd { P with pa := a } M D)) :
    evSs C lb_draw ρ (Wd P M D) (retQ Q) :=
  som h1 (som h2 ⟨hm, som h1 (som h2 ⟨hm, hm2, som h1 ⟨Int.le_refl _, Nat.zero_lt_succ _, hQ _ rfl⟩⟩)⟩)

theorem small_of {x : Int} (h0 : 0 ≤ x) (h : x < 2 ^ 128) : small x := by
  unfold small
  have h1 : x.natAbs < 2 ^ 128 := by lia
  exact Nat.lt_of_lt_of_le h1 (Nat.pow_le_pow_right (by decide) (by decide))

theorem draw_ok {most : Int} (hm : 1 ≤ most) (hm2 : most < 1000) (hP : PoolOk P) (hb : P.pp < 2 ^ 64)
    (hQ : ∀ r a p, 0 ≤ r → r < most → 0 ≤ a → P.pp ≤ p → p ≤ P.pp + 1 → Q (.int r) (Wd { P with pa := a, pp := p } M D)) : callD prog (d + 1) "_law_draw" [.loc 4, .int most] (Wd P M D) Q := by
  obtain ⟨pa0, pp0, zs, hz, hz0⟩ := hP
  have hlen : P.scr.length = zs.length := by rw [hz]; simp
  have hpos : 0 < zs.length := List.length_pos_iff.mpr hz0
  have fin : ∀ (a p : Int), 0 ≤ a → P.pp ≤ p → p ≤ P.pp + 1 → Q (.int (a % most)) (Wd { P with pa := a / most, pp := p } M D) := fun a p h0 h1 h2 =>
    hQ _ _ _ (Int.emod_nonneg _ (by lia)) (Int.emod_lt_of_pos _ (by lia)) (Int.ediv_nonneg h0 (by lia)) h1 h2
  refine callC rfl rfl rfl fun C hC => ?_
  have dt : ∀ {P : Pre} {ρ : Env}, ρ "pool" = some (.loc 4) → ρ "most" = some (.int most) → (∀ a, a = P.pa / most → Q (.int (P.pa % most)) (Wd { P with pa := a } M D)) → evSs C lb_draw ρ (Wd P M D) (retQ Q) := fun h1 h2 => draw_tail h1 h2 hm hm2
  by_cases h : P.pa < 1000
  · have hmod := Int.emod_nonneg P.pp (show (P.scr.length : Int) ≠ 0 by lia)
    have hlt := Int.emod_lt_of_pos P.pp (show 0 < (P.scr.length : Int) by lia)
    obtain ⟨z, hzz⟩ : ∃ z, zs[(P.pp % (P.scr.length : Int)).toNat]? = some z := ⟨zs[(P.pp % (P.scr.length : Int)).toNat]'(by lia), by simp⟩
    have hzc : P.scr[(P.pp % (P.scr.length : Int)).toNat]? = some (.int z) := by rw [hz, List.getElem?_map, ← hz, hzz]; rfl
    refine ifT (tt h) ⟨by decide, Nat.le_of_ble_eq_true rfl, ⟨by lia, at_ok hmod hzc ?_⟩⟩
    by_cases hz1 : z = 0
    · exact ifT (tt hz1) (hQ 0 P.pa (P.pp + 1) (Int.le_refl _) (by lia) pa0 (by lia) (Int.le_refl _))
    · refine ifF (ff hz1) ?_
      have z1 := Int.emod_nonneg z (show (2305843009213693951 : Int) ≠ 0 by decide)
      have z2 := Int.emod_lt_of_pos z (show (0 : Int) < 2305843009213693951 by decide)
      have s1 : small P.pp := small_of pp0 (by lia)
      have s2 : small (z % 2305843009213693951 + 104729 * P.pp + 17) := small_of (by lia) (by lia)
      have s3 : small (6364136223846793005 + 2 * P.pp) := small_of (by lia) (by lia)
      by_cases h2 : P.pp < P.scr.length
      · refine ifT (tt h2) ⟨rfl, by decide, by decide, ?_⟩
        by_cases h3 : (10 : Int) ^ (18 : Int).toNat ≤ z
        · exact ifT (tt h3) ⟨rfl, by decide, by decide, by decide, by decide, Nat.le_of_ble_eq_true rfl, sqn (sqn (sqn (dt (P := { P with pp := P.pp + 1, pa := z % 10 ^ (60 : Int).toNat }) rfl rfl fun _ e => e ▸ fin (z % 10 ^ (60 : Int).toNat) (P.pp + 1) (Int.emod_nonneg _ (by decide)) (Int.le_add_one (Int.le_refl _)) (Int.le_refl _))))⟩
        · exact ifF (ff h3) ⟨by decide, small_of (by decide) (by decide), s1, small_of (by decide) (by decide), s1, s2, s3, by decide, by decide, Nat.le_of_ble_eq_true rfl, sqn (sqn (sqn (dt (P := { P with pp := P.pp + 1, pa := (z % 2305843009213693951 + 104729 * P.pp + 17) * (6364136223846793005 + 2 * P.pp) % 2305843009213693951 }) rfl rfl fun _ e => e ▸ fin _ (P.pp + 1) (Int.emod_nonneg _ (by decide)) (Int.le_add_one (Int.le_refl _)) (Int.le_refl _))))⟩
      · exact ifF (ff h2) ⟨by decide, small_of (by decide) (by decide), s1, small_of (by decide) (by decide), s1, s2, s3, by decide, by decide, Nat.le_of_ble_eq_true rfl, sqn (sqn (sqn (dt (P := { P with pp := P.pp + 1, pa := (z % 2305843009213693951 + 104729 * P.pp + 17) * (6364136223846793005 + 2 * P.pp) % 2305843009213693951 }) rfl rfl fun _ e => e ▸ fin _ (P.pp + 1) (Int.emod_nonneg _ (by decide)) (Int.le_add_one (Int.le_refl _)) (Int.le_refl _))))⟩
  · exact ifF (ff h) (sqn (dt (P := P) rfl rfl fun _ e => e ▸ fin P.pa P.pp pa0 (Int.le_refl _) (by lia)))

end C187

namespace C187
open PySem

inductive Sl where
  | unset
  | free
  | i (n : Int)
  | h (n : Int)
deriving DecidableEq, Inhabited
inductive Vl where
  | open
  | i (n : Int)
  | h (n : Int)
deriving DecidableEq, Inhabited
noncomputable def sV (x : String) : V := .str (Str.ofString x)
noncomputable def Sl.v : Sl → V
  | .unset => .tup [sV "unset"]
  | .free => .tup [sV "free"]
  | .i n => .tup [sV "i", .int n]
  | .h n => .tup [sV "h", .int n]
noncomputable def Vl.v : Vl → V
  | .open => .tup []
  | .i n => .tup [sV "i", .int n]
  | .h n => .tup [sV "h", .int n]

/-- a frame of the law -/
structure LF where
  prev : Int
  lv : Int
  slots : List Sl
  fl : Nat
  sl : Nat
/-- a state of the law -/
structure LS where
  cur : Int
  live : Int
  frames : List (Int × LF)
  vals : List (Int × Vl)
  ls : Nat
  lf : Nat
  lv : Nat

abbrev Objs := List (Nat × O)
noncomputable def LF.objs (F : LF) : Objs := [(F.fl, .list [.int F.prev, .int F.lv, .loc (F.sl + 19)]), (F.sl, .list (F.slots.map Sl.v))]
noncomputable def framesO (fs : List (Int × LF)) : O := .dI (fs.map fun p => (p.1, .loc (p.2.fl + 19)))
noncomputable def valsO (vs : List (Int × Vl)) : O := .dI (vs.map fun p => (p.1, p.2.v))
noncomputable def LS.objs (S : LS) : Objs := (S.ls, .list [.int S.cur, .int S.live, .loc (S.lf + 19), .loc (S.lv + 19)]) :: (S.lf, framesO S.frames) :: (S.lv, valsO S.vals) :: S.frames.flatMap fun p => p.2.objs

noncomputable def Has (D : Sto) (os : Objs) : Prop := ∀ p ∈ os, D[p.1]? = some p.2
noncomputable def Grows (D D' : Sto) : Prop := D.length ≤ D'.length ∧ ∀ i, i < D.length → D'[i]? = D[i]?
theorem Grows.refl (D : Sto) : Grows D D := ⟨Nat.le_refl _, fun _ _ => rfl⟩
theorem Grows.trans {D D' D'' : Sto} (a : Grows D D') (b : Grows D' D'') : Grows D D'' := ⟨Nat.le_trans a.1 b.1, fun i h => (b.2 i (Nat.lt_of_lt_of_le h a.1)).trans (a.2 i h)⟩
theorem Grows.app (D X : Sto) : Grows D (D ++ X) := ⟨by simp, fun i h => by rw [List.getElem?_append_left h]⟩
theorem Grows.get {D D' : Sto} (g : Grows D D') {i : Nat} {o : O} (h : D[i]? = some o) : D'[i]? = some o := (g.2 i (List.getElem?_eq_some_iff.mp h).1).trans h
theorem Has.grows {D D' : Sto} {os : Objs} (h : Has D os) (g : Grows D D') : Has D' os := fun p hp => g.get (h p hp)
theorem Grows.set {D D' : Sto} (g : Grows D D') {f : Nat} (hf : D.length ≤ f) (o : O) : Grows D (D'.set f o) :=
  ⟨by rw [List.length_set]; exact g.1, fun i h => by rw [List.getElem?_set_ne (by lia)]; exact g.2 i h⟩

theorem lk_map {α β : Type} (f : α → V) : ∀ {l : List (Int × α)} {k : Int} {a : α}, (l.find? fun p => decide (p.1 = k)).map (·.2) = some a → lk (l.map fun p => (p.1, f p.2)) k = some (f a)
  | [], _, _, h => by simp at h
  | (n, x) :: l, k, a, h => by
    unfold lk
    rw [List.map_cons, List.find?_cons]
    rw [List.find?_cons] at h
    by_cases e : n = k
    · simp only [e, decide_true, Option.map_some, Option.some.injEq] at h ⊢
      rw [h]
    · simp only [e, decide_false] at h ⊢
      exact lk_map (β := β) f h
/-- what a dict of the law holds -/
noncomputable def find {α : Type} (l : List (Int × α)) (k : Int) : Option α := (l.find? fun p => decide (p.1 = k)).map (·.2)
theorem find_mem {α : Type} {l : List (Int × α)} {k : Int} {a : α} (h : find l k = some a) : (k, a) ∈ l := by
  unfold find at h
  obtain ⟨⟨n, x⟩, e, rfl⟩ := Option.map_eq_some_iff.mp h
  have h1 := List.mem_of_find?_eq_some e
  have h2 := List.find?_some e
  simp at h2
  exact h2 ▸ h1

section
variable {D : Sto} {S : LS} (H : Has D S.objs)
include H
theorem Has.st : D[S.ls]? = some (.list [.int S.cur, .int S.live, .loc (S.lf + 19), .loc (S.lv + 19)]) := H _ (List.mem_cons_self)
theorem Has.fr : D[S.lf]? = some (framesO S.frames) := H _ (List.mem_cons_of_mem _ List.mem_cons_self)
theorem Has.va : D[S.lv]? = some (valsO S.vals) := H _ (List.mem_cons_of_mem _ (List.mem_cons_of_mem _ List.mem_cons_self))
theorem Has.frame {n : Int} {F : LF} (h : (n, F) ∈ S.frames) : D[F.fl]? = some (.list [.int F.prev, .int F.lv, .loc (F.sl + 19)]) ∧ D[F.sl]? = some (.list (F.slots.map Sl.v)) :=
  have m : ∀ p ∈ F.objs, p ∈ S.objs := fun p hp => List.mem_cons_of_mem _ (List.mem_cons_of_mem _ (List.mem_cons_of_mem _ (List.mem_flatMap.mpr ⟨(n, F), h, hp⟩)))
  ⟨H _ (m _ List.mem_cons_self), H _ (m _ (List.mem_cons_of_mem _ List.mem_cons_self))⟩
end

/-- the law's chain: the numbers and their live slots -/
noncomputable def CP (fs : List (Int × LF)) : Int → Int → List (Int × List Sl) → Prop
  | n, lv, [] => n < 0
  | n, lv, c :: r => n = c.1 ∧ 0 ≤ n ∧ 1 ≤ lv ∧ ∃ F, find fs n = some F ∧ c.2 = F.slots.take (lv - 1).toNat ∧ CP fs F.prev F.lv r

/-- the chain as a list of the program -/
noncomputable def ChL (D : Sto) (lo : Nat) : List (Int × List Sl) → List V → Prop
  | [], [] => True
  | c :: cs, v :: vs => (∃ k, v = .tup [.int c.1, .loc (k + 19)] ∧ lo ≤ k ∧ D[k]? = some (.list (c.2.map Sl.v))) ∧ ChL D lo cs vs
  | _, _ => False
theorem ChL.snoc {D : Sto} {lo : Nat} {c : Int × List Sl} {k : Nat} (hk : lo ≤ k) (h : D[k]? = some (.list (c.2.map Sl.v))) : ∀ {cs : List (Int × List Sl)} {vs : List V}, ChL D lo cs vs → ChL D lo (cs ++ [c]) (vs ++ [.tup [.int c.1, .loc (k + 19)]])
  | [], [], _ => ⟨⟨k, rfl, hk, h⟩, trivial⟩
  | _ :: _, _ :: _, x => ⟨x.1, ChL.snoc hk h x.2⟩
  | [], _ :: _, x => x.elim
  | _ :: _, [], x => x.elim
theorem ChL.mono {D D' : Sto} {lo : Nat} (hm : ∀ k, lo ≤ k → ∀ o, D[k]? = some o → D'[k]? = some o) : ∀ {cs : List (Int × List Sl)} {vs : List V}, ChL D lo cs vs → ChL D' lo cs vs
  | [], [], _ => trivial
  | _ :: _, _ :: _, x => ⟨let ⟨k, a, b, e⟩ := x.1; ⟨k, a, b, hm k b _ e⟩, ChL.mono hm x.2⟩
  | [], _ :: _, x => x.elim
  | _ :: _, [], x => x.elim
theorem ChL.length {D : Sto} {lo : Nat} : ∀ {cs : List (Int × List Sl)} {vs : List V}, ChL D lo cs vs → cs.length = vs.length
  | [], [], _ => rfl
  | _ :: _, _ :: _, x => congrArg (· + 1) (ChL.length x.2)
  | [], _ :: _, x => x.elim
  | _ :: _, [], x => x.elim

noncomputable def lc_chain : X := .cmp .ge (.var "number") (.int 0)
noncomputable def lb_chain : List S := [.asg "frame" (.item (.item (.var "state") (.int 2)) (.var "number")),
     .expr (.meth (.var "found") "append" [(.tup [(.var "number"), (.slice (.item (.var "frame") (.int 2)) .none (.var "live") .none)])]),
     .asg "live" (.bin .sub (.item (.var "frame") (.int 1)) (.int 1)),
     .asg "number" (.item (.var "frame") (.int 0))]

variable {P : Pre} {M : Mach} {D : Sto} {Q : Ct} {d : Nat}

theorem chain_loop {C : Calls} {Q : Cs} {S : LS} {D0 : Sto} {f : Nat} (H0 : Has D0 S.objs) (hf : D0.length = f) : ∀ (rest done : List (Int × List Sl)) (acc : List V) (n lv : Int) (D : Sto) (ρ : Env), ρ "number" = some (.int n) → ρ "live" = some (.int (lv - 1)) → ρ "found" = some (.loc (f + 19)) → ρ "state" = some (.loc (S.ls + 19)) →
    CP S.frames n lv rest → Grows D0 D → D[f]? = some (.list acc) → ChL D (f + 1) done acc → acc.length + rest.length < big →
    (∀ ρ' D' acc', ρ' "found" = some (.loc (f + 19)) → Grows D0 D' → D'[f]? = some (.list acc') → ChL D' (f + 1) (done ++ rest) acc' → Q .next ρ' (Wd P M D')) →
    whileI (evT C lc_chain) (evSs C lb_chain) (rest.length + 1) ρ (Wd P M D) Q
  | [], done, acc, n, lv, D, ρ, h1, h2, h3, h4, hc, g, hD, hL, hb, hQ => som h1 (ifF (ff (Int.not_le.mpr hc)) (hQ ρ D acc h3 g hD ((List.append_nil done).symm ▸ hL)))
  | c :: rest, done, acc, n, lv, D, ρ, h1, h2, h3, h4, hc, g, hD, hL, hb, hQ => by
    obtain ⟨hn, h0, hlv, F, hF, hsl, hc⟩ := hc
    have hlt := (List.getElem?_eq_some_iff.mp hD).1
    obtain ⟨X, hX⟩ : ∃ X, X = (F.slots.map Sl.v).take (lv - 1).toNat := ⟨_, rfl⟩
    obtain ⟨Y, hY⟩ : ∃ Y, Y = acc ++ [V.tup [.int n, .loc (D.length + 19)]] := ⟨_, rfl⟩
    have hD1 : (D ++ [O.list X])[f]? = some (.list acc) := by rw [List.getElem?_append_left hlt]; exact hD
    have g1 : Grows D0 ((D ++ [O.list X]).set f (.list Y)) := (g.trans (Grows.app _ _)).set (Nat.le_of_eq hf) _
    have H := H0.grows g
    obtain ⟨f1, f2⟩ := H.frame (find_mem hF)
    have hf1 := ((H0.grows g1).frame (find_mem hF)).1
    have hfr : D[S.lf]? = some (.dI (S.frames.map fun p => (p.1, .loc (p.2.fl + 19)))) := H.fr
    refine som h1 (ifT (tt h0) (som h4 (fwl H.st (som h1 (fwd hfr (som (lk_map (β := V) (fun F : LF => V.loc (F.fl + 19)) hF) ?_))))))
    refine som h3 (sm hD (som h1 (fwl f1 (som h2 (sl f2 (soL ((if_pos (Int.sub_nonneg_of_le hlv)).trans (congrArg some hX.symm)) (sl hD1 ⟨Nat.lt_of_le_of_lt (Nat.le_add_right ..) hb, ?_⟩)))))))
    rw [show (Wd P M D ++ [O.list X]).set (f + 19) (O.list (acc ++ [V.tup [V.int n, V.loc (Wd P M D).length]])) = Wd P M ((D ++ [O.list X]).set f (.list Y)) by rw [hY]; rfl]
    refine fwl hf1 (fwl hf1 ?_)
    refine chain_loop H0 hf rest (done ++ [c]) Y F.prev F.lv ((D ++ [O.list X]).set f (.list Y)) (((ρ.set "frame" (.loc (F.fl + 19))).set "live" (.int (F.lv - 1))).set "number" (.int F.prev)) rfl rfl h3 h4 hc g1 (List.getElem?_set_self (by rw [List.length_append]; exact Nat.lt_of_lt_of_le hlt (Nat.le_add_right ..))) ?_ (by rw [hY]; exact acc_lt hb) fun ρ' D' acc' q1 q2 q3 q4 => hQ ρ' D' acc' q1 q2 q3 (app_cons ▸ q4)
    rw [hn] at hY
    have hle : f < D.length := hlt
    rw [hY]
    refine ChL.snoc hlt ?_ (hL.mono fun k hk o e => ?_)
    · rw [List.getElem?_set_ne (Nat.ne_of_lt hlt), List.getElem?_append_right (Nat.le_refl _), Nat.sub_self, hX, hsl, List.map_take]
      rfl
    · rw [List.getElem?_set_ne (Nat.ne_of_lt hk), List.getElem?_append_left (List.getElem?_eq_some_iff.mp e).1]
      exact e

theorem chain_ok {S : LS} {ch : List (Int × List Sl)} (H : Has D S.objs) (hc : CP S.frames S.cur S.live ch) (hb : ch.length < big)
    (hQ : ∀ D' acc, Grows D D' → D'[D.length]? = some (.list acc) → ChL D' (D.length + 1) ch acc → Q (.loc (D.length + 19)) (Wd P M D')) : callD prog (d + 1) "_law_chain" [.loc (S.ls + 19)] (Wd P M D) Q := by
  have H1 := H.grows (Grows.app D [.list []])
  refine callC rfl rfl rfl fun C hC => fwl H1.st (fwl H1.st ⟨_, chain_loop (C := C) H rfl ch [] [] S.cur S.live (D ++ [.list []]) _ rfl rfl rfl rfl hc (Grows.app _ _) ?_ trivial ((Nat.zero_add _).symm ▸ hb) fun ρ' D' acc' q1 q2 q3 q4 => som q1 (hQ D' acc' q2 q3 q4)⟩)
  rw [List.getElem?_append_right (Nat.le_refl _), Nat.sub_self]
  rfl

end C187

namespace C187
open PySem

variable {P : Pre} {M : Mach} {D : Sto} {Q : Ct} {d : Nat}

/-- where a value of the law ends -/
inductive LEnd (vals : List (Int × Vl)) : Sl → Sl → Prop where
  | free : LEnd vals .free .free
  | i {n} : LEnd vals (.i n) (.i n)
  | self {m} : find vals m = some .open → LEnd vals (.h m) (.h m)
  | toI {m k} : find vals m = some (.i k) → LEnd vals (.h m) (.i k)
  | step {m k r} : find vals m = some (.h k) → LEnd vals (.h k) r → LEnd vals (.h m) r

noncomputable def lc_end : X := .all [(.cmp .eq (.item (.var "value") (.int 0)) (.str "h")), (.cmp .ne (.item (.var "values") (.item (.var "value") (.int 1))) (.tup []))]
noncomputable def lb_end : List S := [.asg "value" (.item (.var "values") (.item (.var "value") (.int 1)))]

theorem end_loop {C : Calls} {Q : Cs} {l : Nat} {vals : List (Int × Vl)} (hv : D[l]? = some (valsO vals)) {a r : Sl} (he : LEnd vals a r) (hQ : ∀ ρ, ρ "value" = some r.v → Q .next ρ (Wd P M D)) : ∃ n, ∀ (ρ : Env), ρ "value" = some a.v → ρ "values" = some (.loc (l + 19)) →
    whileI (evT C lc_end) (evSs C lb_end) n ρ (Wd P M D) Q := by
  have hv' : D[l]? = some (.dI (vals.map fun p => (p.1, p.2.v))) := hv
  induction he with
  | free => exact ⟨1, fun ρ e1 e2 => som e1 (hQ ρ e1)⟩
  | i => exact ⟨1, fun ρ e1 e2 => som e1 (hQ ρ e1)⟩
  | self h => exact ⟨1, fun ρ e1 e2 => som e1 (som e2 (som e1 (fwd hv' (som (lk_map (β := V) Vl.v h) (hQ ρ e1)))))⟩
  | @toI m k h =>
    exact ⟨2, fun ρ e1 e2 => som e1 (som e2 (som e1 (fwd hv' (som (lk_map (β := V) Vl.v h) (som e2 (som e1 (fwd hv' (som (lk_map (β := V) Vl.v h) (hQ (ρ.set "value" (Vl.v (.i k))) rfl)))))))))⟩
  | @step m k r h _ ih =>
    obtain ⟨n, ih⟩ := ih hQ
    exact ⟨n + 1, fun ρ e1 e2 => som e1 (som e2 (som e1 (fwd hv' (som (lk_map (β := V) Vl.v h) (som e2 (som e1 (fwd hv' (som (lk_map (β := V) Vl.v h) (ih (ρ.set "value" (Vl.v (.h k))) rfl e2)))))))))⟩

theorem end_ok {l : Nat} {vals : List (Int × Vl)} (hv : D[l]? = some (valsO vals)) {a r : Sl} (he : LEnd vals a r) (hQ : Q r.v (Wd P M D)) : callD prog (d + 1) "_law_end" [.loc (l + 19), a.v] (Wd P M D) Q := by
  obtain ⟨n, h⟩ := end_loop (P := P) (M := M) (D := D) (C := callD prog d) (Q := sq (retQ Q) fun ρ σ => evSs (callD prog d) [.ret (.var "value")] ρ σ (retQ Q)) hv he (fun ρ e => som e hQ)
  exact callD_of rfl rfl rfl ⟨n, h _ rfl rfl⟩

end C187

namespace C187
open PySem

variable {P : Pre} {M : Mach} {D : Sto} {Q : Ct} {d : Nat}

theorem sto_new {es : List (Int × V)} {k : Int} {x : V} (h : k ∉ es.map (·.1)) : sto es k x = es ++ [(k, x)] := by
  unfold sto
  rw [if_neg]
  rw [List.any_eq_true]
  rintro ⟨p, hp, e⟩
  exact h (List.mem_map.mpr ⟨p, hp, of_decide_eq_true e⟩)
/-- the same frames, laid elsewhere -/
noncomputable def SameF : List (Int × LF) → List (Int × LF) → Prop
  | [], [] => True
  | p :: ps, q :: qs => (p.1 = q.1 ∧ p.2.prev = q.2.prev ∧ p.2.lv = q.2.lv ∧ p.2.slots = q.2.slots) ∧ SameF ps qs
  | _, _ => False
theorem SameF.snoc {p q : Int × LF} (h : p.1 = q.1 ∧ p.2.prev = q.2.prev ∧ p.2.lv = q.2.lv ∧ p.2.slots = q.2.slots) : ∀ {ps qs : List (Int × LF)}, SameF ps qs → SameF (ps ++ [p]) (qs ++ [q])
  | [], [], _ => ⟨h, trivial⟩
  | _ :: _, _ :: _, x => ⟨x.1, SameF.snoc h x.2⟩
  | [], _ :: _, x => x.elim
  | _ :: _, [], x => x.elim
theorem SameF.keys : ∀ {ps qs : List (Int × LF)}, SameF ps qs → ps.map (·.1) = qs.map (·.1)
  | [], [], _ => rfl
  | _ :: _, _ :: _, x => by rw [List.map_cons, List.map_cons, x.1.1, SameF.keys x.2]
  | [], _ :: _, x => x.elim
  | _ :: _, [], x => x.elim

/-- what lies where -/
noncomputable def locsF (fs : List (Int × LF)) : List Nat := fs.flatMap fun p => [p.2.fl, p.2.sl]
noncomputable def objsF (fs : List (Int × LF)) : Objs := fs.flatMap fun p => p.2.objs
theorem objsF_locs : ∀ (fs : List (Int × LF)), (objsF fs).map (·.1) = locsF fs
  | [] => rfl
  | p :: fs => by
    have := objsF_locs fs
    unfold objsF locsF at this ⊢
    rw [List.flatMap_cons, List.flatMap_cons, List.map_append, this]
    rfl
noncomputable def LS.locs (S : LS) : List Nat := S.ls :: S.lf :: S.lv :: locsF S.frames
theorem LS.objs_locs (S : LS) : S.objs.map (·.1) = S.locs := by
  show _ :: _ :: _ :: List.map _ _ = _
  unfold LS.locs
  rw [← objsF_locs]
  rfl

theorem find_of {α : Type} : ∀ {l : List (Int × α)} {k : Int} {a : α}, (l.map (·.1)).Nodup → (k, a) ∈ l → find l k = some a
  | (n, x) :: l, k, a, hn, hm => by
    rw [List.map_cons, List.nodup_cons] at hn
    unfold find
    rw [List.find?_cons]
    rcases List.mem_cons.mp hm with h | h
    · cases h; simp
    · have hne : n ≠ k := by rintro rfl; exact hn.1 (List.mem_map.mpr ⟨(n, a), h, rfl⟩)
      simp only [hne, decide_false]
      exact find_of hn.2 h

theorem locsF_snoc (fs : List (Int × LF)) (n : Int) (F : LF) : locsF (fs ++ [(n, F)]) = locsF fs ++ [F.fl, F.sl] := by unfold locsF; rw [List.flatMap_append]; rfl
theorem objsF_snoc (fs : List (Int × LF)) (n : Int) (F : LF) : objsF (fs ++ [(n, F)]) = objsF fs ++ F.objs := by unfold objsF; rw [List.flatMap_append]; simp
theorem mem_objsF {fs : List (Int × LF)} {p : Nat × O} (h : p ∈ objsF fs) : p.1 ∈ locsF fs := by rw [← objsF_locs]; exact List.mem_map_of_mem h

noncomputable def lb_cf : List S := [.asg "frame" (.item (.item (.var "state") (.int 2)) (.var "number")),
     .asgItem (.var "frames") (.var "number") (.list [(.item (.var "frame") (.int 0)), (.item (.var "frame") (.int 1)), (.call "list" [(.item (.var "frame") (.int 2))])])]

theorem split_len {α β : Type} {done rest : List α} {fs : List β} {a : α} {l : List α} (hd : done ++ a :: rest = l) (h : done.length = fs.length) : fs.length < l.length := by rw [← hd, List.length_append, List.length_cons]; lia
theorem fresh_of {α β : Type} {done rest all : List (Int × α)} {fs : List (Int × β)} {n : Int} {a : α} (hd : done ++ (n, a) :: rest = all) (hn : (all.map (·.1)).Nodup) (hk : done.map (·.1) = fs.map (·.1)) : n ∉ fs.map (·.1) := by
  rw [← hd, List.map_append, List.map_cons, List.nodup_append] at hn
  rw [← hk]
  exact fun hm => hn.2.2 _ hm _ List.mem_cons_self rfl
theorem keys_map {α β : Type} (f : α → β) (l : List (Int × α)) : (l.map fun p => (p.1, f p.2)).map (·.1) = l.map (·.1) := by rw [List.map_map]; rfl
theorem mem_mid {α : Type} {done rest all : List α} {a : α} (hd : done ++ a :: rest = all) : a ∈ all := hd ▸ List.mem_append_right _ List.mem_cons_self

theorem cf_loop {C : Calls} {Q : Cs} {S : LS} {D0 : Sto} {f : Nat} (H0 : Has D0 S.objs) (hf : D0.length = f) : ∀ (rest done fs : List (Int × LF)) (D : Sto) (ρ : Env), done ++ rest = S.frames → (S.frames.map (·.1)).Nodup → ρ "state" = some (.loc (S.ls + 19)) → ρ "frames" = some (.loc (f + 19)) →
    Grows D0 D → D[f]? = some (framesO fs) → Has D (objsF fs) → (∀ l ∈ locsF fs, f < l ∧ l < D.length) → (locsF fs).Nodup → SameF done fs → S.frames.length < big →
    (∀ ρ' D' fs', ρ' "state" = some (.loc (S.ls + 19)) → ρ' "frames" = some (.loc (f + 19)) → Grows D0 D' → D'[f]? = some (framesO fs') → Has D' (objsF fs') → (∀ l ∈ locsF fs', f < l ∧ l < D'.length) → (locsF fs').Nodup → SameF S.frames fs' → Q .next ρ' (Wd P M D')) →
    forD "number" (evSs C lb_cf) (S.lf + 19) (S.frames.map fun p => (p.1, V.loc (p.2.fl + 19))) (rest.map fun p => (p.1, V.loc (p.2.fl + 19))) ρ (Wd P M D) Q
  | [], done, fs, D, ρ, hd, hn, h1, h2, g, hD, hH, hl, hnd, hs, hb, hQ => ⟨(H0.grows g).fr, hQ ρ D fs h1 h2 g hD hH hl hnd ((List.append_nil done).symm.trans hd ▸ hs)⟩
  | (n, F) :: rest, done, fs, D, ρ, hd, hn, h1, h2, g, hD, hH, hl, hnd, hs, hb, hQ => by
    have H := H0.grows g
    have hfr : D[S.lf]? = some (.dI (S.frames.map fun p => (p.1, .loc (p.2.fl + 19)))) := H.fr
    have hmem : (n, F) ∈ S.frames := mem_mid hd
    obtain ⟨f1, f2⟩ := H.frame hmem
    have hlt := (List.getElem?_eq_some_iff.mp hD).1
    have hlen : fs.length < S.frames.length := split_len hd (by have := congrArg List.length hs.keys; rw [List.length_map, List.length_map] at this; exact this)
    have hfresh : n ∉ (fs.map fun p => (p.1, V.loc (p.2.fl + 19))).map (·.1) := by
      rw [keys_map (fun F : LF => V.loc (F.fl + 19))]
      exact fresh_of hd hn hs.keys
    obtain ⟨F', hF'⟩ : ∃ F' : LF, F' = { F with fl := D.length + 1, sl := D.length } := ⟨_, rfl⟩
    obtain ⟨D1, hD1⟩ : ∃ D1, D1 = D ++ [O.list (F.slots.map Sl.v)] ++ [O.list [.int F.prev, .int F.lv, .loc (D.length + 19)]] := ⟨_, rfl⟩
    have hl1 : D1.length = D.length + 2 := by rw [hD1, List.length_append, List.length_append]; rfl
    have hlo1 : ∀ k o, D[k]? = some o → D1[k]? = some o := fun k o e => by rw [hD1]; exact ((Grows.app _ _).trans (Grows.app _ _)).get e
    obtain ⟨D2, hD2⟩ : ∃ D2, D2 = D1.set f (framesO (fs ++ [(n, F')])) := ⟨_, rfl⟩
    have e2 : D1.set f (.dI (sto (fs.map fun p => (p.1, V.loc (p.2.fl + 19))) n (.loc ((D ++ [O.list (F.slots.map Sl.v)]).length + 19)))) = D2 := by
      rw [hD2, hF', sto_new hfresh, List.length_append]; unfold framesO; rw [List.map_append]; rfl
    have hl2 : D2.length = D.length + 2 := by rw [hD2, List.length_set, hl1]
    have hlo : ∀ k o, D[k]? = some o → k ≠ f → D2[k]? = some o := fun k o e hk => by rw [hD2, List.getElem?_set_ne (Ne.symm hk)]; exact hlo1 k o e
    have hsl : D2[D.length]? = some (.list (F.slots.map Sl.v)) := by
      rw [hD2, List.getElem?_set_ne (Nat.ne_of_lt hlt), hD1, List.getElem?_append_left (by rw [List.length_append]; exact Nat.lt_succ_self _), List.getElem?_append_right (Nat.le_refl _), Nat.sub_self]; rfl
    have hfl : D2[D.length + 1]? = some (.list [.int F.prev, .int F.lv, .loc (D.length + 19)]) := by
      rw [hD2, List.getElem?_set_ne (Nat.ne_of_lt (Nat.lt_succ_of_lt hlt)), hD1, List.getElem?_append_right (by rw [List.length_append]; exact Nat.le_refl _), List.length_append]
      rw [show D.length + 1 - (D.length + [O.list (F.slots.map Sl.v)].length) = 0 from Nat.sub_self _]; rfl
    have hsd : (D ++ [O.list (F.slots.map Sl.v)] ++ [O.list [.int F.prev, .int F.lv, .loc (D.length + 19)]])[f]? = some (.dI (fs.map fun p => (p.1, V.loc (p.2.fl + 19)))) := hD1 ▸ hlo1 f _ hD
    have key := cf_loop (C := C) (Q := Q) H0 hf rest (done ++ [(n, F)]) (fs ++ [(n, F')]) D2 ((ρ.set "number" (.int n)).set "frame" (.loc (F.fl + 19))) (app_cons.trans hd) hn h1 h2 ⟨by rw [hl2]; exact Nat.le_add_right_of_le g.1, fun i hi => by
        obtain ⟨o, ho⟩ : ∃ o, D0[i]? = some o := ⟨D0[i], List.getElem?_eq_getElem hi⟩
        rw [ho]; exact hlo i o (g.get ho) (by lia)⟩ (by rw [hD2]; exact List.getElem?_set_self (by rw [hl1]; exact Nat.lt_add_right _ hlt)) ?_ ?_ ?_ (SameF.snoc (p := (n, F)) (q := (n, F')) ⟨rfl, by rw [hF'], by rw [hF'], by rw [hF']⟩ hs) hb hQ
    · rw [← e2, hD1] at key
      exact ⟨hfr, som h1 (fwl H.st (fwd hfr (som (lk_map (β := V) (fun F : LF => V.loc (F.fl + 19)) (find_of hn hmem)) (fwl f1 (fwl f1 (fwl f1 (sl f2 (som h2 (sid hsd ⟨by rw [List.length_map]; exact Nat.lt_trans hlen hb, key⟩)))))))))⟩
    · intro q hq
      rw [objsF_snoc] at hq
      rcases List.mem_append.mp hq with hq | hq
      · exact hlo _ _ (hH q hq) (Nat.ne_of_gt (hl _ (mem_objsF hq)).1)
      · rw [hF'] at hq
        rcases List.mem_cons.mp hq with rfl | hq
        · exact hfl
        · rcases List.mem_cons.mp hq with rfl | hq
          · exact hsl
          · cases hq
    · intro l hm
      rw [locsF_snoc, hF'] at hm
      rcases List.mem_append.mp hm with hm | hm
      · have := hl l hm; lia
      · simp at hm; lia
    · rw [locsF_snoc, hF', List.nodup_append]
      refine ⟨hnd, by simp, fun a ha b hb => ?_⟩
      have := hl a ha
      simp at hb
      lia

noncomputable def lb_cv : List S := [.asgItem (.var "values") (.var "number") (.item (.item (.var "state") (.int 3)) (.var "number"))]
theorem set_self {D : Sto} {f : Nat} {o : O} (h : D[f]? = some o) : D.set f o = D := by
  refine List.ext_getElem? fun i => ?_
  by_cases q : i = f
  · subst q; rw [List.getElem?_set_self (List.getElem?_eq_some_iff.mp h).1, h]
  · rw [List.getElem?_set_ne (Ne.symm q)]
theorem cv_loop {C : Calls} {Q : Cs} {S : LS} {D0 : Sto} {f : Nat} {fv : V} (H0 : Has D0 S.objs) (hf : D0.length ≤ f) : ∀ (rest done : List (Int × Vl)) (D : Sto) (ρ : Env), done ++ rest = S.vals → (S.vals.map (·.1)).Nodup → ρ "state" = some (.loc (S.ls + 19)) → ρ "frames" = some fv → ρ "values" = some (.loc (f + 19)) →
    Grows D0 D → D[f]? = some (valsO done) → S.vals.length < big →
    (∀ ρ', ρ' "state" = some (.loc (S.ls + 19)) → ρ' "frames" = some fv → ρ' "values" = some (.loc (f + 19)) → Q .next ρ' (Wd P M (D.set f (valsO S.vals)))) →
    forD "number" (evSs C lb_cv) (S.lv + 19) (S.vals.map fun p => (p.1, p.2.v)) (rest.map fun p => (p.1, p.2.v)) ρ (Wd P M D) Q
  | [], done, D, ρ, hd, hn, h1, h2, h3, g, hD, hb, hQ => by
    have := hQ ρ h1 h2 h3
    rw [← (List.append_nil done).symm.trans hd, set_self hD] at this
    exact ⟨(H0.grows (D' := D) g).va, this⟩
  | (n, v) :: rest, done, D, ρ, hd, hn, h1, h2, h3, g, hD, hb, hQ => by
    have H := H0.grows (D' := D) g
    have hva : D[S.lv]? = some (.dI (S.vals.map fun p => (p.1, p.2.v))) := H.va
    have hfind : find S.vals n = some v := find_of hn (mem_mid hd)
    have hD' : D[f]? = some (.dI (done.map fun p => (p.1, p.2.v))) := hD
    have hfresh : n ∉ (done.map fun p => (p.1, p.2.v)).map (·.1) := by
      rw [keys_map Vl.v]
      exact fresh_of hd hn rfl
    have hlt := (List.getElem?_eq_some_iff.mp hD).1
    have e : O.dI (sto (done.map fun p => (p.1, p.2.v)) n v.v) = valsO (done ++ [(n, v)]) := by rw [sto_new hfresh]; unfold valsO; rw [List.map_append]; rfl
    have key := cv_loop (C := C) (Q := Q) (fv := fv) H0 hf rest (done ++ [(n, v)]) (D.set f (valsO (done ++ [(n, v)]))) (ρ.set "number" (.int n)) (app_cons.trans hd) hn h1 h2 h3 ⟨by rw [List.length_set]; exact g.1, fun i hi => by rw [List.getElem?_set_ne (Nat.ne_of_gt (Nat.lt_of_lt_of_le hi hf))]; exact g.2 i hi⟩
      (List.getElem?_set_self hlt) hb fun ρ' q1 q2 q3 => by rw [List.set_set]; exact hQ ρ' q1 q2 q3
    rw [← e] at key
    exact ⟨hva, som h1 (fwl H.st (fwd hva (som (lk_map (β := V) Vl.v hfind) (som h3 (sid hD' ⟨by rw [List.length_map]; exact Nat.lt_trans (split_len hd rfl) hb, key⟩)))))⟩

theorem last_get (D : Sto) (o : O) : (D ++ [o])[D.length]? = some o := by rw [List.getElem?_append_right (Nat.le_refl _), Nat.sub_self]; rfl
theorem copied_ok {S : LS} (H : Has D S.objs) (hn : (S.frames.map (·.1)).Nodup) (hn2 : (S.vals.map (·.1)).Nodup) (hb : S.frames.length < big) (hb2 : S.vals.length < big)
    (hQ : ∀ (D' : Sto) (S' : LS), Grows D D' → S'.cur = S.cur → S'.live = S.live → S'.vals = S.vals → SameF S.frames S'.frames → Has D' S'.objs → (∀ l ∈ S'.locs, D.length ≤ l ∧ l < D'.length) → S'.locs.Nodup → Q (.loc (S'.ls + 19)) (Wd P M D')) :
    callD prog (d + 1) "_law_copied" [.loc (S.ls + 19)] (Wd P M D) Q := by
  have H1 := H.grows (Grows.app D [.dI []])
  have hfr : (D ++ [O.dI []])[S.lf]? = some (.dI (S.frames.map fun p => (p.1, .loc (p.2.fl + 19)))) := H1.fr
  refine callC rfl rfl rfl fun C hC => fwl H1.st (fwd hfr (cf_loop (C := C) H rfl S.frames [] [] (D ++ [O.dI []]) _ rfl hn rfl rfl (Grows.app _ _) (last_get ..) (fun p hp => nomatch hp) (fun l hl => nomatch hl) List.nodup_nil trivial hb fun ρ' D' fs' q1 q2 g hD hH hl hnd hs => ?_))
  have g1 := g.trans (Grows.app D' [.dI []])
  have H2 := H.grows g1
  have hva : (D' ++ [O.dI []])[S.lv]? = some (.dI (S.vals.map fun p => (p.1, p.2.v))) := H2.va
  have hDlt := (List.getElem?_eq_some_iff.mp hD).1
  refine som q1 (fwl H2.st (fwd hva (cv_loop (P := P) (M := M) (C := C) (fv := .loc (D.length + 19)) H (f := D'.length) g.1 S.vals [] (D' ++ [O.dI []]) (ρ'.set "values" (.loc (D'.length + 19))) rfl hn2 q1 q2 rfl g1 (last_get ..) hb2 fun ρ'' r1 r2 r3 => ?_)))
  rw [set_last]
  have g2 := g.trans (Grows.app D' [valsO S.vals])
  have H3 := H.grows g2
  have e4 : (D' ++ [valsO S.vals]).length = D'.length + 1 := List.length_append
  obtain ⟨o, ho⟩ : ∃ o, o = O.list [.int S.cur, .int S.live, .loc (D.length + 19), .loc (D'.length + 19)] := ⟨_, rfl⟩
  have key := hQ (D' ++ [valsO S.vals] ++ [o]) { S with frames := fs', ls := (D' ++ [valsO S.vals]).length, lf := D.length, lv := D'.length } (g2.trans (Grows.app _ _)) rfl rfl rfl hs ?_ ?_ ?_
  · rw [ho] at key
    exact som r1 (fwl H3.st (som r1 (fwl H3.st (som r2 (som r3 key)))))
  · have ga : Grows D' (D' ++ [valsO S.vals] ++ [o]) := (Grows.app _ _).trans (Grows.app _ _)
    intro p hp
    rcases List.mem_cons.mp hp with rfl | hp
    · rw [← ho]
      exact last_get ..
    · rcases List.mem_cons.mp hp with rfl | hp
      · exact ga.get hD
      · rcases List.mem_cons.mp hp with rfl | hp
        · exact (Grows.app _ _).get (last_get ..)
        · exact ga.get (hH p hp)
  · intro l hm
    have hg := g.1
    rw [e4] at hm
    simp only [LS.locs, List.mem_cons] at hm
    rw [List.length_append, e4, List.length_singleton]
    rcases hm with rfl | rfl | rfl | hm
    · lia
    · lia
    · lia
    · have := hl l hm; lia
  · have hg := g.1
    rw [e4]
    simp only [LS.locs, List.nodup_cons, List.mem_cons, not_or]
    refine ⟨⟨by lia, by lia, fun hm => by have := hl _ hm; lia⟩, ⟨by lia, fun hm => by have := hl _ hm; lia⟩, fun hm => by have := hl _ hm; lia, hnd⟩

end C187

namespace C187
open PySem

/-- what a slot asks of the stack -/
noncomputable def SlotV (keys : List Int) (j : Nat) (v : V) : Sl → Prop
  | .unset => v = void ∨ v = cell 1 j
  | .free => v = cell 1 j
  | .i k => v = cell 5 k ∧ 50 ≤ k
  | .h m => ∃ r : Nat, keys[r]? = some m ∧ v = cell 0 r
abbrev Mem := Nat → Option V
noncomputable def SlotOk (g : Mem) (keys : List Int) (j : Nat) (x : Sl) : Prop := ∃ v, g j = some v ∧ SlotV keys j v x

/-- the chain of the law against the chain of the machine; a frame of the chain: its place and how many slots live -/
noncomputable def ChainOk (g : Mem) (keys : List Int) (fs : List (Int × LF)) : Int → Int → Int → List (Nat × Nat) → Prop
  | n, lv, e, [] => n < 0 ∧ e < 0
  | n, lv, e, q :: ps => e = q.1 ∧ 0 ≤ n ∧ lv = q.2 + 1 ∧ q.2 ≤ 3 ∧ ∃ F e', find fs n = some F ∧ q.2 ≤ F.slots.length ∧ g q.1 = some (.int e') ∧ g (q.1 + 1) = some (.int F.lv) ∧
      (∀ s x, s < q.2 → F.slots[s]? = some x → SlotOk g keys (q.1 + 2 + s) x) ∧ (∀ r ∈ ps.head?, r.1 + 2 + r.2 ≤ q.1) ∧ F.prev < n ∧ ChainOk g keys fs F.prev F.lv e' ps

/-- where the chain lies -/
noncomputable def InCh (ps : List (Nat × Nat)) (j : Nat) : Prop := ∃ q ∈ ps, q.1 ≤ j ∧ j < q.1 + 2 + q.2

theorem ChainOk.agree {g g' : Mem} {keys : List Int} {fs : List (Int × LF)} : ∀ {ps : List (Nat × Nat)} {n lv e : Int}, (∀ j, InCh ps j → g' j = g j) → ChainOk g keys fs n lv e ps → ChainOk g' keys fs n lv e ps
  | [], n, lv, e, _, h => h
  | q :: ps, n, lv, e, ha, h => by
    obtain ⟨h1, h2, h3, h4, F, e', h5, h6, h7, h8, h9, h10, h11, h12⟩ := h
    have hq : ∀ j, q.1 ≤ j → j < q.1 + 2 + q.2 → g' j = g j := fun j a b => ha j ⟨q, List.mem_cons_self, a, b⟩
    refine ⟨h1, h2, h3, h4, F, e', h5, h6, by rw [hq _ (by lia) (by lia)]; exact h7, by rw [hq _ (by lia) (by lia)]; exact h8, fun s x hs hx => ?_, h10, h11, ChainOk.agree (fun j ⟨r, hr, hj⟩ => ha j ⟨r, List.mem_cons_of_mem _ hr, hj⟩) h12⟩
    obtain ⟨v, hv, hw⟩ := h9 s x hs hx
    exact ⟨v, by rw [hq _ (by lia) (by lia)]; exact hv, hw⟩

/-- an unset slot may turn free of its content -/
theorem ChainOk.soft {g g' : Mem} {keys : List Int} {fs : List (Int × LF)} {j : Nat} (hj : g j = some void ∨ g j = some (cell 1 j)) (hj' : g' j = some (cell 1 j)) (ho : ∀ i, i ≠ j → g' i = g i) : ∀ {ps : List (Nat × Nat)} {n lv e : Int}, ChainOk g keys fs n lv e ps → ChainOk g' keys fs n lv e ps
  | [], n, lv, e, h => h
  | q :: ps, n, lv, e, h => by
    obtain ⟨h1, h2, h3, h4, F, e', h5, h6, h7, h8, h9, h10, h11, h12⟩ := h
    have int_no : ∀ (i : Nat) (a : Int), g i = some (.int a) → i ≠ j := by
      rintro i a hi rfl
      rcases hj with q | q <;> rw [hi] at q <;> simp [void, cell] at q
    refine ⟨h1, h2, h3, h4, F, e', h5, h6, by rw [ho _ (int_no _ _ h7)]; exact h7, by rw [ho _ (int_no _ _ h8)]; exact h8, fun s x hs hx => ?_, h10, h11, ChainOk.soft hj hj' ho h12⟩
    obtain ⟨v, hv, hw⟩ := h9 s x hs hx
    by_cases e : q.1 + 2 + s = j
    · refine ⟨cell 1 j, by rw [e]; exact hj', ?_⟩
      rw [e] at hv hw
      have hvv : v = void ∨ v = cell 1 j := by
        rcases hj with q | q
        · rw [hv] at q; exact .inl (Option.some.inj q)
        · rw [hv] at q; exact .inr (Option.some.inj q)
      rw [e]
      cases x with
      | unset => exact .inr rfl
      | free => rfl
      | i k =>
        obtain ⟨rfl, hk⟩ := hw
        rcases hvv with q | q
        · have := (cell_inj q).2; lia
        · exact absurd (cell_inj q).1 (by decide)
      | h m =>
        obtain ⟨r, hr, rfl⟩ := hw
        rcases hvv with q | q
        · exact absurd (cell_inj q).1 (by decide)
        · exact absurd (cell_inj q).1 (by decide)
    · exact ⟨v, by rw [ho _ e]; exact hv, hw⟩

theorem ChainOk.bound {g : Mem} {keys : List Int} {fs : List (Int × LF)} {B : Nat} : ∀ {ps : List (Nat × Nat)} {n lv e : Int}, ChainOk g keys fs n lv e ps → (∀ q ∈ ps.head?, q.1 + 2 + q.2 ≤ B) → ∀ j, InCh ps j → j < B
  | [], n, lv, e, h, hb, j, ⟨q, hq, _⟩ => by cases hq
  | q :: ps, n, lv, e, h, hb, j, ⟨r, hr, h1, h2⟩ => by
    obtain ⟨_, _, _, _, F, e', _, _, _, _, _, h10, _, h12⟩ := h
    have hq := hb q (by simp)
    rcases List.mem_cons.mp hr with rfl | hr
    · lia
    · have := ChainOk.bound (B := q.1) h12 h10 j ⟨r, hr, h1, h2⟩
      lia

theorem ChainOk.epath {g : Mem} {stk : List V} (hg : ∀ j v, g j = some v → stk[j]? = some v) {keys : List Int} {fs : List (Int × LF)} : ∀ {ps : List (Nat × Nat)} {n lv e : Int}, ChainOk g keys fs n lv e ps → EPath stk e (ps.map fun q => (q.1 : Int))
  | [], n, lv, e, h => h.2
  | q :: ps, n, lv, e, h => by
    obtain ⟨h1, _, _, _, F, e', _, _, h7, _, _, _, _, h12⟩ := h
    exact ⟨h1, by lia, e', by rw [h1]; exact hg _ _ h7, ChainOk.epath hg h12⟩
theorem ChainOk.desc {g : Mem} {keys : List Int} {fs : List (Int × LF)} : ∀ {ps : List (Nat × Nat)} {n lv e : Int}, ChainOk g keys fs n lv e ps → (ps.map fun q => (q.1 : Int)).Pairwise (fun a b => b < a)
  | [], n, lv, e, h => List.Pairwise.nil
  | q :: ps, n, lv, e, h => by
    obtain ⟨_, _, _, _, F, e', _, _, _, _, _, h10, _, h12⟩ := h
    rw [List.map_cons, List.pairwise_cons]
    refine ⟨fun a ha => ?_, ChainOk.desc h12⟩
    obtain ⟨r, hr, rfl⟩ := List.mem_map.mp ha
    have := ChainOk.bound (B := q.1) h12 h10 r.1 ⟨r, hr, by lia, by lia⟩
    lia

/-- the law's own chain -/
noncomputable def chOf (fs : List (Int × LF)) : Int → List (Nat × Nat) → List (Int × List Sl)
  | n, [] => []
  | n, q :: ps => match find fs n with
    | some F => (n, F.slots.take q.2) :: chOf fs F.prev ps
    | Option.none => []
theorem ChainOk.cp {g : Mem} {keys : List Int} {fs : List (Int × LF)} : ∀ {ps : List (Nat × Nat)} {n lv e : Int}, ChainOk g keys fs n lv e ps → CP fs n lv (chOf fs n ps)
  | [], n, lv, e, h => h.1
  | q :: ps, n, lv, e, h => by
    obtain ⟨_, h2, h3, _, F, e', h5, _, _, _, _, _, _, h12⟩ := h
    simp only [chOf, h5, CP]
    exact ⟨trivial, h2, by lia, F, rfl, by rw [h3]; congr 1; lia, ChainOk.cp h12⟩
theorem chOf_length {g : Mem} {keys : List Int} {fs : List (Int × LF)} : ∀ {ps : List (Nat × Nat)} {n lv e : Int}, ChainOk g keys fs n lv e ps → (chOf fs n ps).length = ps.length
  | [], n, lv, e, h => rfl
  | q :: ps, n, lv, e, h => by
    obtain ⟨_, _, _, _, F, e', h5, _, _, _, _, _, _, h12⟩ := h
    simp only [chOf, h5, List.length_cons, chOf_length h12]

/-- the variables -/
noncomputable def ValV (keys : List Int) (r : Nat) (v : V) : Vl → Prop
  | .open => v = cell 0 r
  | .i k => v = cell 5 k
  | .h m => ∃ r' : Nat, r' < r ∧ keys[r']? = some m ∧ v = cell 0 r'
noncomputable def ValsOk (h : Mem) (vals : List (Int × Vl)) : Prop := ∀ (r : Nat) m x, vals[r]? = some (m, x) → ∃ v, h r = some v ∧ ValV (vals.map (·.1)) r v x

/-- a choice of the law, and what it saved -/
structure Ch where
  saved : LS
  row : List V
  alt : Int
  trl : Nat
  b : Nat
  e : Int
  pb : Int
  ps : List (Nat × Nat)
  le : Nat
  lr : Nat
noncomputable def Ch.T (c : Ch) : Nat := c.b + c.row.length + 8

/-- a state's view of stack and heap -/
structure View (g h : Mem) (S : LS) (e : Int) (ps : List (Nat × Nat)) : Prop where
  chain : ChainOk g (S.vals.map (·.1)) S.frames S.cur S.live e ps
  vals : ValsOk h S.vals

/-- the record of a choice -/
structure Rec (stk : List V) (c : Ch) : Prop where
  n : stk[c.b]? = some (.int c.row.length)
  row : ∀ j v, c.row[j]? = some v → stk[c.b + 1 + j]? = some v
  e : stk[c.b + c.row.length + 1]? = some (.int c.e)
  cp : stk[c.b + c.row.length + 2]? = some (.int c.saved.live)
  pb : stk[c.b + c.row.length + 3]? = some (.int c.pb)
  alt : stk[c.b + c.row.length + 4]? = some (.int c.alt)
  trl : stk[c.b + c.row.length + 5]? = some (.int c.trl)
  len : stk[c.b + c.row.length + 6]? = some (.int c.saved.vals.length)
theorem Rec.agree {stk stk' : List V} {c : Ch} (h : Rec stk c) (ha : ∀ j, c.b ≤ j → j < c.T → stk'[j]? = stk[j]?) : Rec stk' c := by
  unfold Ch.T at ha
  refine ⟨?_, fun j v hj => ?_, ?_, ?_, ?_, ?_, ?_, ?_⟩
  · rw [ha _ (by lia) (by lia)]; exact h.n
  · have := (List.getElem?_eq_some_iff.mp hj).1
    rw [ha _ (by lia) (by lia)]; exact h.row j v hj
  · rw [ha _ (by lia) (by lia)]; exact h.e
  · rw [ha _ (by lia) (by lia)]; exact h.cp
  · rw [ha _ (by lia) (by lia)]; exact h.pb
  · rw [ha _ (by lia) (by lia)]; exact h.alt
  · rw [ha _ (by lia) (by lia)]; exact h.trl
  · rw [ha _ (by lia) (by lia)]; exact h.len

/-- a chain lies above or below a choice's record -/
noncomputable def Lay (cs : List Ch) (ps : List (Nat × Nat)) : Prop := ∀ c ∈ cs, ∀ q ∈ ps, q.1 + 2 + q.2 ≤ c.b ∨ c.T ≤ q.1

noncomputable def memS (stk : List V) (es : List Int) : Mem := fun j => (undoS stk es)[j]?
noncomputable def memH (hp : List V) (es : List Int) : Mem := fun j => (undoH hp es)[j]?

/-- the choices, the latest first -/
noncomputable def ChsOk (stk hp : List V) (ts : List Int) : Int → List Ch → Prop
  | b, [] => b = -1
  | b, c :: cs => b = c.b ∧ Rec stk c ∧ c.row.length ≤ 3 ∧ View (memS stk (ts.drop c.trl)) (memH hp (ts.drop c.trl)) c.saved c.e c.ps ∧ c.trl ≤ ts.length ∧ c.saved.vals.length ≤ hp.length ∧
      (∀ q ∈ c.ps.head?, q.1 + 2 + q.2 ≤ c.b) ∧ Lay cs c.ps ∧ (∀ a ∈ ts.take c.trl, 0 ≤ a → a < c.saved.vals.length) ∧ (∀ a ∈ ts.drop c.trl, a < 0 → (-1 - a < c.b ∨ c.T ≤ -1 - a)) ∧
      (∀ c' ∈ cs.head?, c'.T ≤ c.b ∧ c'.trl ≤ c.trl ∧ c'.saved.vals.length ≤ c.saved.vals.length) ∧ ChsOk stk hp ts c.pb cs

end C187

namespace C187
open PySem

variable {P : Pre} {M : Mach} {D : Sto} {Q : Ct} {d : Nat}

theorem vals_find {vals : List (Int × Vl)} (hn : (vals.map (·.1)).Nodup) {r : Nat} {m : Int} {x : Vl} (h : vals[r]? = some (m, x)) : find vals m = some x := find_of hn (List.mem_of_getElem? h)
theorem keys_vals {vals : List (Int × Vl)} {r : Nat} {m : Int} (h : (vals.map (·.1))[r]? = some m) : ∃ x, vals[r]? = some (m, x) := by
  rw [List.getElem?_map] at h
  obtain ⟨⟨n, x⟩, e, rfl⟩ := Option.map_eq_some_iff.mp h
  exact ⟨x, e⟩

/-- what the law says of a variable in the end is what the machine finds -/
theorem end_dr {heap stack : List V} {vals : List (Int × Vl)} (hn : (vals.map (·.1)).Nodup) (hv : ValsOk (fun r => heap[r]?) vals) : ∀ (r : Nat) (m : Int), (vals.map (·.1))[r]? = some m →
    ∃ res, LEnd vals (.h m) res ∧ ((∃ k, res = .i k ∧ Dr heap stack 0 r (cell 5 k)) ∨ (∃ (m' : Int) (r' : Nat), res = .h m' ∧ (vals.map (·.1))[r']? = some m' ∧ Dr heap stack 0 r (cell 0 r'))) := by
  intro r
  induction r using Nat.strongRecOn with
  | ind r ih =>
    intro m hm
    obtain ⟨x, hx⟩ := keys_vals hm
    have hf := vals_find hn hx
    obtain ⟨v, hv1, hv2⟩ := hv r m x hx
    cases x with
    | «open» =>
      simp only [ValV] at hv2
      subst hv2
      exact ⟨.h m, .self hf, .inr ⟨m, r, rfl, hm, .self0 (by lia) (by simpa using hv1)⟩⟩
    | i k =>
      simp only [ValV] at hv2
      subst hv2
      exact ⟨.i k, .toI hf, .inl ⟨k, rfl, .step0 (by lia) (by simpa using hv1) (by lia) (.other (by lia) (by lia))⟩⟩
    | h m' =>
      obtain ⟨r', hr, hk, rfl⟩ := hv2
      obtain ⟨res, h1, h2⟩ := ih r' hr m' hk
      refine ⟨res, .step hf h1, ?_⟩
      rcases h2 with ⟨k, e, h2⟩ | ⟨m2, r2, e, hk2, h2⟩
      · exact .inl ⟨k, e, .step0 (by lia) (by simpa using hv1) (by lia) h2⟩
      · exact .inr ⟨m2, r2, e, hk2, .step0 (by lia) (by simpa using hv1) (by lia) h2⟩

noncomputable def lb_slot : List S := [.ite (.cmp .eq (.item (.var "held") (.var "slot")) (.tup [(.str "unset")]))
        [.cont]
        [],
       .asg "spot" (.bin .add (.bin .add (.item (.var "places") (.var "at")) (.int 2)) (.var "slot")),
       .asg "value" (.call "_law_end" [(.item (.var "state") (.int 3)), (.item (.var "held") (.var "slot"))]),
       .asg "due" (.tup [(.glob "SRF"), (.var "spot")]),
       .ite (.cmp .eq (.item (.var "value") (.int 0)) (.str "i"))
        [.asg "due" (.tup [(.glob "INT"), (.item (.var "value") (.int 1))])]
        [.ite (.cmp .eq (.item (.var "value") (.int 0)) (.str "h"))
          [.asg "due" (.item (.var "cells") (.item (.var "value") (.int 1)))]
          []],
       .ite (.cmp .ne (.meth (.attr (.var "m") "store") "deref" [(.item (.attr (.attr (.var "m") "store") "stack") (.var "spot"))]) (.var "due"))
        [.ret (.bool false)]
        []]

/-- the names of _law_same -/
structure SE (ρ : Env) (S : LS) (lc lch lch' lpl : Nat) : Prop where
  m : ρ "m" = some (.loc 11)
  state : ρ "state" = some (.loc (S.ls + 19))
  cells : ρ "cells" = some (.loc (lc + 19))
  choices : ρ "choices" = some (.loc (lch + 19))
  chain : ρ "chain" = some (.loc (lch' + 19))
  places : ρ "places" = some (.loc (lpl + 19))

theorem slot_ok {C : Calls} (hC : C = callD prog (d + 1)) {S : LS} {lc lch lch' lpl lh : Nat} {cl : List (Int × V)} {places : List Int} {held : List Sl} {at_ : Nat} {p : Nat} {s : Nat} {x : Sl} {ρ : Env} {Qc : Cs} (H : Has D S.objs) (hc : D[lc]? = some (.dI cl)) (hpl : D[lpl]? = some (.list (places.map .int))) (hh : D[lh]? = some (.list (held.map Sl.v)))
    (hn : (S.vals.map (·.1)).Nodup) (hv : ValsOk (fun r => M.heap[r]?) S.vals) (hcl : ∀ (r : Nat) m, (S.vals.map (·.1))[r]? = some m → lk cl m = some (cell 0 r)) (hp : places[at_]? = some (p : Int)) (hx : held[s]? = some x) (hsl : SlotOk (fun j => M.stack[j]?) (S.vals.map (·.1)) (p + 2 + s) x)
    (E : SE ρ S lc lch lch' lpl) (e1 : ρ "held" = some (.loc (lh + 19))) (e2 : ρ "at" = some (.int at_)) (e3 : ρ "slot" = some (.int s))
    (hQ : ∀ fl ρ', SE ρ' S lc lch lch' lpl → ρ' "held" = some (.loc (lh + 19)) → ρ' "at" = some (.int at_) → (fl = .next ∨ fl = .cont) → Qc fl ρ' (Wd P M D)) :
    evSs C lb_slot ρ (Wd P M D) Qc := by
  obtain ⟨v, hv1, hv2⟩ := hsl
  have hva : D[S.lv]? = some (valsO S.vals) := H.va
  have s0 : (0 : Int) ≤ s := Int.natCast_nonneg s
  have a0 : (0 : Int) ≤ at_ := Int.natCast_nonneg at_
  have t0 : 0 ≤ (p : Int) + 2 + s := Int.natCast_nonneg (p + 2 + s)
  have hx' : (held.map Sl.v)[(s : Int).toNat]? = some x.v := by rw [Int.toNat_natCast, List.getElem?_map, hx]; rfl
  have hp' : (places.map V.int)[(at_ : Int).toNat]? = some (.int p) := by rw [Int.toNat_natCast, List.getElem?_map, hp]; rfl
  have hv1 : M.stack[((p : Int) + 2 + s).toNat]? = some v := hv1
  cases x with
  | unset => exact som e1 (som e3 (fwl hh (at_ok s0 hx' (hQ .cont ρ E e1 e2 (.inr rfl)))))
  | free =>
    subst hv2
    refine som e1 (som e3 (fwl hh (at_ok s0 hx' (som E.places (som e2 (fwl hpl (at_ok a0 hp' (som e3 (som E.state (fwl H.st (som e1 (som e3 (fwl hh (at_ok s0 hx' (useC hC (end_ok hva .free ?_))))))))))))))))
    exact som E.m (som E.m (at_ok t0 hv1 (useC hC (deref_ok (.self1 t0 hv1) (ifF (notF (eqT rfl rfl)) (hQ .next _ ⟨E.m, E.state, E.cells, E.choices, E.chain, E.places⟩ e1 e2 (.inl rfl)))))))
  | i k =>
    obtain ⟨rfl, _⟩ := hv2
    refine som e1 (som e3 (fwl hh (at_ok s0 hx' (som E.places (som e2 (fwl hpl (at_ok a0 hp' (som e3 (som E.state (fwl H.st (som e1 (som e3 (fwl hh (at_ok s0 hx' (useC hC (end_ok hva .i ?_))))))))))))))))
    exact som E.m (som E.m (at_ok t0 hv1 (useC hC (deref_ok (.other (by decide) (by decide)) (ifF (notF (eqT rfl rfl)) (hQ .next _ ⟨E.m, E.state, E.cells, E.choices, E.chain, E.places⟩ e1 e2 (.inl rfl)))))))
  | h m =>
    obtain ⟨r, hr, rfl⟩ := hv2
    obtain ⟨res, hend, hres⟩ := end_dr (stack := M.stack) hn hv r m hr
    refine som e1 (som e3 (fwl hh (at_ok s0 hx' (som E.places (som e2 (fwl hpl (at_ok a0 hp' (som e3 (som E.state (fwl H.st (som e1 (som e3 (fwl hh (at_ok s0 hx' (useC hC (end_ok hva hend ?_))))))))))))))))
    rcases hres with ⟨k, rfl, hdr⟩ | ⟨m', r', rfl, hk, hdr⟩
    · exact som E.m (som E.m (at_ok t0 hv1 (useC hC (deref_ok hdr (ifF (notF (eqT rfl rfl)) (hQ .next _ ⟨E.m, E.state, E.cells, E.choices, E.chain, E.places⟩ e1 e2 (.inl rfl)))))))
    · exact som E.cells (fwd hc (som (hcl _ _ hk) (som E.m (som E.m (at_ok t0 hv1 (useC hC (deref_ok hdr (ifF (notF (eqT rfl rfl)) (hQ .next _ ⟨E.m, E.state, E.cells, E.choices, E.chain, E.places⟩ e1 e2 (.inl rfl))))))))))

end C187

namespace C187
open PySem

variable {P : Pre} {M : Mach} {D : Sto} {Q : Ct} {d : Nat}

theorem slots_loop {C : Calls} (hC : C = callD prog (d + 1)) {S : LS} {lc lch lch' lpl lh : Nat} {cl : List (Int × V)} {places : List Int} {held : List Sl} {at_ : Nat} {p : Nat} {Qc : Cs} (H : Has D S.objs) (hc : D[lc]? = some (.dI cl)) (hpl : D[lpl]? = some (.list (places.map .int))) (hh : D[lh]? = some (.list (held.map Sl.v)))
    (hn : (S.vals.map (·.1)).Nodup) (hv : ValsOk (fun r => M.heap[r]?) S.vals) (hcl : ∀ (r : Nat) m, (S.vals.map (·.1))[r]? = some m → lk cl m = some (cell 0 r)) (hp : places[at_]? = some (p : Int)) (hsl : ∀ s x, held[s]? = some x → SlotOk (fun j => M.stack[j]?) (S.vals.map (·.1)) (p + 2 + s) x) :
    ∀ (n i : Nat) (ρ : Env), i + n = held.length → SE ρ S lc lch lch' lpl → ρ "held" = some (.loc (lh + 19)) → ρ "at" = some (.int at_) → (∀ ρ', SE ρ' S lc lch lch' lpl → ρ' "at" = some (.int at_) → Qc .next ρ' (Wd P M D)) →
    forV "slot" (evSs C lb_slot) ((List.range' i n).map fun (i : Nat) => V.int (0 + (i : Int))) ρ (Wd P M D) Qc
  | 0, i, ρ, hin, E, e1, e2, hQ => hQ ρ E e2
  | n + 1, i, ρ, hin, E, e1, e2, hQ => by
    obtain ⟨x, hx⟩ : ∃ x, held[i]? = some x := ⟨held[i]'(by lia), List.getElem?_eq_getElem _⟩
    refine slot_ok hC (s := i) H hc hpl hh hn hv hcl hp hx (hsl i x hx) (ρ := ρ.set "slot" (.int (0 + (i : Int)))) ⟨E.m, E.state, E.cells, E.choices, E.chain, E.places⟩ e1 e2 (congrArg (fun x => some (V.int x)) (Int.zero_add _)) fun fl ρ' E' e1' e2' hfl => ?_
    have := slots_loop hC H hc hpl hh hn hv hcl hp hsl n (i + 1) ρ' (by lia) E' e1' e2' hQ
    rcases hfl with rfl | rfl
    · exact this
    · exact this

noncomputable def lb_at : List S := [.ite (.any [(.not (.tru (.meth (.var "m") "in_chain" [(.item (.var "places") (.var "at"))]))), (.cmp .ne (.item (.attr (.attr (.var "m") "store") "stack") (.bin .add (.item (.var "places") (.var "at")) (.int 1))) (.item (.item (.item (.var "state") (.int 2)) (.item (.item (.var "chain") (.var "at")) (.int 0))) (.int 1)))])
      [.ret (.bool false)]
      [],
     .asg "held" (.item (.item (.var "chain") (.var "at")) (.int 1)),
     .for "slot" (.call "range" [(.call "len" [(.var "held")])]) lb_slot]

theorem at_loop {C : Calls} (hC : C = callD prog (d + 1)) {S : LS} {lc lch lch' lpl : Nat} {cl : List (Int × V)} {places : List Int} {acc : List V} {Qc : Cs} (H : Has D S.objs) (hc : D[lc]? = some (.dI cl)) (hpl : D[lpl]? = some (.list (places.map .int))) (hch : D[lch']? = some (.list acc))
    (hn : (S.vals.map (·.1)).Nodup) (hv : ValsOk (fun r => M.heap[r]?) S.vals) (hcl : ∀ (r : Nat) m, (S.vals.map (·.1))[r]? = some m → lk cl m = some (cell 0 r)) (hep : EPath M.stack M.e places) (hpw : places.Pairwise (fun a b => b < a)) :
    ∀ (ps : List (Nat × Nat)) (a : Nat) (n lv e : Int) (ρ : Env), ChainOk (fun j => M.stack[j]?) (S.vals.map (·.1)) S.frames n lv e ps → (∀ (j : Nat) q, ps[j]? = some q → places[a + j]? = some (q.1 : Int)) →
    (∀ (j : Nat) c, (chOf S.frames n ps)[j]? = some c → ∃ k, acc[a + j]? = some (.tup [.int c.1, .loc (k + 19)]) ∧ D[k]? = some (.list (c.2.map Sl.v))) → SE ρ S lc lch lch' lpl →
    (∀ ρ', SE ρ' S lc lch lch' lpl → Qc .next ρ' (Wd P M D)) →
    forV "at" (evSs C lb_at) ((List.range' a ps.length).map fun (i : Nat) => V.int (0 + (i : Int))) ρ (Wd P M D) Qc
  | [], a, n, lv, e, ρ, hC, hps, hcs, E, hQ => hQ ρ E
  | q :: ps, a, n, lv, e, ρ, hC, hps, hcs, E, hQ => by
    obtain ⟨h1, h2, h3, h4, F, e', h5, h6, h7, h8, h9, h10, h11, h12⟩ := hC
    have hpa := hps 0 q rfl
    rw [Nat.add_zero] at hpa
    obtain ⟨k, hk1, hk2⟩ := hcs 0 (n, F.slots.take q.2) (by simp only [chOf, h5]; rfl)
    rw [Nat.add_zero] at hk1
    obtain ⟨f1, f2⟩ := H.frame (find_mem h5)
    have hfr : D[S.lf]? = some (.dI (S.frames.map fun p => (p.1, .loc (p.2.fl + 19)))) := H.fr
    have a0 : (0 : Int) ≤ 0 + (a : Int) := (Int.zero_add (a : Int)).symm ▸ Int.natCast_nonneg a
    have ea : (0 + (a : Int)).toNat = a := by lia
    have hp' : (places.map V.int)[(0 + (a : Int)).toNat]? = some (.int q.1) := by rw [ea, List.getElem?_map, hpa]; rfl
    have hk1' : acc[(0 + (a : Int)).toNat]? = some (.tup [.int n, .loc (k + 19)]) := ea.symm ▸ hk1
    have hl3 : (F.slots.take q.2).length ≤ 3 := by rw [List.length_take]; lia
    have hl4 : ((F.slots.take q.2).map Sl.v).length = (F.slots.take q.2).length := List.length_map ..
    refine som E.m (som E.places (fwl hpl (at_ok a0 hp' (useC hC (in_chain_ok hep hpw (List.mem_of_getElem? hpa) ?_)))))
    refine som E.m (som E.places (fwl hpl (at_ok a0 hp' (at_ok (k := (q.1 : Int) + 1) (Int.natCast_nonneg (q.1 + 1)) h8 (som E.state (fwl H.st (som E.chain (fwl hch (at_ok a0 hk1' (fwd hfr (som (lk_map (β := V) (fun F : LF => V.loc (F.fl + 19)) h5) (fwl f1 (ifF (notF (tt rfl)) ?_)))))))))))))
    refine som E.chain (fwl hch (at_ok a0 hk1' (sl hk2 (forW_w (x := "slot") (B := evSs C lb_slot) (by rw [hl4]; unfold big; lia) ?_))))
    refine slots_loop hC (held := F.slots.take q.2) (at_ := a) (p := q.1) (lh := k) H hc hpl hk2 hn hv hcl hpa (fun s x hs => ?_) _ 0 ((ρ.set "at" (.int (0 + (a : Int)))).set "held" (.loc (k + 19))) ((Nat.zero_add _).trans hl4) ⟨E.m, E.state, E.cells, E.choices, E.chain, E.places⟩ rfl (congrArg (fun x => some (V.int x)) (Int.zero_add _)) fun ρ' E' e2'' => ?_
    · have hlt := (List.getElem?_eq_some_iff.mp hs).1
      rw [List.length_take] at hlt
      rw [List.getElem?_take_of_lt (by lia)] at hs
      exact h9 s x (by lia) hs
    · refine at_loop hC H hc hpl hch hn hv hcl hep hpw ps (a + 1) F.prev F.lv e' ρ' h12 (fun j r hr => ?_) (fun j c hcj => ?_) E' hQ
      · rw [show a + 1 + j = a + (j + 1) by lia]
        exact hps (j + 1) r hr
      · rw [show a + 1 + j = a + (j + 1) by lia]
        exact hcs (j + 1) c (by simp only [chOf, h5]; exact hcj)

end C187

namespace C187
open PySem

variable {P : Pre} {M : Mach} {D : Sto} {Q : Ct} {d : Nat}

noncomputable def lb_vals : List S := [.asg "value" (.call "_law_end" [(.item (.var "state") (.int 3)), (.tup [(.str "h"), (.var "number")])]),
     .ite (.cmp .ne (.meth (.attr (.var "m") "store") "deref" [(.item (.var "cells") (.var "number"))]) (.ite (.cmp .eq (.item (.var "value") (.int 0)) (.str "i")) (.tup [(.glob "INT"), (.item (.var "value") (.int 1))]) (.item (.var "cells") (.item (.var "value") (.int 1)))))
      [.ret (.bool false)]
      []]

theorem vals_loop {C : Calls} (hC : C = callD prog (d + 1)) {S : LS} {lc lch lch' lpl : Nat} {cl : List (Int × V)} {Qc : Cs} (H : Has D S.objs) (hc : D[lc]? = some (.dI cl)) (hn : (S.vals.map (·.1)).Nodup) (hv : ValsOk (fun r => M.heap[r]?) S.vals) (hcl : ∀ (r : Nat) m, (S.vals.map (·.1))[r]? = some m → lk cl m = some (cell 0 r)) :
    ∀ (rest done : List (Int × Vl)) (ρ : Env), done ++ rest = S.vals → SE ρ S lc lch lch' lpl → (∀ ρ', SE ρ' S lc lch lch' lpl → Qc .next ρ' (Wd P M D)) →
    forD "number" (evSs C lb_vals) (S.lv + 19) (S.vals.map fun p => (p.1, p.2.v)) (rest.map fun p => (p.1, p.2.v)) ρ (Wd P M D) Qc
  | [], done, ρ, hd, E, hQ => ⟨H.va, hQ ρ E⟩
  | (m, x) :: rest, done, ρ, hd, E, hQ => by
    have hk : (S.vals.map (·.1))[done.length]? = some m := by rw [← hd, List.map_append, List.getElem?_append_right (Nat.le_of_eq (List.length_map ..)), List.length_map, Nat.sub_self]; rfl
    have hva : D[S.lv]? = some (valsO S.vals) := H.va
    obtain ⟨res, hend, hres⟩ := end_dr (stack := M.stack) hn hv done.length m hk
    have nxt : ∀ v, forD "number" (evSs C lb_vals) (S.lv + 19) (S.vals.map fun p => (p.1, p.2.v)) (rest.map fun p => (p.1, p.2.v)) ((ρ.set "number" (.int m)).set "value" v) (Wd P M D) Qc := fun v =>
      vals_loop hC H hc hn hv hcl rest (done ++ [(m, x)]) _ (app_cons.trans hd) ⟨E.m, E.state, E.cells, E.choices, E.chain, E.places⟩ hQ
    refine ⟨H.va, som E.state (fwl H.st (useC hC (end_ok (a := .h m) hva hend (som E.m (som E.cells (fwd hc (som (hcl _ _ hk) ?_)))))))⟩
    rcases hres with ⟨k, rfl, hdr⟩ | ⟨m', r', rfl, hk', hdr⟩
    · exact useC hC (deref_ok hdr (ifF (notF (eqT rfl rfl)) (nxt _)))
    · exact useC hC (deref_ok hdr (som E.cells (fwd hc (som (hcl _ _ hk') (ifF (notF (eqT rfl rfl)) (nxt _))))))

/-- an entry of the law's choices -/
noncomputable def chO (c : Ch) : O := .list [.loc (c.saved.ls + 19), .loc (c.lr + 19), .int c.alt, .int c.saved.vals.length, .int c.trl]

noncomputable def lb_marks : List S := [.asg "b" (.item (.var "marks") (.var "at")),
     .ite (.cmp .ne (.item (.attr (.attr (.var "m") "store") "stack") (.bin .add (.bin .add (.var "b") (.item (.attr (.attr (.var "m") "store") "stack") (.var "b"))) (.glob "AT_ALTERNATIVE"))) (.item (.item (.var "choices") (.bin .sub (.bin .sub (.call "len" [(.var "choices")]) (.int 1)) (.var "at"))) (.int 2)))
      [.ret (.bool false)]
      []]

theorem rev_at {α : Type} {l : List α} {a : Nat} (h : a < l.length) : 0 ≤ (l.length : Int) - 1 - (0 + (a : Int)) ∧ l.reverse[((l.length : Int) - 1 - (0 + (a : Int))).toNat]? = l[a]? := by
  obtain ⟨k, hk⟩ := Nat.exists_eq_add_of_lt h
  have e : (l.length : Int) - 1 - (0 + (a : Int)) = (k : Int) := by lia
  rw [e]
  refine ⟨Int.natCast_nonneg _, ?_⟩
  rw [Int.toNat_natCast, List.getElem?_reverse (by lia), hk, Nat.add_sub_cancel, Nat.add_sub_cancel]
theorem marks_loop {C : Calls} {lch lm : Nat} {chs : List Ch} {Qc : Cs} (hch : D[lch]? = some (.list (chs.reverse.map fun c => .loc (c.le + 19)))) (hce : ∀ c ∈ chs, D[c.le]? = some (chO c)) (hm : D[lm]? = some (.list ((chs.map fun c => (c.b : Int)).map .int))) (hrec : ∀ c ∈ chs, Rec M.stack c) :
    ∀ (n a : Nat) (ρ : Env), a + n = chs.length → ρ "m" = some (.loc 11) → ρ "choices" = some (.loc (lch + 19)) → ρ "marks" = some (.loc (lm + 19)) → (∀ ρ', Qc .next ρ' (Wd P M D)) →
    forV "at" (evSs C lb_marks) ((List.range' a n).map fun (i : Nat) => V.int (0 + (i : Int))) ρ (Wd P M D) Qc
  | 0, a, ρ, ha, e1, e2, e3, hQ => hQ ρ
  | n + 1, a, ρ, ha, e1, e2, e3, hQ => by
    obtain ⟨c, hc⟩ : ∃ c, chs[a]? = some c := ⟨chs[a]'(by lia), List.getElem?_eq_getElem _⟩
    have hmem := List.mem_of_getElem? hc
    have R := hrec c hmem
    have a0 : (0 : Int) ≤ 0 + (a : Int) := (Int.zero_add (a : Int)).symm ▸ Int.natCast_nonneg a
    have ea : (0 + (a : Int)).toNat = a := congrArg Int.toNat (Int.zero_add (a : Int))
    have h1 : ((chs.map fun c => (c.b : Int)).map V.int)[(0 + (a : Int)).toNat]? = some (.int c.b) := by rw [ea, List.getElem?_map, List.getElem?_map, hc]; rfl
    have hl : ((chs.reverse.map fun c => V.loc (c.le + 19)).length : Int) = chs.length := congrArg _ ((List.length_map ..).trans List.length_reverse)
    obtain ⟨hi, hr⟩ := rev_at (l := chs) (a := a) (by lia)
    rw [← hl] at hi hr
    have h2 : (chs.reverse.map fun c => V.loc (c.le + 19))[(((chs.reverse.map fun c => V.loc (c.le + 19)).length : Int) - 1 - (0 + (a : Int))).toNat]? = some (.loc (c.le + 19)) := by
      rw [List.getElem?_map, hr, hc]; rfl
    have hcO : D[c.le]? = some (.list [.loc (c.saved.ls + 19), .loc (c.lr + 19), .int c.alt, .int c.saved.vals.length, .int c.trl]) := hce c hmem
    refine som e3 (fwl hm (at_ok a0 h1 (som e1 (som e1 (at_ok (k := (c.b : Int)) (Int.natCast_nonneg _) R.n (at_ok (k := (c.b : Int) + c.row.length + 4) (Int.natCast_nonneg (c.b + c.row.length + 4)) R.alt ?_))))))
    exact som e2 (som e2 (sl hch (fwl hch (at_ok hi h2 (fwl hcO (ifF (notF (tt rfl)) (marks_loop hch hce hm hrec n (a + 1) _ (by lia) e1 e2 e3 hQ)))))))

end C187

namespace C187
open PySem

variable {P : Pre} {M : Mach} {D : Sto} {Q : Ct} {d : Nat}

theorem ChL.get {D : Sto} {lo : Nat} : ∀ {cs : List (Int × List Sl)} {vs : List V}, ChL D lo cs vs → ∀ (j : Nat) c, cs[j]? = some c → ∃ k, vs[j]? = some (.tup [.int c.1, .loc (k + 19)]) ∧ D[k]? = some (.list (c.2.map Sl.v))
  | [], [], _, j, c, h => by simp at h
  | c' :: cs, v :: vs, x, 0, c, h => by
    simp at h
    subst h
    obtain ⟨k, rfl, _, hk⟩ := x.1
    exact ⟨k, rfl, hk⟩
  | c' :: cs, v :: vs, x, j + 1, c, h => by
    simp only [List.getElem?_cons_succ] at h ⊢
    exact ChL.get x.2 j c h
  | [], _ :: _, x, _, _, _ => x.elim
  | _ :: _, [], x, _, _, _ => x.elim

theorem ChsOk.bpath {stk hp : List V} {ts : List Int} : ∀ {cs : List Ch} {b : Int}, ChsOk stk hp ts b cs → BPath stk b (cs.map fun c => (c.b : Int))
  | [], b, h => by have h : b = -1 := h; show b < 0; lia
  | c :: cs, b, h => by
    obtain ⟨h1, R, _, _, _, _, _, _, _, _, _, h2⟩ := h
    refine ⟨h1, by lia, c.row.length, c.pb, by rw [h1]; exact R.n, by lia, ?_, ChsOk.bpath h2⟩
    rw [h1]
    exact R.pb
theorem ChsOk.recs {stk hp : List V} {ts : List Int} : ∀ {cs : List Ch} {b : Int}, ChsOk stk hp ts b cs → ∀ c ∈ cs, Rec stk c
  | [], b, h, c, hc => by cases hc
  | c :: cs, b, h, c', hc => by
    obtain ⟨h1, R, _, _, _, _, _, _, _, _, _, h2⟩ := h
    rcases List.mem_cons.mp hc with rfl | hc
    · exact R
    · exact ChsOk.recs h2 c' hc

theorem same_ok {S : LS} {lc lch : Nat} {cl : List (Int × V)} {chs : List Ch} {ps : List (Nat × Nat)} {ts : List Int} (H : Has D S.objs) (hc : D[lc]? = some (.dI cl)) (hch : D[lch]? = some (.list (chs.reverse.map fun c => .loc (c.le + 19)))) (hce : ∀ c ∈ chs, D[c.le]? = some (chO c))
    (hn : (S.vals.map (·.1)).Nodup) (hV : View (fun j => M.stack[j]?) (fun r => M.heap[r]?) S M.e ps) (hcp : M.cp = S.live) (hcl : ∀ (r : Nat) m, (S.vals.map (·.1))[r]? = some m → lk cl m = some (cell 0 r)) (hC' : ChsOk M.stack M.heap ts M.b chs) (hb : ps.length < 1000) (hb2 : chs.length < 1000)
    (hQ : ∀ D', Grows D D' → Q (.bool true) (Wd P M D')) : callD prog (d + 2) "_law_same" [.loc 11, .loc (S.ls + 19), .loc (lc + 19), .loc (lch + 19)] (Wd P M D) Q := by
  have hlen := chOf_length hV.chain
  have hep := hV.chain.epath (stk := M.stack) (fun j v h => h)
  refine callC rfl rfl rfl fun C hC => useC hC (chain_ok H hV.chain.cp (by rw [hlen]; unfold big; lia) fun D1 acc g1 hD1 hL => useC hC (environments_ok hep (by rw [List.length_map]; unfold big; lia) ?_))
  obtain ⟨D2, hD2⟩ : ∃ D2, D2 = D1 ++ [O.list ((ps.map fun q => (q.1 : Int)).map .int)] := ⟨_, rfl⟩
  rw [← hD2]
  have g2 : Grows D1 D2 := by rw [hD2]; exact Grows.app _ _
  have g := g1.trans g2
  have hacc : D2[D.length]? = some (.list acc) := g2.get hD1
  have hpl : D2[D1.length]? = some (.list ((ps.map fun q => (q.1 : Int)).map .int)) := by rw [hD2]; exact last_get ..
  have H2 := H.grows g
  have haccl : acc.length = ps.length := by rw [← hL.length, hlen]
  have hpll : ((ps.map fun q => (q.1 : Int)).map V.int).length = ps.length := (List.length_map ..).trans (List.length_map ..)
  have hc2 := g.get hc
  refine sl hpl (sl hacc (ifF (notF (tt (by rw [hpll, haccl]))) (fwl H2.st (ifF (notF (tt hcp)) (sl hacc (forW_w (x := "at") (B := evSs C lb_at) (by rw [haccl]; unfold big; lia) ?_))))))
  rw [haccl]
  refine at_loop hC H2 hc2 hpl hacc hn hV.vals hcl hep hV.chain.desc ps 0 _ _ _ _ hV.chain (fun j q hj => ?_) (fun j c hj => ?_) (lc := lc) (lch := lch) ⟨rfl, rfl, rfl, rfl, rfl, rfl⟩ fun ρ2 E2 => ?_
  · rw [Nat.zero_add, List.getElem?_map, hj]; rfl
  · rw [Nat.zero_add]
    obtain ⟨k, h1, h2⟩ := hL.get j c hj
    exact ⟨k, h1, g2.get h2⟩
  have hw : D2[S.lv]? = some (.dI (S.vals.map fun p => (p.1, p.2.v))) := H2.va
  refine som E2.state (fwl H2.st (fwd hw (vals_loop hC H2 hc2 hn hV.vals hcl S.vals [] ρ2 rfl E2 fun ρ3 E3 => som E3.m (useC hC (choices_ok hC'.bpath (by rw [List.length_map]; unfold big; lia) ?_)))))
  obtain ⟨D3, hD3⟩ : ∃ D3, D3 = D2 ++ [O.list ((chs.map fun c => (c.b : Int)).map .int)] := ⟨_, rfl⟩
  rw [← hD3]
  have g3 : Grows D2 D3 := by rw [hD3]; exact Grows.app _ _
  have gg := g.trans g3
  have hm : D3[D2.length]? = some (.list ((chs.map fun c => (c.b : Int)).map .int)) := by rw [hD3]; exact last_get ..
  have hch3 := gg.get hch
  have hml : ((chs.map fun c => (c.b : Int)).map V.int).length = chs.length := (List.length_map ..).trans (List.length_map ..)
  have hcl3 : (chs.reverse.map fun c => V.loc (c.le + 19)).length = chs.length := (List.length_map ..).trans List.length_reverse
  refine sl hm (som E3.choices (sl hch3 (ifF (notF (tt (by rw [hml, hcl3]))) (sl hm (forW_w (x := "at") (B := evSs C lb_marks) (by rw [hml]; unfold big; lia) ?_)))))
  rw [hml]
  exact marks_loop hch3 (fun c hc => gg.get (hce c hc)) hm hC'.recs chs.length 0 (ρ3.set "marks" (.loc (D2.length + 19))) (Nat.zero_add _) E3.m E3.choices rfl fun ρ4 => hQ D3 gg

end C187

namespace C187
open PySem

/-- the entries of the trail point at what is there -/
noncomputable def TrOk (stk hp : List V) (ts : List Int) : Prop := ∀ a ∈ ts, (0 ≤ a → a.toNat < hp.length) ∧ (a < 0 → (-1 - a).toNat < stk.length)
theorem TrOk.drop {stk hp : List V} {ts : List Int} (h : TrOk stk hp ts) (n : Nat) : TrOk stk hp (ts.drop n) := fun a ha => h a (List.mem_of_mem_drop ha)
theorem memS_get {stk hp : List V} {es : List Int} (h : TrOk stk hp es) (j : Nat) : memS stk es j = if (-1 - (j : Int)) ∈ es then some (cell 1 j) else stk[j]? := undoS_get stk j es fun a ha => (h a ha).2
theorem memH_get {stk hp : List V} {es : List Int} (h : TrOk stk hp es) (j : Nat) : memH hp es j = if (j : Int) ∈ es then some (cell 0 j) else hp[j]? := undoH_get hp j es fun a ha => (h a ha).1

theorem ValsOk.agree {h h' : Mem} {vals : List (Int × Vl)} (ha : ∀ r, r < vals.length → h' r = h r) (hv : ValsOk h vals) : ValsOk h' vals := fun r m x hx => by
  obtain ⟨v, e, w⟩ := hv r m x hx
  exact ⟨v, by rw [ha r (List.getElem?_eq_some_iff.mp hx).1]; exact e, w⟩

theorem View.agree {g g' h h' : Mem} {S : LS} {e : Int} {ps : List (Nat × Nat)} (V : View g h S e ps) (hg : ∀ j, InCh ps j → g' j = g j) (hh : ∀ r, r < S.vals.length → h' r = h r) : View g' h' S e ps := ⟨V.chain.agree hg, V.vals.agree hh⟩

theorem Ch.b_lt (c : Ch) : c.b < c.T := by unfold Ch.T; lia

/-- what lies above all the choices turns, the heap grows -/
theorem ChsOk.above {stk stk' hp hp' : List V} {ts : List Int} {B : Nat} (hs : ∀ j, j < B → stk'[j]? = stk[j]?) (hl : stk.length ≤ stk'.length) (hh : ∀ r, r < hp.length → hp'[r]? = hp[r]?) (hl2 : hp.length ≤ hp'.length) (tr : TrOk stk hp ts) :
    ∀ {cs : List Ch} {b : Int}, (∀ c ∈ cs.head?, c.T ≤ B) → ChsOk stk hp ts b cs → ChsOk stk' hp' ts b cs
  | [], b, _, h => h
  | c :: cs, b, hB, h => by
    obtain ⟨h1, R, h3, V, h4, h5, h6, h7, h8, h9, h10, h11⟩ := h
    have hT : c.T ≤ B := hB c (by simp)
    have hbT : c.b < c.T := by unfold Ch.T; lia
    have tr' : TrOk stk' hp' ts := fun a ha => ⟨fun h => Nat.lt_of_lt_of_le ((tr a ha).1 h) hl2, fun h => Nat.lt_of_lt_of_le ((tr a ha).2 h) hl⟩
    refine ⟨h1, R.agree fun j _ hj => hs j (by lia), h3, V.agree (fun j hj => ?_) (fun r hr => ?_), h4, by lia, h6, h7, h8, h9, h10, ChsOk.above hs hl hh hl2 tr (fun c' hc' => ?_) h11⟩
    · have hjb := V.chain.bound h6 j hj
      rw [memS_get (tr'.drop _), memS_get (tr.drop _), hs j (by lia)]
    · rw [memH_get (tr'.drop _), memH_get (tr.drop _), hh r (by lia)]
    · have := (h10 c' hc').1
      lia

theorem undoS_set_last {stk : List V} {es : List Int} {j : Nat} {v : V} : undoS (stk.set j v) (es ++ [-1 - (j : Int)]) = undoS (stk.set j (cell 1 j)) es := by
  rw [undoS_snoc, if_neg (by lia), show (-1 - (-1 - (j : Int))).toNat = j by lia, List.set_set, show -1 - (-1 - (j : Int)) = (j : Int) by lia]

/-- a slot below or above turns: what is below the last choice is written down -/
theorem ChsOk.slot {stk hp : List V} {ts ts' : List Int} {j : Nat} {v : V} {bb : Int} (hj : j < stk.length) (hc : stk[j]? = some void ∨ stk[j]? = some (cell 1 j)) (ht : ts' = if (j : Int) < bb then ts ++ [-1 - (j : Int)] else ts) (tr : TrOk stk hp ts) :
    ∀ {cs : List Ch} {b : Int}, (∀ c ∈ cs.head?, (c.b : Int) ≤ bb) → (∀ c ∈ cs, j < c.b ∨ c.T ≤ j) → ChsOk stk hp ts b cs → ChsOk (stk.set j v) hp ts' b cs
  | [], b, _, _, h => h
  | c :: cs, b, hbb, hlay, h => by
    obtain ⟨h1, R, h3, V, h4, h5, h6, h7, h8, h9, h10, h11⟩ := h
    have hb := hbb c (by simp)
    have hl := hlay c List.mem_cons_self
    have hbT : c.b < c.T := by unfold Ch.T; lia
    have hR : Rec (stk.set j v) c := R.agree fun i hi hi2 => by rw [List.getElem?_set_ne (by lia)]
    have htake : ts'.take c.trl = ts.take c.trl := by
      rw [ht]; split
      · rw [List.take_append_of_le_length h4]
      · rfl
    have hlen' : c.trl ≤ ts'.length := by
      rw [ht]; split
      · rw [List.length_append]; lia
      · exact h4
    have rest := ChsOk.slot hj hc ht tr (cs := cs) (b := c.pb) (bb := bb) (v := v) (fun c' hc' => by have := (h10 c' hc').1; have := c'.b_lt; lia) (fun c' hc' => hlay c' (List.mem_cons_of_mem _ hc')) h11
    have trd := tr.drop c.trl
    by_cases hjb : (j : Int) < bb
    · rw [if_pos hjb] at ht
      have hdrop : ts'.drop c.trl = ts.drop c.trl ++ [-1 - (j : Int)] := by rw [ht, List.drop_append_of_le_length h4]
      have trj : TrOk (stk.set j (cell 1 j)) hp (ts.drop c.trl) := fun a ha => by rw [List.length_set]; exact trd a ha
      have hm : ∀ i, memS (stk.set j v) (ts'.drop c.trl) i = memS (stk.set j (cell 1 j)) (ts.drop c.trl) i := fun i => by unfold memS; rw [hdrop, undoS_set_last]
      have hH : memH hp (ts'.drop c.trl) = memH hp (ts.drop c.trl) := by
        unfold memH
        rw [hdrop, undoH_snoc, if_neg (by lia)]
      refine ⟨h1, hR, h3, ⟨?_, by rw [hH]; exact V.vals⟩, hlen', h5, h6, h7, by rw [htake]; exact h8, fun a ha hn => ?_, h10, rest⟩
      · refine V.chain.soft (j := j) ?_ ?_ (fun i hi => ?_)
        · rw [memS_get trd]
          split
          · exact .inr rfl
          · exact hc
        · rw [hm, memS_get trj, List.getElem?_set_self hj]
          split <;> rfl
        · rw [hm, memS_get trj, memS_get trd, List.getElem?_set_ne (Ne.symm hi)]
      · rw [hdrop] at ha
        rcases List.mem_append.mp ha with ha | ha
        · exact h9 a ha hn
        · obtain rfl : a = -1 - (j : Int) := by simpa using ha
          lia
    · rw [if_neg hjb] at ht
      subst ht
      refine ⟨h1, hR, h3, V.agree (fun i hi => ?_) (fun _ _ => rfl), hlen', h5, h6, h7, h8, h9, h10, rest⟩
      have hib := V.chain.bound h6 i hi
      have trj : TrOk (stk.set j v) hp (ts'.drop c.trl) := fun a ha => by rw [List.length_set]; exact trd a ha
      rw [memS_get trj, memS_get trd, List.getElem?_set_ne (by lia)]

end C187

namespace C187
open PySem

theorem undoH_set_last {hp : List V} {es : List Int} {a : Nat} {v : V} (h : hp[a]? = some (cell 0 a)) : undoH (hp.set a v) (es ++ [(a : Int)]) = undoH hp es := by
  rw [undoH_snoc, if_pos (by lia), Int.toNat_natCast, List.set_set]
  have : hp.set a (cell 0 a) = hp := by
    refine List.ext_getElem? fun i => ?_
    by_cases q : i = a
    · subst q; rw [List.getElem?_set_self (List.getElem?_eq_some_iff.mp h).1, h]
    · rw [List.getElem?_set_ne (Ne.symm q)]
  rw [this]

/-- a variable is bound -/
theorem ChsOk.var {stk hp : List V} {ts ts' : List Int} {a : Nat} {v : V} {hb : Int} (hc : hp[a]? = some (cell 0 a)) (ht : ts' = if (a : Int) < hb then ts ++ [(a : Int)] else ts) (tr : TrOk stk hp ts) :
    ∀ {cs : List Ch} {b : Int}, (∀ c ∈ cs.head?, (c.saved.vals.length : Int) ≤ hb) → ChsOk stk hp ts b cs → ChsOk stk (hp.set a v) ts' b cs
  | [], b, _, h => h
  | c :: cs, b, hhb, h => by
    obtain ⟨h1, R, h3, V, h4, h5, h6, h7, h8, h9, h10, h11⟩ := h
    have hb0 := hhb c (by simp)
    have htake : ts'.take c.trl = ts.take c.trl := by
      rw [ht]; split
      · rw [List.take_append_of_le_length h4]
      · rfl
    have hlen' : c.trl ≤ ts'.length := by
      rw [ht]; split
      · rw [List.length_append]; lia
      · exact h4
    have rest := ChsOk.var (v := v) hc ht tr (cs := cs) (b := c.pb) (fun c' hc' => by have := (h10 c' hc').2.2; lia) h11
    have trd := tr.drop c.trl
    by_cases hjb : (a : Int) < hb
    · rw [if_pos hjb] at ht
      have hdrop : ts'.drop c.trl = ts.drop c.trl ++ [(a : Int)] := by rw [ht, List.drop_append_of_le_length h4]
      have hH : memH (hp.set a v) (ts'.drop c.trl) = memH hp (ts.drop c.trl) := by
        unfold memH
        rw [hdrop, undoH_set_last hc]
      have hS : memS stk (ts'.drop c.trl) = memS stk (ts.drop c.trl) := by
        unfold memS
        rw [hdrop, undoS_snoc, if_pos (by lia)]
      refine ⟨h1, R, h3, by rw [hS, hH]; exact V, hlen', by rw [List.length_set]; exact h5, h6, h7, by rw [htake]; exact h8, fun x hx hn => ?_, h10, rest⟩
      rw [hdrop] at hx
      rcases List.mem_append.mp hx with hx | hx
      · exact h9 x hx hn
      · obtain rfl : x = (a : Int) := by simpa using hx
        lia
    · rw [if_neg hjb] at ht
      subst ht
      have trd' : TrOk stk (hp.set a v) (ts'.drop c.trl) := fun x hx => by rw [List.length_set]; exact trd x hx
      refine ⟨h1, R, h3, V.agree (fun _ _ => rfl) (fun r hr => ?_), hlen', by rw [List.length_set]; exact h5, h6, h7, h8, h9, h10, rest⟩
      rw [memH_get trd', memH_get trd, List.getElem?_set_ne (by lia)]

theorem undoS_append (s : List V) (a b : List Int) : undoS s (a ++ b) = undoS (undoS s b) a := by unfold undoS; rw [List.foldr_append]
theorem undoH_append (s : List V) (a b : List Int) : undoH s (a ++ b) = undoH (undoH s b) a := by unfold undoH; rw [List.foldr_append]

/-- back to the latest choice -/
theorem ChsOk.back {stk hp : List V} {ts : List Int} {L K : Nat} (tr : TrOk stk hp ts) (hK : K ≤ ts.length) (hL : L ≤ hp.length) (hlow : ∀ a ∈ ts.take K, 0 ≤ a → a < (L : Int)) :
    ∀ {cs : List Ch} {b : Int}, (∀ c ∈ cs.head?, c.trl ≤ K ∧ c.saved.vals.length ≤ L) → (∀ c ∈ cs, ∀ a ∈ ts.drop c.trl, a < 0 → (-1 - a < c.b ∨ c.T ≤ -1 - a)) → ChsOk stk hp ts b cs → ChsOk (undoS stk (ts.drop K)) ((undoH hp (ts.drop K)).take L) (ts.take K) b cs
  | [], b, _, _, h => h
  | c :: cs, b, hh, hall, h => by
    obtain ⟨h1, R, h3, V, h4, h5, h6, h7, h8, h9, h10, h11⟩ := h
    obtain ⟨hK', hL'⟩ := hh c (by simp)
    have rest := ChsOk.back tr hK hL hlow (cs := cs) (b := c.pb) (fun c' hc' => by have := h10 c' hc'; lia) (fun c' hc' => hall c' (List.mem_cons_of_mem _ hc')) h11
    have e1 : (ts.take K).drop c.trl ++ ts.drop K = ts.drop c.trl := by
      rw [List.drop_take]
      have : ts.drop K = (ts.drop c.trl).drop (K - c.trl) := by rw [List.drop_drop]; congr 1; lia
      rw [this, List.take_append_drop]
    have hS : memS (undoS stk (ts.drop K)) ((ts.take K).drop c.trl) = memS stk (ts.drop c.trl) := by
      unfold memS; rw [← undoS_append, e1]
    have trK : TrOk (undoS stk (ts.drop K)) ((undoH hp (ts.drop K)).take L) (ts.take K) := fun a ha => by
      have t := tr a (List.mem_of_mem_take ha)
      rw [undoS_length, List.length_take, undoH_length]
      refine ⟨fun h0 => ?_, t.2⟩
      have := hlow a ha h0
      lia
    have trK2 : TrOk (undoS stk (ts.drop K)) (undoH hp (ts.drop K)) ((ts.take K).drop c.trl) := fun a ha => by
      rw [undoS_length, undoH_length]; exact tr a (List.mem_of_mem_take (List.mem_of_mem_drop ha))
    have hRec : Rec (undoS stk (ts.drop K)) c := R.agree fun j hj hj2 => by
      have := memS_get (tr.drop K) j
      unfold memS at this
      rw [this, if_neg]
      intro hm
      have hm' : -1 - (j : Int) ∈ ts.drop c.trl := by rw [← e1]; exact List.mem_append_right _ hm
      have := h9 _ hm' (by lia)
      lia
    refine ⟨h1, hRec, h3, ?_, by rw [List.length_take]; lia, by rw [List.length_take, undoH_length]; lia, h6, h7, ?_, ?_, h10, rest⟩
    · rw [hS]
      refine V.agree (fun _ _ => rfl) fun r hr => ?_
      have a1 := memH_get (trK.drop c.trl) r
      have a2 : memH (undoH hp (ts.drop K)) ((ts.take K).drop c.trl) r = _ := memH_get trK2 r
      rw [a1, List.getElem?_take_of_lt (by lia), ← a2]
      unfold memH
      rw [← undoH_append, e1]
    · rw [List.take_take, Nat.min_eq_left hK']; exact h8
    · intro a ha hn
      exact h9 a (by rw [← e1]; exact List.mem_append_left _ ha) hn

end C187

namespace C187
open PySem

theorem SameF.find {n : Int} : ∀ {fs fs' : List (Int × LF)}, SameF fs fs' → ∀ {F : LF}, find fs n = some F → ∃ F', find fs' n = some F' ∧ F'.prev = F.prev ∧ F'.lv = F.lv ∧ F'.slots = F.slots
  | [], [], _, F, h => by simp [C187.find] at h
  | p :: ps, q :: qs, x, F, h => by
    obtain ⟨⟨h1, h2, h3, h4⟩, x⟩ := x
    unfold C187.find at h ⊢
    rw [List.find?_cons] at h ⊢
    by_cases e : p.1 = n
    · have e' : q.1 = n := h1 ▸ e
      simp only [e, e', decide_true, Option.map_some, Option.some.injEq] at h ⊢
      subst h
      exact ⟨q.2, rfl, h2.symm, h3.symm, h4.symm⟩
    · have e' : ¬ q.1 = n := h1 ▸ e
      simp only [e, e', decide_false] at h ⊢
      exact SameF.find x h
  | [], _ :: _, x, _, _ => x.elim
  | _ :: _, [], x, _, _ => x.elim

/-- the frames may be others, if what they say of the chain is the same -/
theorem ChainOk.frames {g : Mem} {keys : List Int} {fs fs' : List (Int × LF)} : ∀ {ps : List (Nat × Nat)} {n lv e : Int}, (∀ m F, m ≤ n → find fs m = some F → ∃ F', find fs' m = some F' ∧ F'.prev = F.prev ∧ F'.lv = F.lv ∧ F'.slots = F.slots) → ChainOk g keys fs n lv e ps → ChainOk g keys fs' n lv e ps
  | [], n, lv, e, _, h => h
  | q :: ps, n, lv, e, hf, h => by
    obtain ⟨h1, h2, h3, h4, F, e', h5, h6, h7, h8, h9, h10, h11, h12⟩ := h
    obtain ⟨F', k1, k2, k3, k4⟩ := hf n F (by lia) h5
    refine ⟨h1, h2, h3, h4, F', e', k1, by rw [k4]; exact h6, h7, by rw [k3]; exact h8, by rw [k4]; exact h9, h10, by rw [k2]; exact h11, ?_⟩
    rw [k2, k3]
    exact ChainOk.frames (fun m F hm => hf m F (by lia)) h12
theorem ChainOk.same {g : Mem} {keys : List Int} {fs fs' : List (Int × LF)} (hs : SameF fs fs') {ps : List (Nat × Nat)} {n lv e : Int} (h : ChainOk g keys fs n lv e ps) : ChainOk g keys fs' n lv e ps :=
  h.frames fun m F _ hF => hs.find hF
theorem find_snoc {α : Type} {l : List (Int × α)} {k n : Int} {a x : α} (h : find l n = some x) : find (l ++ [(k, a)]) n = some x := by
  unfold C187.find at h ⊢
  obtain ⟨p, hp, rfl⟩ := Option.map_eq_some_iff.mp h
  rw [List.find?_append, hp]; rfl
theorem find_new {α : Type} {l : List (Int × α)} {k : Int} {a : α} (h : k ∉ l.map (·.1)) : find (l ++ [(k, a)]) k = some a := by
  unfold C187.find
  rw [List.find?_append]
  have : l.find? (fun p => decide (p.1 = k)) = none := by
    rw [List.find?_eq_none]
    intro p hp
    simp only [decide_eq_true_eq]
    rintro rfl
    exact h (List.mem_map_of_mem hp)
  rw [this]
  simp
/-- more variables -/
theorem ChainOk.keys {g : Mem} {keys keys' : List Int} {fs : List (Int × LF)} (hk : ∀ (r : Nat) m, keys[r]? = some m → keys'[r]? = some m) : ∀ {ps : List (Nat × Nat)} {n lv e : Int}, ChainOk g keys fs n lv e ps → ChainOk g keys' fs n lv e ps
  | [], n, lv, e, h => h
  | q :: ps, n, lv, e, h => by
    obtain ⟨h1, h2, h3, h4, F, e', h5, h6, h7, h8, h9, h10, h11, h12⟩ := h
    refine ⟨h1, h2, h3, h4, F, e', h5, h6, h7, h8, fun s x hs hx => ?_, h10, h11, ChainOk.keys hk h12⟩
    obtain ⟨v, hv, hw⟩ := h9 s x hs hx
    refine ⟨v, hv, ?_⟩
    cases x with
    | h m => obtain ⟨r, hr, hw⟩ := hw; exact ⟨r, hk r m hr, hw⟩
    | _ => exact hw
/-- fewer slots live -/
theorem ChainOk.shrink {g : Mem} {keys : List Int} {fs : List (Int × LF)} {q : Nat × Nat} {ps : List (Nat × Nat)} {n lv e : Int} {w : Nat} (hw : w ≤ q.2) (h : ChainOk g keys fs n lv e (q :: ps)) : ChainOk g keys fs n (w + 1) e ((q.1, w) :: ps) := by
  obtain ⟨h1, h2, h3, h4, F, e', h5, h6, h7, h8, h9, h10, h11, h12⟩ := h
  exact ⟨h1, h2, rfl, by simp only; lia, F, e', h5, by simp only; lia, h7, h8, fun s x hs hx => h9 s x (by simp only at hs; lia) hx, h10, h11, h12⟩

/-- a new frame -/
theorem ChainOk.push {stk stk' : List V} {keys : List Int} {fs : List (Int × LF)} {ps : List (Nat × Nat)} {n lv e step : Int} {p width live : Nat} {F : LF} (h : ChainOk (fun j => stk[j]?) keys fs n lv e ps) (hn : n < step) (hs : 0 ≤ step) (hk : step ∉ fs.map (·.1)) (hw : width ≤ 3) (hl : live ≤ width)
    (hF : F.prev = n ∧ F.lv = lv ∧ F.slots = List.replicate width .unset) (htop : ∀ q ∈ ps.head?, q.1 + 2 + q.2 ≤ p) (hst : stk' = puts stk p (.int e :: .int lv :: List.replicate width void)) (hp : p ≤ stk.length) :
    ChainOk (fun j => stk'[j]?) keys (fs ++ [(step, F)]) step (live + 1) p ((p, live) :: ps) := by
  have hg : ∀ j : Nat, stk'[j]? = if p ≤ j ∧ j < p + (width + 2) then (V.int e :: .int lv :: List.replicate width void)[j - p]? else stk[j]? := fun j => by
    rw [hst, puts_get (by lia) (by lia) j]
    simp only [Int.toNat_natCast, List.length_cons, List.length_replicate]
  refine ⟨rfl, hs, rfl, by simp only; lia, F, e, find_new hk, by rw [hF.2.2, List.length_replicate]; exact hl, ?_, ?_, fun s x hsl hx => ?_, htop, by rw [hF.1]; exact hn, ?_⟩
  · show stk'[p]? = _
    rw [hg, if_pos (by lia)]; simp
  · show stk'[p + 1]? = _
    rw [hg, if_pos (by lia), hF.2.1, show p + 1 - p = 1 by lia]; rfl
  · simp only at hsl
    have hx' : x = .unset := by
      rw [hF.2.2, List.getElem?_replicate] at hx
      split at hx
      · exact (Option.some.inj hx).symm
      · cases hx
    subst hx'
    refine ⟨void, ?_, .inl rfl⟩
    show stk'[p + 2 + s]? = _
    rw [hg, if_pos (by lia), show p + 2 + s - p = s + 1 + 1 by lia]
    simp only [List.getElem?_cons_succ]
    rw [List.getElem?_replicate, if_pos (by lia)]
  · rw [hF.1, hF.2.1]
    refine (h.agree (g' := fun j => stk'[j]?) fun j hj => ?_).frames fun m G _ hG => ⟨G, find_snoc hG, rfl, rfl, rfl⟩
    have := h.bound htop j hj
    show stk'[j]? = stk[j]?
    rw [hg, if_neg (by lia)]

/-- the latest choice's alternative -/
theorem ChsOk.alt {stk hp : List V} {ts : List Int} {c : Ch} {cs : List Ch} {b a : Int} (tr : TrOk stk hp ts) (h : ChsOk stk hp ts b (c :: cs)) : ChsOk (stk.set (c.b + c.row.length + 4) (.int a)) hp ts b ({ c with alt := a } :: cs) := by
  obtain ⟨h1, R, h3, V, h4, h5, h6, h7, h8, h9, h10, h11⟩ := h
  have hlt := (List.getElem?_eq_some_iff.mp R.alt).1
  have trd := tr.drop c.trl
  have trd' : TrOk (stk.set (c.b + c.row.length + 4) (.int a)) hp (ts.drop c.trl) := fun x hx => by rw [List.length_set]; exact trd x hx
  refine ⟨h1, ⟨?_, fun j v hj => ?_, ?_, ?_, ?_, ?_, ?_, ?_⟩, h3, V.agree (fun j hj => ?_) (fun _ _ => rfl), h4, h5, h6, h7, h8, h9, h10, ?_⟩
  · rw [List.getElem?_set_ne (show c.b + c.row.length + 4 ≠ c.b by lia)]; exact R.n
  · have hjl : j < c.row.length := (List.getElem?_eq_some_iff.mp hj).1
    rw [List.getElem?_set_ne (show c.b + c.row.length + 4 ≠ c.b + 1 + j by lia)]; exact R.row j v hj
  · rw [List.getElem?_set_ne (by simp only; lia)]; exact R.e
  · rw [List.getElem?_set_ne (by simp only; lia)]; exact R.cp
  · rw [List.getElem?_set_ne (by simp only; lia)]; exact R.pb
  · rw [List.getElem?_set_self hlt]
  · rw [List.getElem?_set_ne (by simp only; lia)]; exact R.trl
  · rw [List.getElem?_set_ne (by simp only; lia)]; exact R.len
  · have := V.chain.bound h6 j hj
    show memS _ (ts.drop c.trl) j = _
    rw [memS_get trd', memS_get trd, List.getElem?_set_ne (by lia)]
  · refine ChsOk.above (B := c.b) (fun j hj => by rw [List.getElem?_set_ne (by lia)]) (by rw [List.length_set]; exact Nat.le_refl _) (fun _ _ => rfl) (Nat.le_refl _) tr (fun c' hc' => (h10 c' hc').1) h11

/-- a new choice -/
theorem ChsOk.push {stk hp : List V} {ts : List Int} {cs : List Ch} {b : Int} {c : Ch} {S : LS} {M : Mach} (tr : TrOk stk hp ts) (h : ChsOk stk hp ts b cs) (hV : View (fun j => stk[j]?) (fun r => hp[r]?) S c.e c.ps) (hsame : c.saved.cur = S.cur ∧ c.saved.live = S.live ∧ c.saved.vals = S.vals ∧ SameF S.frames c.saved.frames)
    (hrow : c.row.length ≤ 3) (htrl : c.trl = ts.length) (hlen : hp.length = S.vals.length) (hpb : c.pb = b) (hst : c.b ≤ stk.length) (hM : M.e = c.e ∧ M.cp = S.live ∧ M.b = b ∧ M.trail.length = ts.length ∧ M.heap = hp)
    (htop : ∀ q ∈ c.ps.head?, q.1 + 2 + q.2 ≤ c.b) (hlay : Lay cs c.ps) (hT : ∀ c' ∈ cs.head?, c'.T ≤ c.b) :
    ChsOk (puts stk c.b (record M c.row c.alt)) hp ts c.b (c :: cs) := by
  have hg := puts_get (vs := record M c.row c.alt) (s := stk) (p := (c.b : Int)) (by lia) (by lia)
  simp only [Int.toNat_natCast] at hg
  have hrl : (record M c.row c.alt).length = c.row.length + 8 := by simp [record]
  rw [hrl] at hg
  have hat : ∀ k v, (record M c.row c.alt)[k]? = some v → (puts stk c.b (record M c.row c.alt))[c.b + k]? = some v := fun k v hk => by
    have := (List.getElem?_eq_some_iff.mp hk).1
    rw [hg, if_pos (by lia), show c.b + k - c.b = k by lia]; exact hk
  have hlow : ∀ j, j < c.b → (puts stk c.b (record M c.row c.alt))[j]? = stk[j]? := fun j hj => by rw [hg, if_neg (by lia)]
  have hl := puts_length (vs := record M c.row c.alt) (s := stk) (p := (c.b : Int)) (by lia) (by lia)
  obtain ⟨m1, m2, m3, m4, m5⟩ := hM
  obtain ⟨s1, s2, s3, s4⟩ := hsame
  have tail : ∀ k v, [V.int M.e, .int M.cp, .int M.b, .int c.alt, .int M.trail.length, .int M.heap.length, .int (-1)][k]? = some v → (record M c.row c.alt)[c.row.length + 1 + k]? = some v := fun k v hk => by
    unfold record
    rw [show c.row.length + 1 + k = c.row.length + k + 1 by lia, List.getElem?_cons_succ, List.getElem?_append_right (by lia), show c.row.length + k - c.row.length = k by lia]; exact hk
  have hdrop : ts.drop c.trl = [] := by rw [htrl]; exact List.drop_length
  refine ⟨rfl, ⟨hat 0 _ rfl, fun j v hj => ?_, ?_, ?_, ?_, ?_, ?_, ?_⟩, hrow, ?_, by lia, by rw [s3, ← hlen]; exact Nat.le_refl _, htop, hlay, fun a ha h0 => ?_, fun a ha => (by rw [hdrop] at ha; cases ha), fun c' hc' => ?_, ?_⟩
  · rw [show c.b + 1 + j = c.b + (j + 1) by lia]
    refine hat _ _ ?_
    unfold record
    rw [List.getElem?_cons_succ, List.getElem?_append_left (List.getElem?_eq_some_iff.mp hj).1]; exact hj
  · rw [show c.b + c.row.length + 1 = c.b + (c.row.length + 1 + 0) by lia, ← m1]; exact hat _ _ (tail 0 _ rfl)
  · rw [show c.b + c.row.length + 2 = c.b + (c.row.length + 1 + 1) by lia, s2, ← m2]; exact hat _ _ (tail 1 _ rfl)
  · rw [show c.b + c.row.length + 3 = c.b + (c.row.length + 1 + 2) by lia, hpb, ← m3]; exact hat _ _ (tail 2 _ rfl)
  · rw [show c.b + c.row.length + 4 = c.b + (c.row.length + 1 + 3) by lia]; exact hat _ _ (tail 3 _ rfl)
  · rw [show c.b + c.row.length + 5 = c.b + (c.row.length + 1 + 4) by lia, htrl, ← m4]; exact hat _ _ (tail 4 _ rfl)
  · rw [show c.b + c.row.length + 6 = c.b + (c.row.length + 1 + 5) by lia, s3, ← hlen, ← m5]; exact hat _ _ (tail 5 _ rfl)
  · rw [hdrop]
    refine ⟨?_, by rw [s3]; exact hV.vals⟩
    rw [s1, s2, s3]
    refine ChainOk.same s4 (hV.chain.agree fun j hj => ?_)
    exact hlow j (hV.chain.bound htop j hj)
  · have := (tr a (List.mem_of_mem_take ha)).1 h0
    rw [s3, ← hlen]; lia
  · cases cs with
    | nil => cases hc'
    | cons c1 cs =>
      obtain rfl : c1 = c' := by simpa using hc'
      obtain ⟨_, _, _, _, k4, k5, _⟩ := h
      exact ⟨hT c1 (by simp), by rw [htrl]; exact k4, by rw [s3, ← hlen]; exact k5⟩
  · rw [hpb]
    exact h.above (B := c.b) hlow (by lia) (fun _ _ => rfl) (Nat.le_refl _) tr hT

end C187

namespace C187
open PySem

/-- a slot of a frame is given a value -/
noncomputable def updF (fs : List (Int × LF)) (n : Int) (s : Nat) (x : Sl) : List (Int × LF) := fs.map fun p => if p.1 = n then (p.1, { p.2 with slots := p.2.slots.set s x }) else p
theorem updF_keys (fs : List (Int × LF)) (n : Int) (s : Nat) (x : Sl) : (updF fs n s x).map (·.1) = fs.map (·.1) := by
  unfold updF
  rw [List.map_map]
  refine List.map_congr_left fun p _ => ?_
  simp only [Function.comp]
  split <;> rfl
theorem updF_find_ne {fs : List (Int × LF)} {n m : Int} {s : Nat} {x : Sl} (h : m ≠ n) : find (updF fs n s x) m = find fs m := by
  unfold updF find
  induction fs with
  | nil => rfl
  | cons p fs ih =>
    rw [List.map_cons, List.find?_cons, List.find?_cons]
    by_cases e : p.1 = n
    · rw [if_pos e]
      have : ¬ p.1 = m := by rw [e]; exact fun q => h q.symm
      simp only [this, decide_false]
      exact ih
    · rw [if_neg e]
      by_cases e2 : p.1 = m
      · simp only [e2, decide_true, Option.map_some]
      · simp only [e2, decide_false]
        exact ih
theorem updF_find_eq {fs : List (Int × LF)} {n : Int} {s : Nat} {x : Sl} {F : LF} (h : find fs n = some F) : find (updF fs n s x) n = some { F with slots := F.slots.set s x } := by
  unfold updF find at *
  induction fs with
  | nil => simp at h
  | cons p fs ih =>
    rw [List.map_cons, List.find?_cons]
    rw [List.find?_cons] at h
    by_cases e : p.1 = n
    · rw [if_pos e]
      simp only [e, decide_true, Option.map_some, Option.some.injEq] at h ⊢
      rw [h]
    · rw [if_neg e]
      simp only [e, decide_false] at h ⊢
      exact ih h

theorem chOf_le {g : Mem} {keys : List Int} {fs : List (Int × LF)} : ∀ {ps : List (Nat × Nat)} {n lv e : Int}, ChainOk g keys fs n lv e ps → ∀ c ∈ chOf fs n ps, c.1 ≤ n
  | [], n, lv, e, h, c, hc => by cases hc
  | q :: ps, n, lv, e, h, c, hc => by
    obtain ⟨_, _, _, _, F, e', h5, _, _, _, _, _, h11, h12⟩ := h
    simp only [chOf, h5] at hc
    rcases List.mem_cons.mp hc with rfl | hc
    · exact Int.le_refl _
    · have := chOf_le h12 c hc; lia

/-- a live slot of the chain is given a value, in the law and in the machine -/
theorem ChainOk.slot {g g' : Mem} {keys : List Int} {fs : List (Int × LF)} {n : Int} {sl : List Sl} {p w s : Nat} {x : Sl} {v : V} (hs : s < w) (hv : g' (p + 2 + s) = some v) (hx : SlotV keys (p + 2 + s) v x) (ho : ∀ i, i ≠ p + 2 + s → g' i = g i) :
    ∀ {ps : List (Nat × Nat)} {n0 lv e : Int} {at_ : Nat}, ChainOk g keys fs n0 lv e ps → ps[at_]? = some (p, w) → (chOf fs n0 ps)[at_]? = some (n, sl) → ChainOk g' keys (updF fs n s x) n0 lv e ps
  | [], n0, lv, e, at_, h, hp, hc => by simp at hp
  | q :: ps, n0, lv, e, 0, h, hp, hc => by
    simp at hp
    subst hp
    obtain ⟨h1, h2, h3, h4, F, e', h5, h6, h7, h8, h9, h10, h11, h12⟩ := h
    simp only [chOf, h5, List.getElem?_cons_zero, Option.some.injEq, Prod.mk.injEq] at hc
    obtain ⟨rfl, _⟩ := hc
    simp only at *
    refine ⟨h1, h2, h3, h4, { F with slots := F.slots.set s x }, e', updF_find_eq h5, by simpa using h6, by rw [ho _ (by simp only; lia)]; exact h7, by rw [ho _ (by simp only; lia)]; exact h8, fun s' x' hs' hx' => ?_, h10, h11, ?_⟩
    · simp only at hx' hs'
      by_cases e2 : s' = s
      · subst e2
        rw [List.getElem?_set_self (by lia)] at hx'
        cases hx'
        exact ⟨v, hv, hx⟩
      · rw [List.getElem?_set_ne (Ne.symm e2)] at hx'
        obtain ⟨u, hu, hw⟩ := h9 s' x' hs' hx'
        exact ⟨u, by rw [ho _ (by simp only; lia)]; exact hu, hw⟩
    · refine (h12.agree fun j hj => ho j ?_).frames fun m G hm hG => ⟨G, by rw [updF_find_ne (by have : m ≤ F.prev := hm; lia)]; exact hG, rfl, rfl, rfl⟩
      have := h12.bound h10 j hj
      lia
  | q :: ps, n0, lv, e, at_ + 1, h, hp, hc => by
    obtain ⟨h1, h2, h3, h4, F, e', h5, h6, h7, h8, h9, h10, h11, h12⟩ := h
    simp only [chOf, h5, List.getElem?_cons_succ] at hp hc
    have hlt : n < n0 := by
      have := chOf_le h12 _ (List.mem_of_getElem? hc)
      simp only at this
      lia
    have hj : p + 2 + s < q.1 := h12.bound h10 _ ⟨(p, w), List.mem_of_getElem? hp, by simp only; lia, by simp only; lia⟩
    refine ⟨h1, h2, h3, h4, F, e', by rw [updF_find_ne (by lia)]; exact h5, h6, by rw [ho _ (by lia)]; exact h7, by rw [ho _ (by lia)]; exact h8, fun s' x' hs' hx' => ?_, h10, h11, ChainOk.slot hs hv hx ho h12 hp hc⟩
    obtain ⟨u, hu, hw⟩ := h9 s' x' hs' hx'
    exact ⟨u, by rw [ho _ (by lia)]; exact hu, hw⟩

/-- a new variable -/
theorem ValsOk.push {hp : List V} {vals : List (Int × Vl)} {m : Int} (h : ValsOk (fun r => hp[r]?) vals) (hl : hp.length = vals.length) : ValsOk (fun r => (hp ++ [cell 0 hp.length])[r]?) (vals ++ [(m, .open)]) := fun r k x hx => by
  by_cases hr : r < vals.length
  · rw [List.getElem?_append_left hr] at hx
    obtain ⟨v, hv, hw⟩ := h r k x hx
    refine ⟨v, by show (hp ++ _)[r]? = _; rw [List.getElem?_append_left (by lia)]; exact hv, ?_⟩
    cases x with
    | h m' =>
      obtain ⟨r', h1, h2, h3⟩ := hw
      refine ⟨r', h1, ?_, h3⟩
      rw [List.map_append, List.getElem?_append_left (List.getElem?_eq_some_iff.mp h2).1]; exact h2
    | _ => exact hw
  · have := (List.getElem?_eq_some_iff.mp hx).1
    simp only [List.length_append, List.length_singleton] at this
    have hr' : r = vals.length := by lia
    subst hr'
    rw [List.getElem?_append_right (Nat.le_refl _)] at hx
    simp at hx
    obtain ⟨rfl, rfl⟩ := hx
    refine ⟨cell 0 vals.length, ?_, rfl⟩
    show (hp ++ [cell 0 (hp.length : Int)])[vals.length]? = _
    rw [← hl, List.getElem?_append_right (Nat.le_refl _)]
    simp

/-- a variable is given a value -/
theorem ValsOk.bind {hp : List V} {vals : List (Int × Vl)} {a : Nat} {m : Int} {x : Vl} {v : V} (h : ValsOk (fun r => hp[r]?) vals) (ha : (vals.map (·.1))[a]? = some m) (hl : hp.length = vals.length) (hx : ValV (vals.map (·.1)) a v x) :
    ValsOk (fun r => (hp.set a v)[r]?) (vals.set a (m, x)) := fun r k y hy => by
  have hal : a < vals.length := by have := (List.getElem?_eq_some_iff.mp ha).1; simpa using this
  have hk : (vals.set a (m, x)).map (·.1) = vals.map (·.1) := by
    rw [List.map_set]
    refine List.ext_getElem? fun i => ?_
    by_cases q : i = a
    · subst q; rw [List.getElem?_set_self (by simpa using hal), ha]
    · rw [List.getElem?_set_ne (Ne.symm q)]
  rw [hk]
  by_cases q : r = a
  · subst q
    rw [List.getElem?_set_self hal] at hy
    cases hy
    exact ⟨v, by show (hp.set r v)[r]? = _; rw [List.getElem?_set_self (by lia)], hx⟩
  · rw [List.getElem?_set_ne (Ne.symm q)] at hy
    obtain ⟨u, hu, hw⟩ := h r k y hy
    exact ⟨u, by show (hp.set a v)[r]? = _; rw [List.getElem?_set_ne (Ne.symm q)]; exact hu, hw⟩

end C187

namespace C187
open PySem

/-- the law's variables -/
structure LG where
  S : LS
  cl : List (Int × V)
  lc : Nat
  lch : Nat
  chs : List Ch
  ps : List (Nat × Nat)
  ts : List Int
  made : Int

noncomputable def Ch.objs (c : Ch) : Objs := (c.le, chO c) :: (c.lr, .list c.row) :: c.saved.objs
noncomputable def chsO (chs : List Ch) : O := .list (chs.reverse.map fun c => .loc (c.le + 19))
noncomputable def LG.objs (G : LG) : Objs := (G.lc, .dI G.cl) :: (G.lch, chsO G.chs) :: (G.S.objs ++ G.chs.flatMap Ch.objs)

/-- what holds of a state of the law, whatever the stack -/
structure StOk (S : LS) (cl : List (Int × V)) (step made : Int) : Prop where
  fk : ∀ k ∈ S.frames.map (·.1), 0 ≤ k ∧ k < step
  fn : (S.frames.map (·.1)).Nodup
  vk : ∀ k ∈ S.vals.map (·.1), 0 ≤ k ∧ k < made
  vr : (S.vals.map (·.1)).Pairwise (· < ·)
  cl : ∀ (r : Nat) m, (S.vals.map (·.1))[r]? = some m → lk cl m = some (cell 0 r)
  cur : S.cur < step

/-- a row of cells, and how many frames are saved -/
noncomputable def RwOk (c : Ch) (step : Int) : Prop := (∀ v ∈ c.row, ∃ t k, v = cell t k) ∧ (c.saved.frames.length : Int) ≤ step
theorem RwOk.more {c : Ch} {s s' : Int} (h : RwOk c s) (hs : s ≤ s') : RwOk c s' := ⟨h.1, Int.le_trans h.2 hs⟩

theorem StOk.more {S : LS} {cl cl' : List (Int × V)} {s s' m m' : Int} (h : StOk S cl s m) (hs : s ≤ s') (hm : m ≤ m') (hc : ∀ k, k < m → lk cl' k = lk cl k) : StOk S cl' s' m' :=
  ⟨fun k hk => ⟨(h.fk k hk).1, Int.lt_of_lt_of_le (h.fk k hk).2 hs⟩, h.fn, fun k hk => ⟨(h.vk k hk).1, Int.lt_of_lt_of_le (h.vk k hk).2 hm⟩, h.vr, fun r k hk => by rw [hc k (h.vk k (List.mem_of_getElem? hk)).2]; exact h.cl r k hk, Int.lt_of_lt_of_le h.cur hs⟩
theorem StOk.up {S : LS} {cl : List (Int × V)} {s m : Int} (h : StOk S cl s m) : StOk S cl (s + 1) m := h.more (Int.le_add_one (Int.le_refl _)) (Int.le_refl _) fun _ _ => rfl

structure Inv (P : Pre) (M : Mach) (D : Sto) (G : LG) (step : Int) : Prop where
  has : Has D G.objs
  nod : (G.objs.map (·.1)).Nodup
  pool : PoolOk P
  st : StOk G.S G.cl step G.made
  sv : ∀ c ∈ G.chs, StOk c.saved G.cl step G.made
  view : View (fun j => M.stack[j]?) (fun r => M.heap[r]?) G.S M.e G.ps
  cp : M.cp = G.S.live
  hl : M.heap.length = G.S.vals.length
  tr : M.trail = G.ts.map .int
  trok : TrOk M.stack M.heap G.ts
  chs : ChsOk M.stack M.heap G.ts M.b G.chs
  lay : Lay G.chs G.ps
  b0 : G.chs = [] → M.b = -1 ∧ M.hb = 0 ∧ M.bb = 0
  b1 : ∀ c ∈ G.chs.head?, M.hb = c.saved.vals.length ∧ M.bb = c.b ∧ c.T ≤ M.stack.length
  top : ∀ q ∈ G.ps.head?, q.1 + 2 + q.2 ≤ M.stack.length
  clk : ∀ k ∈ G.cl.map (·.1), k < G.made
  s0 : 0 ≤ step ∧ step ≤ 19
  m0 : 0 ≤ G.made ∧ G.made ≤ step
  nf : (G.S.frames.length : Int) ≤ step
  nv : (G.S.vals.length : Int) ≤ G.made
  ncl : (G.cl.length : Int) ≤ G.made
  nc : (G.chs.length : Int) ≤ step
  nt : (G.ts.length : Int) ≤ 2 * step
  nst : (M.stack.length : Int) ≤ 20 * step
  x : 1 ≤ M.x.length ∧ M.x.length ≤ 4
  rw : ∀ c ∈ G.chs, RwOk c step

section
variable {P : Pre} {M : Mach} {D : Sto} {G : LG} {step : Int} (I : Inv P M D G step)
include I
theorem Inv.hS : Has D G.S.objs := fun p hp => I.has p (List.mem_cons_of_mem _ (List.mem_cons_of_mem _ (List.mem_append_left _ hp)))
theorem Inv.hcl : D[G.lc]? = some (.dI G.cl) := I.has _ List.mem_cons_self
theorem Inv.hch : D[G.lch]? = some (.list (G.chs.reverse.map fun c => .loc (c.le + 19))) := I.has _ (List.mem_cons_of_mem _ List.mem_cons_self)
theorem Inv.hC {c : Ch} (hc : c ∈ G.chs) : Has D c.objs := fun p hp => I.has p (List.mem_cons_of_mem _ (List.mem_cons_of_mem _ (List.mem_append_right _ (List.mem_flatMap.mpr ⟨c, hc, hp⟩))))
theorem Inv.he {c : Ch} (hc : c ∈ G.chs) : D[c.le]? = some (chO c) := I.hC hc _ List.mem_cons_self
theorem Inv.hr {c : Ch} (hc : c ∈ G.chs) : D[c.lr]? = some (.list c.row) := I.hC hc _ (List.mem_cons_of_mem _ List.mem_cons_self)
theorem Inv.hs {c : Ch} (hc : c ∈ G.chs) : Has D c.saved.objs := fun p hp => I.hC hc p (List.mem_cons_of_mem _ (List.mem_cons_of_mem _ hp))
theorem Inv.vn : (G.S.vals.map (·.1)).Nodup := I.st.vr.imp fun h => Int.ne_of_lt h
theorem Inv.b_eq {c : Ch} {cs : List Ch} (h : G.chs = c :: cs) : M.b = c.b := by have := I.chs; rw [h] at this; exact this.1

/-- how long the chain can be -/
theorem chain_len {g : Mem} {keys : List Int} {fs : List (Int × LF)} : ∀ {ps : List (Nat × Nat)} {n lv e : Int}, ChainOk g keys fs n lv e ps → (ps.length : Int) ≤ n + 1 ∨ ps = []
  | [], n, lv, e, h => .inr rfl
  | q :: ps, n, lv, e, h => by
    obtain ⟨_, h2, _, _, F, e', _, _, _, _, _, _, h11, h12⟩ := h
    rcases chain_len h12 with h | rfl
    · exact .inl (by simp only [List.length_cons]; push_cast; lia)
    · exact .inl (by simp; lia)
theorem Inv.np : (G.ps.length : Int) ≤ 20 := by
  have h1 := I.st.cur
  have h2 := I.s0.2
  rcases chain_len I I.view.chain with h | h
  · lia
  · rw [h]; simp

theorem Inv.up (h : step + 1 ≤ 19) : Inv P M D G (step + 1) :=
  have k : step ≤ step + 1 := Int.le_add_one (Int.le_refl _)
  { I with st := I.st.up, sv := fun c hc => (I.sv c hc).up, s0 := ⟨Int.le_trans I.s0.1 k, h⟩, m0 := ⟨I.m0.1, Int.le_trans I.m0.2 k⟩, nf := Int.le_trans I.nf k, nc := Int.le_trans I.nc k, nt := by have := I.nt; lia, nst := by have := I.nst; lia, rw := fun c hc => (I.rw c hc).more k }
theorem Inv.drawn {a p : Int} (h0 : 0 ≤ a) (h1 : P.pp ≤ p) : Inv { P with pa := a, pp := p } M D G step :=
  { I with pool := ⟨h0, by have := I.pool.pp; simp only; lia, I.pool.scr⟩ }
theorem Inv.grows {D' : Sto} (g : Grows D D') : Inv P M D' G step := { I with has := I.has.grows g }
/-- the law's check answers True -/
theorem Inv.same {Q : Ct} {d : Nat} (hQ : ∀ D', Grows D D' → Q (.bool true) (Wd P M D')) : callD prog (d + 2) "_law_same" [.loc 11, .loc (G.S.ls + 19), .loc (G.lc + 19), .loc (G.lch + 19)] (Wd P M D) Q := by
  have h1 := I.np
  have h2 := I.nc
  have h3 := I.s0.2
  exact same_ok I.hS I.hcl I.hch (fun c hc => I.he hc) I.vn I.view I.cp I.st.cl I.chs (by lia) (by lia) hQ
end

end C187

namespace C187
open PySem

/-- the law's names -/
structure LE (ρ : Env) (G : LG) (step : Int) : Prop where
  pool : ρ "pool" = some (.loc 4)
  m : ρ "m" = some (.loc 11)
  state : ρ "state" = some (.loc (G.S.ls + 19))
  cells : ρ "cells" = some (.loc (G.lc + 19))
  choices : ρ "choices" = some (.loc (G.lch + 19))
  made : ρ "made" = some (.int G.made)
  step : ρ "step" = some (.int step)

/-- one object has turned -/
theorem Has.upd {D : Sto} {pre post : Objs} {l : Nat} {o : O} (o' : O) (h : Has D (pre ++ (l, o) :: post)) (nd : ((pre ++ (l, o) :: post).map (·.1)).Nodup) : Has (D.set l o') (pre ++ (l, o') :: post) := by
  rw [List.map_append, List.map_cons, List.nodup_append] at nd
  obtain ⟨_, n2, n3⟩ := nd
  rw [List.nodup_cons] at n2
  have hl : l < D.length := (List.getElem?_eq_some_iff.mp (h (l, o) (by simp))).1
  intro p hp
  rcases List.mem_append.mp hp with hp | hp
  · have : p.1 ≠ l := n3 _ (List.mem_map_of_mem hp) l List.mem_cons_self
    rw [List.getElem?_set_ne (Ne.symm this)]
    exact h p (List.mem_append_left _ hp)
  · rcases List.mem_cons.mp hp with rfl | hp
    · rw [List.getElem?_set_self hl]
    · have : p.1 ≠ l := fun q => n2.1 (List.mem_map.mpr ⟨p, hp, q⟩)
      rw [List.getElem?_set_ne (Ne.symm this)]
      exact h p (List.mem_append_right _ (List.mem_cons_of_mem _ hp))
theorem locs_upd {pre post : Objs} {l : Nat} {o o' : O} : (pre ++ (l, o') :: post).map (·.1) = (pre ++ (l, o) :: post).map (·.1) := by rw [List.map_append, List.map_append, List.map_cons, List.map_cons]

variable {P : Pre} {M : Mach} {D : Sto} {G : LG} {step : Int} {d : Nat}

/-- what a deed must bring about -/
noncomputable def Nx (P : Pre) (step : Int) (Q : Cs) : Prop := ∀ ρ' P' M' D' G', Inv P' M' D' G' (step + 1) → LE ρ' G' step → P'.pp ≤ P.pp + 20 → Q .next ρ' (Wd P' M' D')
noncomputable def br_var : List S := [.asgItem (.var "cells") (.var "made") (.meth (.attr (.var "m") "store") "new_var" []),
               .asgItem (.item (.var "state") (.int 3)) (.var "made") (.tup []),
               .aug "made" .add (.int 1)]

theorem lk_snoc {cl : List (Int × V)} {k n : Int} {v : V} (h : n ≠ k) : lk (cl ++ [(k, v)]) n = lk cl n := by
  unfold lk
  rw [List.find?_append]
  cases cl.find? (fun p => decide (p.1 = n)) with
  | some p => rfl
  | none => simp [Ne.symm h]
theorem lk_last {cl : List (Int × V)} {k : Int} {v : V} (h : k ∉ cl.map (·.1)) : lk (cl ++ [(k, v)]) k = some v := by
  unfold lk
  rw [List.find?_append]
  have : cl.find? (fun p => decide (p.1 = k)) = none := by
    rw [List.find?_eq_none]
    intro p hp
    simp only [decide_eq_true_eq]
    rintro rfl
    exact h (List.mem_map_of_mem hp)
  rw [this]
  simp

theorem mem_snoc_map {α β : Type} {f : α → β} {l : List α} {a : α} {b : β} (h : b ∈ (l ++ [a]).map f) : b ∈ l.map f ∨ b = f a := by
  rw [List.map_append] at h
  exact (List.mem_append.mp h).imp id fun h => List.mem_singleton.mp h
theorem len_snoc {α : Type} (l : List α) (a : α) : (l ++ [a]).length = l.length + 1 := List.length_append

/-- one more variable, one more cell -/
theorem Inv.fresh {D' : Sto} {G' : LG} (I : Inv P M D G step) (hstep : step + 1 ≤ 19) (hG' : G' = { G with S := { G.S with vals := G.S.vals ++ [(G.made, .open)] }, cl := G.cl ++ [(G.made, cell 0 M.heap.length)], made := G.made + 1 }) (H : Has D' G'.objs) (nod : (G'.objs.map (·.1)).Nodup) :
    Inv P { M with heap := M.heap ++ [cell 0 M.heap.length] } D' G' (step + 1) := by
  have J := I.up hstep
  have hm := I.m0
  have hhl := I.hl
  have nv := I.nv
  have ncl := I.ncl
  have hfresh : G.made ∉ G.cl.map (·.1) := fun h => Int.lt_irrefl _ (I.clk _ h)
  have k1 : G.made ≤ G.made + 1 := Int.le_add_one (Int.le_refl _)
  have hl : ∀ r, r < M.heap.length → (M.heap ++ [cell 0 M.heap.length])[r]? = M.heap[r]? := fun r hr => List.getElem?_append_left hr
  have lks : ∀ k, k < G.made → lk (G.cl ++ [(G.made, cell 0 M.heap.length)]) k = lk G.cl k := fun k hk => lk_snoc (Int.ne_of_lt hk)
  subst hG'
  refine { J with has := H, nod := nod, st := ⟨J.st.fk, J.st.fn, fun k hk => ?_, ?_, fun r k hk => ?_, J.st.cur⟩, sv := fun c hc => (J.sv c hc).more (Int.le_refl _) k1 lks, view := ⟨I.view.chain.keys fun r k hk => ?_, I.view.vals.push hhl⟩, hl := ?_, trok := fun a ha => ⟨fun h => ?_, (I.trok a ha).2⟩, chs := ?_, clk := fun k hk => ?_, m0 := ⟨Int.le_trans hm.1 k1, Int.add_le_add_right hm.2 1⟩, nv := ?_, ncl := ?_ }
  · rcases mem_snoc_map hk with hk | rfl
    · exact ⟨(I.st.vk k hk).1, Int.lt_of_lt_of_le (I.st.vk k hk).2 k1⟩
    · exact ⟨hm.1, Int.lt_succ _⟩
  · rw [List.map_append]
    refine List.pairwise_append.mpr ⟨I.st.vr, List.pairwise_singleton _ _, fun a ha b hb => ?_⟩
    rw [List.mem_singleton.mp hb]
    exact (I.st.vk a ha).2
  · rw [List.map_append] at hk
    by_cases hr : r < (G.S.vals.map (·.1)).length
    · rw [List.getElem?_append_left hr] at hk
      rw [lks k (I.st.vk k (List.mem_of_getElem? hk)).2]
      exact I.st.cl r k hk
    · have hlt := (List.getElem?_eq_some_iff.mp hk).1
      rw [List.length_append] at hlt
      obtain rfl : r = (G.S.vals.map (·.1)).length := Nat.le_antisymm (Nat.lt_succ_iff.mp hlt) (Nat.not_lt.mp hr)
      rw [List.getElem?_append_right (Nat.le_refl _), Nat.sub_self] at hk
      obtain rfl := Option.some.inj hk
      rw [lk_last hfresh, hhl, List.length_map]
  · rw [List.map_append, List.getElem?_append_left (List.getElem?_eq_some_iff.mp hk).1]; exact hk
  · rw [len_snoc, len_snoc, hhl]
  · rw [len_snoc]; exact Nat.lt_succ_of_lt ((I.trok a ha).1 h)
  · exact ChsOk.above (B := M.stack.length) (fun _ _ => rfl) (Nat.le_refl _) hl (by rw [len_snoc]; exact Nat.le_succ _) I.trok (fun c hc => (I.b1 c hc).2.2) I.chs
  · rcases mem_snoc_map hk with hk | rfl
    · exact Int.lt_of_lt_of_le (I.clk k hk) k1
    · exact Int.lt_succ _
  · rw [len_snoc]; exact Int.add_le_add_right nv 1
  · rw [len_snoc]; exact Int.add_le_add_right ncl 1

theorem deed_var {C : Calls} (hC : C = callD prog (d + 2)) {Q : Cs} {ρ : Env} (I : Inv P M D G step) (E : LE ρ G step) (hstep : step + 1 ≤ 19) (hQ : Nx P step Q) : evSs C br_var ρ (Wd P M D) Q := by
  have hv := I.nv
  have hm := I.m0
  have hhl := I.hl
  have hncl := I.ncl
  have hfresh : G.made ∉ G.cl.map (·.1) := fun h => Int.lt_irrefl _ (I.clk _ h)
  have hfresh2 : G.made ∉ (G.S.vals.map fun p => (p.1, p.2.v)).map (·.1) := fun h => Int.lt_irrefl _ (I.st.vk G.made (keys_map Vl.v G.S.vals ▸ h)).2
  have e0 : G.objs = [] ++ (G.lc, .dI G.cl) :: ((G.lch, chsO G.chs) :: (G.S.objs ++ G.chs.flatMap Ch.objs)) := rfl
  have H1 := Has.upd (.dI (G.cl ++ [(G.made, cell 0 M.heap.length)])) (e0 ▸ I.has) (e0 ▸ I.nod)
  have hS1 : Has (D.set G.lc (.dI (G.cl ++ [(G.made, cell 0 M.heap.length)]))) G.S.objs := fun p hp => H1 p (List.mem_cons_of_mem _ (List.mem_cons_of_mem _ (List.mem_append_left _ hp)))
  have hva : (D.set G.lc (.dI (G.cl ++ [(G.made, cell 0 M.heap.length)])))[G.S.lv]? = some (.dI (G.S.vals.map fun p => (p.1, p.2.v))) := hS1.va
  refine som E.m (useC hC (new_var_ok (by lia) (som E.cells (som E.made (sid I.hcl ⟨by unfold big; lia, ?_⟩)))))
  rw [sto_new hfresh]
  refine som E.state (fwl hS1.st (som E.made (sid hva ⟨by rw [List.length_map]; unfold big; lia, ?_⟩)))
  rw [sto_new hfresh2]
  obtain ⟨G', hG'⟩ : ∃ G' : LG, G' = { G with S := { G.S with vals := G.S.vals ++ [(G.made, .open)] }, cl := G.cl ++ [(G.made, cell 0 M.heap.length)], made := G.made + 1 } := ⟨_, rfl⟩
  obtain ⟨pre, post, e1, e2⟩ : ∃ pre post, ([] : Objs) ++ (G.lc, .dI (G.cl ++ [(G.made, cell 0 M.heap.length)])) :: ((G.lch, chsO G.chs) :: (G.S.objs ++ G.chs.flatMap Ch.objs)) = pre ++ (G.S.lv, valsO G.S.vals) :: post ∧ G'.objs = pre ++ (G.S.lv, valsO (G.S.vals ++ [(G.made, .open)])) :: post :=
    ⟨[(G.lc, .dI (G.cl ++ [(G.made, cell 0 M.heap.length)])), (G.lch, chsO G.chs), (G.S.ls, .list [.int G.S.cur, .int G.S.live, .loc (G.S.lf + 19), .loc (G.S.lv + 19)]), (G.S.lf, framesO G.S.frames)], G.S.frames.flatMap (fun p => p.2.objs) ++ G.chs.flatMap Ch.objs, rfl, by rw [hG']; rfl⟩
  have nod1 : (([] : Objs) ++ (G.lc, .dI (G.cl ++ [(G.made, cell 0 M.heap.length)])) :: ((G.lch, chsO G.chs) :: (G.S.objs ++ G.chs.flatMap Ch.objs))).map (·.1) = G.objs.map (·.1) := locs_upd
  have H2 := Has.upd (valsO (G.S.vals ++ [(G.made, .open)])) (e1 ▸ H1) (by rw [← e1, nod1]; exact I.nod)
  have nod' : (G'.objs.map (·.1)).Nodup := by rw [e2, locs_upd (o := valsO G.S.vals), ← e1, nod1]; exact I.nod
  rw [← e2] at H2
  have e3 : valsO (G.S.vals ++ [(G.made, .open)]) = .dI ((G.S.vals.map fun p => (p.1, p.2.v)) ++ [(G.made, .tup [])]) := by unfold valsO; rw [List.map_append]; rfl
  rw [e3] at H2
  refine soi E.made (hQ _ P _ _ G' (I.fresh hstep hG' H2 nod') ?_ (Int.le_add_of_nonneg_right (by decide)))
  rw [hG']
  exact ⟨E.pool, E.m, E.state, E.cells, E.choices, rfl, E.step⟩

/-- the draw -/
theorem Inv.draw {Q : Ct} {most : Int} (I : Inv P M D G step) (hm : 1 ≤ most) (hm2 : most < 1000) (hb : P.pp < 2 ^ 64) (hQ : ∀ r P', 0 ≤ r → r < most → Inv P' M D G step → P.pp ≤ P'.pp → P'.pp ≤ P.pp + 1 → Q (.int r) (Wd P' M D)) :
    callD prog (d + 1) "_law_draw" [.loc 4, .int most] (Wd P M D) Q :=
  draw_ok hm hm2 I.pool hb fun r a p h0 h1 h2 h3 h4 => hQ r _ h0 h1 (I.drawn h2 h3) h3 h4

noncomputable def br_shrink : List S := [.asg "live" (.call "_law_draw" [(.var "pool"), (.item (.var "state") (.int 1))]),
         .asgItem (.var "state") (.int 1) (.bin .add (.var "live") (.int 1)),
         .asgAttr (.var "m") "cp" (.bin .add (.var "live") (.int 1))]

/-- the law's state list, turned -/
noncomputable def stO (S : LS) (a b : Int) : O := .list [.int a, .int b, .loc (S.lf + 19), .loc (S.lv + 19)]
theorem objs_st {G : LG} : G.objs = [(G.lc, .dI G.cl), (G.lch, chsO G.chs)] ++ (G.S.ls, stO G.S G.S.cur G.S.live) :: ([(G.S.lf, framesO G.S.frames), (G.S.lv, valsO G.S.vals)] ++ G.S.frames.flatMap (fun p => p.2.objs) ++ G.chs.flatMap Ch.objs) := rfl

theorem Inv.setSt {G' : LG} {a b : Int} (I : Inv P M D G step) (hG' : ∃ ps, G' = { G with S := { G.S with cur := a, live := b }, ps := ps }) : Has (D.set G.S.ls (stO G.S a b)) G'.objs ∧ (G'.objs.map (·.1)).Nodup := by
  obtain ⟨ps, rfl⟩ := hG'
  exact ⟨Has.upd (stO G.S a b) (objs_st ▸ I.has) (objs_st ▸ I.nod), I.nod⟩

theorem deed_shrink {C : Calls} (hC : C = callD prog (d + 1)) {Q : Cs} {ρ : Env} (I : Inv P M D G step) (E : LE ρ G step) (hstep : step + 1 ≤ 19) (hb : P.pp < 2 ^ 64) (hne : G.ps ≠ []) (hQ : Nx P step Q) : evSs C br_shrink ρ (Wd P M D) Q := by
  obtain ⟨q, ps, hps⟩ : ∃ q ps, G.ps = q :: ps := by
    cases h : G.ps with
    | nil => exact absurd h hne
    | cons q ps => exact ⟨q, ps, rfl⟩
  have hch := I.view.chain
  rw [hps] at hch
  have hlv : G.S.live = q.2 + 1 := hch.2.2.1
  have hq3 : q.2 ≤ 3 := hch.2.2.2.1
  refine som E.pool (som E.state (fwl I.hS.st (useC hC (I.draw (by lia) (by lia) hb fun r P' r0 r1 I' p1 p2 => ?_))))
  obtain ⟨w, rfl⟩ := Int.eq_ofNat_of_zero_le r0
  obtain ⟨G', hG'⟩ : ∃ G' : LG, G' = { G with S := { G.S with live := w + 1 }, ps := (q.1, w) :: ps } := ⟨_, rfl⟩
  obtain ⟨H2, nod'⟩ := I.setSt (a := G.S.cur) (b := w + 1) ⟨_, hG'⟩
  refine som E.state (sil I.hS.st ⟨by decide, Nat.le_of_ble_eq_true rfl, som E.m (hQ _ P' { M with cp := w + 1 } (D.set G.S.ls (stO G.S G.S.cur (w + 1))) G' ?_ ?_ (by lia))⟩)
  · have ht := I.top q (by rw [hps]; rfl)
    have J := I'.up hstep
    subst hG'
    refine { J with has := H2, nod := nod', st := ⟨J.st.fk, J.st.fn, J.st.vk, J.st.vr, J.st.cl, J.st.cur⟩, view := ⟨hch.shrink (by lia), I.view.vals⟩, cp := rfl, lay := fun c hc r hr => ?_, top := fun r hr => ?_ }
    · rcases List.mem_cons.mp hr with rfl | hr
      · have := I.lay c hc q (by rw [hps]; exact List.mem_cons_self)
        simp only
        lia
      · exact I.lay c hc r (by rw [hps]; exact List.mem_cons_of_mem _ hr)
    · obtain rfl : (q.1, w) = r := Option.some.inj hr
      simp only
      lia
  · rw [hG']
    exact ⟨E.pool, E.m, E.state, E.cells, E.choices, E.made, E.step⟩

end C187

namespace C187
open PySem

variable {P : Pre} {M : Mach} {D : Sto} {G : LG} {step : Int} {d : Nat}

noncomputable def br_pop : List S := [.asg "frame" (.item (.item (.var "state") (.int 2)) (.item (.var "state") (.int 0))),
           .asgItem (.var "state") (.int 0) (.item (.var "frame") (.int 0)),
           .asgItem (.var "state") (.int 1) (.item (.var "frame") (.int 1)),
           .expr (.meth (.var "m") "pop_environment" [])]

theorem deed_pop {C : Calls} (hC : C = callD prog (d + 1)) {Q : Cs} {ρ : Env} (I : Inv P M D G step) (E : LE ρ G step) (hstep : step + 1 ≤ 19) (hne : G.ps ≠ []) (hQ : Nx P step Q) : evSs C br_pop ρ (Wd P M D) Q := by
  obtain ⟨q, ps, hps⟩ : ∃ q ps, G.ps = q :: ps := by
    cases h : G.ps with
    | nil => exact absurd h hne
    | cons q ps => exact ⟨q, ps, rfl⟩
  have hch := I.view.chain
  rw [hps] at hch
  obtain ⟨h1, h2, h3, h4, F, e', h5, h6, h7, h8, h9, h10, h11, h12⟩ := hch
  have hmem := find_mem h5
  obtain ⟨f1, f2⟩ := I.hS.frame hmem
  have hfr : D[G.S.lf]? = some (.dI (G.S.frames.map fun p => (p.1, .loc (p.2.fl + 19)))) := I.hS.fr
  obtain ⟨H1, _⟩ := I.setSt (a := F.prev) (b := G.S.live) ⟨G.ps, rfl⟩
  obtain ⟨G', hG'⟩ : ∃ G' : LG, G' = { G with S := { G.S with cur := F.prev, live := F.lv }, ps := ps } := ⟨_, rfl⟩
  obtain ⟨H2, nod'⟩ := I.setSt (a := F.prev) (b := F.lv) ⟨_, hG'⟩
  have f1' := ((show Has (D.set G.S.ls (stO G.S F.prev G.S.live)) ({ G.S with cur := F.prev } : LS).objs from fun p hp => H1 p (List.mem_cons_of_mem _ (List.mem_cons_of_mem _ (List.mem_append_left _ hp)))).frame hmem).1
  have st1 : (D.set G.S.ls (stO G.S F.prev G.S.live))[G.S.ls]? = some (.list [.int F.prev, .int G.S.live, .loc (G.S.lf + 19), .loc (G.S.lv + 19)]) := List.getElem?_set_self (List.getElem?_eq_some_iff.mp I.hS.st).1
  have e1 : M.e = (q.1 : Int) := h1
  refine som E.state (fwl I.hS.st (som E.state (fwl I.hS.st (fwd hfr (som (lk_map (β := V) (fun F : LF => V.loc (F.fl + 19)) h5) ?_)))))
  refine fwl f1 (som E.state (sil I.hS.st ⟨by decide, Nat.le_of_ble_eq_true rfl, fwl f1' (som E.state (sil st1 ⟨by decide, Nat.le_of_ble_eq_true rfl, som E.m (useC hC (pop_env (P := P) (D := (D.set G.S.ls (stO G.S F.prev G.S.live)).set G.S.ls (stO G.S F.prev F.lv)) (a := F.lv) (c := e') (by lia) (by rw [e1]; exact h8) (by rw [e1]; exact h7) ?_))⟩))⟩))
  rw [List.set_set]
  refine hQ _ P _ _ G' ?_ ?_ (Int.le_add_of_nonneg_right (by decide))
  · have ht := I.top q (by rw [hps]; rfl)
    have J := I.up hstep
    subst hG'
    refine { J with has := H2, nod := nod', st := ⟨J.st.fk, J.st.fn, J.st.vk, J.st.vr, J.st.cl, Int.lt_trans h11 J.st.cur⟩, view := ⟨h12, I.view.vals⟩, cp := rfl, lay := fun c hc r hr => I.lay c hc r (by rw [hps]; exact List.mem_cons_of_mem _ hr), top := fun r hr => ?_ }
    exact Nat.le_trans (h10 r hr) (Nat.le_trans (Nat.le_trans (Nat.le_add_right _ 2) (Nat.le_add_right _ _)) ht)
  · rw [hG']
    exact ⟨E.pool, E.m, E.state, E.cells, E.choices, E.made, E.step⟩

end C187

namespace C187
open PySem

variable {P : Pre} {M : Mach} {D : Sto} {G : LG} {step : Int} {d : Nat}

theorem last_ch {c : Ch} {cs : List Ch} (h : G.chs = c :: cs) : (G.chs.reverse.map fun c => V.loc (c.le + 19)).length = cs.length + 1 ∧ (G.chs.reverse.map fun c => V.loc (c.le + 19))[cs.length]? = some (.loc (c.le + 19)) := by
  rw [h, List.length_map, List.length_reverse, List.reverse_cons, List.map_append]
  refine ⟨rfl, ?_⟩
  have : (cs.reverse.map fun c => V.loc (c.le + 19)).length = cs.length := (List.length_map ..).trans List.length_reverse
  rw [← this]
  exact (List.getElem?_append_right (Nat.le_refl _)).trans (by rw [Nat.sub_self]; rfl)
/-- the place of the last choice, as the text reckons it -/
theorem last_ix {c : Ch} {cs : List Ch} (h : G.chs = c :: cs) : 0 ≤ ((G.chs.reverse.map fun c => V.loc (c.le + 19)).length : Int) - 1 ∧ (G.chs.reverse.map fun c => V.loc (c.le + 19))[(((G.chs.reverse.map fun c => V.loc (c.le + 19)).length : Int) - 1).toNat]? = some (.loc (c.le + 19)) := by
  obtain ⟨k1, k2⟩ := last_ch h
  have e : ((G.chs.reverse.map fun c => V.loc (c.le + 19)).length : Int) - 1 = (cs.length : Int) := by rw [k1]; lia
  rw [e, Int.toNat_natCast]
  exact ⟨Int.natCast_nonneg _, k2⟩

noncomputable def br_alt : List S := [.expr (.meth (.var "m") "set_alternative" [(.bin .add (.int 200) (.var "step"))]),
                         .asgItem (.item (.var "choices") (.bin .sub (.call "len" [(.var "choices")]) (.int 1))) (.int 2) (.bin .add (.int 200) (.var "step"))]

theorem deed_alt {C : Calls} (hC : C = callD prog (d + 1)) {Q : Cs} {ρ : Env} {c : Ch} {cs : List Ch} (I : Inv P M D G step) (E : LE ρ G step) (hstep : step + 1 ≤ 19) (hc : G.chs = c :: cs) (hQ : Nx P step Q) : evSs C br_alt ρ (Wd P M D) Q := by
  have hchs := I.chs
  rw [hc] at hchs
  have R := hchs.2.1
  have hb := hchs.1
  have hmem : c ∈ G.chs := by rw [hc]; exact List.mem_cons_self
  have hin : ∀ {x}, x ∈ cs → x ∈ G.chs := fun hx => by rw [hc]; exact List.mem_cons_of_mem _ hx
  have halt := (List.getElem?_eq_some_iff.mp R.alt).1
  obtain ⟨k1, k2⟩ := last_ix hc
  have he : D[c.le]? = some (.list [.loc (c.saved.ls + 19), .loc (c.lr + 19), .int c.alt, .int c.saved.vals.length, .int c.trl]) := I.he hmem
  have b0 : 0 ≤ M.b := by rw [hb]; exact Int.natCast_nonneg _
  have b4 : 0 ≤ M.b + c.row.length + 4 := Int.add_nonneg (Int.add_nonneg b0 (Int.natCast_nonneg _)) (by decide)
  have hidx : (M.b + (c.row.length : Int) + 4).toNat = c.b + c.row.length + 4 := by rw [hb]; rfl
  refine som E.m (som E.step (useC hC (set_alt_ok (n := c.row.length) b0 (by rw [hb]; exact R.n) b4 (by rw [hidx]; exact halt) ?_)))
  refine som E.step (som E.choices (som E.choices (sl I.hch (fwl I.hch (at_ok k1 k2 (sil he ⟨by decide, Nat.le_of_ble_eq_true rfl, ?_⟩))))))
  rw [hidx]
  obtain ⟨c', hc'⟩ : ∃ c' : Ch, c' = { c with alt := 200 + step } := ⟨_, rfl⟩
  obtain ⟨G', hG'⟩ : ∃ G' : LG, G' = { G with chs := c' :: cs } := ⟨_, rfl⟩
  obtain ⟨pre, post, e1, e2⟩ : ∃ pre post, G.objs = pre ++ (c.le, chO c) :: post ∧ G'.objs = pre ++ (c.le, chO c') :: post := by
    refine ⟨(G.lc, .dI G.cl) :: (G.lch, chsO (c :: cs)) :: G.S.objs, (c.lr, .list c.row) :: c.saved.objs ++ cs.flatMap Ch.objs, by unfold LG.objs; rw [hc]; rfl, ?_⟩
    rw [hG', hc']; unfold LG.objs chsO
    simp only [List.reverse_cons, List.map_append, List.map_cons, List.map_nil]
    rfl
  have H2 := Has.upd (chO c') (e1 ▸ I.has) (e1 ▸ I.nod)
  rw [← e2] at H2
  have nod' : (G'.objs.map (·.1)).Nodup := by
    rw [e2, locs_upd (o := chO c), ← e1]; exact I.nod
  have e4 : chO c' = .list [.loc (c.saved.ls + 19), .loc (c.lr + 19), .int (200 + step), .int c.saved.vals.length, .int c.trl] := by rw [hc']; rfl
  rw [e4] at H2
  refine hQ _ P _ _ G' ?_ ?_ (Int.le_add_of_nonneg_right (by decide))
  · have J := I.up hstep
    subst hG'
    subst hc'
    refine { J with has := H2, nod := nod', sv := List.forall_mem_cons.mpr ⟨J.sv c hmem, fun x hx => J.sv x (hin hx)⟩, view := ⟨I.view.chain.agree fun j hj => ?_, I.view.vals⟩, trok := fun a ha => by rw [List.length_set]; exact I.trok a ha, chs := ChsOk.alt I.trok hchs, lay := List.forall_mem_cons.mpr ⟨I.lay c hmem, fun x hx => I.lay x (hin hx)⟩, b0 := (fun h => nomatch h), b1 := fun x hx => ?_, top := fun r hr => by rw [List.length_set]; exact I.top r hr, nc := by have := J.nc; rw [hc] at this; exact this, nst := by rw [List.length_set]; exact J.nst, rw := List.forall_mem_cons.mpr ⟨J.rw c hmem, fun x hx => J.rw x (hin hx)⟩ }
    · obtain ⟨q, hq, g1, g2⟩ := hj
      have := I.lay c hmem q hq
      unfold Ch.T at this
      exact List.getElem?_set_ne (by lia)
    · obtain rfl := Option.some.inj hx
      have := I.b1 c (by rw [hc]; rfl)
      rw [List.length_set]
      exact this
  · rw [hG']
    exact ⟨E.pool, E.m, E.state, E.cells, E.choices, E.made, E.step⟩

end C187

namespace C187
open PySem

theorem Has.lt {D : Sto} {os : Objs} (h : Has D os) : ∀ p ∈ os, p.1 < D.length := fun p hp => (List.getElem?_eq_some_iff.mp (h p hp)).1

/-- the choices from some place on -/
theorem ChsOk.drop {stk hp : List V} {ts : List Int} : ∀ {cs : List Ch} {b : Int} (k : Nat), ChsOk stk hp ts b cs → ∃ b', ChsOk stk hp ts b' (cs.drop k) ∧ (k = 0 → b' = b)
  | cs, b, 0, h => ⟨b, by simpa using h, fun _ => rfl⟩
  | [], b, k + 1, h => ⟨b, by simpa using h, fun h => by lia⟩
  | c :: cs, b, k + 1, h => by
    obtain ⟨h1, R, h3, V, h4, h5, h6, h7, h8, h9, h10, h11⟩ := h
    obtain ⟨b', h', _⟩ := ChsOk.drop k h11
    exact ⟨b', by simpa using h', fun h => by lia⟩
theorem ChsOk.head {stk hp : List V} {ts : List Int} {b : Int} {c : Ch} {cs : List Ch} (h : ChsOk stk hp ts b (c :: cs)) : b = c.b := h.1
/-- places fall -/
theorem ChsOk.lt {stk hp : List V} {ts : List Int} : ∀ {cs : List Ch} {b : Int} {B : Nat}, ChsOk stk hp ts b cs → (∀ c ∈ cs.head?, c.T ≤ B) → ∀ c ∈ cs, c.T ≤ B
  | [], b, B, _, _, c, hc => by cases hc
  | c :: cs, b, B, h, hB, c', hc => by
    obtain ⟨h1, R, h3, V, h4, h5, h6, h7, h8, h9, h10, h11⟩ := h
    rcases List.mem_cons.mp hc with rfl | hc
    · exact hB _ (by simp)
    · have h0 := hB c (by simp)
      have := ChsOk.lt (B := c.b) h11 (fun x hx => (h10 x hx).1) c' hc
      have := c.b_lt
      lia
theorem flatMap_sub {α β : Type} {f : α → List β} : ∀ {l₁ l₂ : List α}, l₁.Sublist l₂ → (l₁.flatMap f).Sublist (l₂.flatMap f)
  | _, _, .slnil => List.Sublist.refl _
  | _, _, .cons a h => by
    rw [List.flatMap_cons]
    exact (flatMap_sub h).trans (List.sublist_append_right _ _)
  | _, _, .cons₂ a h => by
    rw [List.flatMap_cons, List.flatMap_cons]
    exact List.Sublist.append (List.Sublist.refl _) (flatMap_sub h)
/-- the nodup of what is left -/
theorem nod_chs {G : LG} {cs : List Ch} {l : Nat} (nd : (G.objs.map (·.1)).Nodup) (hs : cs.Sublist G.chs) (hl : ∀ p ∈ G.objs, p.1 < l) : (({ G with lch := l, chs := cs } : LG).objs.map (·.1)).Nodup := by
  have hsub : ((G.S.objs ++ cs.flatMap Ch.objs).map (·.1)).Sublist ((G.S.objs ++ G.chs.flatMap Ch.objs).map (·.1)) := by
    refine List.Sublist.map _ (List.Sublist.append (List.Sublist.refl _) ?_)
    exact flatMap_sub hs
  have nd' : ((G.lc, O.dI G.cl).1 :: (G.lch, chsO G.chs).1 :: (G.S.objs ++ G.chs.flatMap Ch.objs).map (·.1)).Nodup := nd
  rw [List.nodup_cons, List.nodup_cons] at nd'
  obtain ⟨n1, n2, n3⟩ := nd'
  show (G.lc :: l :: (G.S.objs ++ cs.flatMap Ch.objs).map (·.1)).Nodup
  have lt1 : ∀ x ∈ (G.S.objs ++ G.chs.flatMap Ch.objs).map (·.1), x < l := fun x hx => by
    obtain ⟨p, hp, rfl⟩ := List.mem_map.mp hx
    exact hl p (List.mem_cons_of_mem _ (List.mem_cons_of_mem _ hp))
  have lt2 : G.lc < l := hl (G.lc, _) List.mem_cons_self
  rw [List.nodup_cons, List.nodup_cons]
  refine ⟨fun h => ?_, fun h => ?_, List.Nodup.sublist hsub n3⟩
  · rcases List.mem_cons.mp h with h | h
    · lia
    · exact n1 (List.mem_cons_of_mem _ (hsub.subset h))
  · have := lt1 l (hsub.subset h); lia

end C187

namespace C187
open PySem

variable {P : Pre} {M : Mach} {D : Sto} {G : LG} {step : Int} {d : Nat}

/-- fewer choices: the oldest keep -/
theorem Inv.fewer {D' : Sto} {k l : Nat} {b hb bb : Int} (I : Inv P M D G step) (hstep : step + 1 ≤ 19) (g : Grows D D') (hl : D.length ≤ l) (hD : D'[l]? = some (chsO (G.chs.drop k)))
    (hch : ChsOk M.stack M.heap G.ts b (G.chs.drop k)) (h0 : G.chs.drop k = [] → b = -1 ∧ hb = 0 ∧ bb = 0) (h1 : ∀ c ∈ (G.chs.drop k).head?, hb = c.saved.vals.length ∧ bb = c.b) :
    Inv P { M with b := b, hb := hb, bb := bb } D' { G with lch := l, chs := G.chs.drop k } (step + 1) := by
  have hsub : (G.chs.drop k).Sublist G.chs := List.drop_sublist k G.chs
  have hmem : ∀ c ∈ G.chs.drop k, c ∈ G.chs := fun c hc => List.mem_of_mem_drop hc
  have hT : ∀ c ∈ G.chs, c.T ≤ M.stack.length := I.chs.lt fun c hc => (I.b1 c hc).2.2
  have J := I.up hstep
  refine { J with has := fun p hp => ?_, nod := nod_chs I.nod hsub fun p hp => Nat.lt_of_lt_of_le (I.has.lt p hp) hl, sv := fun c hc => J.sv c (hmem c hc), chs := hch, lay := fun c hc => I.lay c (hmem c hc), b0 := h0, b1 := fun c hc => ⟨(h1 c hc).1, (h1 c hc).2, hT c (hmem c (List.mem_of_mem_head? hc))⟩, nc := Int.le_trans (Int.ofNat_le.mpr hsub.length_le) J.nc, rw := fun c hc => J.rw c (hmem c hc) }
  · rcases List.mem_cons.mp hp with rfl | hp
    · exact g.get I.hcl
    · rcases List.mem_cons.mp hp with rfl | hp
      · exact hD
      · rcases List.mem_append.mp hp with hp | hp
        · exact g.get (I.hS p hp)
        · obtain ⟨c, hc, hp⟩ := List.mem_flatMap.mp hp
          exact g.get (I.hC (hmem c hc) p hp)

noncomputable def br_cut : List S := [.asg "keep" (.call "_law_draw" [(.var "pool"), (.bin .add (.call "len" [(.var "choices")]) (.int 1))]),
                       .asg "marks" (.slice (.meth (.var "m") "choices" []) .none .none (.neg (.int 1))),
                       .expr (.meth (.var "m") "cut_back" [(.ite (.cmp .gt (.var "keep") (.int 0)) (.item (.var "marks") (.bin .sub (.var "keep") (.int 1))) (.neg (.int 1)))]),
                       .asg "choices" (.slice (.var "choices") .none (.var "keep") .none)]

theorem cut_to {vs : List V} {k : Int} {r : List V} (h : 0 ≤ k) (e : vs.take k.toNat = r) : cut vs .none (.int k) .none = some r := (if_pos h).trans (congrArg some e)

theorem rev_cut {α : Type} {l : List α} {k : Nat} (h0 : 0 < k) (h : k ≤ l.length) : l.reverse[((k : Int) - 1).toNat]? = l[l.length - k]? := by
  obtain ⟨j, rfl⟩ := Nat.exists_eq_add_of_le' h0
  have e : (((j + 1 : Nat) : Int) - 1).toNat = j := congrArg Int.toNat (Int.add_sub_cancel (j : Int) 1)
  rw [e, List.getElem?_reverse h, Nat.sub_sub, Nat.add_comm 1 j]
theorem deed_cut {C : Calls} (hC : C = callD prog (d + 2)) {Q : Cs} {ρ : Env} (I : Inv P M D G step) (E : LE ρ G step) (hstep : step + 1 ≤ 19) (hb : P.pp < 2 ^ 64) (hQ : Nx P step Q) : evSs C br_cut ρ (Wd P M D) Q := by
  have hnc := I.nc
  have hs0 := I.s0
  have hln : (G.chs.reverse.map fun c => V.loc (c.le + 19)).length = G.chs.length := (List.length_map ..).trans List.length_reverse
  refine som E.pool (som E.choices (sl I.hch (useC hC (I.draw (by lia) (by lia) hb fun r P' r0 r1 I' p1 p2 => ?_))))
  obtain ⟨kp, rfl⟩ := Int.eq_ofNat_of_zero_le r0
  refine som E.m (useC hC (choices_ok I.chs.bpath (by rw [List.length_map]; unfold big; lia) ?_))
  obtain ⟨D1, hD1⟩ : ∃ D1, D1 = D ++ [O.list ((G.chs.map fun c => (c.b : Int)).map .int)] := ⟨_, rfl⟩
  rw [← hD1]
  have g1 : Grows D D1 := by rw [hD1]; exact Grows.app _ _
  have m1 : D1[D.length]? = some (.list ((G.chs.map fun c => (c.b : Int)).map .int)) := by rw [hD1]; exact last_get ..
  refine sl m1 ?_
  obtain ⟨D2, hD2⟩ : ∃ D2, D2 = D1 ++ [O.list ((G.chs.map fun c => (c.b : Int)).map .int).reverse] := ⟨_, rfl⟩
  have g2 : Grows D1 D2 := by rw [hD2]; exact Grows.app _ _
  have m2 : D2[D1.length]? = some (.list ((G.chs.map fun c => (c.b : Int)).map .int).reverse) := by rw [hD2]; exact last_get ..
  have gg := g1.trans g2
  -- what follows the cut
  have fin : ∀ (b hb bb : Int), ChsOk M.stack M.heap G.ts b (G.chs.drop (G.chs.length - kp)) → (G.chs.drop (G.chs.length - kp) = [] → b = -1 ∧ hb = 0 ∧ bb = 0) → (∀ c ∈ (G.chs.drop (G.chs.length - kp)).head?, hb = c.saved.vals.length ∧ bb = c.b) →
      evSs C [.asg "choices" (.slice (.var "choices") .none (.var "keep") .none)] ((ρ.set "keep" (.int (kp : Int))).set "marks" (.loc (D1.length + 19))) (Wd P' { M with b := b, hb := hb, bb := bb } D2) Q := fun b hb' bb hc h0 h1 => by
    have e : (G.chs.reverse.map fun c => V.loc (c.le + 19)).take (kp : Int).toNat = (G.chs.drop (G.chs.length - kp)).reverse.map fun c => V.loc (c.le + 19) := by
      rw [Int.toNat_natCast, ← List.map_take, List.take_reverse]
    have := I'.fewer (D' := D2 ++ [chsO (G.chs.drop (G.chs.length - kp))]) (k := G.chs.length - kp) (l := D2.length) (hb := hb') (bb := bb) hstep (gg.trans (Grows.app _ _)) gg.1 (last_get ..) hc h0 h1
    refine som E.choices (sl (gg.get I.hch) ?_)
    rw [cut_to (Int.natCast_nonneg kp) e]
    exact hQ _ P' _ _ _ this ⟨E.pool, E.m, E.state, E.cells, rfl, E.made, E.step⟩ (by lia)
  show evSs C [.expr (.meth (.var "m") "cut_back" [(.ite (.cmp .gt (.var "keep") (.int 0)) (.item (.var "marks") (.bin .sub (.var "keep") (.int 1))) (.neg (.int 1)))]), .asg "choices" (.slice (.var "choices") .none (.var "keep") .none)] ((ρ.set "keep" (.int (kp : Int))).set "marks" (.loc (D1.length + 19))) (Wd P' M (D1 ++ [O.list ((G.chs.map fun c => (c.b : Int)).map .int).reverse])) Q
  rw [← hD2]
  by_cases h0 : (0 : Int) < kp
  · obtain ⟨c, hc⟩ : ∃ c, G.chs[G.chs.length - kp]? = some c := ⟨G.chs[G.chs.length - kp]'(by lia), List.getElem?_eq_getElem _⟩
    have hmem := List.mem_of_getElem? hc
    have R := I.chs.recs c hmem
    have hv : ((G.chs.map fun c => (c.b : Int)).map V.int).reverse[((kp : Int) - 1).toNat]? = some (.int c.b) := by
      rw [rev_cut (Int.ofNat_lt.mp h0) (by rw [List.length_map, List.length_map]; lia), List.length_map, List.length_map, List.getElem?_map, List.getElem?_map, hc]; rfl
    have hdrop : G.chs.drop (G.chs.length - kp) = c :: G.chs.drop (G.chs.length - kp + 1) := by
      have hlt := (List.getElem?_eq_some_iff.mp hc).1
      rw [List.drop_eq_getElem_cons hlt, (List.getElem?_eq_some_iff.mp hc).2]
    obtain ⟨b', hb', hb0⟩ := I.chs.drop (G.chs.length - kp)
    have hbc : b' = c.b := by rw [hdrop] at hb'; exact hb'.head
    have hne : G.chs.drop (G.chs.length - kp) ≠ [] := by rw [hdrop]; exact List.cons_ne_nil _ _
    refine som E.m (ifT (tt h0) (fwl m2 (at_ok (Int.le_sub_one_of_lt h0) hv ?_)))
    by_cases hlt : (c.b : Int) < M.b
    · refine useC hC (cut_back_pos (M := M) hlt (Int.natCast_nonneg _) R.n (Int.natCast_nonneg (c.b + c.row.length + 6)) (h' := c.saved.vals.length) R.len (fin _ _ _ (hbc ▸ hb') (fun h => absurd h hne) fun x hx => ?_))
      rw [hdrop] at hx
      obtain rfl := Option.some.inj hx
      exact ⟨rfl, rfl⟩
    · have hz : G.chs.length - kp = 0 := by
        cases hk : G.chs with
        | nil => exact Nat.zero_sub _
        | cons c0 cs =>
          by_cases hz : (c0 :: cs).length - kp = 0
          · exact hz
          · exfalso
            have hI := I.chs
            rw [hk] at hI hc
            obtain ⟨h1, _, _, _, _, _, _, _, _, _, h10, h11⟩ := hI
            obtain ⟨i, hi⟩ : ∃ i, (c0 :: cs).length - kp = i + 1 := ⟨(c0 :: cs).length - kp - 1, (Nat.sub_add_cancel (Nat.pos_of_ne_zero hz)).symm⟩
            rw [hi, List.getElem?_cons_succ] at hc
            have := ChsOk.lt (B := c0.b) h11 (fun x hx => (h10 x hx).1) c (List.mem_of_getElem? hc)
            have := c.b_lt
            lia
      have hd : G.chs.drop (G.chs.length - kp) = G.chs := by rw [hz]; rfl
      exact useC hC (cut_back_no (M := M) hlt (fin M.b M.hb M.bb (by rw [hd]; exact I.chs) (fun h => I.b0 (hd ▸ h)) fun x hx => ⟨(I.b1 x (hd ▸ hx)).1, (I.b1 x (hd ▸ hx)).2.1⟩))
  · have hk0 : kp = 0 := by lia
    have hd : G.chs.drop (G.chs.length - kp) = [] := by rw [hk0]; exact List.drop_length
    refine som E.m (ifF (ff h0) ?_)
    by_cases hlt : (-1 : Int) < M.b
    · exact useC hC (cut_back_neg (M := M) hlt (by decide) (fin _ _ _ (by rw [hd]; exact rfl) (fun _ => ⟨rfl, rfl, rfl⟩) (fun x hx => by rw [hd] at hx; cases hx)))
    · have hnil : G.chs = [] := by
        cases hk : G.chs with
        | nil => rfl
        | cons c0 cs => have := I.b_eq hk; lia
      obtain ⟨b1, b2, b3⟩ := I.b0 hnil
      exact useC hC (cut_back_no (M := M) hlt (fin M.b M.hb M.bb (by rw [hd]; exact b1) (fun _ => ⟨b1, b2, b3⟩) (fun x hx => by rw [hd] at hx; cases hx)))

end C187

namespace C187
open PySem

variable {P : Pre} {M : Mach} {D : Sto} {G : LG} {step : Int} {d : Nat}

/-- where the next thing is laid: above all that counts -/
theorem Inv.topIs (I : Inv P M D G step) : ∃ p : Nat, TopIs M p ∧ p ≤ M.stack.length ∧ (∀ q ∈ G.ps.head?, q.1 + 2 + q.2 ≤ p) ∧ ∀ c ∈ G.chs, c.T ≤ p := by
  have hch := I.view.chain
  have hcp := I.cp
  by_cases h : M.b < M.e
  · cases hps : G.ps with
    | nil =>
      rw [hps] at hch
      exfalso
      have he := hch.2
      cases hc : G.chs with
      | nil => have := (I.b0 hc).1; lia
      | cons c cs => have := I.b_eq hc; lia
    | cons q ps =>
      rw [hps] at hch
      obtain ⟨h1, h2, h3, h4, _⟩ := hch
      have ht := I.top q (by rw [hps]; rfl)
      refine ⟨q.1 + 2 + q.2, ⟨fun _ => ⟨by lia, by lia, by push_cast; lia⟩, fun h' => absurd h h', fun h' => absurd h h'⟩, ht, fun r hr => ?_, ?_⟩
      · obtain rfl : q = r := by simpa using hr
        exact Nat.le_refl _
      · refine I.chs.lt fun c hc => ?_
        have hmem := List.mem_of_mem_head? hc
        have hl := I.lay c hmem q (by rw [hps]; exact List.mem_cons_self)
        obtain ⟨cs, hcs⟩ : ∃ cs, G.chs = c :: cs := by
          cases hk : G.chs with
          | nil => rw [hk] at hc; cases hc
          | cons a as => rw [hk] at hc; obtain rfl : a = c := by simpa using hc
                         exact ⟨as, rfl⟩
        have := I.b_eq hcs
        lia
  · cases hc : G.chs with
    | nil =>
      have hb := (I.b0 hc).1
      have hps : G.ps = [] := by
        cases hps : G.ps with
        | nil => rfl
        | cons q ps => rw [hps] at hch; have := hch.1; lia
      refine ⟨0, ⟨fun h' => absurd h' h, fun _ h' => by lia, fun _ _ => rfl⟩, Nat.zero_le _, fun q hq => ?_, fun c hc => by cases hc⟩
      rw [hps] at hq; cases hq
    | cons c cs =>
      have hb := I.b_eq hc
      have R := I.chs.recs c (by rw [hc]; exact List.mem_cons_self)
      have hT := (I.b1 c (by rw [hc]; rfl)).2.2
      have hbT := c.b_lt
      refine ⟨c.T, ⟨fun h' => absurd h' h, fun _ _ => ⟨c.row.length, by rw [hb, Int.toNat_natCast]; exact R.n, by unfold Ch.T; push_cast; lia⟩, fun _ h' => by lia⟩, hT, fun q hq => ?_, ?_⟩
      · obtain ⟨ps, hps⟩ : ∃ ps, G.ps = q :: ps := by
          cases hk : G.ps with
          | nil => rw [hk] at hq; cases hq
          | cons a as => rw [hk] at hq; obtain rfl : a = q := by simpa using hq
                         exact ⟨as, rfl⟩
        have hl := I.lay c (by rw [hc]; exact List.mem_cons_self) q (by rw [hps]; exact List.mem_cons_self)
        rw [hps] at hch
        have := hch.1
        lia
      · rw [← hc]
        refine I.chs.lt fun x hx => ?_
        rw [hc] at hx
        obtain rfl : c = x := by simpa using hx
        exact Nat.le_refl _

end C187

namespace C187
open PySem

variable {P : Pre} {M : Mach} {D : Sto} {G : LG} {step : Int} {d : Nat}

theorem sl1 {o : Option O} {a : V} {F : V → Prop} (h : o = some (.list [a])) (k : F a) : (match (motive := Option O → Prop) o with | some (.list [a]) => F a | _ => False) := by rw [h]; exact k

theorem nod_mid {l1 l2 x : List Nat} {n : Nat} (h : (l1 ++ l2).Nodup) (hx : x.Nodup) (hlt : ∀ a ∈ l1 ++ l2, a < n) (hge : ∀ a ∈ x, n ≤ a) : (l1 ++ (x ++ l2)).Nodup := by
  rw [List.nodup_append] at h
  obtain ⟨n1, n2, n3⟩ := h
  rw [List.nodup_append, List.nodup_append]
  refine ⟨n1, ⟨hx, n2, fun a ha b hb => ?_⟩, fun a ha b hb => ?_⟩
  · have := hge a ha; have := hlt b (List.mem_append_right _ hb); lia
  · have h1 := hlt a (List.mem_append_left _ ha)
    rcases List.mem_append.mp hb with hb | hb
    · have := hge b hb; lia
    · exact n3 a ha b hb

theorem G_locs (G : LG) : G.objs.map (·.1) = [G.lc, G.lch, G.S.ls, G.S.lf, G.S.lv] ++ locsF G.S.frames ++ (G.chs.flatMap Ch.objs).map (·.1) := by
  unfold LG.objs LS.objs
  rw [← objsF_locs]
  simp [objsF]
theorem Inv.lt (I : Inv P M D G step) : ∀ a ∈ G.objs.map (·.1), a < D.length := fun a ha => by
  obtain ⟨p, hp, rfl⟩ := List.mem_map.mp ha
  exact I.has.lt p hp

noncomputable def br_push : List S := [.asgItem (.item (.var "state") (.int 2)) (.var "step") (.list [(.item (.var "state") (.int 0)), (.item (.var "state") (.int 1)), (.bin .mul (.list [(.tup [(.str "unset")])]) (.var "width"))]),
       .expr (.meth (.var "m") "push_environment" [(.var "width")]),
       .asgItem (.var "state") (.int 0) (.var "step"),
       .asgItem (.var "state") (.int 1) (.bin .add (.var "live") (.int 1)),
       .asgAttr (.var "m") "cp" (.bin .add (.var "live") (.int 1))]

/-- a new frame, its objects -/
theorem Inv.frame {D1 : Sto} {F : LF} (I : Inv P M D G step) (g1 : Grows D D1) (hF1 : D1[F.sl]? = some (.list (F.slots.map Sl.v))) (hF2 : D1[F.fl]? = some (.list [.int F.prev, .int F.lv, .loc (F.sl + 19)])) (hne : F.fl ≠ F.sl) (hge : D.length ≤ F.fl ∧ D.length ≤ F.sl) {a b : Int} {ps : List (Nat × Nat)} {G' : LG} (hG' : G' = { G with S := { G.S with cur := a, live := b, frames := G.S.frames ++ [(step, F)] }, ps := ps }) :
    Has (D1.set G.S.lf (framesO (G.S.frames ++ [(step, F)]))) ([(G.lc, .dI G.cl), (G.lch, chsO G.chs)] ++ (G.S.ls, stO G.S G.S.cur G.S.live) :: ((G.S.lf, framesO (G.S.frames ++ [(step, F)])) :: (G.S.lv, valsO G.S.vals) :: (G.S.frames.flatMap (fun p => p.2.objs) ++ (F.objs ++ G.chs.flatMap Ch.objs)))) ∧
    Has ((D1.set G.S.lf (framesO (G.S.frames ++ [(step, F)]))).set G.S.ls (stO G.S a b)) G'.objs ∧ (G'.objs.map (·.1)).Nodup := by
  have H1 : Has D1 ([(G.lc, .dI G.cl), (G.lch, chsO G.chs), (G.S.ls, stO G.S G.S.cur G.S.live)] ++ (G.S.lf, framesO G.S.frames) :: ((G.S.lv, valsO G.S.vals) :: (G.S.frames.flatMap (fun p => p.2.objs) ++ (F.objs ++ G.chs.flatMap Ch.objs)))) := by
    intro q hq
    simp only [List.cons_append, List.nil_append, List.mem_cons, List.mem_append] at hq
    have h0 := I.has.grows g1
    rcases hq with rfl | rfl | rfl | rfl | rfl | hq | hq | hq
    · exact h0 _ (by simp [LG.objs, LS.objs, stO])
    · exact h0 _ (by simp [LG.objs, LS.objs, stO])
    · exact h0 _ (by simp [LG.objs, LS.objs, stO])
    · exact h0 _ (by simp [LG.objs, LS.objs, stO])
    · exact h0 _ (by simp [LG.objs, LS.objs, stO])
    · exact (h0 : Has D1 G.objs) q (by simp only [LG.objs, LS.objs, List.mem_cons, List.mem_append]; exact .inr (.inr (.inl (.inr (.inr (.inr hq))))))
    · unfold LF.objs at hq
      simp only [List.mem_cons, List.not_mem_nil, or_false] at hq
      rcases hq with rfl | rfl
      · exact hF2
      · exact hF1
    · exact (h0 : Has D1 G.objs) q (by simp only [LG.objs, LS.objs, List.mem_cons, List.mem_append]; exact .inr (.inr (.inr hq)))
  have nod1 : (([(G.lc, .dI G.cl), (G.lch, chsO G.chs), (G.S.ls, stO G.S G.S.cur G.S.live)] ++ (G.S.lf, framesO G.S.frames) :: ((G.S.lv, valsO G.S.vals) :: (G.S.frames.flatMap (fun p => p.2.objs) ++ (F.objs ++ G.chs.flatMap Ch.objs))) : Objs).map (·.1)).Nodup := by
    have e : (([(G.lc, .dI G.cl), (G.lch, chsO G.chs), (G.S.ls, stO G.S G.S.cur G.S.live)] ++ (G.S.lf, framesO G.S.frames) :: ((G.S.lv, valsO G.S.vals) :: (G.S.frames.flatMap (fun p => p.2.objs) ++ (F.objs ++ G.chs.flatMap Ch.objs))) : Objs).map (·.1)) = ([G.lc, G.lch, G.S.ls, G.S.lf, G.S.lv] ++ locsF G.S.frames) ++ ([F.fl, F.sl] ++ (G.chs.flatMap Ch.objs).map (·.1)) := by
      rw [← objsF_locs]; simp [objsF, LF.objs]
    rw [e]
    have hnod := I.nod
    have hlt := I.lt
    rw [G_locs] at hnod hlt
    refine nod_mid (n := D.length) hnod ?_ hlt ?_
    · exact List.nodup_cons.mpr ⟨(fun h => hne (List.mem_singleton.mp h)), List.nodup_cons.mpr ⟨(fun h => nomatch h), List.nodup_nil⟩⟩
    · exact List.forall_mem_cons.mpr ⟨hge.1, List.forall_mem_cons.mpr ⟨hge.2, (fun _ h => nomatch h)⟩⟩
  have H2 := Has.upd (framesO (G.S.frames ++ [(step, F)])) H1 nod1
  have nod2 := nod1
  rw [← locs_upd (o' := framesO (G.S.frames ++ [(step, F)]))] at nod2
  have e4 : [(G.lc, .dI G.cl), (G.lch, chsO G.chs), (G.S.ls, stO G.S G.S.cur G.S.live)] ++ (G.S.lf, framesO (G.S.frames ++ [(step, F)])) :: ((G.S.lv, valsO G.S.vals) :: (G.S.frames.flatMap (fun p => p.2.objs) ++ (F.objs ++ G.chs.flatMap Ch.objs))) =
    [(G.lc, .dI G.cl), (G.lch, chsO G.chs)] ++ (G.S.ls, stO G.S G.S.cur G.S.live) :: ((G.S.lf, framesO (G.S.frames ++ [(step, F)])) :: (G.S.lv, valsO G.S.vals) :: (G.S.frames.flatMap (fun p => p.2.objs) ++ (F.objs ++ G.chs.flatMap Ch.objs))) := rfl
  rw [e4] at H2 nod2
  refine ⟨H2, ?_⟩
  have H3 := Has.upd (stO G.S a b) H2 nod2
  rw [← locs_upd (o' := stO G.S a b)] at nod2
  have e5 : G'.objs = [(G.lc, .dI G.cl), (G.lch, chsO G.chs)] ++ (G.S.ls, stO G.S a b) :: ((G.S.lf, framesO (G.S.frames ++ [(step, F)])) :: (G.S.lv, valsO G.S.vals) :: (G.S.frames.flatMap (fun p => p.2.objs) ++ (F.objs ++ G.chs.flatMap Ch.objs))) := by
    rw [hG']; simp [LG.objs, LS.objs, stO]
  rw [← e5] at H3 nod2
  exact ⟨H3, nod2⟩

/-- the frame laid -/
theorem Inv.pushed {D' : Sto} {F : LF} {G' : LG} {p width live : Nat} {stk' : List V} (I : Inv P M D G step) (hstep : step + 1 ≤ 19) (hw : width ≤ 3) (hl : live ≤ width) (hp1 : p ≤ M.stack.length) (hp2 : ∀ r ∈ G.ps.head?, r.1 + 2 + r.2 ≤ p) (hp3 : ∀ c ∈ G.chs, c.T ≤ p) (hF : F.prev = G.S.cur ∧ F.lv = G.S.live ∧ F.slots = List.replicate width .unset)
    (hstk : stk' = puts M.stack p (.int M.e :: .int M.cp :: List.replicate width void)) (hG' : G' = { G with S := { G.S with cur := step, live := live + 1, frames := G.S.frames ++ [(step, F)] }, ps := (p, live) :: G.ps }) (H : Has D' G'.objs) (nod : (G'.objs.map (·.1)).Nodup) :
    Inv P { M with e := p, cp := live + 1, stack := stk' } D' G' (step + 1) := by
  have hs0 := I.s0
  have hnst := I.nst
  have hnf := I.nf
  have J := I.up hstep
  have hfresh : step ∉ G.S.frames.map (·.1) := fun h => Int.lt_irrefl _ (I.st.fk _ h).2
  have hlen : stk'.length = max M.stack.length (p + (width + 2)) := by
    rw [hstk, puts_nat hp1]
    simp
  have hlow : ∀ j : Nat, j < p → stk'[j]? = M.stack[j]? := fun j hj => by
    rw [hstk, putn_get hp1, if_neg fun q => Nat.not_le.mpr hj q.1]
  subst hG'
  refine { J with has := H, nod := nod, st := ⟨fun k hk => ?_, ?_, J.st.vk, J.st.vr, J.st.cl, Int.lt_succ _⟩, view := ⟨?_, I.view.vals⟩, cp := rfl, trok := fun a ha => ?_, chs := ?_, lay := fun c hc r hr => ?_, b1 := fun c hc => ?_, top := fun r hr => ?_, nf := by rw [len_snoc]; exact Int.add_le_add_right hnf 1, nst := by simp only [hlen]; lia }
  · rcases mem_snoc_map hk with hk | rfl
    · exact J.st.fk k hk
    · exact ⟨hs0.1, Int.lt_succ _⟩
  · rw [List.map_append, List.nodup_append]
    exact ⟨I.st.fn, List.nodup_cons.mpr ⟨(fun h => nomatch h), List.nodup_nil⟩, fun a ha b hb e => by
      rw [e, show b = step from List.mem_singleton.mp hb] at ha
      exact hfresh ha⟩
  · exact ChainOk.push (F := F) I.view.chain I.st.cur hs0.1 hfresh hw hl hF hp2 (by rw [hstk, I.cp]) hp1
  · have := I.trok a ha
    exact ⟨this.1, fun h => by have := this.2 h; simp only [hlen]; lia⟩
  · exact ChsOk.above (B := p) hlow (by simp only [hlen]; lia) (fun _ _ => rfl) (Nat.le_refl _) I.trok (fun c hc => hp3 c (List.mem_of_mem_head? hc)) I.chs
  · rcases List.mem_cons.mp hr with rfl | hr
    · exact .inr (hp3 c hc)
    · exact I.lay c hc r hr
  · have := I.b1 c hc
    exact ⟨this.1, this.2.1, by simp only [hlen]; lia⟩
  · obtain rfl := Option.some.inj hr
    simp only [hlen]; lia

theorem deed_push {C : Calls} (hC : C = callD prog (d + 2)) {Q : Cs} {ρ : Env} {width live : Nat} (I : Inv P M D G step) (E : LE ρ G step) (hw : width ≤ 3) (hl : live ≤ width) (e1 : ρ "width" = some (.int (width : Int))) (e2 : ρ "live" = some (.int (live : Int))) (hstep : step + 1 ≤ 19) (hQ : Nx P step Q) :
    evSs C br_push ρ (Wd P M D) Q := by
  have hs0 := I.s0
  have hnst := I.nst
  have hnf := I.nf
  obtain ⟨p, hT, hp1, hp2, hp3⟩ := I.topIs
  have hfresh : step ∉ (G.S.frames.map fun p => (p.1, V.loc (p.2.fl + 19))).map (·.1) := fun h => Int.lt_irrefl _ (I.st.fk _ (keys_map (fun F : LF => V.loc (F.fl + 19)) G.S.frames ▸ h)).2
  obtain ⟨F, hF⟩ : ∃ F : LF, F = { prev := G.S.cur, lv := G.S.live, slots := List.replicate width .unset, fl := D.length + 2, sl := D.length + 1 } := ⟨_, rfl⟩
  obtain ⟨D1, hD1⟩ : ∃ D1, D1 = D ++ [O.list [.tup [.str (Str.ofString "unset")]]] ++ [O.list (List.replicate (width : Int).toNat (V.tup [.str (Str.ofString "unset")]))] ++ [O.list [V.int G.S.cur, .int G.S.live, .loc ((D ++ [O.list [.tup [.str (Str.ofString "unset")]]]).length + 19)]] := ⟨_, rfl⟩
  have g1 : Grows D D1 := by rw [hD1, List.append_assoc, List.append_assoc]; exact Grows.app _ _
  have hF1 : D1[F.sl]? = some (.list (F.slots.map Sl.v)) := by
    rw [hD1, hF, List.getElem?_append_left (by simp), List.getElem?_append_right (by simp)]
    simp [Sl.v, sV]
  have hF2 : D1[F.fl]? = some (.list [.int F.prev, .int F.lv, .loc (F.sl + 19)]) := by
    rw [hD1, hF, List.getElem?_append_right (by simp)]
    simp
  have hfr1 : D1[G.S.lf]? = some (.dI (G.S.frames.map fun p => (p.1, .loc (p.2.fl + 19)))) := (I.hS.grows g1).fr
  have st1 := (I.hS.grows g1).st
  obtain ⟨G', hG'⟩ : ∃ G' : LG, G' = { G with S := { G.S with cur := step, live := live + 1, frames := G.S.frames ++ [(step, F)] }, ps := (p, live) :: G.ps } := ⟨_, rfl⟩
  obtain ⟨H2, H3, nod⟩ := I.frame g1 hF1 hF2 (by rw [hF]; exact Nat.succ_ne_self _) (by rw [hF]; exact ⟨Nat.le_add_right _ _, Nat.le_add_right _ _⟩) hG'
  have st2 : (D1.set G.S.lf (framesO (G.S.frames ++ [(step, F)])))[G.S.ls]? = some (.list [.int G.S.cur, .int G.S.live, .loc (G.S.lf + 19), .loc (G.S.lv + 19)]) := H2 (G.S.ls, _) (List.mem_append_right _ List.mem_cons_self)
  have st3 : ((D1.set G.S.lf (framesO (G.S.frames ++ [(step, F)]))).set G.S.ls (stO G.S step G.S.live))[G.S.ls]? = some (.list [.int step, .int G.S.live, .loc (G.S.lf + 19), .loc (G.S.lv + 19)]) := List.getElem?_set_self (List.getElem?_eq_some_iff.mp st2).1
  have e3 : (O.dI (sto (G.S.frames.map fun p => (p.1, V.loc (p.2.fl + 19))) step (.loc ((D ++ [O.list [V.tup [.str (Str.ofString "unset")]]] ++ [O.list (List.replicate (width : Int).toNat (V.tup [.str (Str.ofString "unset")]))]).length + 19)))) = framesO (G.S.frames ++ [(step, F)]) := by
    rw [sto_new hfresh]; unfold framesO; rw [List.map_append, hF, len_snoc, len_snoc]; rfl
  have key : evSs C [.expr (.meth (.var "m") "push_environment" [(.var "width")]), .asgItem (.var "state") (.int 0) (.var "step"), .asgItem (.var "state") (.int 1) (.bin .add (.var "live") (.int 1)), .asgAttr (.var "m") "cp" (.bin .add (.var "live") (.int 1))] ρ (Wd P M (D1.set G.S.lf (framesO (G.S.frames ++ [(step, F)])))) Q := by
    refine som E.m (som e1 (useC hC (push_env_ok (M := M) hT (by lia) (by lia) (by unfold big; lia) ?_)))
    refine som E.step (som E.state (sil st2 ⟨by decide, Nat.le_of_ble_eq_true rfl, som e2 (som E.state (sil st3 ⟨by decide, Nat.le_of_ble_eq_true rfl, som e2 (som E.m ?_)⟩))⟩))
    have := hQ ρ P _ _ G' (I.pushed hstep hw hl hp1 hp2 hp3 ⟨by rw [hF], by rw [hF], by rw [hF]⟩ rfl hG' H3 nod) (by rw [hG']; exact ⟨E.pool, E.m, E.state, E.cells, E.choices, E.made, E.step⟩) (Int.le_add_of_nonneg_right (by decide))
    rw [← List.set_set] at this
    exact this
  rw [← e3] at key
  subst hD1
  exact som E.state (fwl I.hS.st (som E.state (fwl I.hS.st (som e1 (sl1 (last_get ..) ⟨Int.natCast_nonneg _, by lia, som E.state (fwl st1 (som E.step (sid hfr1 ⟨by rw [List.length_map]; unfold big; lia, key⟩)))⟩)))))

end C187

namespace C187
open PySem

variable {P : Pre} {M : Mach} {D : Sto} {G : LG} {step : Int} {d : Nat}

theorem sbT {b : Bool} {p q : Prop} (h : b = true) (k : p) : (match (motive := Bool → Prop) b with | true => p | false => q) := by rw [h]; exact k
theorem sbF {b : Bool} {p q : Prop} (h : b = false) (k : q) : (match (motive := Bool → Prop) b with | true => p | false => q) := by rw [h]; exact k
theorem sop {o : Option PyData} {a : PyData} {F : PyData → Prop} (h : o = some a) (k : F a) : (match (motive := Option PyData → Prop) o with | some p => F p | none => False) := by rw [h]; exact k
theorem apart_is {σ : Sto} {a b : Nat} {x y : List V} (h1 : σ[a]? = some (.list x)) (h2 : σ[b]? = some (.list y)) : apart (.loc a) (.loc b) σ = (x.length != y.length) := by unfold apart; dsimp only; rw [h1]; dsimp only; rw [h2]
theorem rd_nil {σ : Sto} {a : Nat} (h : σ[a]? = some (.list [])) : rd σ 6 (.loc a) = some (.list []) := by rw [rd_loc, h]; rfl

/-- a list held against the empty one -/
theorem cnil {σ : Sto} {a b : Nat} {vs : List V} {p : Prop} {F : PyData → PyData → Prop} (h1 : σ[a]? = some (.list vs)) (h2 : σ[b]? = some (.list [])) (kt : vs ≠ [] → p) (kf : vs = [] → F (.list []) (.list [])) :
    (match (motive := Bool → Prop) apart (.loc a) (.loc b) σ with | true => p | false => (match (motive := Option PyData → Prop) rd σ 6 (.loc a) with | some p => (match (motive := Option PyData → Prop) rd σ 6 (.loc b) with | some q => F p q | none => False) | none => False)) := by
  by_cases h : vs = []
  · subst h
    exact sbF (apart_is h1 h2) (sop (rd_nil h1) (sop (rd_nil h2) (kf rfl)))
  · exact sbT ((apart_is h1 h2).trans (bne_iff_ne.mpr fun e => h (List.length_eq_zero_iff.mp e))) (kt h)

theorem rising_of : ∀ {l : List Int}, l.Pairwise (· < ·) → rising l = true
  | [], _ => rfl
  | [_], _ => rfl
  | a :: b :: r, h => by
    rw [List.pairwise_cons] at h
    have h1 := h.1 b List.mem_cons_self
    have h2 := rising_of h.2
    simp only [rising, h1, decide_true, h2, Bool.and_self]

theorem Inv.names_len (I : Inv P M D G step) : (G.S.vals.map fun p => (p.1, p.2.v)).length < 64 := by
  have h1 := I.nv
  have h2 := I.m0
  have h3 := I.s0
  rw [List.length_map]; lia
theorem Inv.names_up (I : Inv P M D G step) : rising ((G.S.vals.map fun p => (p.1, p.2.v)).map (·.1)) = true := by rw [keys_map Vl.v]; exact rising_of I.st.vr
theorem names_eq (vals : List (Int × Vl)) : ((vals.map fun p => (p.1, p.2.v)).map fun p => V.int p.1) = (vals.map (·.1)).map .int := by rw [List.map_map, List.map_map]; rfl

noncomputable def lb_fill : List S := [.asg "names" (.call "sorted" [(.item (.var "state") (.int 3))]),
  .expr (.meth (.var "row") "append" [(.ite (.cmp .ne (.var "names") (.list [])) (.item (.var "cells") (.item (.var "names") (.call "_law_draw" [(.var "pool"), (.call "len" [(.var "names")])]))) (.tup [(.glob "INT"), (.var "place")]))])]

theorem fill_loop {C : Calls} (hC : C = callD prog (d + 1)) {Q : Cs} {D0 : Sto} {r : Nat} (hr : D0.length = r) : ∀ (n i : Nat) (vs : List V) (P : Pre) (D : Sto) (ρ : Env), Inv P M D0 G step → LE ρ G step → ρ "row" = some (.loc (r + 19)) → Grows D0 D → D[r]? = some (.list vs) → (∀ v ∈ vs, ∃ t k, v = cell t k) → vs.length + n ≤ 3 → P.pp + n < 2 ^ 64 →
    (∀ ρ' P' D' vs', Inv P' M D0 G step → LE ρ' G step → ρ' "row" = some (.loc (r + 19)) → Grows D0 D' → D'[r]? = some (.list vs') → (∀ v ∈ vs', ∃ t k, v = cell t k) → vs'.length ≤ 3 → P'.pp ≤ P.pp + n → Q .next ρ' (Wd P' M D')) →
    forV "place" (evSs C lb_fill) ((List.range' i n).map fun (i : Nat) => V.int (0 + (i : Int))) ρ (Wd P M D) Q
  | 0, i, vs, P, D, ρ, I, E, e1, g, hD, hv, hn, hb, hQ => hQ ρ P D vs I E e1 g hD hv (by lia) (by lia)
  | n + 1, i, vs, P, D, ρ, I, E, e1, g, hD, hv, hn, hb, hQ => by
    have I1 := I.grows g
    have hva : D[G.S.lv]? = some (.dI (G.S.vals.map fun p => (p.1, p.2.v))) := I1.hS.va
    refine som E.state (fwl I1.hS.st (sod hva ⟨I1.names_len, I1.names_up, ?_⟩))
    rw [names_eq]
    obtain ⟨nm, hnm⟩ : ∃ nm, nm = (G.S.vals.map (·.1)).map V.int := ⟨_, rfl⟩
    rw [← hnm]
    have g1 : Grows D (D ++ [.list nm]) := Grows.app _ _
    have m1 : (D ++ [O.list nm])[D.length]? = some (.list nm) := last_get ..
    have g2 : Grows (D ++ [.list nm]) (D ++ [.list nm] ++ [.list []]) := Grows.app _ _
    have m2 := g2.get m1
    have m3 : (D ++ [O.list nm] ++ [O.list []])[(D ++ [O.list nm]).length]? = some (.list []) := last_get ..
    have hD2r : (D ++ [O.list nm] ++ [O.list []])[r]? = some (.list vs) := g2.get (g1.get hD)
    have g02 := g.trans (g1.trans g2)
    have I2 := I.grows g02
    have hvb : vs.length < big := by unfold big; lia
    have fin : ∀ (v : V) (P' : Pre), (∃ t k, v = cell t k) → Inv P' M D0 G step → P'.pp ≤ P.pp + 1 → forV "place" (evSs C lb_fill) ((List.range' (i + 1) n).map fun (i : Nat) => V.int (0 + (i : Int))) ((ρ.set "place" (.int (0 + (i : Int)))).set "names" (.loc (D.length + 19))) (Wd P' M ((D ++ [O.list nm] ++ [O.list []]).set r (O.list (vs ++ [v])))) Q := fun v P' hv' I' hp => by
      refine fill_loop hC hr n (i + 1) (vs ++ [v]) P' _ _ I' ⟨E.pool, E.m, E.state, E.cells, E.choices, E.made, E.step⟩ e1 (g02.set (Nat.le_of_eq hr) _) (List.getElem?_set_self (List.getElem?_eq_some_iff.mp hD2r).1) (fun x hx => ?_) (by rw [len_snoc]; lia) (by lia) fun ρ' P'' D' vs' q1 q2 q3 q4 q5 q6 q7 q8 => hQ ρ' P'' D' vs' q1 q2 q3 q4 q5 q6 q7 (by lia)
      rcases List.mem_append.mp hx with hx | hx
      · exact hv x hx
      · rw [List.mem_singleton.mp hx]
        exact hv'
    have ha := apart_is (σ := Wd P M (D ++ [O.list nm] ++ [O.list []])) (a := D.length + 19) (b := (D ++ [O.list nm]).length + 19) m2 m3
    refine som e1 (sm (g1.get hD) ?_)
    by_cases hne : nm = []
    · subst hne
      refine sbF ha (sop (rd_nil (σ := Wd P M (D ++ [O.list []] ++ [O.list []])) m2) (sop (rd_nil (σ := Wd P M (D ++ [O.list []] ++ [O.list []])) m3) ?_))
      exact (sl hD2r ⟨hvb, fin (cell 5 (0 + (i : Int))) P ⟨5, 0 + (i : Int), rfl⟩ I (Int.le_add_one (Int.le_refl _))⟩)
    · have hnl : nm.length = G.S.vals.length := by rw [hnm, List.length_map, List.length_map]
      have hpos : 0 < nm.length := List.length_pos_iff.mpr hne
      have hnv := I.nv
      have hm0 := I.m0
      have hs0 := I.s0
      refine sbT (ha.trans (bne_iff_ne.mpr (Nat.ne_of_gt hpos))) (som E.cells (som E.pool (sl m2 (useC hC (draw_ok (by lia) (by lia) I.pool (by lia) fun k a p k0 k1 k2 k3 k4 => ?_)))))
      obtain ⟨m, hm⟩ : ∃ m, (G.S.vals.map (·.1))[k.toNat]? = some m := ⟨_, List.getElem?_eq_getElem (by rw [List.length_map]; lia)⟩
      exact fwl m2 (at_ok (v := .int m) k0 (by rw [hnm, List.getElem?_map, hm]; rfl) (fwd I2.hcl (som (I.st.cl _ _ hm) (sl hD2r ⟨hvb, fin _ _ ⟨0, _, rfl⟩ (I.drawn k2 k3) k4⟩))))


noncomputable def br_choice : List S := [.asg "row" (.list []),
             .for "place" (.call "range" [(.call "_law_draw" [(.var "pool"), (.int 4)])]) lb_fill,
             .expr (.meth (.var "m") "push_choice" [(.var "row"), (.bin .add (.int 100) (.var "step"))]),
             .expr (.meth (.var "choices") "append" [(.list [(.call "_law_copied" [(.var "state")]), (.var "row"), (.bin .add (.int 100) (.var "step")), (.call "len" [(.attr (.attr (.var "m") "store") "heap")]), (.call "len" [(.attr (.attr (.var "m") "store") "trail")])])])]
theorem deed_choice {C : Calls} (hC : C = callD prog (d + 2)) {Q : Cs} {ρ : Env} (I : Inv P M D G step) (E : LE ρ G step) (hstep : step + 1 ≤ 19) (hb : P.pp < 2 ^ 63) (hQ : Nx P step Q) : evSs C br_choice ρ (Wd P M D) Q := by
  have hs0 := I.s0
  have hm0 := I.m0
  have hnst := I.nst
  have hnf := I.nf
  have hnv := I.nv
  have hnc := I.nc
  refine som E.pool (useC hC (draw_ok (D := D ++ [O.list []]) (by lia) (by lia) I.pool (by lia) fun k a p k0 k1 k2 k3 k4 => ?_))
  obtain ⟨n, rfl⟩ := Int.eq_ofNat_of_zero_le k0
  refine forW_w (x := "place") (B := evSs C lb_fill) (by unfold big; lia) (fill_loop (d := d + 1) hC rfl n 0 [] _ (D ++ [O.list []]) (ρ.set "row" (.loc (D.length + 19))) (I.drawn k2 k3) ⟨E.pool, E.m, E.state, E.cells, E.choices, E.made, E.step⟩ rfl (Grows.app D [.list []]) (last_get ..) (fun v hv => by cases hv) (by simp only [List.length_nil]; lia) (by simp only; lia) fun ρ2 P2 D1 row I2 E2 r2 g1 hrow hcell hrl hpp => ?_)
  simp only at hpp
  have I1 := I2.grows g1
  obtain ⟨p0, hT, hp1, hp2, hp3⟩ := I1.topIs
  refine som E2.m (som r2 (som E2.step (useC hC (push_choice_ok (row := row) (l := D.length) hT (by lia) (by lia) (by unfold big; lia) hrow ?_))))
  obtain ⟨stk', hstk⟩ : ∃ stk', stk' = puts M.stack p0 (record M row (100 + step)) := ⟨_, rfl⟩
  rw [← hstk]
  have hch1 := I1.hch
  refine som E2.choices (sm hch1 (som E2.state (useC hC (copied_ok I1.hS I1.st.fn I1.vn (by unfold big; lia) (by unfold big; lia) fun D2 S' g2 c1 c2 c3 c4 H2 hloc hnod => som r2 (som E2.step (som E2.m (som E2.m ?_)))))))
  have htl : M.trail.length = G.ts.length := by rw [I.tr, List.length_map]
  obtain ⟨c, hc⟩ : ∃ c : Ch, c = { saved := S', row := row, alt := 100 + step, trl := G.ts.length, b := p0, e := M.e, pb := M.b, ps := G.ps, le := D2.length, lr := D.length } := ⟨_, rfl⟩
  have e1 : O.list [.loc (S'.ls + 19), .loc (D.length + 19), .int (100 + step), .int M.heap.length, .int M.trail.length] = chO c := by
    rw [hc]; unfold chO; rw [htl, I.hl]; simp only [c3]
  obtain ⟨D3, hD3⟩ : ∃ D3, D3 = D2 ++ [chO c] := ⟨_, rfl⟩
  have g3 : Grows D2 D3 := by rw [hD3]; exact Grows.app _ _
  have g13 := g2.trans g3
  have hch3 := g13.get hch1
  obtain ⟨G', hG'⟩ : ∃ G' : LG, G' = { G with chs := c :: G.chs } := ⟨_, rfl⟩
  have e2 : O.list ((G.chs.reverse.map fun c => V.loc (c.le + 19)) ++ [.loc (D2.length + 19)]) = chsO (c :: G.chs) := by
    unfold chsO; rw [List.reverse_cons, List.map_append, hc]; rfl
  have hlD : D.length < D1.length := (List.getElem?_eq_some_iff.mp hrow).1
  have hg2 := g2.1
  have nodc : (c.objs.map (·.1)).Nodup := by
    show (c.le :: c.lr :: c.saved.objs.map (·.1)).Nodup
    rw [hc]
    simp only [LS.objs_locs]
    rw [List.nodup_cons, List.nodup_cons]
    refine ⟨fun h => ?_, fun h => ?_, hnod⟩
    · rcases List.mem_cons.mp h with h | h
      · lia
      · have := hloc _ h; lia
    · have := hloc _ h; lia
  have gec : ∀ a ∈ c.objs.map (·.1), D.length ≤ a := fun a ha => by
    have ha' : a ∈ (c.le :: c.lr :: c.saved.objs.map (·.1)) := ha
    rw [hc] at ha'
    simp only [LS.objs_locs] at ha'
    rcases List.mem_cons.mp ha' with rfl | ha'
    · lia
    · rcases List.mem_cons.mp ha' with rfl | ha'
      · exact Nat.le_refl _
      · have := hloc _ ha'; lia
  have H3 : Has D3 ([(G.lc, .dI G.cl)] ++ (G.lch, chsO G.chs) :: (G.S.objs ++ (c.objs ++ G.chs.flatMap Ch.objs))) := by
    intro q hq
    have h0 : Has D3 G.objs := I1.has.grows g13
    simp only [List.cons_append, List.nil_append, List.mem_cons, List.mem_append] at hq
    rcases hq with rfl | rfl | hq | hq | hq
    · exact h0 _ (by simp [LG.objs])
    · exact h0 _ (by simp [LG.objs])
    · exact h0 q (by simp only [LG.objs, List.mem_cons, List.mem_append]; exact .inr (.inr (.inl hq)))
    · unfold Ch.objs at hq
      rcases List.mem_cons.mp hq with rfl | hq
      · rw [hD3]
        show (D2 ++ [chO c])[c.le]? = _
        have : c.le = D2.length := by rw [hc]
        rw [this]; simp
      · rcases List.mem_cons.mp hq with rfl | hq
        · have : c.lr = D.length := by rw [hc]
          show D3[c.lr]? = some (.list c.row)
          rw [this]
          have : c.row = row := by rw [hc]
          rw [this]
          exact g13.get hrow
        · have : c.saved = S' := by rw [hc]
          rw [this] at hq
          exact g3.get (H2 q hq)
    · exact h0 q (by simp only [LG.objs, List.mem_cons, List.mem_append]; exact .inr (.inr (.inr hq)))
  have nod3 : (([(G.lc, .dI G.cl)] ++ (G.lch, chsO G.chs) :: (G.S.objs ++ (c.objs ++ G.chs.flatMap Ch.objs)) : Objs).map (·.1)).Nodup := by
    have e : (([(G.lc, .dI G.cl)] ++ (G.lch, chsO G.chs) :: (G.S.objs ++ (c.objs ++ G.chs.flatMap Ch.objs)) : Objs).map (·.1)) = (G.lc :: G.lch :: G.S.objs.map (·.1)) ++ (c.objs.map (·.1) ++ (G.chs.flatMap Ch.objs).map (·.1)) := by
      simp
    rw [e]
    have e' : G.objs.map (·.1) = (G.lc :: G.lch :: G.S.objs.map (·.1)) ++ (G.chs.flatMap Ch.objs).map (·.1) := by unfold LG.objs; simp
    have hnod := I.nod
    have hlt := I.lt
    rw [e'] at hnod hlt
    exact nod_mid (n := D.length) hnod nodc hlt gec
  have H4 := Has.upd (chsO (c :: G.chs)) H3 nod3
  have nod4 := nod3
  rw [← locs_upd (o' := chsO (c :: G.chs))] at nod4
  have e5 : G'.objs = [(G.lc, .dI G.cl)] ++ (G.lch, chsO (c :: G.chs)) :: (G.S.objs ++ (c.objs ++ G.chs.flatMap Ch.objs)) := by
    rw [hG']; simp [LG.objs]
  rw [← e5] at H4 nod4
  have hlen : stk'.length = max M.stack.length (p0 + (row.length + 8)) := by
    rw [hstk, puts_nat hp1]
    simp [record]
  have hlow : ∀ j : Nat, j < p0 → stk'[j]? = M.stack[j]? := fun j hj => by
    rw [hstk, putn_get hp1, if_neg fun q => Nat.not_le.mpr hj q.1]
  have hsv : S'.frames.map (·.1) = G.S.frames.map (·.1) := c4.keys.symm
  have hst : StOk S' G.cl step G.made := ⟨by rw [hsv]; exact I.st.fk, by rw [hsv]; exact I.st.fn, by rw [c3]; exact I.st.vk, by rw [c3]; exact I.st.vr, by rw [c3]; exact I.st.cl, by rw [c1]; exact I.st.cur⟩
  have key := hQ ρ2 P2 { M with b := p0, hb := M.heap.length, bb := p0, stack := stk' } (D3.set G.lch (chsO (c :: G.chs))) G' ?_ ?_ (by lia)
  · rw [hD3, ← e2, ← e1] at key
    have hch4 : (D2 ++ [O.list [.loc (S'.ls + 19), .loc (D.length + 19), .int (100 + step), .int M.heap.length, .int M.trail.length]])[G.lch]? = some (.list (G.chs.reverse.map fun c => .loc (c.le + 19))) := by rw [e1, ← hD3]; exact hch3
    refine sl hch4 ⟨by rw [List.length_map, List.length_reverse]; unfold big; lia, ?_⟩
    exact key
  · subst hG'
    have hcT : c.T = p0 + row.length + 8 := by rw [hc]; rfl
    have J := I.up hstep
    refine { J with has := H4, nod := nod4, pool := I2.pool, sv := List.forall_mem_cons.mpr ⟨by rw [hc]; exact hst.up, J.sv⟩, view := ⟨?_, I.view.vals⟩, trok := fun a ha => ?_, chs := ?_, lay := fun x hx r hr => ?_, b0 := (fun h => nomatch h), b1 := fun x hx => ?_, top := fun r hr => ?_, nc := by rw [List.length_cons]; exact Int.add_le_add_right hnc 1, nst := by simp only [hlen]; lia, rw := fun x hx => ?_ }
    · refine I.view.chain.agree fun j hj => ?_
      exact hlow j (I.view.chain.bound hp2 j hj)
    · have := I.trok a ha
      exact ⟨this.1, fun h => by simp only [hlen]; exact Nat.lt_of_lt_of_le (this.2 h) (Nat.le_max_left ..)⟩
    · have := ChsOk.push (c := c) (S := G.S) (M := M) I.trok I.chs (by rw [hc]; exact I.view) (by rw [hc]; exact ⟨c1, c2, c3, c4⟩) (by rw [hc]; exact hrl) (by rw [hc]) I.hl (by rw [hc]) (by rw [hc]; exact hp1) ⟨by rw [hc], I.cp, rfl, htl, rfl⟩ (by rw [hc]; exact hp2) (by rw [hc]; exact I.lay) (fun x hx => by rw [hc]; exact hp3 x (List.mem_of_mem_head? hx))
      have e1 : c.b = p0 := by rw [hc]
      have e2 : c.row = row := by rw [hc]
      have e3 : c.alt = 100 + step := by rw [hc]
      rw [e1, e2, e3, ← hstk] at this
      exact this
    · rcases List.mem_cons.mp hx with rfl | hx
      · have e1 : x.b = p0 := by rw [hc]
        left
        rw [e1]
        have hb := I.view.chain.bound (B := p0) hp2
        have := hb (r.1 + 1 + r.2) ⟨r, hr, by lia, by lia⟩
        lia
      · exact I.lay x hx r hr
    · obtain rfl := Option.some.inj hx
      have e1 : c.b = p0 := by rw [hc]
      have e2 : c.saved = S' := by rw [hc]
      refine ⟨by rw [e2, c3, I.hl], by rw [e1], by rw [hcT, hlen]; exact Nat.le_max_right ..⟩
    · have := I.top r hr
      simp only [hlen]; lia
    · rcases List.mem_cons.mp hx with rfl | hx
      · have e2 : x.saved = S' := by rw [hc]
        have e3 : x.row = row := by rw [hc]
        refine ⟨by rw [e3]; exact hcell, ?_⟩
        rw [e2]
        have := congrArg List.length hsv
        simp only [List.length_map] at this
        lia
      · exact J.rw x hx
  · rw [hG']
    exact ⟨E2.pool, E2.m, E2.state, E2.cells, E2.choices, E2.made, E2.step⟩

end C187

namespace C187
open PySem

variable {P : Pre} {M : Mach} {D : Sto} {G : LG} {step : Int} {d : Nat}

theorem ChsOk.high {stk hp : List V} {ts : List Int} : ∀ {cs : List Ch} {b : Int}, ChsOk stk hp ts b cs → ∀ c ∈ cs, ∀ a ∈ ts.drop c.trl, a < 0 → (-1 - a < c.b ∨ c.T ≤ -1 - a)
  | [], b, h, c, hc => by cases hc
  | c :: cs, b, h, c', hc => by
    obtain ⟨h1, R, h3, V, h4, h5, h6, h7, h8, h9, h10, h11⟩ := h
    rcases List.mem_cons.mp hc with rfl | hc
    · exact h9
    · exact ChsOk.high h11 c' hc

/-- the machine after it went back to a choice -/
noncomputable def backM (M : Mach) (G : LG) (c : Ch) : Mach :=
  { M with x := puts M.x 1 c.row, e := c.e, cp := c.saved.live, heap := (undoH M.heap (G.ts.drop c.trl)).take c.saved.vals.length, stack := undoS M.stack (G.ts.drop c.trl), trail := (G.ts.take c.trl).map .int }

theorem Inv.back {D' : Sto} {S' : LS} {c : Ch} {cs : List Ch} (I : Inv P M D G step) (hc : G.chs = c :: cs) (g : Grows D D') (c1 : S'.cur = c.saved.cur) (c2 : S'.live = c.saved.live) (c3 : S'.vals = c.saved.vals) (c4 : SameF c.saved.frames S'.frames)
    (H : Has D' S'.objs) (hloc : ∀ l ∈ S'.locs, D.length ≤ l ∧ l < D'.length) (hnod : S'.locs.Nodup) : Inv P (backM M G c) D' { G with S := S', ps := c.ps, ts := G.ts.take c.trl } step := by
  have hs0 := I.s0
  have hm0 := I.m0
  have hchs := I.chs
  rw [hc] at hchs
  have hmem : c ∈ G.chs := by rw [hc]; exact List.mem_cons_self
  have hback := ChsOk.back (K := c.trl) (L := c.saved.vals.length) I.trok hchs.2.2.2.2.1 hchs.2.2.2.2.2.1 hchs.2.2.2.2.2.2.2.2.1 (fun x hx => by
    obtain rfl : c = x := by simpa using hx
    exact ⟨Nat.le_refl _, Nat.le_refl _⟩) hchs.high hchs
  obtain ⟨h1, R, h3, V, h4, h5, h6, h7, h8, h9, h10, h11⟩ := hchs
  have hsv : S'.frames.map (·.1) = c.saved.frames.map (·.1) := c4.keys.symm
  have hsc := I.sv c hmem
  have hst : StOk S' G.cl step G.made := ⟨by rw [hsv]; exact hsc.fk, by rw [hsv]; exact hsc.fn, by rw [c3]; exact hsc.vk, by rw [c3]; exact hsc.vr, by rw [c3]; exact hsc.cl, by rw [c1]; exact hsc.cur⟩
  have hfl : S'.frames.length = c.saved.frames.length := by have := congrArg List.length hsv; simpa using this
  have hhl : (undoH M.heap (G.ts.drop c.trl)).length = M.heap.length := undoH_length _ _
  have hsl : (undoS M.stack (G.ts.drop c.trl)).length = M.stack.length := undoS_length _ _
  have hb1 := I.b1 c (by rw [hc]; rfl)
  have hcb : ∀ q ∈ c.ps, q.1 + 2 + q.2 ≤ c.b := fun q hq => by
    have := V.chain.bound (B := c.b) h6 (q.1 + 1 + q.2) ⟨q, hq, by lia, by lia⟩
    lia
  have hcT := c.b_lt
  have hxl : (puts M.x 1 c.row).length = max M.x.length (1 + c.row.length) := by
    have := I.x
    rw [puts_length (by lia) (by lia)]; simp
  refine { has := fun p hp => ?_, nod := ?_, pool := I.pool, st := hst, sv := I.sv, view := ⟨?_, ?_⟩, cp := c2.symm, hl := ?_, tr := rfl, trok := fun a ha => ?_, chs := ?_, lay := fun x hx r hr => ?_, b0 := I.b0, b1 := fun x hx => ?_, top := fun r hr => ?_, clk := I.clk, s0 := I.s0, m0 := I.m0, nf := ?_, nv := ?_, ncl := I.ncl, nc := I.nc, nt := ?_, nst := ?_, x := ?_, rw := I.rw }
  · rcases List.mem_cons.mp hp with rfl | hp
    · exact g.get I.hcl
    · rcases List.mem_cons.mp hp with rfl | hp
      · exact g.get I.hch
      · rcases List.mem_append.mp hp with hp | hp
        · exact H p hp
        · obtain ⟨x, hx, hp⟩ := List.mem_flatMap.mp hp
          exact g.get (I.hC hx p hp)
  · have e' : G.objs.map (·.1) = (G.lc :: G.lch :: G.S.objs.map (·.1)) ++ (G.chs.flatMap Ch.objs).map (·.1) := by unfold LG.objs; simp
    have hn := I.nod
    have hlt := I.lt
    rw [e'] at hn hlt
    have e : ({ G with S := S', ps := c.ps, ts := G.ts.take c.trl } : LG).objs.map (·.1) = [G.lc, G.lch] ++ (S'.locs ++ (G.chs.flatMap Ch.objs).map (·.1)) := by
      unfold LG.objs; simp only [List.map_cons, List.map_append, LS.objs_locs]; rfl
    rw [e]
    refine nod_mid (n := D.length) ?_ hnod (fun a ha => hlt a ?_) fun a ha => (hloc a ha).1
    · refine List.Nodup.sublist ?_ hn
      refine List.Sublist.append ?_ (List.Sublist.refl _)
      exact ((List.nil_sublist _).cons_cons _).cons_cons _
    · rcases List.mem_append.mp ha with ha | ha
      · refine List.mem_append_left _ ?_
        simp only [List.mem_cons, List.not_mem_nil, or_false] at ha ⊢
        rcases ha with rfl | rfl
        · exact .inl rfl
        · exact .inr (.inl rfl)
      · exact List.mem_append_right _ ha
  · have := ChainOk.same c4 V.chain
    rw [c1, c2, c3]
    exact this
  · rw [c3]
    refine V.vals.agree fun r hr => ?_
    show ((undoH M.heap (G.ts.drop c.trl)).take c.saved.vals.length)[r]? = _
    rw [List.getElem?_take_of_lt hr]; rfl
  · show ((undoH M.heap (G.ts.drop c.trl)).take c.saved.vals.length).length = S'.vals.length
    rw [List.length_take, hhl, c3]; lia
  · have t := I.trok a (List.mem_of_mem_take ha)
    refine ⟨fun h0 => ?_, fun h0 => ?_⟩
    · have := h8 a ha h0
      show a.toNat < ((undoH M.heap (G.ts.drop c.trl)).take c.saved.vals.length).length
      rw [List.length_take, hhl]; lia
    · show _ < (undoS M.stack (G.ts.drop c.trl)).length
      rw [hsl]; exact t.2 h0
  · rw [hc]; exact hback
  · have hx' : x ∈ c :: cs := hc ▸ hx
    rcases List.mem_cons.mp hx' with rfl | hx'
    · exact .inl (hcb r hr)
    · exact h7 x hx' r hr
  · have := I.b1 x hx
    refine ⟨this.1, this.2.1, ?_⟩
    show _ ≤ (undoS M.stack (G.ts.drop c.trl)).length
    rw [hsl]; exact this.2.2
  · show _ ≤ (undoS M.stack (G.ts.drop c.trl)).length
    rw [hsl]
    have := h6 r hr
    lia
  · have := (I.rw c hmem).2
    simp only [hfl]; lia
  · have := I.nv
    have := I.hl
    simp only [c3]; lia
  · have := I.nt
    simp only [List.length_take]; lia
  · show ((undoS M.stack (G.ts.drop c.trl)).length : Int) ≤ _
    rw [hsl]; exact I.nst
  · have := I.x
    show 1 ≤ (puts M.x 1 c.row).length ∧ (puts M.x 1 c.row).length ≤ 4
    rw [hxl]; lia


theorem x_back {x row : List V} (hx : 1 ≤ x.length) : ((puts x 1 row).drop 1).take row.length = row := by
  refine List.ext_getElem? fun j => ?_
  by_cases h : j < row.length
  · rw [List.getElem?_take_of_lt h, List.getElem?_drop, puts_get (by lia) (by lia), if_pos (by lia)]
    rw [show 1 + j - (1 : Int).toNat = j by simp]
  · rw [List.getElem?_eq_none (by rw [List.length_take]; lia), List.getElem?_eq_none (by lia)]

theorem row_rd : ∀ {row : List V}, (∀ v ∈ row, ∃ t k, v = cell t k) → ∃ ps, (∀ σ, row.mapM (rd σ 5) = some ps) ∧ PyData.eqvAll ps ps = true
  | [], _ => ⟨[], fun _ => rfl, rfl⟩
  | v :: row, h => by
    obtain ⟨t, k, rfl⟩ := h v List.mem_cons_self
    obtain ⟨ps, h1, h2⟩ := row_rd (row := row) fun v hv => h v (List.mem_cons_of_mem _ hv)
    refine ⟨.tuple [.int t, .int k] :: ps, fun σ => ?_, ?_⟩
    · rw [List.mapM_cons, h1]; rfl
    · simp [PyData.eqvAll, PyData.eqv, h2]
theorem rd_row {σ : Sto} {l : Nat} {row : List V} {ps : List PyData} (h : σ[l]? = some (.list row)) (hp : row.mapM (rd σ 5) = some ps) : rd σ 6 (.loc l) = some (.list ps) := by rw [rd_loc, h]; dsimp only; rw [hp]; rfl
theorem cut_mid {vs : List V} {n : Nat} (h : n + 1 ≤ vs.length) : cut vs (.int 1) (.int ((n : Int) + 1)) .none = some ((vs.drop 1).take n) := by
  have e2 : ((n : Int) + 1 - 1).toNat = n := congrArg Int.toNat (Int.add_sub_cancel (n : Int) 1)
  show (if (0 : Int) ≤ 1 ∧ (1 : Int) ≤ (n : Int) + 1 ∧ (n : Int) + 1 ≤ vs.length then some ((vs.drop (1 : Int).toNat).take ((n : Int) + 1 - 1).toNat) else none) = _
  rw [if_pos (by lia), e2]; rfl

noncomputable def br_back : List S := [.expr (.meth (.var "m") "restore_choice" []),
                         .asg "state" (.call "_law_copied" [(.var "saved")]),
                         .ite (.any [(.cmp .ne (.slice (.attr (.var "m") "x") (.int 1) (.bin .add (.call "len" [(.var "row")]) (.int 1)) .none) (.var "row")), (.cmp .ne (.call "len" [(.attr (.attr (.var "m") "store") "heap")]) (.var "length")), (.cmp .ne (.call "len" [(.attr (.attr (.var "m") "store") "trail")]) (.var "trailed"))])
                          [.ret (.bool false)]
                          [],
                         .ite (.cmp .eq (.var "deed") (.int 15))
                          [.expr (.meth (.var "m") "pop_choice" []),
                           .asg "choices" (.slice (.var "choices") .none (.neg (.int 1)) .none)]
                          []]

theorem deed_back {C : Calls} (hC : C = callD prog (d + 3)) {Q : Cs} {ρ : Env} {c : Ch} {cs : List Ch} {deed : Int} (I : Inv P M D G step) (E : LE ρ G step) (hstep : step + 1 ≤ 19) (hc : G.chs = c :: cs)
    (e1 : ρ "saved" = some (.loc (c.saved.ls + 19))) (e2 : ρ "row" = some (.loc (c.lr + 19))) (e3 : ρ "length" = some (.int c.saved.vals.length)) (e4 : ρ "trailed" = some (.int c.trl)) (e5 : ρ "deed" = some (.int deed)) (hQ : Nx P step Q) :
    evSs C br_back ρ (Wd P M D) Q := by
  have hs0 := I.s0
  have hm0 := I.m0
  have hnst := I.nst
  have hnv := I.nv
  have hx := I.x
  have hmem : c ∈ G.chs := by rw [hc]; exact List.mem_cons_self
  have hbe := I.b_eq hc
  have hchs := I.chs
  rw [hc] at hchs
  have hback := ChsOk.back (K := c.trl) (L := c.saved.vals.length) I.trok hchs.2.2.2.2.1 hchs.2.2.2.2.2.1 hchs.2.2.2.2.2.2.2.2.1 (fun x hx => by
    obtain rfl : c = x := by simpa using hx
    exact ⟨Nat.le_refl _, Nat.le_refl _⟩) hchs.high hchs
  have R' := hback.2.1
  obtain ⟨h1, R, h3, Vw, h4, h5, h6, h7, h8, h9, h10, h11⟩ := hchs
  obtain ⟨hrow, hnfr⟩ := I.rw c hmem
  have hsc := I.sv c hmem
  have htr : M.trail = (G.ts.take c.trl).map .int ++ (G.ts.drop c.trl).map .int := by rw [← List.map_append, List.take_append_drop, I.tr]
  have htl : ((G.ts.take c.trl).map V.int).length = c.trl := by rw [List.length_map, List.length_take]; lia
  refine som E.m (useC hC (restore_ok (M := M) (row := c.row) (tr := (G.ts.take c.trl).map .int) (es := G.ts.drop c.trl) (e' := c.e) (cp' := c.saved.live) (hl := c.saved.vals.length) (by lia) (by rw [hbe, Int.toNat_natCast]; exact R.n) (fun j v hj => ?_) hx.1 (by unfold big; lia) (by rw [hbe]; exact R.e)
    (by rw [hbe]; exact R.cp) (by rw [hbe, htl]; exact R.trl) htr (I.trok.drop _) (by rw [hbe, Int.toNat_natCast]; exact R'.n)
    (by rw [hbe]; exact R'.len) (by lia) (by lia) (by lia) ?_))
  · rw [hbe]
    have := R.row j v hj
    rw [Nat.add_assoc] at this
    exact this
  obtain ⟨M1, hM1⟩ : ∃ M1, M1 = backM M G c := ⟨_, rfl⟩
  have eM : ({ M with x := puts M.x 1 c.row, e := c.e, cp := c.saved.live, heap := (undoH M.heap (G.ts.drop c.trl)).take (c.saved.vals.length : Int).toNat, stack := undoS M.stack (G.ts.drop c.trl), trail := (G.ts.take c.trl).map .int } : Mach) = M1 := by rw [hM1]; rfl
  rw [eM]
  refine som e1 (useC hC (copied_ok (M := M1) (I.hs hmem) hsc.fn (hsc.vr.imp fun h => Int.ne_of_lt h) (by unfold big; lia) (by have := I.hl; unfold big; lia) fun D1 S' g1 c1 c2 c3 c4 H1 hloc hnod => ?_))
  have I1 := I.back hc g1 c1 c2 c3 c4 H1 hloc hnod
  obtain ⟨G1, hG1⟩ : ∃ G1 : LG, G1 = { G with S := S', ps := c.ps, ts := G.ts.take c.trl } := ⟨_, rfl⟩
  rw [← hM1, ← hG1] at I1
  have E1 : LE (ρ.set "state" (.loc (S'.ls + 19))) G1 step := by
    rw [hG1]
    exact ⟨E.pool, E.m, rfl, E.cells, E.choices, E.made, E.step⟩
  have hr1 : D1[c.lr]? = some (.list c.row) := g1.get (I.hr hmem)
  have hxl : M1.x.length = max M.x.length (1 + c.row.length) := by
    rw [hM1]
    show (puts M.x 1 c.row).length = _
    rw [puts_length (by lia) (by lia)]; simp
  have hxs : (M1.x.drop 1).take c.row.length = c.row := by
    rw [hM1]
    exact x_back hx.1
  obtain ⟨D2, hD2⟩ : ∃ D2, D2 = D1 ++ [.list c.row] := ⟨_, rfl⟩
  have g2 : Grows D1 D2 := by rw [hD2]; exact Grows.app _ _
  have hr2 : D2[c.lr]? = some (.list c.row) := g2.get hr1
  have hn2 : D2[D1.length]? = some (.list c.row) := by rw [hD2]; simp
  have hh1 : (M1.heap.length : Int) = c.saved.vals.length := by rw [I1.hl, hG1]; simp only [c3]
  have ht1 : (M1.trail.length : Int) = c.trl := by rw [hM1]; show (((G.ts.take c.trl).map V.int).length : Int) = _; rw [htl]
  obtain ⟨rps, hrp1, hrp2⟩ := row_rd hrow
  refine som E1.m (som e2 (sl hr1 ?_))
  refine soL (o := cut M1.x (.int 1) (.int ((c.row.length : Int) + 1)) .none) ((cut_mid (by rw [hxl]; lia)).trans (congrArg some hxs)) ?_
  refine som e2 (sbF ((apart_is (σ := Wd P M1 (D1 ++ [O.list c.row])) (a := D1.length + 19) (b := c.lr + 19) (hD2 ▸ hn2) (hD2 ▸ hr2)).trans (bne_self_eq_false _)) (sop (rd_row (σ := Wd P M1 (D1 ++ [O.list c.row])) (hD2 ▸ hn2) (hrp1 _)) (sop (rd_row (σ := Wd P M1 (D1 ++ [O.list c.row])) (hD2 ▸ hr2) (hrp1 _)) (ifF (notF hrp2) ?_))))
  refine som E1.m (som e3 (ifF (notF (tt hh1)) (som E1.m (som e4 (ifF (notF (tt ht1)) (som e5 ?_))))))
  rw [show Wd P M1 D1 ++ [O.list c.row] = Wd P M1 D2 by rw [hD2]; rfl]
  have I2 := I1.grows g2
  by_cases hd : deed = 15
  · refine ifT (tt hd) (som E1.m ?_)
    have hcG : G1.chs = c :: cs := by rw [hG1]; exact hc
    have hmem1 : c ∈ G1.chs := by rw [hcG]; exact List.mem_cons_self
    have hb1 := I2.b_eq hcG
    have hI2 := I2.chs
    rw [hcG] at hI2
    have R1 := hI2.2.1
    have rest : ChsOk M1.stack M1.heap G1.ts c.pb cs := hI2.2.2.2.2.2.2.2.2.2.2.2
    have fin : ∀ (b hb bb : Int), ChsOk M1.stack M1.heap G1.ts b (G1.chs.drop 1) → (G1.chs.drop 1 = [] → b = -1 ∧ hb = 0 ∧ bb = 0) → (∀ x ∈ (G1.chs.drop 1).head?, hb = x.saved.vals.length ∧ bb = x.b) →
        evSs C [.asg "choices" (.slice (.var "choices") .none (.neg (.int 1)) .none)] (ρ.set "state" (.loc (S'.ls + 19))) (Wd P { M1 with b := b, hb := hb, bb := bb } D2) (sq Q fun ρ σ => evSs C [] ρ σ Q) := fun b hb' bb k1 k2 k3 => by
      refine som E1.choices (sl I2.hch ?_)
      have e : (G1.chs.reverse.map fun c => V.loc (c.le + 19)).dropLast = (G1.chs.drop 1).reverse.map fun c => V.loc (c.le + 19) := by
        rw [hcG, List.reverse_cons, List.map_append]; exact List.dropLast_concat
      have := I2.fewer (D' := D2 ++ [chsO (G1.chs.drop 1)]) (k := 1) (l := D2.length) (hb := hb') (bb := bb) hstep (Grows.app _ _) (Nat.le_refl _) (last_get ..) k1 k2 k3
      have key := hQ ((ρ.set "state" (.loc (S'.ls + 19))).set "choices" (.loc (D2.length + 19))) P _ _ _ this ⟨E1.pool, E1.m, E1.state, E1.cells, rfl, E1.made, E1.step⟩ (by lia)
      unfold chsO at key
      rw [← e] at key
      exact key
    have hdr : G1.chs.drop 1 = cs := by rw [hcG]; rfl
    rw [hdr] at fin
    have p1 : M1.stack[M1.b.toNat]? = some (.int c.row.length) := by rw [hb1, Int.toNat_natCast]; exact R1.n
    have p2 : M1.stack[(M1.b + (c.row.length : Int) + 3).toNat]? = some (.int c.pb) := by rw [hb1]; exact R1.pb
    cases hcs : cs with
    | nil =>
      rw [hcs] at rest fin
      have rest' : c.pb = -1 := rest
      refine useC hC (pop_choice_neg (M := M1) (n := c.row.length) (p := c.pb) (by lia) p1 (by lia) p2 (by lia) (fin _ _ _ rest (fun _ => ⟨rest', rfl, rfl⟩) (fun x hx => by cases hx)))
    | cons c' cs' =>
      rw [hcs] at rest fin
      have hb' := rest.1
      have R2 := rest.2.1
      refine useC hC (pop_choice_pos (M := M1) (n := c.row.length) (p := c.pb) (n' := c'.row.length) (h := c'.saved.vals.length) (by lia) p1 (by lia) p2 (by lia) (by rw [hb', Int.toNat_natCast]; exact R2.n) (by lia) (by rw [hb']; exact R2.len) (fin _ _ _ rest (fun h => by cases h) (fun x hx => ?_)))
      obtain rfl : c' = x := by simpa using hx
      exact ⟨rfl, hb'⟩
  · exact ifF (ff hd) (hQ _ P _ _ G1 (I2.up hstep) E1 (by lia))

end C187

namespace C187
open PySem

variable {P : Pre} {M : Mach} {D : Sto} {G : LG} {step : Int} {d : Nat}

/-- the law's chain and places -/
structure CE (ρ : Env) (D : Sto) (G : LG) (lk lp : Nat) (acc : List V) : Prop where
  c : ρ "chain" = some (.loc (lk + 19))
  p : ρ "places" = some (.loc (lp + 19))
  dc : D[lk]? = some (.list acc)
  dp : D[lp]? = some (.list (G.ps.map fun q => .int (q.1 : Int)))
  len : acc.length = G.ps.length
  get : ∀ (j : Nat) c, (chOf G.S.frames G.S.cur G.ps)[j]? = some c → ∃ k, acc[j]? = some (.tup [.int c.1, .loc (k + 19)]) ∧ D[k]? = some (.list (c.2.map Sl.v))
theorem CE.grows {ρ : Env} {D' : Sto} {lk lp : Nat} {acc : List V} (h : CE ρ D G lk lp acc) (g : Grows D D') : CE ρ D' G lk lp acc :=
  ⟨h.c, h.p, g.get h.dc, g.get h.dp, h.len, fun j c hc => let ⟨k, a, b⟩ := h.get j c hc; ⟨k, a, g.get b⟩⟩

theorem chOf_find {g : Mem} {keys : List Int} {fs : List (Int × LF)} : ∀ {ps : List (Nat × Nat)} {n lv e : Int} {at_ : Nat} {m : Int} {sl : List Sl}, ChainOk g keys fs n lv e ps → (chOf fs n ps)[at_]? = some (m, sl) →
    ∃ F q, find fs m = some F ∧ ps[at_]? = some q ∧ sl = F.slots.take q.2 ∧ q.2 ≤ F.slots.length ∧ q.2 ≤ 3 ∧ (∀ s x, s < q.2 → F.slots[s]? = some x → SlotOk g keys (q.1 + 2 + s) x)
  | [], n, lv, e, at_, m, sl, h, hc => by simp [chOf] at hc
  | q :: ps, n, lv, e, 0, m, sl, h, hc => by
    obtain ⟨h1, h2, h3, h4, F, e', h5, h6, h7, h8, h9, h10, h11, h12⟩ := h
    simp only [chOf, h5, List.getElem?_cons_zero, Option.some.injEq, Prod.mk.injEq] at hc
    obtain ⟨rfl, rfl⟩ := hc
    exact ⟨F, q, h5, rfl, rfl, h6, h4, h9⟩
  | q :: ps, n, lv, e, at_ + 1, m, sl, h, hc => by
    obtain ⟨h1, h2, h3, h4, F, e', h5, h6, h7, h8, h9, h10, h11, h12⟩ := h
    simp only [chOf, h5, List.getElem?_cons_succ] at hc ⊢
    exact chOf_find h12 hc

theorem updF_split {fs : List (Int × LF)} {n : Int} {F : LF} (hn : (fs.map (·.1)).Nodup) (h : find fs n = some F) (s : Nat) (x : Sl) : ∃ pre post, fs = pre ++ (n, F) :: post ∧ updF fs n s x = pre ++ (n, { F with slots := F.slots.set s x }) :: post := by
  obtain ⟨pre, post, e⟩ := List.append_of_mem (find_mem h)
  refine ⟨pre, post, e, ?_⟩
  have key : ∀ l : List (Int × LF), n ∉ l.map (·.1) → (l.map fun p => if p.1 = n then (p.1, { p.2 with slots := p.2.slots.set s x }) else p) = l := fun l hl => by
    have : ∀ p ∈ l, (if p.1 = n then (p.1, { p.2 with slots := p.2.slots.set s x }) else p) = p := fun p hp => by
      rw [if_neg]
      rintro rfl
      exact hl (List.mem_map_of_mem hp)
    rw [List.map_congr_left this]; simp
  rw [e, List.map_append, List.map_cons, List.nodup_append] at hn
  obtain ⟨n1, n2, n3⟩ := hn
  rw [List.nodup_cons] at n2
  have k1 := key pre fun h => n3 _ h _ List.mem_cons_self rfl
  have k2 := key post n2.1
  unfold updF
  rw [e, List.map_append, List.map_cons, k1, k2]
  simp

/-- a live slot is given a value, in the law and in the machine -/
theorem Inv.slot {at_ : Nat} {n : Int} {sl : List Sl} {F : LF} {p w s j : Nat} {x : Sl} {v : V} (I : Inv P M D G step) (hstep : step + 1 ≤ 19) (hc : (chOf G.S.frames G.S.cur G.ps)[at_]? = some (n, sl)) (hF : find G.S.frames n = some F) (hq : G.ps[at_]? = some (p, w)) (hs : s < w)
    (hj : j = p + 2 + s) (hold : M.stack[j]? = some void ∨ M.stack[j]? = some (cell 1 j)) (hx : SlotV (G.S.vals.map (·.1)) j v x) :
    Inv P { M with stack := M.stack.set j v, trail := if (j : Int) < M.bb then M.trail ++ [.int (-1 - (j : Int))] else M.trail } (D.set F.sl (.list ((F.slots.set s x).map Sl.v))) { G with S := { G.S with frames := updF G.S.frames n s x }, ts := if (j : Int) < M.bb then G.ts ++ [-1 - (j : Int)] else G.ts } (step + 1) := by
  have hs0 := I.s0
  have hm0 := I.m0
  obtain ⟨pre, post, hfs, hupd⟩ := updF_split I.st.fn hF s x
  have hjl : j < M.stack.length := by
    rcases hold with h | h <;> exact (List.getElem?_eq_some_iff.mp h).1
  obtain ⟨F', hF'⟩ : ∃ F' : LF, F' = { F with slots := F.slots.set s x } := ⟨_, rfl⟩
  rw [← hF'] at hupd
  have e1 : G.objs = ([(G.lc, .dI G.cl), (G.lch, chsO G.chs), (G.S.ls, .list [.int G.S.cur, .int G.S.live, .loc (G.S.lf + 19), .loc (G.S.lv + 19)]), (G.S.lf, framesO G.S.frames), (G.S.lv, valsO G.S.vals)] ++ objsF pre ++ [(F.fl, .list [.int F.prev, .int F.lv, .loc (F.sl + 19)])]) ++ (F.sl, .list (F.slots.map Sl.v)) :: (objsF post ++ G.chs.flatMap Ch.objs) := by
    unfold LG.objs LS.objs objsF
    rw [hfs]
    simp [LF.objs]
  have hn := I.nod
  have hh := I.has
  rw [e1] at hn hh
  have H2 := Has.upd (.list (F'.slots.map Sl.v)) hh hn
  rw [← locs_upd (o' := .list (F'.slots.map Sl.v))] at hn
  obtain ⟨G', hG'⟩ : ∃ G' : LG, G' = { G with S := { G.S with frames := updF G.S.frames n s x }, ts := if (j : Int) < M.bb then G.ts ++ [-1 - (j : Int)] else G.ts } := ⟨_, rfl⟩
  have hfo : framesO (updF G.S.frames n s x) = framesO G.S.frames := by
    rw [hupd, hfs, hF']; unfold framesO; simp
  have e2 : G'.objs = ([(G.lc, .dI G.cl), (G.lch, chsO G.chs), (G.S.ls, .list [.int G.S.cur, .int G.S.live, .loc (G.S.lf + 19), .loc (G.S.lv + 19)]), (G.S.lf, framesO G.S.frames), (G.S.lv, valsO G.S.vals)] ++ objsF pre ++ [(F.fl, .list [.int F.prev, .int F.lv, .loc (F.sl + 19)])]) ++ (F.sl, .list (F'.slots.map Sl.v)) :: (objsF post ++ G.chs.flatMap Ch.objs) := by
    rw [hG']
    unfold LG.objs LS.objs objsF
    simp only [hfo]
    rw [hupd, hF']
    simp [LF.objs]
  rw [← e2] at H2 hn
  rw [hF'] at H2
  simp only at H2
  have hfk : (updF G.S.frames n s x).map (·.1) = G.S.frames.map (·.1) := updF_keys _ _ _ _
  have hfl : (updF G.S.frames n s x).length = G.S.frames.length := by unfold updF; rw [List.length_map]
  have hmem : (p, w) ∈ G.ps := List.mem_of_getElem? hq
  have hset : ∀ i, i ≠ j → (M.stack.set j v)[i]? = M.stack[i]? := fun i hi => List.getElem?_set_ne (Ne.symm hi)
  subst hG'
  refine { has := H2, nod := hn, pool := I.pool, st := ⟨fun k hk => ?_, ?_, I.st.vk, I.st.vr, I.st.cl, by have := I.st.cur; simp only; lia⟩, sv := fun c hc => (I.sv c hc).more (by lia) (Int.le_refl _) fun _ _ => rfl, view := ⟨?_, I.view.vals⟩, cp := I.cp, hl := I.hl, tr := ?_, trok := fun a ha => ?_, chs := ?_, lay := I.lay, b0 := I.b0, b1 := fun c hc => ?_, top := fun r hr => ?_, clk := I.clk, s0 := by lia, m0 := by simp only; lia, nf := by have := I.nf; simp only [hfl]; lia, nv := I.nv, ncl := I.ncl, nc := by have := I.nc; simp only; lia, nt := ?_, nst := by have := I.nst; simp only [List.length_set]; lia, x := I.x, rw := fun c hc => (I.rw c hc).more (by lia) }
  · simp only [hfk] at hk
    have := I.st.fk k hk; lia
  · simp only [hfk]; exact I.st.fn
  · subst hj
    exact ChainOk.slot (g := fun j => M.stack[j]?) hs (List.getElem?_set_self hjl) hx (fun i hi => hset i hi) I.view.chain hq hc
  · simp only
    split
    · rw [List.map_append, I.tr]; rfl
    · exact I.tr
  · simp only at ha ⊢
    rw [List.length_set]
    split at ha
    · rcases List.mem_append.mp ha with ha | ha
      · exact I.trok a ha
      · obtain rfl : a = -1 - (j : Int) := by simpa using ha
        exact ⟨fun h => by lia, fun h => by lia⟩
    · exact I.trok a ha
  · refine ChsOk.slot (bb := M.bb) hjl hold rfl I.trok (fun c hc => ?_) (fun c hc => ?_) I.chs
    · have := (I.b1 c hc).2.1; lia
    · have := I.lay c hc _ hmem
      simp only at this
      lia
  · have := I.b1 c hc
    simp only [List.length_set]; exact this
  · have := I.top r hr
    simp only [List.length_set]; exact this
  · have := I.nt
    simp only
    split
    · rw [List.length_append, List.length_singleton]; push_cast; lia
    · lia

end C187

namespace C187
open PySem

variable {P : Pre} {M : Mach} {D : Sto} {G : LG} {step : Int} {d : Nat}

theorem mapM_filt {f : V → Option Bool} {t : V → Bool} : ∀ {l : List V}, (∀ v ∈ l, f v = some (t v)) → l.mapM (fun v => (f v).map fun t => (v, t)) = some (l.map fun v => (v, t v))
  | [], _ => rfl
  | v :: l, h => by
    rw [List.mapM_cons, h v List.mem_cons_self, mapM_filt fun x hx => h x (List.mem_cons_of_mem _ hx)]
    rfl
theorem filt_map {t : V → Bool} : ∀ {l : List V}, ((l.map fun v => (v, t v)).filter (·.2)).map (·.1) = l.filter t
  | [] => rfl
  | v :: l => by
    rw [List.map_cons, List.filter_cons, List.filter_cons]
    simp only
    split
    · rw [List.map_cons, filt_map]
    · rw [filt_map]
theorem range_int {a b : Int} : (rangeVs a b).all V.isInt = true := by
  unfold rangeVs
  rw [List.all_eq_true]
  intro v hv
  obtain ⟨i, _, rfl⟩ := List.mem_map.mp hv
  rfl
theorem mem_range {b : Nat} {v : V} (h : v ∈ rangeVs 0 (b : Int)) : ∃ i : Nat, i < b ∧ v = .int i := by
  unfold rangeVs at h
  obtain ⟨i, hi, rfl⟩ := List.mem_map.mp h
  rw [List.mem_range] at hi
  exact ⟨i, by lia, by simp⟩
theorem items_range {b : Nat} {σ : Sto} (h : b ≤ 1000) : itemsOf (.rng 0 (b : Int)) σ = some (rangeVs 0 (b : Int)) := by
  simp only [itemsOf]
  rw [if_pos]
  refine ⟨by decide, by decide, by lia, by lia, ?_⟩
  unfold big
  lia

theorem pe_var {x : String} {ρ : Env} {σ : Sto} {v : V} (h : ρ x = some v) : pureE (.var x) ρ σ = some v := h
theorem pe_any {e i : X} {ρ : Env} {σ : Sto} {u v : V} {o : Option V} (h1 : pureE e ρ σ = some u) (h2 : pureE i ρ σ = some v) (h : itemP u v σ = o) : pureE (.item e i) ρ σ = o := by
  show (pureE e ρ σ).bind (fun u => (pureE i ρ σ).bind fun v => itemP u v σ) = _
  rw [h1, h2]
  exact h
theorem pe_it {e i : X} {ρ : Env} {σ : Sto} {l : Nat} {k : Int} {vs : List V} (h1 : pureE e ρ σ = some (.loc l)) (h2 : pureE i ρ σ = some (.int k)) (h : σ[l]? = some (.list vs)) (h0 : 0 ≤ k) : pureE (.item e i) ρ σ = vs[k.toNat]? := pe_any h1 h2 (by
  unfold itemP
  dsimp only
  rw [h]
  exact if_pos h0)
theorem pe_tu {e i : X} {ρ : Env} {σ : Sto} {k : Int} {vs : List V} (h1 : pureE e ρ σ = some (.tup vs)) (h2 : pureE i ρ σ = some (.int k)) (h0 : 0 ≤ k) : pureE (.item e i) ρ σ = vs[k.toNat]? := pe_any h1 h2 (if_pos h0)
theorem pe_di {e i : X} {ρ : Env} {σ : Sto} {l : Nat} {k : Int} {es : List (Int × V)} (h1 : pureE e ρ σ = some (.loc l)) (h2 : pureE i ρ σ = some (.int k)) (h : σ[l]? = some (.dI es)) : pureE (.item e i) ρ σ = lk es k := pe_any h1 h2 (by
  unfold itemP
  dsimp only
  rw [h])
theorem te_of {a b : X} {y : String} {ρ : Env} {σ : Sto} {v p q : V} {p' q' : PyData} (h1 : pureE a (ρ.set y v) σ = some p) (h2 : pureE b (ρ.set y v) σ = some q) (h3 : rd σ 6 p = some p') (h4 : rd σ 6 q = some q') : testOf a b y ρ σ v = some (PyData.eqv p' q') := by
  unfold testOf
  rw [h1, h2]
  dsimp only
  rw [h3, h4]

/-- what the test of a slot says -/
theorem test_slot {ρ : Env} {lk' k : Nat} {acc : List V} {n : Int} {sl : List Sl} {a : Nat} {i : Nat} {x : Sl} (hc : ρ "chain" = some (.loc (lk' + 19))) (dc : D[lk']? = some (.list acc)) (ha : acc[a]? = some (.tup [.int n, .loc (k + 19)])) (hk : D[k]? = some (.list (sl.map Sl.v))) (hx : sl[i]? = some x) :
    testOf (.item (.item (.item (.var "chain") (.int (a : Int))) (.int 1)) (.var "slot")) (.tup [.str "unset"]) "slot" ρ (Wd P M D) (.int i) = some (decide (x = .unset)) := by
  have h3 : (sl.map Sl.v)[i]? = some x.v := by rw [List.getElem?_map, hx]; rfl
  have p1 : pureE (.item (.var "chain") (.int (a : Int))) (ρ.set "slot" (.int (i : Int))) (Wd P M D) = some (.tup [.int n, .loc (k + 19)]) := (pe_it (l := lk' + 19) (k := (a : Int)) (vs := acc) (pe_var (x := "chain") (ρ := ρ.set "slot" (.int (i : Int))) hc) rfl dc (Int.natCast_nonneg a)).trans ha
  have p2 := pe_tu (k := 1) p1 (i := .int 1) rfl (by decide)
  have p3 := (pe_it (l := k + 19) (k := (i : Int)) (i := .var "slot") (vs := sl.map Sl.v) p2 rfl hk (Int.natCast_nonneg i)).trans h3
  cases x <;> exact (te_of (q := .tup [.str (Str.ofString "unset")]) p3 rfl rfl rfl).trans rfl

/-- what a deed must bring about, with no more draws -/
noncomputable def Nx0 (P : Pre) (step : Int) (Q : Cs) : Prop := ∀ ρ' M' D' G', Inv P M' D' G' (step + 1) → LE ρ' G' step → Q .next ρ' (Wd P M' D')

noncomputable def tl_write : List S := [.expr (.call "write" [(.var "m"), (.tup [(.str "y"), (.bin .add (.var "slot") (.int 1))]), (.var "cell")]),
                     .asgItem (.item (.item (.item (.var "state") (.int 2)) (.item (.item (.var "chain") (.int 0)) (.int 0))) (.int 2)) (.var "slot") (.var "value")]

theorem write_tail {C : Calls} (hC : C = callD prog (d + 3)) {Q : Cs} {ρ : Env} {lk' lp : Nat} {acc : List V} {n : Int} {sl : List Sl} {s : Nat} {x : Sl} {v : V} {q : Nat × Nat} (I : Inv P M D G step) (E : LE ρ G step) (K : CE ρ D G lk' lp acc) (hstep : step + 1 ≤ 19) (hc : (chOf G.S.frames G.S.cur G.ps)[0]? = some (n, sl)) (hq : G.ps[0]? = some q)
    (hsl : sl[s]? = some .unset) (h1 : ρ "slot" = some (.int s)) (h2 : ρ "value" = some x.v) (h3 : ρ "cell" = some v) (hx : SlotV (G.S.vals.map (·.1)) (q.1 + 2 + s) v x) (hQ : Nx0 P step Q) : evSs C tl_write ρ (Wd P M D) Q := by
  obtain ⟨F, q', hF, hq', rfl, hlen, h4, hok⟩ := chOf_find I.view.chain hc
  obtain rfl : q = q' := by rw [hq] at hq'; exact Option.some.inj hq'
  have hsw : s < q.2 := by
    have := (List.getElem?_eq_some_iff.mp hsl).1
    rw [List.length_take] at this; lia
  have hFs : F.slots[s]? = some .unset := by rwa [List.getElem?_take_of_lt hsw] at hsl
  obtain ⟨v0, hv0, hv1⟩ := hok s .unset hsw hFs
  have hold : M.stack[q.1 + 2 + s]? = some void ∨ M.stack[q.1 + 2 + s]? = some (cell 1 (q.1 + 2 + s : Nat)) := by
    rcases hv1 with rfl | rfl
    · exact .inl hv0
    · exact .inr hv0
  have hjl : q.1 + 2 + s < M.stack.length := (List.getElem?_eq_some_iff.mp hv0).1
  have he : M.e = q.1 := by
    have := I.view.chain
    cases hps : G.ps with
    | nil => rw [hps] at hq; cases hq
    | cons a as =>
      rw [hps] at hq this
      obtain rfl : a = q := by simpa using hq
      exact this.1
  have hnst := I.nst
  have hnt := I.nt
  have hs0 := I.s0
  have htl : M.trail.length = G.ts.length := by rw [I.tr, List.length_map]
  obtain ⟨k, hk1, hk2⟩ := K.get 0 _ hc
  have ej : M.e + 1 + ((s : Int) + 1) = ((q.1 + 2 + s : Nat) : Int) := by rw [he]; push_cast; lia
  have hput : put M.stack ((q.1 + 2 + s : Nat) : Int) v = M.stack.set (q.1 + 2 + s) v := put_in v hjl
  have hfr : D[G.S.lf]? = some (.dI (G.S.frames.map fun p => (p.1, .loc (p.2.fl + 19)))) := I.hS.fr
  obtain ⟨f1, f2⟩ := I.hS.frame (find_mem hF)
  have I' := I.slot hstep hc hF (p := q.1) (w := q.2) hq hsw rfl hold hx
  have key := hQ _ _ _ _ I' ⟨E.pool, E.m, E.state, E.cells, E.choices, E.made, E.step⟩
  rw [List.map_set] at key
  refine som E.m (som h1 (som h3 (useC hC (write_ok (M := M) (by lia) (by lia) (by unfold big; lia) (by unfold big; lia) ?_))))
  rw [ej, hput]
  exact som h2 (som E.state (fwl I.hS.st (som K.c (fwl K.dc (som hk1 (fwd hfr (som (lk_map (β := V) (fun F : LF => V.loc (F.fl + 19)) hF) (fwl f1 (som h1 (sil f2 ⟨Int.natCast_nonneg _, by rw [List.length_map]; show s < _; lia, key⟩))))))))))

theorem filtW {C : Calls} {ρ : Env} {σ0 σ : Sto} {Q : Cs} {x y : String} {it a : X} {b : List X} {u : V} {vs : List V} {r : List (V × Bool)} (hi : ∀ K : Ct, K u σ → evE C it ρ σ0 K) (h1 : itemsOf u σ = some vs) (h2 : vs.mapM (fun v => (testOf a (.tup b) y ρ σ v).map fun t => (v, t)) = some r)
    (k : vs.all V.isInt = true ∧ Q .next (ρ.set x (.loc σ.length)) (σ ++ [.list ((r.filter (·.2)).map (·.1))])) : evS C (.asgFilt x y it a b) ρ σ0 Q := by
  refine hi _ ?_
  rw [h1]
  dsimp only
  rw [h2]
  exact k

noncomputable def br_write : List S := [.asgFilt "empty" "slot" (.call "range" [(.call "len" [(.item (.item (.var "chain") (.int 0)) (.int 1))])]) (.item (.item (.item (.var "chain") (.int 0)) (.int 1)) (.var "slot")) [(.str "unset")],
                   .ite (.cmp .ne (.var "empty") (.list []))
                    ([.asg "slot" (.item (.var "empty") (.call "_law_draw" [(.var "pool"), (.call "len" [(.var "empty")])])),
                     .asg "kind" (.call "_law_draw" [(.var "pool"), (.int 3)]),
                     .asg "names" (.call "sorted" [(.item (.var "state") (.int 3))]),
                     .asg "value" (.tup [(.str "i"), (.bin .add (.int 50) (.var "step"))]),
                     .asg "cell" (.tup [(.glob "INT"), (.bin .add (.int 50) (.var "step"))]),
                     .ite (.all [(.cmp .eq (.var "kind") (.int 1)), (.cmp .ne (.var "names") (.list []))])
                      [.asg "value" (.tup [(.str "h"), (.item (.var "names") (.call "_law_draw" [(.var "pool"), (.call "len" [(.var "names")])]))]),
                       .asg "cell" (.item (.var "cells") (.item (.var "value") (.int 1)))]
                      [.ite (.cmp .eq (.var "kind") (.int 2))
                        [.asg "value" (.tup [(.str "free")]),
                         .asg "cell" (.tup [(.glob "SRF"), (.bin .add (.bin .add (.item (.var "places") (.int 0)) (.int 2)) (.var "slot"))])]
                        []],
                     .expr (.call "write" [(.var "m"), (.tup [(.str "y"), (.bin .add (.var "slot") (.int 1))]), (.var "cell")]),
                     .asgItem (.item (.item (.item (.var "state") (.int 2)) (.item (.item (.var "chain") (.int 0)) (.int 0))) (.int 2)) (.var "slot") (.var "value")])
                    []]


/-- the slots that are not set -/
theorem empties {k lk' n : Nat} {m : Int} {ρ : Env} {acc : List V} {sl : List Sl} (hc : ρ "chain" = some (.loc (lk' + 19))) (dc : D[lk']? = some (.list acc)) (ha : acc[0]? = some (.tup [.int m, .loc (k + 19)])) (hk : D[k]? = some (.list (sl.map Sl.v))) (hn : n = sl.length) :
    ∃ t : V → Bool, (rangeVs 0 (n : Int)).mapM (fun v => (testOf (.item (.item (.item (.var "chain") (.int 0)) (.int 1)) (.var "slot")) (.tup [.str "unset"]) "slot" ρ (Wd P M D) v).map fun t => (v, t)) = some ((rangeVs 0 (n : Int)).map fun v => (v, t v)) ∧ ∀ v ∈ (rangeVs 0 (n : Int)).filter t, ∃ s : Nat, v = .int s ∧ sl[s]? = some .unset := by
  refine ⟨fun v => match v with
    | .int i => decide (sl[i.toNat]? = some .unset)
    | _ => false, mapM_filt fun v hv => ?_, fun v hv => ?_⟩
  · obtain ⟨i, hi, rfl⟩ := mem_range hv
    have hxi : sl[i]? = some sl[i] := List.getElem?_eq_getElem (hn ▸ hi)
    have := test_slot (P := P) (M := M) (a := 0) hc dc ha hk hxi
    simp only [Int.toNat_natCast, hxi, Option.some.injEq]
    exact this
  · rw [List.mem_filter] at hv
    obtain ⟨i, hi, rfl⟩ := mem_range hv.1
    exact ⟨i, rfl, of_decide_eq_true hv.2⟩

/-- once the slot is drawn, the value and the cell -/
theorem write_kind {C : Calls} (hC : C = callD prog (d + 3)) {Q : Cs} {ρ : Env} {lk' lp ln : Nat} {acc : List V} {n kd : Int} {sl : List Sl} {s : Nat} {q : Nat × Nat} {D0 : Sto} (I : Inv P M D0 G step) (E : LE ρ G step) (g : Grows D0 D) (K : CE ρ D0 G lk' lp acc) (hstep : step + 1 ≤ 19) (hb : P.pp < 2 ^ 64) (hc : (chOf G.S.frames G.S.cur G.ps)[0]? = some (n, sl)) (hq : G.ps[0]? = some q)
    (hsl : sl[s]? = some .unset) (h1 : ρ "slot" = some (.int s)) (h2 : ρ "kind" = some (.int kd)) (h3 : ρ "names" = some (.loc (ln + 19))) (hn : D[ln]? = some (.list ((G.S.vals.map (·.1)).map .int))) (h4 : ρ "value" = some (Sl.i (50 + step)).v) (h5 : ρ "cell" = some (cell 5 (50 + step)))
    (hQ : ∀ ρ' P' M' D' G', Inv P' M' D' G' (step + 1) → LE ρ' G' step → P'.pp ≤ P.pp + 1 → Q .next ρ' (Wd P' M' D')) : evSs C (.ite (.all [(.cmp .eq (.var "kind") (.int 1)), (.cmp .ne (.var "names") (.list []))])
                      [.asg "value" (.tup [(.str "h"), (.item (.var "names") (.call "_law_draw" [(.var "pool"), (.call "len" [(.var "names")])]))]),
                       .asg "cell" (.item (.var "cells") (.item (.var "value") (.int 1)))]
                      [.ite (.cmp .eq (.var "kind") (.int 2))
                        [.asg "value" (.tup [(.str "free")]),
                         .asg "cell" (.tup [(.glob "SRF"), (.bin .add (.bin .add (.item (.var "places") (.int 0)) (.int 2)) (.var "slot"))])]
                        []] :: tl_write) ρ (Wd P M D) Q := by
  have fin : ∀ (ρ' : Env) (P' : Pre) (D' : Sto) (x : Sl) (v : V), Inv P' M D0 G step → LE ρ' G step → CE ρ' D0 G lk' lp acc → Grows D0 D' → ρ' "slot" = some (.int s) → ρ' "value" = some x.v → ρ' "cell" = some v → SlotV (G.S.vals.map (·.1)) (q.1 + 2 + s) v x → P'.pp ≤ P.pp + 1 → evSs C tl_write ρ' (Wd P' M D') Q :=
    fun ρ' P' D' x v I' E' K' g' h1 h2 h3 h4 h5 => write_tail hC (I'.grows g') E' (K'.grows g') hstep hc hq hsl h1 h2 h3 h4 fun ρ'' M'' D'' G'' q1 q2 => hQ ρ'' P' M'' D'' G'' q1 q2 h5
  have old : ∀ D', Grows D0 D' → evSs C ([.ite (.cmp .eq (.var "kind") (.int 2))
                        [.asg "value" (.tup [(.str "free")]),
                         .asg "cell" (.tup [(.glob "SRF"), (.bin .add (.bin .add (.item (.var "places") (.int 0)) (.int 2)) (.var "slot"))])]
                        []]) ρ (Wd P M D') (sq Q fun ρ σ => evSs C tl_write ρ σ Q) := fun D' g' => by
    refine som h2 ?_
    by_cases e2 : kd = 2
    · refine ifT (tt e2) (som K.p (fwl (K.grows g').dp (at_ok (v := .int q.1) (by decide) (by rw [List.getElem?_map]; show (G.ps[0]?).map _ = _; rw [hq]; rfl) (som h1 ?_))))
      refine fin _ P D' .free (cell 1 ((q.1 : Int) + 2 + s)) I ⟨E.pool, E.m, E.state, E.cells, E.choices, E.made, E.step⟩ { K with c := K.c, p := K.p } g' h1 rfl rfl ?_ (by lia)
      show cell 1 ((q.1 : Int) + 2 + s) = cell 1 ((q.1 + 2 + s : Nat) : Int)
      push_cast
      rfl
    · exact ifF (ff e2) (fin ρ P D' (.i (50 + step)) (cell 5 (50 + step)) I E K g' h1 h4 h5 ⟨rfl, by have := I.s0; lia⟩ (by lia))
  refine som h2 ?_
  by_cases e1 : kd = 1
  · refine ifT (tt e1) (som h3 ?_)
    have m2 : (D ++ [O.list []])[ln]? = _ := (Grows.app D [O.list []]).get hn
    have g2 := g.trans (Grows.app D [O.list []])
    have ha := apart_is (σ := Wd P M (D ++ [O.list []])) (a := ln + 19) (b := D.length + 19) m2 (last_get ..)
    obtain ⟨nm, hnm⟩ : ∃ nm, nm = (G.S.vals.map (·.1)).map V.int := ⟨_, rfl⟩
    have hnl : nm.length = G.S.vals.length := by rw [hnm, List.length_map, List.length_map]
    rw [← hnm] at m2 ha
    by_cases hk : nm = []
    · rw [hk] at m2 ha
      exact sbF ha (sop (rd_nil (σ := Wd P M (D ++ [O.list []])) m2) (sop (rd_nil (σ := Wd P M (D ++ [O.list []])) (last_get ..)) (old _ g2)))
    · have hpos : 0 < nm.length := List.length_pos_iff.mpr hk
      have hnv := I.nv
      have hm0 := I.m0
      refine sbT (ha.trans (bne_iff_ne.mpr (Nat.ne_of_gt hpos))) (som h3 (som E.pool (som h3 (C187.sl m2 (useC hC (draw_ok (by lia) (by lia) I.pool hb fun j a p j0 j1 p2 p3 p6 => ?_))))))
      obtain ⟨m, hm⟩ : ∃ m, (G.S.vals.map (·.1))[j.toNat]? = some m := ⟨_, List.getElem?_eq_getElem (by rw [List.length_map]; lia)⟩
      refine fwl m2 (at_ok (v := .int m) j0 (by rw [hnm, List.getElem?_map, hm]; rfl) (som E.cells (fwd (I.grows g2).hcl (som (I.st.cl _ _ hm) ?_))))
      exact fin _ _ _ (.h m) (cell 0 j.toNat) (I.drawn p2 p3) ⟨E.pool, E.m, E.state, E.cells, E.choices, E.made, E.step⟩ { K with c := K.c, p := K.p } g2 h1 rfl rfl ⟨j.toNat, hm, rfl⟩ p6
  · exact ifF (ff e1) (old D g)

theorem deed_write {C : Calls} (hC : C = callD prog (d + 3)) {Q : Cs} {ρ : Env} {lk' lp : Nat} {acc : List V} (I : Inv P M D G step) (E : LE ρ G step) (K : CE ρ D G lk' lp acc) (hstep : step + 1 ≤ 19) (hb : P.pp < 2 ^ 63) (hne : G.ps ≠ []) (hQ : Nx P step Q) : evSs C br_write ρ (Wd P M D) Q := by
  obtain ⟨q, ps, hps⟩ : ∃ q ps, G.ps = q :: ps := by
    cases h : G.ps with
    | nil => exact absurd h hne
    | cons q ps => exact ⟨q, ps, rfl⟩
  have hq : G.ps[0]? = some q := by rw [hps]; rfl
  obtain ⟨n, sl, hc⟩ : ∃ n sl, (chOf G.S.frames G.S.cur G.ps)[0]? = some (n, sl) :=
    ⟨_, _, List.getElem?_eq_getElem (by rw [chOf_length I.view.chain, hps]; exact Nat.succ_pos _)⟩
  obtain ⟨F, q', hF, hq', hsl, hlen, h4, hok⟩ := chOf_find I.view.chain hc
  obtain rfl : q = q' := by rw [hq] at hq'; exact Option.some.inj hq'
  have hsll : sl.length ≤ 3 := by rw [hsl, List.length_take]; lia
  obtain ⟨k, hk1, hk2⟩ := K.get 0 _ hc
  simp only at hk1 hk2
  obtain ⟨t, ht1, hin⟩ := empties (P := P) (M := M) K.c K.dc hk1 hk2 (List.length_map Sl.v)
  refine filtW (σ := Wd P M D) (fun Q k => som K.c (fwl K.dc (som hk1 (C187.sl hk2 k)))) (items_range (by rw [List.length_map]; lia)) ht1 ⟨range_int, ?_⟩
  rw [filt_map]
  obtain ⟨em, hem⟩ : ∃ em, em = (rangeVs 0 ((sl.map Sl.v).length : Int)).filter t := ⟨_, rfl⟩
  rw [← hem] at hin ⊢
  have heml : em.length ≤ 3 := by
    rw [hem]
    refine Nat.le_trans (List.length_filter_le t _) ?_
    unfold rangeVs
    rw [List.length_map, List.length_range, List.length_map]; lia
  have g1 : Grows D (D ++ [O.list em] ++ [O.list []]) := (Grows.app _ _).trans (Grows.app _ _)
  have m2 : (D ++ [O.list em] ++ [O.list []])[D.length]? = some (.list em) := (Grows.app _ _).get (last_get ..)
  have m3 : (D ++ [O.list em] ++ [O.list []])[(D ++ [O.list em]).length]? = some (.list []) := last_get ..
  have ha := apart_is (σ := Wd P M (D ++ [O.list em] ++ [O.list []])) (a := D.length + 19) (b := (D ++ [O.list em]).length + 19) m2 m3
  by_cases hnil : em = []
  · subst hnil
    refine sbF ha (sop (rd_nil (σ := Wd P M (D ++ [O.list []] ++ [O.list []])) m2) (sop (rd_nil (σ := Wd P M (D ++ [O.list []] ++ [O.list []])) m3) ?_))
    exact hQ _ P _ _ G ((I.grows g1).up hstep) ⟨E.pool, E.m, E.state, E.cells, E.choices, E.made, E.step⟩ (by lia)
  · have hpos : 0 < em.length := List.length_pos_iff.mpr hnil
    have I2 := I.grows g1
    refine sbT (ha.trans (bne_iff_ne.mpr (Nat.ne_of_gt hpos))) (som E.pool (C187.sl m2 (useC hC (I2.draw (by lia) (by lia) (by lia) fun r P1 r0 r1 I3 p1 p2 => ?_))))
    obtain ⟨v, hv⟩ : ∃ v, em[r.toNat]? = some v := ⟨_, List.getElem?_eq_getElem (by lia)⟩
    obtain ⟨s, rfl, hs⟩ := hin v (List.mem_of_getElem? hv)
    refine fwl m2 (at_ok r0 hv (som E.pool (useC hC (I3.draw (by lia) (by lia) (by lia) fun kd P2 d0 d1 I4 p3 p4 => ?_))))
    have hva : (D ++ [O.list em] ++ [O.list []])[G.S.lv]? = some (.dI (G.S.vals.map fun p => (p.1, p.2.v))) := I4.hS.va
    refine som E.state (fwl I4.hS.st (sod hva ⟨I4.names_len, I4.names_up, som E.step (som E.step ?_)⟩))
    rw [names_eq]
    exact write_kind (ρ := (((((ρ.set "empty" (.loc (D.length + 19))).set "slot" (.int s)).set "kind" (.int kd)).set "names" (.loc ((D ++ [O.list em] ++ [O.list []]).length + 19))).set "value" (Sl.i (50 + step)).v).set "cell" (cell 5 (50 + step))) hC I4 ⟨E.pool, E.m, E.state, E.cells, E.choices, E.made, E.step⟩ (Grows.app _ [O.list ((G.S.vals.map (·.1)).map .int)]) { K.grows g1 with c := K.c, p := K.p } hstep (by lia) hc hq hs rfl rfl rfl (last_get ..) rfl rfl fun ρ' P' M' D' G' q1 q2 q3 => hQ ρ' P' M' D' G' q1 q2 (by lia)

end C187

namespace C187
open PySem

variable {P : Pre} {M : Mach} {D : Sto} {G : LG} {step : Int} {d : Nat}

theorem key_inj {vals : List (Int × Vl)} (hn : (vals.map (·.1)).Nodup) {i j : Nat} {m : Int} {x y : Vl} (hi : vals[i]? = some (m, x)) (hj : vals[j]? = some (m, y)) : i = j := by
  have li := (List.getElem?_eq_some_iff.mp hi).1
  have lj := (List.getElem?_eq_some_iff.mp hj).1
  have e1 : (vals.map (·.1))[i]? = some m := by rw [List.getElem?_map, hi]; rfl
  have e2 : (vals.map (·.1))[j]? = some m := by rw [List.getElem?_map, hj]; rfl
  exact (List.getElem?_inj (by simpa using li) hn).mp (e1.trans e2.symm)

theorem set_keys {vals : List (Int × Vl)} {a : Nat} {m : Int} {x y : Vl} (h : vals[a]? = some (m, y)) : (vals.set a (m, x)).map (·.1) = vals.map (·.1) := by
  have hl := (List.getElem?_eq_some_iff.mp h).1
  refine List.ext_getElem? fun i => ?_
  rw [List.getElem?_map, List.getElem?_map]
  by_cases e : i = a
  · subst e; rw [List.getElem?_set_self hl, h]; rfl
  · rw [List.getElem?_set_ne (Ne.symm e)]

theorem sto_vals {vals : List (Int × Vl)} (hn : (vals.map (·.1)).Nodup) {a : Nat} {m : Int} {x y : Vl} (h : vals[a]? = some (m, y)) : sto (vals.map fun p => (p.1, p.2.v)) m x.v = (vals.set a (m, x)).map fun p => (p.1, p.2.v) := by
  have hl := (List.getElem?_eq_some_iff.mp h).1
  unfold sto
  rw [if_pos]
  · refine List.ext_getElem? fun i => ?_
    rw [List.getElem?_map, List.getElem?_map, List.getElem?_map]
    by_cases e : i = a
    · subst e; rw [List.getElem?_set_self hl, h]; simp
    · rw [List.getElem?_set_ne (Ne.symm e)]
      cases hi : vals[i]? with
      | none => rfl
      | some p =>
        simp only [Option.map_some]
        rw [if_neg]
        intro hm
        have : vals[i]? = some (m, p.2) := by rw [hi, ← hm]
        exact e (key_inj hn this h)
  · rw [List.any_eq_true]
    exact ⟨(m, y.v), List.mem_map.mpr ⟨(m, y), List.mem_of_getElem? h, rfl⟩, by simp⟩

/-- a variable is bound, in the law and in the machine -/
theorem Inv.var {a : Nat} {m : Int} {x : Vl} {v : V} (I : Inv P M D G step) (hstep : step + 1 ≤ 19) (ha : G.S.vals[a]? = some (m, .open)) (hx : ValV (G.S.vals.map (·.1)) a v x) :
    Inv P { M with heap := M.heap.set a v, trail := if (a : Int) < M.hb then M.trail ++ [.int (a : Int)] else M.trail } (D.set G.S.lv (.dI (sto (G.S.vals.map fun p => (p.1, p.2.v)) m x.v))) { G with S := { G.S with vals := G.S.vals.set a (m, x) }, ts := if (a : Int) < M.hb then G.ts ++ [(a : Int)] else G.ts } (step + 1) := by
  have hs0 := I.s0
  have hm0 := I.m0
  have hl := (List.getElem?_eq_some_iff.mp ha).1
  have hk := set_keys (x := x) ha
  obtain ⟨u, hu, hu2⟩ := I.view.vals a m .open ha
  simp only [ValV] at hu2
  subst hu2
  have e1 : G.objs = [(G.lc, .dI G.cl), (G.lch, chsO G.chs), (G.S.ls, .list [.int G.S.cur, .int G.S.live, .loc (G.S.lf + 19), .loc (G.S.lv + 19)]), (G.S.lf, framesO G.S.frames)] ++ (G.S.lv, valsO G.S.vals) :: (G.S.frames.flatMap (fun p => p.2.objs) ++ G.chs.flatMap Ch.objs) := rfl
  have H2 := Has.upd (valsO (G.S.vals.set a (m, x))) (e1 ▸ I.has) (e1 ▸ I.nod)
  obtain ⟨G', hG'⟩ : ∃ G' : LG, G' = { G with S := { G.S with vals := G.S.vals.set a (m, x) }, ts := if (a : Int) < M.hb then G.ts ++ [(a : Int)] else G.ts } := ⟨_, rfl⟩
  have e2 : G'.objs = [(G.lc, .dI G.cl), (G.lch, chsO G.chs), (G.S.ls, .list [.int G.S.cur, .int G.S.live, .loc (G.S.lf + 19), .loc (G.S.lv + 19)]), (G.S.lf, framesO G.S.frames)] ++ (G.S.lv, valsO (G.S.vals.set a (m, x))) :: (G.S.frames.flatMap (fun p => p.2.objs) ++ G.chs.flatMap Ch.objs) := by rw [hG']; rfl
  have nod' : (G'.objs.map (·.1)).Nodup := by
    rw [e2, locs_upd (o := valsO G.S.vals), ← e1]; exact I.nod
  rw [← e2] at H2
  rw [sto_vals I.vn ha]
  have hvl : (G.S.vals.set a (m, x)).length = G.S.vals.length := List.length_set
  have hhl := I.hl
  subst hG'
  have J := I.up hstep
  refine { J with has := H2, nod := nod', st := ⟨J.st.fk, J.st.fn, by simp only [hk]; exact J.st.vk, by simp only [hk]; exact J.st.vr, by simp only [hk]; exact J.st.cl, J.st.cur⟩, view := ⟨by simp only [hk]; exact I.view.chain, ?_⟩, hl := by simp only [List.length_set]; exact I.hl, tr := ?_, trok := fun b hb => ?_, chs := ?_, b0 := I.b0, b1 := I.b1, nv := by simp only [hvl]; exact I.nv, nt := ?_ }
  · exact ValsOk.bind I.view.vals (by rw [List.getElem?_map, ha]; rfl) I.hl hx
  · simp only
    split
    · rw [List.map_append, I.tr]; rfl
    · exact I.tr
  · simp only at hb ⊢
    rw [List.length_set]
    split at hb
    · rcases List.mem_append.mp hb with hb | hb
      · exact I.trok b hb
      · obtain rfl : b = (a : Int) := by simpa using hb
        exact ⟨fun h => by lia, fun h => by lia⟩
    · exact I.trok b hb
  · refine ChsOk.var (hb := M.hb) hu rfl I.trok (fun c hc => ?_) I.chs
    have := (I.b1 c hc).1; lia
  · have := I.nt
    simp only
    split
    · rw [List.length_append, List.length_singleton]; push_cast; lia
    · lia

/-- what the test of a variable says -/
theorem test_open {ρ : Env} {m : Int} {x : Vl} (hst : ρ "state" = some (.loc (G.S.ls + 19))) (H : Has D G.S.objs) (hx : find G.S.vals m = some x) :
    testOf (.item (.item (.var "state") (.int 3)) (.var "number")) (.tup []) "number" ρ (Wd P M D) (.int m) = some (decide (x = .open)) := by
  have hva : D[G.S.lv]? = some (.dI (G.S.vals.map fun p => (p.1, p.2.v))) := H.va
  have p1 : pureE (.item (.var "state") (.int 3)) (ρ.set "number" (.int m)) (Wd P M D) = some (.loc (G.S.lv + 19)) := pe_it (l := G.S.ls + 19) (k := 3) (σ := Wd P M D) (vs := [.int G.S.cur, .int G.S.live, .loc (G.S.lf + 19), .loc (G.S.lv + 19)]) (pe_var (x := "state") (ρ := ρ.set "number" (.int m)) hst) (i := .int 3) rfl H.st (by decide)
  have p3 := (pe_di (l := G.S.lv + 19) (k := m) (i := .var "number") p1 rfl hva).trans (lk_map (β := V) Vl.v hx)
  cases x <;> exact (te_of (q := .tup []) p3 rfl rfl rfl).trans rfl

/-- the variables that are open -/
noncomputable def opens (G : LG) : List Int := (G.S.vals.map (·.1)).filter fun m => decide (find G.S.vals m = some .open)
theorem Inv.opens_mem (I : Inv P M D G step) {m : Int} (h : m ∈ opens G) : ∃ r : Nat, G.S.vals[r]? = some (m, .open) := by
  unfold opens at h
  rw [List.mem_filter] at h
  have := find_mem (by simpa using h.2 : find G.S.vals m = some .open)
  obtain ⟨r, hr⟩ := List.mem_iff_getElem?.mp this
  exact ⟨r, hr⟩
theorem Inv.opens_lt (I : Inv P M D G step) : (opens G).Pairwise (· < ·) := I.st.vr.filter _
theorem Inv.opens_len (I : Inv P M D G step) : (opens G).length ≤ 19 := by
  have h1 := I.nv
  have h2 := I.m0
  have h3 := I.s0
  have := List.length_filter_le (fun m => decide (find G.S.vals m = some .open)) (G.S.vals.map (·.1))
  rw [List.length_map] at this
  unfold opens
  lia
/-- ranks are as names are -/
theorem rank_lt {vals : List (Int × Vl)} (hv : (vals.map (·.1)).Pairwise (· < ·)) {i j : Nat} {m n : Int} {x y : Vl} (hi : vals[i]? = some (m, x)) (hj : vals[j]? = some (n, y)) (h : m < n) : i < j := by
  have e1 : (vals.map (·.1))[i]? = some m := by rw [List.getElem?_map, hi]; rfl
  have e2 : (vals.map (·.1))[j]? = some n := by rw [List.getElem?_map, hj]; rfl
  obtain ⟨l1, q1⟩ := List.getElem?_eq_some_iff.mp e1
  obtain ⟨l2, q2⟩ := List.getElem?_eq_some_iff.mp e2
  rcases Nat.lt_trichotomy i j with h' | h' | h'
  · exact h'
  · subst h'; rw [q1] at q2; lia
  · have := (List.pairwise_iff_getElem.mp hv) j i l2 l1 h'
    lia

theorem Inv.filt_opens (I : Inv P M D G step) {ρ : Env} (hst : ρ "state" = some (.loc (G.S.ls + 19))) : ∃ t : V → Bool, (∀ v ∈ (G.S.vals.map (·.1)).map V.int, testOf (.item (.item (.var "state") (.int 3)) (.var "number")) (.tup []) "number" ρ (Wd P M D) v = some (t v)) ∧ ((G.S.vals.map (·.1)).map V.int).filter t = (opens G).map .int := by
  refine ⟨fun v => match v with
    | .int m => decide (find G.S.vals m = some .open)
    | _ => false, fun v hv => ?_, ?_⟩
  · obtain ⟨m, hm, rfl⟩ := List.mem_map.mp hv
    obtain ⟨r, hr⟩ := List.mem_iff_getElem?.mp hm
    obtain ⟨x, hx⟩ := keys_vals hr
    have hf := vals_find I.vn hx
    rw [test_open hst I.hS hf]
    simp only [hf, Option.some.injEq]
  · unfold opens
    rw [List.filter_map]
    rfl

end C187

namespace C187
open PySem

variable {P : Pre} {M : Mach} {D : Sto} {G : LG} {step : Int} {d : Nat}

/-- the names while a binding is sought -/
structure BE (ρ : Env) (D : Sto) (G : LG) (step : Int) (lk lp : Nat) (acc : List V) (lo r : Nat) : Prop where
  e : LE ρ G step
  k : CE ρ D G lk lp acc
  o : ρ "open_ones" = some (.loc (lo + 19))
  ho : D[lo]? = some (.list ((opens G).map .int))
  s : ρ "spots" = some (.loc (r + 19))
theorem BE.grows {ρ : Env} {D' : Sto} {lk lp lo r : Nat} {acc : List V} (h : BE ρ D G step lk lp acc lo r) (g : Grows D D') : BE ρ D' G step lk lp acc lo r := ⟨h.e, h.k.grows g, h.o, g.get h.ho, h.s⟩

theorem BE.by {ρ ρ' : Env} {lk lp lo r : Nat} {acc : List V} (h : BE ρ D G step lk lp acc lo r) (h1 : ρ' "pool" = some (.loc 4)) (h2 : ρ' "m" = some (.loc 11)) (h3 : ρ' "state" = some (.loc (G.S.ls + 19))) (h4 : ρ' "cells" = some (.loc (G.lc + 19))) (h5 : ρ' "choices" = some (.loc (G.lch + 19))) (h6 : ρ' "made" = some (.int G.made)) (h7 : ρ' "step" = some (.int step))
    (h8 : ρ' "chain" = some (.loc (lk + 19))) (h9 : ρ' "places" = some (.loc (lp + 19))) (ha : ρ' "open_ones" = some (.loc (lo + 19))) (hb : ρ' "spots" = some (.loc (r + 19))) : BE ρ' D G step lk lp acc lo r := ⟨⟨h1, h2, h3, h4, h5, h6, h7⟩, { h.k with c := h8, p := h9 }, ha, h.ho, hb⟩

noncomputable def SpotOk (G : LG) (v : V) : Prop := ∃ (a s : Nat) (n : Int) (sl : List Sl), v = .tup [.int a, .int s] ∧ (chOf G.S.frames G.S.cur G.ps)[a]? = some (n, sl) ∧ sl[s]? = some .free

noncomputable def lb_spot : List S := [.ite (.cmp .eq (.item (.item (.item (.var "chain") (.var "at")) (.int 1)) (.var "slot")) (.tup [(.str "free")]))
                      [.expr (.meth (.var "spots") "append" [(.tup [(.var "at"), (.var "slot")])])]
                      []]

theorem spot_in {C : Calls} {Q : Cs} {D0 : Sto} {lk' lp lo r a k : Nat} {acc : List V} {n : Int} {sl : List Sl} (hr : D0.length = r) (hc : (chOf G.S.frames G.S.cur G.ps)[a]? = some (n, sl)) (ha : acc[a]? = some (.tup [.int n, .loc (k + 19)])) (hk : D0[k]? = some (.list (sl.map Sl.v))) :
    ∀ (cnt i : Nat) (vs : List V) (D : Sto) (ρ : Env), i + cnt = sl.length → BE ρ D0 G step lk' lp acc lo r → ρ "at" = some (.int (0 + (a : Int))) → Grows D0 D → D[r]? = some (.list vs) → (∀ v ∈ vs, SpotOk G v) → vs.length + cnt < big →
    (∀ ρ' D' vs', BE ρ' D0 G step lk' lp acc lo r → Grows D0 D' → D'[r]? = some (.list vs') → (∀ v ∈ vs', SpotOk G v) → vs'.length ≤ vs.length + cnt → Q .next ρ' (Wd P M D')) →
    forV "slot" (evSs C lb_spot) ((List.range' i cnt).map fun (i : Nat) => V.int (0 + (i : Int))) ρ (Wd P M D) Q
  | 0, i, vs, D, ρ, hi, B, e1, g, hD, hv, hb, hQ => hQ ρ D vs B g hD hv (Nat.le_refl _)
  | cnt + 1, i, vs, D, ρ, hi, B, e1, g, hD, hv, hb, hQ => by
    obtain ⟨x, hxi⟩ : ∃ x, sl[i]? = some x := ⟨_, List.getElem?_eq_getElem (by lia)⟩
    have hvi : (sl.map Sl.v)[(0 + (i : Int)).toNat]? = some x.v := by rw [Int.zero_add, Int.toNat_natCast, List.getElem?_map, hxi]; rfl
    have ha' : acc[(0 + (a : Int)).toNat]? = some (.tup [.int n, .loc (k + 19)]) := by rw [Int.zero_add, Int.toNat_natCast]; exact ha
    have B1 : BE (ρ.set "slot" (.int (0 + (i : Int)))) D0 G step lk' lp acc lo r := B.by B.e.pool B.e.m B.e.state B.e.cells B.e.choices B.e.made B.e.step B.k.c B.k.p B.o B.s
    have skip : forV "slot" (evSs C lb_spot) ((List.range' (i + 1) cnt).map fun (i : Nat) => V.int (0 + (i : Int))) (ρ.set "slot" (.int (0 + (i : Int)))) (Wd P M D) Q :=
      spot_in hr hc ha hk cnt (i + 1) vs D _ (by lia) B1 e1 g hD hv (by lia) fun ρ' D' vs' q1 q2 q3 q4 q5 => hQ ρ' D' vs' q1 q2 q3 q4 (Nat.le_succ_of_le q5)
    refine som B.k.c (som e1 (fwl (g.get B.k.dc) (at_ok (by lia) ha' (fwl (g.get hk) (at_ok (by lia) hvi ?_)))))
    cases x with
    | unset => exact skip
    | i _ => exact skip
    | h _ => exact skip
    | free =>
      refine som B.s (sm hD (som e1 (C187.sl hD ⟨by lia, spot_in hr hc ha hk cnt (i + 1) (vs ++ [.tup [.int (0 + (a : Int)), .int (0 + (i : Int))]]) _ (ρ.set "slot" (.int (0 + (i : Int)))) (by lia) B1 e1 (g.set (Nat.le_of_eq hr) _) (List.getElem?_set_self (List.getElem?_eq_some_iff.mp hD).1) (fun v hv' => ?_) (by rw [len_snoc]; lia) fun ρ' D' vs' q1 q2 q3 q4 q5 => hQ ρ' D' vs' q1 q2 q3 q4 (by rw [len_snoc] at q5; lia)⟩)))
      rcases List.mem_append.mp hv' with hv' | hv'
      · exact hv v hv'
      · obtain rfl := List.mem_singleton.mp hv'
        exact ⟨a, i, n, sl, by rw [Int.zero_add, Int.zero_add], hc, hxi⟩

noncomputable def lb_spots : List S := [.for "slot" (.call "range" [(.call "len" [(.item (.item (.var "chain") (.var "at")) (.int 1))])]) lb_spot]

theorem spot_out {C : Calls} {Q : Cs} {D0 : Sto} {lk' lp lo r : Nat} {acc : List V} (hr : D0.length = r) (I : Inv P M D0 G step) :
    ∀ (cnt i : Nat) (vs : List V) (D : Sto) (ρ : Env), i + cnt = acc.length → BE ρ D0 G step lk' lp acc lo r → Grows D0 D → D[r]? = some (.list vs) → (∀ v ∈ vs, SpotOk G v) → vs.length + 3 * cnt < 1000 →
    (∀ ρ' D' vs', BE ρ' D0 G step lk' lp acc lo r → Grows D0 D' → D'[r]? = some (.list vs') → (∀ v ∈ vs', SpotOk G v) → vs'.length ≤ vs.length + 3 * cnt → Q .next ρ' (Wd P M D')) →
    forV "at" (evSs C lb_spots) ((List.range' i cnt).map fun (i : Nat) => V.int (0 + (i : Int))) ρ (Wd P M D) Q
  | 0, i, vs, D, ρ, hi, B, g, hD, hv, hb, hQ => hQ ρ D vs B g hD hv (Nat.le_add_right _ _)
  | cnt + 1, i, vs, D, ρ, hi, B, g, hD, hv, hb, hQ => by
    have B1 : BE (ρ.set "at" (.int (0 + (i : Int)))) D0 G step lk' lp acc lo r := B.by B.e.pool B.e.m B.e.state B.e.cells B.e.choices B.e.made B.e.step B.k.c B.k.p B.o B.s
    have hcl := chOf_length I.view.chain
    have hal := B.k.len
    obtain ⟨n, sl, hc⟩ : ∃ n sl, (chOf G.S.frames G.S.cur G.ps)[i]? = some (n, sl) := ⟨_, _, List.getElem?_eq_getElem (by lia)⟩
    obtain ⟨k, hk1, hk2⟩ := B.k.get i _ hc
    simp only at hk1 hk2
    obtain ⟨F, q, hF, hq, hsl, hlen, h4, hok⟩ := chOf_find I.view.chain hc
    have hsll : (sl.map Sl.v).length ≤ 3 := by rw [hsl, List.length_map, List.length_take]; lia
    have hm := List.length_map (as := sl) Sl.v
    refine som B.k.c (fwl (g.get B.k.dc) (at_ok (v := .tup [.int n, .loc (k + 19)]) (by lia) (by rw [Int.zero_add, Int.toNat_natCast]; exact hk1) (C187.sl (g.get hk2) (forW_w (x := "slot") (B := evSs C lb_spot) (by unfold big; lia) ?_))))
    refine spot_in hr hc hk1 hk2 _ 0 vs D (ρ.set "at" (.int (0 + (i : Int)))) (by lia) B1 rfl g hD hv (by unfold big; lia) fun ρ' D' vs' q1 q2 q3 q4 q5 => ?_
    exact spot_out hr I cnt (i + 1) vs' D' ρ' (by lia) q1 q2 q3 q4 (by lia) fun ρ'' D'' vs'' r1 r2 r3 r4 r5 => hQ ρ'' D'' vs'' r1 r2 r3 r4 (by lia)

end C187

namespace C187
open PySem

variable {P : Pre} {M : Mach} {D : Sto} {G : LG} {step : Int} {d : Nat}

noncomputable def br_b1 : List S := [.asgTup ["at", "slot"] (.item (.var "spots") (.call "_law_draw" [(.var "pool"), (.call "len" [(.var "spots")])])),
                   .asg "cell" (.tup [(.glob "SRF"), (.bin .add (.bin .add (.item (.var "places") (.var "at")) (.int 2)) (.var "slot"))]),
                   .ite (.all [(.cmp .eq (.bin .mod (.var "which") (.int 2)) (.int 0)), (.cmp .ne (.var "open_ones") (.list []))])
                    [.asg "other" (.item (.var "open_ones") (.call "_law_draw" [(.var "pool"), (.call "len" [(.var "open_ones")])])),
                     .ite (.cmp .eq (.var "which") (.int 0))
                      [.expr (.meth (.attr (.var "m") "store") "bind_pair" [(.item (.var "cells") (.var "other")), (.var "cell")])]
                      [.expr (.meth (.attr (.var "m") "store") "bind_pair" [(.var "cell"), (.item (.var "cells") (.var "other"))])],
                     .asgItem (.item (.item (.item (.var "state") (.int 2)) (.item (.item (.var "chain") (.var "at")) (.int 0))) (.int 2)) (.var "slot") (.tup [(.str "h"), (.var "other")])]
                    [.expr (.meth (.attr (.var "m") "store") "bind" [(.var "cell"), (.tup [(.glob "INT"), (.bin .add (.int 50) (.var "step"))])]),
                     .asgItem (.item (.item (.item (.var "state") (.int 2)) (.item (.item (.var "chain") (.var "at")) (.int 0))) (.int 2)) (.var "slot") (.tup [(.str "i"), (.bin .add (.int 50) (.var "step"))])]]

/-- the slot is bound, in the law and in the machine -/
theorem b1_put {C : Calls} {Q : Cs} {ρ : Env} {lk' lp lo r a s : Nat} {acc : List V} {n : Int} {F : LF} {q : Nat × Nat} {x : Sl} {v : V} {e : X} (I : Inv P M D G step) (B : BE ρ D G step lk' lp acc lo r) (hstep : step + 1 ≤ 19) (hc : (chOf G.S.frames G.S.cur G.ps)[a]? = some (n, F.slots.take q.2)) (hF : find G.S.frames n = some F) (hq : G.ps[a]? = some q) (hsw : s < q.2) (hFs : F.slots[s]? = some .free) (hv0 : M.stack[q.1 + 2 + s]? = some (cell 1 (q.1 + 2 + s : Nat)))
    (h1 : ρ "at" = some (.int a)) (h2 : ρ "slot" = some (.int s)) (h3 : ∀ (K : Ct) σ, K x.v σ → evE C e ρ σ K) (h4 : SlotV (G.S.vals.map (·.1)) (q.1 + 2 + s) v x)
    (hQ : ∀ ρ' P' M' D' G', Inv P' M' D' G' (step + 1) → LE ρ' G' step → P'.pp ≤ P.pp → Q .next ρ' (Wd P' M' D')) :
    evSs C [.asgItem (.item (.item (.item (.var "state") (.int 2)) (.item (.item (.var "chain") (.var "at")) (.int 0))) (.int 2)) (.var "slot") e] ρ (Wd P { M with stack := M.stack.set ((q.1 + 2 + s : Nat) : Int).toNat v, trail := if ((q.1 + 2 + s : Nat) : Int) < M.bb then M.trail ++ [.int (-1 - ((q.1 + 2 + s : Nat) : Int))] else M.trail } D) Q := by
  obtain ⟨k, hk1, hk2⟩ := B.k.get a _ hc
  have hfr : D[G.S.lf]? = some (.dI (G.S.frames.map fun p => (p.1, .loc (p.2.fl + 19)))) := I.hS.fr
  obtain ⟨f1, f2⟩ := I.hS.frame (find_mem hF)
  have key := hQ _ P _ _ _ (I.slot hstep hc hF (p := q.1) (w := q.2) hq hsw rfl (.inr hv0) h4) ⟨B.e.pool, B.e.m, B.e.state, B.e.cells, B.e.choices, B.e.made, B.e.step⟩ (Int.le_refl _)
  rw [List.map_set] at key
  exact h3 _ _ (som B.e.state (fwl I.hS.st (som B.k.c (som h1 (fwl B.k.dc (at_ok (Int.natCast_nonneg a) hk1 (fwd hfr (som (lk_map (β := V) (fun F : LF => V.loc (F.fl + 19)) hF) (fwl f1 (som h2 (sil f2 ⟨Int.natCast_nonneg _, by rw [List.length_map]; exact (List.getElem?_eq_some_iff.mp hFs).1, key⟩)))))))))))

theorem deed_b1 {C : Calls} (hC : C = callD prog (d + 3)) {Q : Cs} {ρ : Env} {lk' lp lo r : Nat} {acc sps : List V} {which : Int} (I : Inv P M D G step) (B : BE ρ D G step lk' lp acc lo r) (hstep : step + 1 ≤ 19) (hb : P.pp < 2 ^ 63) (hr : D[r]? = some (.list sps)) (hs : ∀ v ∈ sps, SpotOk G v) (hne : sps ≠ []) (hl : sps.length < 1000) (hw : ρ "which" = some (.int which))
    (hQ : ∀ ρ' P' M' D' G', Inv P' M' D' G' (step + 1) → LE ρ' G' step → P'.pp ≤ P.pp + 2 → Q .next ρ' (Wd P' M' D')) : evSs C br_b1 ρ (Wd P M D) Q := by
  have hs0 := I.s0
  have hnt := I.nt
  have hpos : 0 < sps.length := List.length_pos_iff.mpr hne
  have htl : M.trail.length < big := by rw [I.tr, List.length_map]; unfold big; lia
  refine som B.s (som B.e.pool (som B.s (C187.sl hr (useC hC (I.draw (by lia) (by lia) (by lia) fun k P1 k0 k1 I1 p1 p2 => ?_)))))
  obtain ⟨v, hv⟩ : ∃ v, sps[k.toNat]? = some v := ⟨_, List.getElem?_eq_getElem (by lia)⟩
  obtain ⟨a, s, n, sl, rfl, hc, hf⟩ := hs v (List.mem_of_getElem? hv)
  obtain ⟨F, q, hF, hq, rfl, hlen, h4, hok⟩ := chOf_find I.view.chain hc
  have hsw : s < q.2 := by
    have := (List.getElem?_eq_some_iff.mp hf).1
    rw [List.length_take] at this; lia
  have hFs : F.slots[s]? = some .free := by rwa [List.getElem?_take_of_lt hsw] at hf
  obtain ⟨v0, hv0, hv1⟩ := hok s .free hsw hFs
  obtain rfl : v0 = cell 1 (q.1 + 2 + s : Nat) := hv1
  have hjl : q.1 + 2 + s < M.stack.length := (List.getElem?_eq_some_iff.mp hv0).1
  have hj0 : (0 : Int) ≤ ((q.1 + 2 + s : Nat) : Int) := Int.natCast_nonneg _
  refine fwl hr (at_ok k0 hv ⟨rfl, som B.k.p (fwl B.k.dp (at_ok (v := .int q.1) (Int.natCast_nonneg a) (by rw [Int.toNat_natCast, List.getElem?_map, hq]; rfl) ?_))⟩)
  obtain ⟨ρ2, hρ2⟩ : ∃ ρ2, ρ2 = ((ρ.set "at" (.int (a : Int))).set "slot" (.int (s : Int))).set "cell" (cell 1 ((q.1 + 2 + s : Nat) : Int)) := ⟨_, rfl⟩
  have B2 : BE ρ2 D G step lk' lp acc lo r := by rw [hρ2]; exact B.by B.e.pool B.e.m B.e.state B.e.cells B.e.choices B.e.made B.e.step B.k.c B.k.p B.o B.s
  have a2 : ρ2 "at" = some (.int a) := by rw [hρ2]; rfl
  have s2 : ρ2 "slot" = some (.int s) := by rw [hρ2]; rfl
  have w2 : ρ2 "which" = some (.int which) := by rw [hρ2]; exact hw
  have c2 : ρ2 "cell" = some (cell 1 ((q.1 + 2 + s : Nat) : Int)) := by rw [hρ2]; rfl
  have goal : evSs C [.ite (.all [(.cmp .eq (.bin .mod (.var "which") (.int 2)) (.int 0)), (.cmp .ne (.var "open_ones") (.list []))])
                    [.asg "other" (.item (.var "open_ones") (.call "_law_draw" [(.var "pool"), (.call "len" [(.var "open_ones")])])),
                     .ite (.cmp .eq (.var "which") (.int 0))
                      [.expr (.meth (.attr (.var "m") "store") "bind_pair" [(.item (.var "cells") (.var "other")), (.var "cell")])]
                      [.expr (.meth (.attr (.var "m") "store") "bind_pair" [(.var "cell"), (.item (.var "cells") (.var "other"))])],
                     .asgItem (.item (.item (.item (.var "state") (.int 2)) (.item (.item (.var "chain") (.var "at")) (.int 0))) (.int 2)) (.var "slot") (.tup [(.str "h"), (.var "other")])]
                    [.expr (.meth (.attr (.var "m") "store") "bind" [(.var "cell"), (.tup [(.glob "INT"), (.bin .add (.int 50) (.var "step"))])]),
                     .asgItem (.item (.item (.item (.var "state") (.int 2)) (.item (.item (.var "chain") (.var "at")) (.int 0))) (.int 2)) (.var "slot") (.tup [(.str "i"), (.bin .add (.int 50) (.var "step"))])]] ρ2 (Wd P1 M D) Q := by
    have other : ∀ D', Grows D D' → evSs C [.expr (.meth (.attr (.var "m") "store") "bind" [(.var "cell"), (.tup [(.glob "INT"), (.bin .add (.int 50) (.var "step"))])]),
                     .asgItem (.item (.item (.item (.var "state") (.int 2)) (.item (.item (.var "chain") (.var "at")) (.int 0))) (.int 2)) (.var "slot") (.tup [(.str "i"), (.bin .add (.int 50) (.var "step"))])] ρ2 (Wd P1 M D') Q := fun D' g =>
      som B2.e.m (som c2 (som B2.e.step (useC hC (bind_stack (v := cell 5 (50 + step)) hj0 hjl htl (b1_put (x := .i (50 + step)) (I1.grows g) (B2.grows g) hstep hc hF hq hsw hFs hv0 a2 s2 (fun K σ k => som B2.e.step k) ⟨rfl, by lia⟩ fun ρ' P' M' D' G' q1 q2 q3 => hQ ρ' P' M' D' G' q1 q2 (by lia))))))
    refine som w2 ⟨by decide, ?_⟩
    by_cases hw2 : which % 2 = 0
    · refine ifT (tt hw2) (som B2.o ?_)
      have g1 := Grows.app D [O.list []]
      have m1 := g1.get B2.ho
      have ha := apart_is (σ := Wd P1 M (D ++ [O.list []])) (a := lo + 19) (b := D.length + 19) m1 (last_get ..)
      obtain ⟨ops, hops⟩ : ∃ ops, ops = (opens G).map V.int := ⟨_, rfl⟩
      rw [← hops] at m1 ha
      by_cases hon : ops = []
      · rw [hon] at m1 ha
        exact sbF ha (sop (rd_nil (σ := Wd P1 M (D ++ [O.list []])) m1) (sop (rd_nil (σ := Wd P1 M (D ++ [O.list []])) (last_get ..)) (other _ g1)))
      · have hpos : 0 < ops.length := List.length_pos_iff.mpr hon
        have hol : ops.length ≤ 19 := by rw [hops, List.length_map]; exact I.opens_len
        have B3 := B2.grows g1
        have I2 := I1.grows g1
        refine sbT (ha.trans (bne_iff_ne.mpr (Nat.ne_of_gt hpos))) (som B2.o (som B2.e.pool (som B2.o (C187.sl m1 (useC hC (I2.draw (by lia) (by lia) (by lia) fun j P2 j0 j1 I3 p3 p4 => ?_))))))
        rw [hops, List.length_map] at j1
        obtain ⟨m, hm⟩ : ∃ m, (opens G)[j.toNat]? = some m := ⟨_, List.getElem?_eq_getElem (by lia)⟩
        obtain ⟨rk, hrk⟩ := I.opens_mem (List.mem_of_getElem? hm)
        have hkey : (G.S.vals.map (·.1))[rk]? = some m := by rw [List.getElem?_map, hrk]; rfl
        have hcl := I.st.cl rk m hkey
        refine fwl m1 (at_ok (v := .int m) j0 (by rw [hops, List.getElem?_map, hm]; rfl) (som w2 ?_))
        have put := b1_put (C := C) (Q := Q) (ρ := ρ2.set "other" (.int m)) (e := .tup [(.str "h"), (.var "other")]) (x := .h m) (v := cell 0 rk) I3 (B3.by B3.e.pool B3.e.m B3.e.state B3.e.cells B3.e.choices B3.e.made B3.e.step B3.k.c B3.k.p B3.o B3.s) hstep hc hF hq hsw hFs hv0 a2 s2 (fun K σ k => k) ⟨rk, hkey, rfl⟩ fun ρ' P' M' D' G' q1 q2 q3 => hQ ρ' P' M' D' G' q1 q2 (by lia)
        by_cases hw0 : which = 0
        · exact ifT (tt hw0) (som B2.e.m (som B2.e.cells (fwd I3.hcl (som hcl (som c2 (useC hC (bind_pair_hs (j := rk) hj0 hjl htl put)))))))
        · exact ifF (ff hw0) (som B2.e.m (som c2 (som B2.e.cells (fwd I3.hcl (som hcl (useC hC (bind_pair_sh (j := rk) hj0 hjl htl put)))))))
    · exact ifF (ff hw2) (other D (Grows.refl _))
  rw [hρ2] at goal
  exact goal

end C187

namespace C187
open PySem

variable {P : Pre} {M : Mach} {D : Sto} {G : LG} {step : Int} {d : Nat}

theorem fwi {l : Nat} {σ : Sto} {vs : List V} (h : σ[l]? = some (.list vs)) : itemsOf (.loc l) σ = some vs := by unfold itemsOf; dsimp only; rw [h]

noncomputable def br_b2 : List S := [.asg "one" (.call "_law_draw" [(.var "pool"), (.call "len" [(.var "open_ones")])]),
                     .asg "two" (.call "_law_draw" [(.var "pool"), (.call "len" [(.var "open_ones")])]),
                     .ite (.cmp .eq (.var "one") (.var "two"))
                      [.expr (.meth (.attr (.var "m") "store") "bind" [(.item (.var "cells") (.item (.var "open_ones") (.var "one"))), (.tup [(.glob "INT"), (.bin .add (.int 50) (.var "step"))])]),
                       .asgItem (.item (.var "state") (.int 3)) (.item (.var "open_ones") (.var "one")) (.tup [(.str "i"), (.bin .add (.int 50) (.var "step"))])]
                      [.expr (.meth (.attr (.var "m") "store") "bind_pair" [(.item (.var "cells") (.item (.var "open_ones") (.var "one"))), (.item (.var "cells") (.item (.var "open_ones") (.var "two")))]),
                       .asgItem (.item (.var "state") (.int 3)) (.item (.var "open_ones") (.call "max" [(.var "one"), (.var "two")])) (.tup [(.str "h"), (.item (.var "open_ones") (.call "min" [(.var "one"), (.var "two")]))])]]

/-- the elder and the younger of two names -/
theorem Inv.two {i j m n : Int} {rm rn : Nat} (I : Inv P M D G step) (i0 : 0 ≤ i) (j0 : 0 ≤ j) (hij : i ≠ j) (hm : (opens G)[i.toNat]? = some m) (hn : (opens G)[j.toNat]? = some n) (hrm : G.S.vals[rm]? = some (m, Vl.open)) (hrn : G.S.vals[rn]? = some (n, Vl.open)) :
    ∃ (hi lo' : Int) (a b : Nat), (opens G)[(max i j).toNat]? = some hi ∧ (opens G)[(min i j).toNat]? = some lo' ∧ G.S.vals[a]? = some (hi, Vl.open) ∧ G.S.vals[b]? = some (lo', Vl.open) ∧ b < a ∧ max (rm : Int) rn = a ∧ min (rm : Int) rn = b := by
  have hlt : ∀ (x y : Int) (m n : Int), 0 ≤ x → x < y → (opens G)[x.toNat]? = some m → (opens G)[y.toNat]? = some n → m < n := fun x y m n h0 h1 h2 h3 => by
    obtain ⟨l1, q1⟩ := List.getElem?_eq_some_iff.mp h2
    obtain ⟨l2, q2⟩ := List.getElem?_eq_some_iff.mp h3
    have := (List.pairwise_iff_getElem.mp I.opens_lt) _ _ l1 l2 ((Int.toNat_lt_toNat (Int.lt_of_le_of_lt h0 h1)).mpr h1)
    rw [q1, q2] at this; exact this
  by_cases h : i < j
  · have := rank_lt I.st.vr hrm hrn (hlt i j m n i0 h hm hn)
    have l := Int.ofNat_le.mpr (Nat.le_of_lt this)
    have l' := Int.le_of_lt h
    exact ⟨n, m, rn, rm, by rw [Int.max_eq_right l']; exact hn, by rw [Int.min_eq_left l']; exact hm, hrn, hrm, this, Int.max_eq_right l, Int.min_eq_left l⟩
  · have h' : j ≤ i := Int.not_lt.mp h
    have := rank_lt I.st.vr hrn hrm (hlt j i n m j0 (Int.lt_iff_le_and_ne.mpr ⟨h', Ne.symm hij⟩) hn hm)
    have l := Int.ofNat_le.mpr (Nat.le_of_lt this)
    exact ⟨m, n, rm, rn, by rw [Int.max_eq_left h']; exact hm, by rw [Int.min_eq_right h']; exact hn, hrm, hrn, this, Int.max_eq_left l, Int.min_eq_right l⟩

theorem Inv.open_at (I : Inv P M D G step) {k : Int} (h0 : 0 ≤ k) (h1 : k < (opens G).length) : ∃ (m : Int) (rk : Nat), (opens G)[k.toNat]? = some m ∧ ((opens G).map V.int)[k.toNat]? = some (.int m) ∧ G.S.vals[rk]? = some (m, Vl.open) ∧ lk G.cl m = some (cell 0 rk) ∧ rk < M.heap.length := by
  obtain ⟨m, hm⟩ : ∃ m, (opens G)[k.toNat]? = some m := ⟨_, List.getElem?_eq_getElem (by lia)⟩
  obtain ⟨rk, hrk⟩ := I.opens_mem (List.mem_of_getElem? hm)
  exact ⟨m, rk, hm, by rw [List.getElem?_map, hm]; rfl, hrk, I.st.cl rk m (by rw [List.getElem?_map, hrk]; rfl), I.hl ▸ (List.getElem?_eq_some_iff.mp hrk).1⟩

theorem deed_b2 {C : Calls} (hC : C = callD prog (d + 3)) {Q : Cs} {ρ : Env} {lo : Nat} (I : Inv P M D G step) (E : LE ρ G step) (ho : ρ "open_ones" = some (.loc (lo + 19))) (hD : D[lo]? = some (.list ((opens G).map .int))) (hstep : step + 1 ≤ 19) (hb : P.pp < 2 ^ 63) (hne : (opens G).map V.int ≠ [])
    (hQ : ∀ ρ' P' M' D' G', Inv P' M' D' G' (step + 1) → LE ρ' G' step → P'.pp ≤ P.pp + 2 → Q .next ρ' (Wd P' M' D')) : evSs C br_b2 ρ (Wd P M D) Q := by
  have hol := I.opens_len
  have hlm : ((opens G).map V.int).length = (opens G).length := List.length_map _
  have hop : 0 < ((opens G).map V.int).length := List.length_pos_iff.mpr hne
  have htl : M.trail.length < big := by
    have h1 := I.nt
    have h2 := I.s0
    rw [I.tr, List.length_map]; unfold big; lia
  have hvb : (G.S.vals.map fun p => (p.1, p.2.v)).length < big := by have := I.names_len; unfold big; lia
  have hva : D[G.S.lv]? = some (.dI (G.S.vals.map fun p => (p.1, p.2.v))) := I.hS.va
  refine som E.pool (som ho (C187.sl hD (useC hC (I.draw (by lia) (by lia) (by lia) fun i P1 i0 i1 I1 p1 p2 => ?_))))
  refine som E.pool (som ho (C187.sl hD (useC hC (I1.draw (by lia) (by lia) (by lia) fun j P2 j0 j1 I2 p3 p4 => ?_))))
  rw [hlm] at i1 j1
  obtain ⟨m, rm, hm, hm', hrm, hcm, hhm⟩ := I.open_at i0 i1
  obtain ⟨n, rn, hn, hn', hrn, hcn, hhn⟩ := I.open_at j0 j1
  have fin : ∀ (a : Nat) (k : Int) (x : Vl) (v : V), G.S.vals[a]? = some (k, .open) → ValV (G.S.vals.map (·.1)) a v x →
      Q .next ((ρ.set "one" (.int i)).set "two" (.int j)) (Wd P2 { M with heap := M.heap.set (a : Int).toNat v, trail := if (a : Int) < M.hb then M.trail ++ [.int (a : Int)] else M.trail } (D.set G.S.lv (.dI (sto (G.S.vals.map fun p => (p.1, p.2.v)) k x.v)))) := fun a k x v h1 h2 =>
    hQ _ P2 _ _ _ (I2.var hstep h1 h2) ⟨E.pool, E.m, E.state, E.cells, E.choices, E.made, E.step⟩ (by lia)
  by_cases hij : i = j
  · exact ifT (tt hij) (som E.m (som E.cells (som ho (fwl hD (at_ok i0 hm' (fwd I.hcl (som hcm (som E.step (useC hC (bind_heap (v := cell 5 (50 + step)) (Int.natCast_nonneg rm) hhm htl
      (som E.step (som E.state (fwl I.hS.st (som ho (fwl hD (at_ok i0 hm' (sid hva ⟨hvb, fin rm m (.i (50 + step)) (cell 5 (50 + step)) hrm rfl⟩)))))))))))))))))
  · obtain ⟨hi, lo', a, b, h1, h2, h3, h4, h5, h6, h7⟩ := I.two i0 j0 hij hm hn hrm hrn
    have k1 : ((opens G).map V.int)[(max i j).toNat]? = some (.int hi) := by rw [List.getElem?_map, h1]; rfl
    have k2 : ((opens G).map V.int)[(min i j).toNat]? = some (.int lo') := by rw [List.getElem?_map, h2]; rfl
    refine ifF (ff hij) (som E.m (som E.cells (som ho (fwl hD (at_ok i0 hm' (fwd I.hcl (som hcm (som E.cells (som ho (fwl hD (at_ok j0 hn' (fwd I.hcl (som hcn (useC hC (bind_pair_hh (M := M) (j := rm) (k := rn) (by lia) (by lia) (by rw [h6, Int.toNat_natCast]; exact I.hl ▸ (List.getElem?_eq_some_iff.mp h3).1) htl ?_)))))))))))))))
    rw [h6, h7]
    exact som ho (fwl hD (at_ok (Int.le_min.mpr ⟨i0, j0⟩) k2 (som E.state (fwl I.hS.st (som ho (fwl hD (at_ok (Int.le_trans i0 (Int.le_max_left i j)) k1 (sid hva ⟨hvb, fin a hi (.h lo') (cell 0 b) h3 ⟨b, h5, by rw [List.getElem?_map, h4]; rfl, rfl⟩⟩))))))))

noncomputable def br_bind : List S := [.asgFilt "open_ones" "number" (.call "sorted" [(.item (.var "state") (.int 3))]) (.item (.item (.var "state") (.int 3)) (.var "number")) [],
                 .asg "spots" (.list []),
                 .for "at" (.call "range" [(.call "len" [(.var "chain")])]) lb_spots,
                 .asg "which" (.call "_law_draw" [(.var "pool"), (.int 8)]),
                 .ite (.all [(.cmp .ne (.var "spots") (.list [])), (.any [(.cmp .lt (.var "which") (.int 4)), (.cmp .eq (.var "open_ones") (.list []))])])
                  br_b1
                  [.ite (.cmp .ne (.var "open_ones") (.list [])) br_b2 []]]

theorem deed_bind {C : Calls} (hC : C = callD prog (d + 3)) {Q : Cs} {ρ : Env} {lk' lp : Nat} {acc : List V} (I : Inv P M D G step) (E : LE ρ G step) (K : CE ρ D G lk' lp acc) (hstep : step + 1 ≤ 19) (hb : P.pp < 2 ^ 62) (hQ : Nx P step Q) : evSs C br_bind ρ (Wd P M D) Q := by
  have hs0 := I.s0
  have hnp := I.np
  have hal := K.len
  obtain ⟨ns, hns⟩ : ∃ ns, ns = (G.S.vals.map (·.1)).map V.int := ⟨_, rfl⟩
  have hva : D[G.S.lv]? = some (.dI (G.S.vals.map fun p => (p.1, p.2.v))) := I.hS.va
  have g1 : Grows D (D ++ [O.list ns]) := Grows.app _ _
  have m1 : (D ++ [O.list ns])[D.length]? = some (.list ns) := last_get ..
  have hit : itemsOf (.loc (D.length + 19)) (Wd P M (D ++ [O.list ns])) = some ns := fwi m1
  obtain ⟨t, ht1, ht2⟩ := (I.grows g1).filt_opens E.state
  rw [← hns] at ht1 ht2
  have en := names_eq G.S.vals
  rw [← hns] at en
  refine filtW (u := .loc (D.length + 19)) (σ := Wd P M (D ++ [O.list ns])) (fun Q k => som E.state (fwl I.hS.st (sod hva ⟨I.names_len, I.names_up, en ▸ k⟩))) hit (mapM_filt ht1) ⟨by rw [hns, List.all_eq_true]; intro v hv; obtain ⟨x, _, rfl⟩ := List.mem_map.mp hv; rfl, ?_⟩
  rw [filt_map, ht2]
  have g2 := g1.trans (Grows.app _ [O.list ((opens G).map .int)])
  have g3 : Grows (D ++ [O.list ns] ++ [O.list ((opens G).map .int)]) (D ++ [O.list ns] ++ [O.list ((opens G).map .int)] ++ [O.list []]) := Grows.app _ _
  have B : BE ((ρ.set "open_ones" (.loc ((D ++ [O.list ns]).length + 19))).set "spots" (.loc ((D ++ [O.list ns] ++ [O.list ((opens G).map .int)]).length + 19))) (D ++ [O.list ns] ++ [O.list ((opens G).map .int)]) G step lk' lp acc (D ++ [O.list ns]).length (D ++ [O.list ns] ++ [O.list ((opens G).map .int)]).length :=
    ⟨⟨E.pool, E.m, E.state, E.cells, E.choices, E.made, E.step⟩, { K.grows g2 with c := K.c, p := K.p }, rfl, last_get .., rfl⟩
  refine som K.c (C187.sl (g3.get B.k.dc) (forW_w (x := "at") (B := evSs C lb_spots) (by unfold big; lia) (spot_out rfl (I.grows g2) acc.length 0 [] _ _ (Nat.zero_add _) B g3 (last_get ..) (fun v hv => by cases hv) (by simp only [List.length_nil]; lia) fun ρ3 D4 sps B3 g4 hsp hok hsl => ?_)))
  simp only [List.length_nil] at hsl
  have B4 := B3.grows g4
  refine som B3.e.pool (useC hC (((I.grows g2).grows g4).draw (by lia) (by lia) (by lia) fun w P1 w0 w1 I5 p1 p2 => ?_))
  have B5 : BE (ρ3.set "which" (.int w)) D4 G step lk' lp acc (D ++ [O.list ns]).length (D ++ [O.list ns] ++ [O.list ((opens G).map .int)]).length := B4.by B3.e.pool B3.e.m B3.e.state B3.e.cells B3.e.choices B3.e.made B3.e.step B3.k.c B3.k.p B3.o B3.s
  have rest : ∀ D', Grows D4 D' → evSs C [.ite (.cmp .ne (.var "open_ones") (.list [])) br_b2 []] (ρ3.set "which" (.int w)) (Wd P1 M D') Q := fun D' g => by
    have g' := Grows.app D' [O.list []]
    have I6 := I5.grows (g.trans g')
    have B6 := B5.grows (g.trans g')
    exact som B3.o (cnil B6.ho (last_get ..) (fun hon => deed_b2 hC I6 B6.e B6.o B6.ho hstep (by lia) hon fun ρ' P' M' D' G' q1 q2 q3 => hQ ρ' P' M' D' G' q1 q2 (by lia)) fun _ => hQ _ P1 _ _ G (I6.up hstep) B6.e (by lia))
  have first : ∀ D', Grows D4 D' → sps ≠ [] → evSs C br_b1 (ρ3.set "which" (.int w)) (Wd P1 M D') Q := fun D' g hnil =>
    deed_b1 hC (I5.grows g) (B5.grows g) hstep (by lia) (g.get hsp) hok hnil (by lia) rfl fun ρ' P' M' D' G' q1 q2 q3 => hQ ρ' P' M' D' G' q1 q2 (by lia)
  have g5 := Grows.app D4 [O.list []]
  refine som B3.s (cnil (g5.get hsp) (last_get ..) (fun hnil => ?_) fun _ => rest _ g5)
  by_cases hw : w < 4
  · exact ifT rfl (ifT (tt hw) (first _ g5 hnil))
  · have g6 := Grows.app (D4 ++ [O.list []]) [O.list []]
    exact ifT rfl (ifF (ff hw) (som B3.o (cnil ((B5.grows (g5.trans g6)).ho) (last_get ..) (fun _ => rest _ (g5.trans g6)) fun _ => first _ (g5.trans g6) hnil)))

end C187

namespace C187
open PySem

variable {P : Pre} {M : Mach} {D : Sto} {G : LG} {step : Int} {d : Nat}

structure LE0 (ρ : Env) (G : LG) : Prop where
  pool : ρ "pool" = some (.loc 4)
  m : ρ "m" = some (.loc 11)
  state : ρ "state" = some (.loc (G.S.ls + 19))
  cells : ρ "cells" = some (.loc (G.lc + 19))
  choices : ρ "choices" = some (.loc (G.lch + 19))
  made : ρ "made" = some (.int G.made)
theorem LE0.at {ρ : Env} (h : LE0 ρ G) (i : Int) : LE (ρ.set "step" (.int i)) G i := ⟨h.pool, h.m, h.state, h.cells, h.choices, h.made, rfl⟩

noncomputable def br_env : List S := .asg "width" (.call "_law_draw" [(.var "pool"), (.int 4)]) ::
       .asg "live" (.ite (.cmp .eq (.var "deed") (.int 0)) (.call "_law_draw" [(.var "pool"), (.bin .add (.var "width") (.int 1))]) (.var "width")) :: br_push

noncomputable def br_last : List S := [.asgTup ["saved", "row", "address", "length", "trailed"] (.item (.var "choices") (.bin .sub (.call "len" [(.var "choices")]) (.int 1))),
                     .ite (.cmp .eq (.var "deed") (.int 13)) br_cut
                      [.ite (.all [(.cmp .eq (.var "deed") (.int 14)), (.cmp .eq (.call "_law_draw" [(.var "pool"), (.int 3)]) (.int 0))]) br_alt br_back]]

noncomputable def lb_turn : List S :=
    [.asg "deed" (.call "_law_draw" [(.var "pool"), (.int 16)]),
     .asg "chain" (.call "_law_chain" [(.var "state")]),
     .asg "places" (.meth (.var "m") "environments" []),
     .ite (.any [(.cmp .lt (.var "deed") (.int 2)), (.all [(.cmp .lt (.var "deed") (.int 4)), (.cmp .eq (.var "chain") (.list []))])]) br_env
      [.ite (.cmp .eq (.var "deed") (.int 2)) br_shrink
        [.ite (.cmp .eq (.var "deed") (.int 3)) br_pop
          [.ite (.cmp .lt (.var "deed") (.int 6)) br_choice
            [.ite (.cmp .lt (.var "deed") (.int 8)) br_var
              [.ite (.cmp .lt (.var "deed") (.int 11)) br_bind
                [.ite (.all [(.cmp .lt (.var "deed") (.int 13)), (.cmp .ne (.var "chain") (.list []))]) br_write
                  [.ite (.cmp .ne (.var "choices") (.list [])) br_last []]]]]]]],
     .ite (.not (.tru (.call "_law_same" [(.var "m"), (.var "state"), (.var "cells"), (.var "choices")])))
      [.ret (.bool false)]
      []]


theorem deed_env {C : Calls} (hC : C = callD prog (d + 3)) {Q : Cs} {ρ : Env} {deed : Int} (I : Inv P M D G step) (E : LE ρ G step) (hstep : step + 1 ≤ 19) (hb : P.pp < 2 ^ 62) (e1 : ρ "deed" = some (.int deed)) (hQ : ∀ ρ' P' M' D' G', Inv P' M' D' G' (step + 1) → LE ρ' G' step → P'.pp ≤ P.pp + 25 → Q .next ρ' (Wd P' M' D')) : evSs C br_env ρ (Wd P M D) Q := by
  refine som E.pool (useC hC (I.draw (by decide) (by decide) (by lia) fun w P1 w0 w1 I1 p1 p2 => som e1 ?_))
  obtain ⟨w, rfl⟩ := Int.eq_ofNat_of_zero_le w0
  have fin : ∀ (P' : Pre) (l : Nat), Inv P' M D G step → l ≤ w → P'.pp ≤ P.pp + 2 → evSs C br_push ((ρ.set "width" (.int (w : Int))).set "live" (.int (l : Int))) (Wd P' M D) Q := fun P' l I' hl hp =>
    deed_push hC I' ⟨E.pool, E.m, E.state, E.cells, E.choices, E.made, E.step⟩ (by lia) hl rfl rfl hstep fun ρ' P'' M' D' G' q1 q2 q3 => hQ ρ' P'' M' D' G' q1 q2 (by lia)
  by_cases h : deed = 0
  · refine ifT (tt h) (som E.pool (useC hC (I1.draw (by lia) (by lia) (by lia) fun l P2 l0 l1 I2 p3 p4 => ?_)))
    obtain ⟨l, rfl⟩ := Int.eq_ofNat_of_zero_le l0
    exact fin P2 l I2 (by lia) (by lia)
  · exact ifF (ff h) (fin P1 w I1 (Nat.le_refl _) (by lia))

theorem unp {l : Nat} {σ : Sto} {vs : List V} (h : σ[l]? = some (.list vs)) : unpackOf (.loc l) σ = some vs := by unfold unpackOf; dsimp only; rw [h]

theorem deed_last {C : Calls} (hC : C = callD prog (d + 3)) {Q : Cs} {ρ : Env} {c : Ch} {cs : List Ch} {deed : Int} (I : Inv P M D G step) (E : LE ρ G step) (hstep : step + 1 ≤ 19) (hb : P.pp < 2 ^ 62) (hc : G.chs = c :: cs) (e1 : ρ "deed" = some (.int deed)) (hQ : ∀ ρ' P' M' D' G', Inv P' M' D' G' (step + 1) → LE ρ' G' step → P'.pp ≤ P.pp + 25 → Q .next ρ' (Wd P' M' D')) : evSs C br_last ρ (Wd P M D) Q := by
  have hmem : c ∈ G.chs := by rw [hc]; exact List.mem_cons_self
  obtain ⟨k1, k2⟩ := last_ch hc
  have he : D[c.le]? = some (.list [.loc (c.saved.ls + 19), .loc (c.lr + 19), .int c.alt, .int c.saved.vals.length, .int c.trl]) := I.he hmem
  obtain ⟨ρ1, hρ1⟩ : ∃ ρ1, ρ1 = ((((ρ.set "saved" (.loc (c.saved.ls + 19))).set "row" (.loc (c.lr + 19))).set "address" (.int c.alt)).set "length" (.int c.saved.vals.length)).set "trailed" (.int c.trl) := ⟨_, rfl⟩
  have E1 : LE ρ1 G step := by rw [hρ1]; exact ⟨E.pool, E.m, E.state, E.cells, E.choices, E.made, E.step⟩
  have f1 : ρ1 "saved" = some (.loc (c.saved.ls + 19)) := by rw [hρ1]; rfl
  have f2 : ρ1 "row" = some (.loc (c.lr + 19)) := by rw [hρ1]; rfl
  have f3 : ρ1 "length" = some (.int c.saved.vals.length) := by rw [hρ1]; rfl
  have f4 : ρ1 "trailed" = some (.int c.trl) := by rw [hρ1]; rfl
  have f5 : ρ1 "deed" = some (.int deed) := by rw [hρ1]; exact e1
  have back : ∀ P', Inv P' M D G step → P'.pp ≤ P.pp + 2 → evSs C br_back ρ1 (Wd P' M D) Q := fun P' I' hp =>
    deed_back hC I' E1 hstep hc f1 f2 f3 f4 f5 fun ρ' P'' M' D' G' q1 q2 q3 => hQ ρ' P'' M' D' G' q1 q2 (by lia)
  have goal : evSs C [.ite (.cmp .eq (.var "deed") (.int 13)) br_cut
                      [.ite (.all [(.cmp .eq (.var "deed") (.int 14)), (.cmp .eq (.call "_law_draw" [(.var "pool"), (.int 3)]) (.int 0))]) br_alt br_back]] ρ1 (Wd P M D) Q := by
    refine som f5 ?_
    by_cases h : deed = 13
    · exact ifT (tt h) (deed_cut hC I E1 hstep (by lia) fun ρ' P' M' D' G' q1 q2 q3 => hQ ρ' P' M' D' G' q1 q2 (by lia))
    refine ifF (ff h) (som f5 ?_)
    by_cases h2 : deed = 14
    · refine ifT (tt h2) (som E1.pool (useC hC (I.draw (by decide) (by decide) (by lia) fun k P1 k0 k1 I1 p1 p2 => ?_)))
      by_cases h3 : k = 0
      · exact ifT (tt h3) (deed_alt hC I1 E1 hstep hc fun ρ' P' M' D' G' q1 q2 q3 => hQ ρ' P' M' D' G' q1 q2 (by lia))
      · exact ifF (ff h3) (back P1 I1 (by lia))
    · exact ifF (ff h2) (back P I (by lia))
  rw [hρ1] at goal
  exact som E.choices (som E.choices (C187.sl I.hch (fwl I.hch (at_ok (by rw [k1]; push_cast; lia) (by rw [k1, show (((cs.length + 1 : Nat) : Int) - 1).toNat = cs.length by push_cast; lia]; exact k2) (soL (o := unpackOf (.loc (c.le + 19)) (Wd P M D)) (unp he) ⟨rfl, goal⟩)))))

/-- what a deed but the first two does -/
theorem deed_rest {C : Calls} (hC : C = callD prog (d + 3)) {Q : Cs} {ρ : Env} {lk' lp : Nat} {acc : List V} {deed : Int} (I : Inv P M D G step) (E : LE ρ G step) (K : CE ρ D G lk' lp acc) (hstep : step + 1 ≤ 19) (hb : P.pp < 2 ^ 62) (e1 : ρ "deed" = some (.int deed)) (h2 : ¬ deed < 2) (h4 : deed < 4 → acc ≠ [])
    (hQ : ∀ ρ' P' M' D' G', Inv P' M' D' G' (step + 1) → LE ρ' G' step → P'.pp ≤ P.pp + 25 → Q .next ρ' (Wd P' M' D')) :
    evSs C [.ite (.cmp .eq (.var "deed") (.int 2)) br_shrink
        [.ite (.cmp .eq (.var "deed") (.int 3)) br_pop
          [.ite (.cmp .lt (.var "deed") (.int 6)) br_choice
            [.ite (.cmp .lt (.var "deed") (.int 8)) br_var
              [.ite (.cmp .lt (.var "deed") (.int 11)) br_bind
                [.ite (.all [(.cmp .lt (.var "deed") (.int 13)), (.cmp .ne (.var "chain") (.list []))]) br_write
                  [.ite (.cmp .ne (.var "choices") (.list [])) br_last []]]]]]]] ρ (Wd P M D) Q := by
  have nx : Nx P step Q := fun ρ' P' M' D' G' q1 q2 q3 => hQ ρ' P' M' D' G' q1 q2 (by lia)
  have hps : acc ≠ [] → G.ps ≠ [] := fun h hn => h (List.length_eq_zero_iff.mp (by rw [K.len, hn]; rfl))
  refine som e1 ?_
  by_cases c2 : deed = 2
  · exact ifT (tt c2) (deed_shrink (d := d + 2) hC I E hstep (by lia) (hps (h4 (by lia))) nx)
  refine ifF (ff c2) (som e1 ?_)
  by_cases c3 : deed = 3
  · exact ifT (tt c3) (deed_pop (d := d + 2) hC I E hstep (hps (h4 (by lia))) nx)
  refine ifF (ff c3) (som e1 ?_)
  by_cases c6 : deed < 6
  · exact ifT (tt c6) (deed_choice (d := d + 1) hC I E hstep (by lia) nx)
  refine ifF (ff c6) (som e1 ?_)
  by_cases c8 : deed < 8
  · exact ifT (tt c8) (deed_var (d := d + 1) hC I E hstep nx)
  refine ifF (ff c8) (som e1 ?_)
  by_cases c11 : deed < 11
  · exact ifT (tt c11) (deed_bind hC I E K hstep hb nx)
  refine ifF (ff c11) (som e1 ?_)
  have last : ∀ D', Grows D D' → evSs C [.ite (.cmp .ne (.var "choices") (.list [])) br_last []] ρ (Wd P M D') Q := fun D' g => by
    have g' := Grows.app D' [O.list []]
    have I6 := I.grows (g.trans g')
    refine som E.choices (cnil I6.hch (last_get ..) (fun hne => ?_) fun _ => hQ _ P M _ G (I6.up hstep) E (by lia))
    cases hc : G.chs with
    | nil => rw [hc] at hne; exact absurd rfl hne
    | cons c cs => exact deed_last hC I6 E hstep hb hc e1 hQ
  by_cases c13 : deed < 13
  · have g' := Grows.app D [O.list []]
    exact ifT (tt c13) (som K.c (cnil (g'.get K.dc) (last_get ..) (fun ha => deed_write hC (I.grows g') E (K.grows g') hstep (by lia) (hps ha) nx) fun _ => last _ g'))
  · exact ifF (ff c13) (last D (Grows.refl _))

theorem turn_ok {C : Calls} (hC : C = callD prog (d + 3)) {Q : Cs} {ρ : Env} (I : Inv P M D G step) (E : LE ρ G step) (hstep : step + 1 ≤ 19) (hb : P.pp < 2 ^ 61) (hQ : ∀ ρ' P' M' D' G', Inv P' M' D' G' (step + 1) → LE0 ρ' G' → P'.pp ≤ P.pp + 30 → Q .next ρ' (Wd P' M' D')) :
    evSs C lb_turn ρ (Wd P M D) Q := by
  have hs0 := I.s0
  have hnp := I.np
  have hlen := chOf_length I.view.chain
  refine som E.pool (useC hC (I.draw (by decide) (by decide) (by lia) fun deed P1 d0 d1 I1 p1 p2 => ?_))
  refine som E.state (useC hC (chain_ok I1.hS I1.view.chain.cp (by rw [hlen]; unfold big; lia) fun D1 acc g1 hD1 hL => ?_))
  have haccl : acc.length = G.ps.length := by rw [← hL.length, hlen]
  have g2 := Grows.app D1 [O.list ((G.ps.map fun q => (q.1 : Int)).map .int)]
  have I3 := I1.grows (g1.trans g2)
  refine som E.m (useC hC (environments_ok (D := D1) (I.view.chain.epath (stk := M.stack) (fun j v h => h)) (by rw [List.length_map]; unfold big; lia) ?_))
  obtain ⟨D2, hD2⟩ : ∃ D2, D2 = D1 ++ [O.list ((G.ps.map fun q => (q.1 : Int)).map .int)] := ⟨_, rfl⟩
  obtain ⟨ρ3, hρ3⟩ : ∃ ρ3, ρ3 = ((ρ.set "deed" (.int deed)).set "chain" (.loc (D.length + 19))).set "places" (.loc (D1.length + 19)) := ⟨_, rfl⟩
  have E3 : LE ρ3 G step := by rw [hρ3]; exact ⟨E.pool, E.m, E.state, E.cells, E.choices, E.made, E.step⟩
  have dd3 : ρ3 "deed" = some (.int deed) := by rw [hρ3]; rfl
  rw [← hD2] at g2 I3
  have K3 : CE ρ3 D2 G D.length D1.length acc := ⟨by rw [hρ3]; rfl, by rw [hρ3]; rfl, g2.get hD1, by rw [hD2, List.map_map]; exact last_get .., haccl, fun j c hc => let ⟨k, h1, h2⟩ := hL.get j c hc; ⟨k, h1, g2.get h2⟩⟩
  -- after the deed: the check
  have fin : ∀ ρ' P' M' D' G', Inv P' M' D' G' (step + 1) → LE ρ' G' step → P'.pp ≤ P1.pp + 25 → sq Q (fun ρ σ => evSs C [.ite (.not (.tru (.call "_law_same" [(.var "m"), (.var "state"), (.var "cells"), (.var "choices")]))) [.ret (.bool false)] []] ρ σ Q) .next ρ' (Wd P' M' D') := fun ρ' P' M' D' G' I' E' hp =>
    som E'.m (som E'.state (som E'.cells (som E'.choices (useC hC (I'.same fun D'' g => hQ ρ' P' M' D'' G' (I'.grows g) ⟨E'.pool, E'.m, E'.state, E'.cells, E'.choices, E'.made⟩ (by lia))))))
  have goal : evSs C (lb_turn.drop 3) ρ3 (Wd P1 M D2) Q := by
    refine som dd3 ?_
    by_cases c2 : deed < 2
    · exact ifT (tt c2) (deed_env hC I3 E3 hstep (by lia) dd3 fin)
    refine ifF (ff c2) (som dd3 ?_)
    by_cases c4 : deed < 4
    · have g' := Grows.app D2 [O.list []]
      exact ifT (tt c4) (som K3.c (cnil (g'.get K3.dc) (last_get ..) (fun ha => deed_rest hC (I3.grows g') E3 (K3.grows g') hstep (by lia) dd3 c2 (fun _ => ha) fin) fun _ => deed_env hC (I3.grows g') E3 hstep (by lia) dd3 fin))
    · exact ifF (ff c4) (deed_rest hC I3 E3 K3 hstep (by lia) dd3 c2 (fun h => absurd h c4) fin)
  rw [hρ3, hD2] at goal
  exact goal

end C187

namespace C187
open PySem

variable {P : Pre} {M : Mach} {D : Sto} {G : LG} {step : Int} {d : Nat}

noncomputable def symO : O := .inst "Symbols" [("texts", .loc 6), ("atom_numbers", .loc 7), ("functors", .loc 8), ("functor_numbers", .loc 9)]
structure Sy where
  a0 : O
  a1 : O
  a2 : O
  a3 : O
  a4 : O
  ts : List V
  es : List (Str × V)
  fs : List V
  ks : List (List Int × V)
noncomputable def Sy.st (A : Sy) : Sto := [A.a0, A.a1, A.a2, A.a3, A.a4, symO, .list A.ts, .dS A.es, .list A.fs, .dP A.ks]

theorem dS_ok {l : Nat} {es : List (Str × V)} {k : Str} {u v : V} {σ : Sto} {Q : Ct} (h : σ[l]? = some (.dS es)) (hv : (lk es k).getD u = v) (q : Q v σ) : dictW l [.str k, u] σ Q := by
  unfold dictW
  dsimp only
  rw [h]
  show Q ((lk es k).getD u) σ
  rw [hv]
  exact q
theorem dP_ok {l : Nat} {es : List (List Int × V)} {a b : Int} {u v : V} {σ : Sto} {Q : Ct} (h : σ[l]? = some (.dP es)) (hv : (lk es [a, b]).getD u = v) (q : Q v σ) : dictW l [.tup [.int a, .int b], u] σ Q := by
  unfold dictW
  dsimp only
  rw [h]
  show Q ((lk es [a, b]).getD u) σ
  rw [hv]
  exact q

theorem asg_get {C : Calls} {ρ : Env} {σ : Sto} {Q : Cs} {x : String} {e : X} {v : V} (h : ∀ K : Ct, K v σ → evE C e ρ σ K) (k : Q .next (ρ.set x v) σ) : evS C (.asg x e) ρ σ Q := h _ k

structure SyOk (A : Sy) (n : Nat) : Prop where
  ts : A.ts.length ≤ n
  es : A.es.length ≤ n
  fs : A.fs.length ≤ n
  ks : A.ks.length ≤ n
  ei : ∀ p ∈ A.es, p.2.isInt = true
  ki : ∀ p ∈ A.ks, p.2.isInt = true
/-- the first objects stay -/
noncomputable def Sy.same (A B : Sy) : Prop := B.a0 = A.a0 ∧ B.a1 = A.a1 ∧ B.a2 = A.a2 ∧ B.a3 = A.a3 ∧ B.a4 = A.a4
theorem Sy.same.trans {A B C : Sy} (h : A.same B) (k : B.same C) : A.same C := by
  obtain ⟨h1, h2, h3, h4, h5⟩ := h
  obtain ⟨k1, k2, k3, k4, k5⟩ := k
  exact ⟨k1.trans h1, k2.trans h2, k3.trans h3, k4.trans h4, k5.trans h5⟩

theorem isInt_of {v : V} (h : v.isInt = true) : ∃ i, v = .int i := by
  cases v <;> simp [V.isInt] at h
  exact ⟨_, rfl⟩
theorem lk_int {κ : Type} [DecidableEq κ] {es : List (κ × V)} (h : ∀ p ∈ es, p.2.isInt = true) (k : κ) (i : Int) : ∃ j, (lk es k).getD (.int i) = .int j := by
  unfold lk
  cases hf : es.find? (fun p => decide (p.1 = k)) with
  | none => exact ⟨i, rfl⟩
  | some p => exact isInt_of (h p (List.mem_of_find?_eq_some hf))
theorem sto_len {κ : Type} [DecidableEq κ] (es : List (κ × V)) (k : κ) (v : V) : (sto es k v).length ≤ es.length + 1 := by
  unfold sto
  split
  · simp
  · simp
theorem sto_int {κ : Type} [DecidableEq κ] {es : List (κ × V)} (h : ∀ p ∈ es, p.2.isInt = true) (k : κ) (i : Int) : ∀ p ∈ sto es k (.int i), p.2.isInt = true := by
  intro p hp
  unfold sto at hp
  split at hp
  · obtain ⟨q, hq, rfl⟩ := List.mem_map.mp hp
    split
    · rfl
    · exact h q hq
  · rcases List.mem_append.mp hp with hp | hp
    · exact h p hp
    · obtain rfl : p = (k, .int i) := by simpa using hp
      rfl

theorem SyOk.up {A : Sy} {n : Nat} (h : SyOk A n) : SyOk A (n + 1) := ⟨Nat.le_succ_of_le h.ts, Nat.le_succ_of_le h.es, Nat.le_succ_of_le h.fs, Nat.le_succ_of_le h.ks, h.ei, h.ki⟩

theorem atom_ok {A : Sy} {n : Nat} {s : Str} {Q : Ct} (h : SyOk A n) (hn : n < big) (hQ : ∀ B i, SyOk B (n + 1) → A.same B → Q (.int i) B.st) : callD prog (d + 1) "Symbols.atom" [.loc 5, .str s] A.st Q := by
  obtain ⟨j, hj⟩ := lk_int h.ei s (-1)
  refine callC rfl rfl rfl fun C hC => asg_get (v := .int j) (fun K k => dS_ok (l := 7) (es := A.es) (k := s) (u := .int (-1)) (σ := A.st) rfl hj k) ?_
  by_cases hj0 : 0 ≤ j
  · exact ifT (tt hj0) (hQ A j h.up ⟨rfl, rfl, rfl, rfl, rfl⟩)
  · exact ifF (ff hj0) ⟨Nat.lt_of_le_of_lt h.ts hn, Nat.lt_of_le_of_lt h.es hn, hQ { A with ts := A.ts ++ [.str s], es := sto A.es s (.int A.ts.length) } _ { h.up with ts := by rw [len_snoc]; exact Nat.succ_le_succ h.ts, es := Nat.le_trans (sto_len ..) (Nat.succ_le_succ h.es), ei := sto_int h.ei _ _ } ⟨rfl, rfl, rfl, rfl, rfl⟩⟩

theorem functor_ok {A : Sy} {n : Nat} {a b : Int} {Q : Ct} (h : SyOk A n) (hn : n < big) (hQ : ∀ B i, SyOk B (n + 1) → A.same B → Q (.int i) B.st) : callD prog (d + 1) "Symbols.functor" [.loc 5, .int a, .int b] A.st Q := by
  obtain ⟨j, hj⟩ := lk_int h.ki [a, b] (-1)
  refine callC rfl rfl rfl fun C hC => asg_get (v := .tup [.int a, .int b]) (fun K k => k) (asg_get (v := .int j) (fun K k => dP_ok (l := 9) (es := A.ks) (a := a) (b := b) (u := .int (-1)) (σ := A.st) rfl hj k) ?_)
  by_cases hj0 : 0 ≤ j
  · exact ifT (tt hj0) (hQ A j h.up ⟨rfl, rfl, rfl, rfl, rfl⟩)
  · exact ifF (ff hj0) ⟨Nat.lt_of_le_of_lt h.fs hn, Nat.lt_of_le_of_lt h.ks hn, hQ { A with fs := A.fs ++ [.tup [.int a, .int b]], ks := sto A.ks [a, b] (.int A.fs.length) } _ { h.up with fs := by rw [len_snoc]; exact Nat.succ_le_succ h.fs, ks := Nat.le_trans (sto_len ..) (Nat.succ_le_succ h.ks), ki := sto_int h.ki _ _ } ⟨rfl, rfl, rfl, rfl, rfl⟩⟩

theorem func_ok {A : Sy} {n : Nat} {s : Str} {b : Int} {Q : Ct} (h : SyOk A n) (hn : n + 1 < big) (hQ : ∀ B i, SyOk B (n + 2) → A.same B → Q (.int i) B.st) : callD prog (d + 2) "Symbols.func" [.loc 5, .str s, .int b] A.st Q :=
  callC rfl rfl rfl fun C hC => useC hC (atom_ok h (Nat.lt_of_succ_lt hn) fun B i hB e1 => useC hC (functor_ok hB hn fun B' j hB' e2 => hQ B' j hB' (e1.trans e2)))

end C187

namespace C187
open PySem

variable {P : Pre} {M : Mach} {D : Sto} {G : LG} {step : Int} {d : Nat}

noncomputable def namesA : List String := ["[]", ".", "{}", "-", "+", "*", "/", ",", "|", ";", "->", "\\+", ":-", "?-", "-->", "!", "true", "fail", "false", "call", "=", "^", "error", "", "end_of_file", "system", "$VAR", "catch", "throw"]
noncomputable def namesF : List (String × Int) := [(".", 2), (",", 2), (";", 2), ("->", 2), ("\\+", 1), (":-", 2), (":-", 1), ("?-", 1), ("-->", 2), ("{}", 1), ("=", 2), ("^", 2), ("-", 1), ("-", 2), ("+", 2), ("/", 2), ("error", 2), ("$VAR", 1), ("catch", 3), ("throw", 1), ("!", 0), ("true", 0), ("fail", 0), ("false", 0), ("call", 1), ("call", 2), ("call", 3), ("call", 4), ("call", 5), ("call", 6), ("call", 7), ("call", 8)]
theorem body_A : b_fixed_atoms.body = [.ret (.tup (namesA.map .str))] := rfl
theorem body_F : b_fixed_functors.body = [.ret (.tup (namesF.map fun p => .tup [.str p.1, .int p.2]))] := rfl

theorem ev_strs {C : Calls} {ρ : Env} {σ : Sto} : ∀ (l : List String) (Q : List V → Sto → Prop), Q (l.map fun s => .str (Str.ofString s)) σ → evEs C (l.map .str) ρ σ Q
  | [], Q, h => h
  | s :: l, Q, h => ev_strs l (fun vs σ => Q (.str (Str.ofString s) :: vs) σ) h
theorem ev_prs {C : Calls} {ρ : Env} {σ : Sto} : ∀ (l : List (String × Int)) (Q : List V → Sto → Prop), Q (l.map fun p => .tup [.str (Str.ofString p.1), .int p.2]) σ → evEs C (l.map fun p => .tup [.str p.1, .int p.2]) ρ σ Q
  | [], Q, h => h
  | s :: l, Q, h => ev_prs l (fun vs σ => Q (.tup [.str (Str.ofString s.1), .int s.2] :: vs) σ) h
theorem ret_tup {C : Calls} {ρ : Env} {σ : Sto} {Q : Ct} {l : List X} (h : evEs C l ρ σ fun vs σ => Q (.tup vs) σ) : evSs C [.ret (.tup l)] ρ σ (retQ Q) := h
theorem atoms_ok {σ : Sto} {Q : Ct} (hQ : Q (.tup (namesA.map fun s => .str (Str.ofString s))) σ) : callD prog (d + 1) "fixed_atoms" [] σ Q :=
  callC (fn := b_fixed_atoms) rfl rfl rfl fun C hC => body_A ▸ ret_tup (ev_strs namesA _ hQ)
theorem functors_ok {σ : Sto} {Q : Ct} (hQ : Q (.tup (namesF.map fun p => .tup [.str (Str.ofString p.1), .int p.2])) σ) : callD prog (d + 1) "fixed_functors" [] σ Q :=
  callC (fn := b_fixed_functors) rfl rfl rfl fun C hC => body_F ▸ ret_tup (ev_prs namesF _ hQ)

noncomputable def lb_atoms : List S := [.expr (.meth (.var "self") "atom" [(.var "text")])]
noncomputable def lb_functors : List S := [.expr (.meth (.var "self") "func" [(.item (.var "row") (.int 0)), (.item (.var "row") (.int 1))])]

theorem atoms_loop {C : Calls} (hC : C = callD prog (d + 2)) {Q : Cs} : ∀ (ss : List String) (A : Sy) (n : Nat) (ρ : Env), SyOk A n → n + ss.length < big → ρ "self" = some (.loc 5) → (∀ ρ' B, ρ' "self" = some (.loc 5) → SyOk B (n + ss.length) → A.same B → Q .next ρ' B.st) →
    forV "text" (evSs C lb_atoms) (ss.map fun s => .str (Str.ofString s)) ρ A.st Q
  | [], A, n, ρ, h, hn, e, hQ => hQ ρ A e h ⟨rfl, rfl, rfl, rfl, rfl⟩
  | s :: ss, A, n, ρ, h, hn, e, hQ => by
    have e' : n + (s :: ss).length = n + 1 + ss.length := by rw [List.length_cons, Nat.add_comm ss.length 1, Nat.add_assoc]
    rw [e'] at hn hQ
    exact som e (useC hC (atom_ok h (Nat.lt_of_le_of_lt (Nat.le_trans (Nat.le_succ n) (Nat.le_add_right _ _)) hn) fun B i hB e1 => atoms_loop hC ss B (n + 1) (ρ.set "text" (.str (Str.ofString s))) hB hn e fun ρ' B' q1 q2 q3 => hQ ρ' B' q1 q2 (e1.trans q3)))
theorem functors_loop {C : Calls} (hC : C = callD prog (d + 2)) {Q : Cs} : ∀ (ss : List (String × Int)) (A : Sy) (n : Nat) (ρ : Env), SyOk A n → n + 2 * ss.length < big → ρ "self" = some (.loc 5) → (∀ ρ' B, ρ' "self" = some (.loc 5) → A.same B → Q .next ρ' B.st) →
    forV "row" (evSs C lb_functors) (ss.map fun p => .tup [.str (Str.ofString p.1), .int p.2]) ρ A.st Q
  | [], A, n, ρ, h, hn, e, hQ => hQ ρ A e ⟨rfl, rfl, rfl, rfl, rfl⟩
  | s :: ss, A, n, ρ, h, hn, e, hQ => by
    have e' : n + 2 * (s :: ss).length = n + 2 + 2 * ss.length := by rw [List.length_cons, Nat.mul_succ, Nat.add_comm (2 * ss.length) 2, Nat.add_assoc]
    rw [e'] at hn
    exact som e (useC hC (func_ok h (Nat.lt_of_le_of_lt (Nat.le_trans (Nat.le_succ (n + 1)) (Nat.le_add_right _ _)) hn) fun B i hB e1 => functors_loop hC ss B (n + 2) (ρ.set "row" (.tup [.str (Str.ofString s.1), .int s.2])) hB hn e fun ρ' B' q1 q3 => hQ ρ' B' q1 (e1.trans q3)))

theorem sym_init {a0 a1 a2 a3 a4 : O} {Q : Ct} (hQ : ∀ B : Sy, (⟨a0, a1, a2, a3, a4, [], [], [], []⟩ : Sy).same B → Q .none B.st) : callD prog (d + 3) "Symbols.__init__" [.loc 5] [a0, a1, a2, a3, a4, .inst "Symbols" []] Q := by
  refine callC (fn := b_Symbols_init) rfl rfl rfl fun C hC => useC hC (atoms_ok ?_)
  refine atoms_loop hC namesA ⟨a0, a1, a2, a3, a4, [], [], [], []⟩ 0 (Env.ofList (b_Symbols_init.params.zip [.loc 5])) ⟨Nat.le_refl _, Nat.le_refl _, Nat.le_refl _, Nat.le_refl _, (fun p hp => nomatch hp), (fun p hp => nomatch hp)⟩ (by decide) rfl fun ρ1 B s1 hB e1 => useC hC (functors_ok ?_)
  exact functors_loop hC namesF B _ ρ1 hB (by decide) s1 fun ρ2 B2 s2 e2 => hQ B2 (e1.trans e2)

end C187

namespace C187
open PySem

variable {P : Pre} {M : Mach} {D : Sto} {G : LG} {step : Int} {d : Nat}

theorem callF {f : String} {fn : Fn} {args full : List V} {d : Nat} {σ : Sto} {Q : Ct} (hp : prog f = some fn) (hl : args.length ≤ fn.params.length) (hf : fn.full args = full) (hl2 : full.length = fn.params.length)
    (h : ∀ C, C = callD prog d → evSs C fn.body (Env.ofList (fn.params.zip full)) σ (retQ Q)) : callD prog (d + 1) f args σ Q := by
  subst hf
  show (match prog f with | some fn => args.length ≤ fn.params.length ∧ _ | none => False)
  rw [hp]
  exact ⟨hl, hl2, h _ rfl⟩

theorem set_attr {l : Nat} {cn f : String} {fs : List (String × V)} {x : V} {σ : Sto} {Q : Sto → Prop} (h : σ[l]? = some (.inst cn fs)) (hf : isFld cn f = true) (hl : fs.length ≤ 100) (hQ : Q (σ.set l (.inst cn (setF f x fs)))) : setAttrW (.loc l) f x σ Q := by
  unfold setAttrW
  dsimp only
  rw [h]
  exact guard_mk (by rw [hf, decide_eq_true hl]; rfl) hQ

/-- the store while the areas are made -/
noncomputable def Bt (P : Pre) (fs : List (String × V)) (T : Sto) : Sto :=
  P.o0 :: P.o1 :: P.o2 :: .list P.scr :: .list [.int P.pa, .int P.pp, .loc 3] :: P.o5 :: P.o6 :: P.o7 :: P.o8 :: P.o9 :: .list codeV :: .inst "Areas" fs :: T
/-- the same, the store's fields apart -/
noncomputable def Bs (P : Pre) (fs gs : List (String × V)) (T : Sto) : Sto := Bt P fs (.inst "Store" gs :: T)

theorem cells_init {fs : List (String × V)} {Q : Ct} (hQ : Q .none (Bs P fs [("symbols", .loc 5), ("max_heap", .int 100000), ("heap", .loc 13), ("stack", .loc 14), ("trail", .loc 15), ("hb", .int 0), ("bb", .int 0)] [.list [], .list [], .list []])) :
    callD prog (d + 1) "Cells.__init__" [.loc 12, .loc 5, .int 100000] (Bs P fs [] []) Q :=
  callF (fn := b_Cells_init) (full := [.loc 12, .loc 5, .int 100000]) rfl (by decide) rfl rfl fun C hC => hQ

noncomputable def M0 : Mach := { cp := 0, e := -1, b := -1, hb := 0, bb := 0, heap := [], stack := [], trail := [], x := [void] }
noncomputable def fs5 : List (String × V) := [("symbols", .loc 5), ("code", .loc 10), ("max_heap", .int 100000), ("occurs", .bool true), ("max_bits", .int 4096)]

theorem setF_new {f : String} {v : V} : ∀ {fs : List (String × V)}, (getF f fs).isNone = true → setF f v fs = fs ++ [(f, v)]
  | [], _ => rfl
  | (g, u) :: r, h => by
    unfold getF at h
    unfold setF
    split at h
    · cases h
    · rename_i hg
      rw [if_neg hg, setF_new h]; rfl
theorem st_c {C : Calls} {W : List S → Env → Sto → Cs → Prop} (hW : W = evSs C) {ρ : Env} {Q : Cs} {fs : List (String × V)} {T : Sto} {f : String} {e : X} {rest : List S} (v : V) (hs : ρ "self" = some (.loc 11)) (hf : isFld "Areas" f = true) (hl : fs.length ≤ 100) (hn : (getF f fs).isNone = true) (he : ∀ σ (K : Ct), K v σ → evE C e ρ σ K)
    (k : W rest ρ (Bt P (fs ++ [(f, v)]) T) Q) : W (.asgAttr (.var "self") f e :: rest) ρ (Bt P fs T) Q := by
  subst hW
  refine he _ _ (som hs (set_attr (fs := fs) (cn := "Areas") rfl hf hl ?_))
  rw [setF_new hn]
  exact k
theorem st_n {C : Calls} {W : List S → Env → Sto → Cs → Prop} (hW : W = evSs C) {ρ : Env} {Q : Cs} {fs : List (String × V)} {T : Sto} {f : String} {e : X} {rest : List S} {o : O} (l : Nat) (hv : T.length + 12 = l) (hs : ρ "self" = some (.loc 11)) (hf : isFld "Areas" f = true) (hl : fs.length ≤ 100) (hn : (getF f fs).isNone = true) (he : ∀ σ (K : Ct), K (.loc σ.length) (σ ++ [o]) → evE C e ρ σ K)
    (k : W rest ρ (Bt P (fs ++ [(f, .loc l)]) (T ++ [o])) Q) : W (.asgAttr (.var "self") f e :: rest) ρ (Bt P fs T) Q := by
  subst hW
  refine he _ _ (som hs (set_attr (fs := fs) (cn := "Areas") rfl hf hl ?_))
  rw [show (Bt P fs T).length = l from hv, setF_new hn]
  exact k
theorem get_attr {l : Nat} {cn f : String} {fs : List (String × V)} {v : V} {σ : Sto} {Q : Ct} (h : σ[l]? = some (.inst cn fs)) (hf : isFld cn f = true) (hv : getF f fs = some v) (hQ : Q v σ) : attrW (.loc l) f σ Q := by
  unfold attrW
  dsimp only
  rw [h]
  exact guard_mk hf (by rw [hv]; exact hQ)
noncomputable def T6 : Sto := [.inst "Store" [("symbols", .loc 5), ("max_heap", .int 100000), ("heap", .loc 13), ("stack", .loc 14), ("trail", .loc 15), ("hb", .int 0), ("bb", .int 0)], .list [], .list [], .list []]
theorem cls_store {C : Calls} {args : List V} {σ : Sto} {Q : Ct} (h : C "Cells.__init__" (.loc σ.length :: args) (σ ++ [.inst "Store" []]) fun v σ' => match v with
    | .none => Q (.loc σ.length) σ'
    | _ => False) : callW C "Store" args σ Q := h
theorem st_s {C : Calls} {W : List S → Env → Sto → Cs → Prop} (hW : W = evSs C) (hC : C = callD prog (d + 1)) {ρ : Env} {Q : Cs} {fs : List (String × V)} {rest : List S} (hs : ρ "self" = some (.loc 11)) (h1 : getF "symbols" fs = some (.loc 5)) (h2 : getF "max_heap" fs = some (.int 100000)) (hl : fs.length ≤ 100) (hn : (getF "store" fs).isNone = true)
    (k : W rest ρ (Bt P (fs ++ [("store", .loc 12)]) T6) Q) : W (.asgAttr (.var "self") "store" (.call "Store" [(.attr (.var "self") "symbols"), (.attr (.var "self") "max_heap")]) :: rest) ρ (Bt P fs []) Q := by
  subst hW
  refine som hs (get_attr (fs := fs) (cn := "Areas") rfl rfl h1 (som hs (get_attr (fs := fs) (cn := "Areas") rfl rfl h2 (cls_store (useC hC (cells_init (fs := fs) (som hs (set_attr (fs := fs) (cn := "Areas") rfl rfl hl ?_))))))))
  rw [show (Bt P fs []).length = 12 from rfl, setF_new hn]
  exact k

theorem reset_walk {C : Calls} {W : List S → Env → Sto → Cs → Prop} (hW : W = evSs C) (hC : C = callD prog (d + 1)) {ρ : Env} {Q : Ct} (hs : ρ "self" = some (.loc 11)) (hQ : Q .none (Wd P M0 [])) : W b_Areas_reset.body ρ (Bt P fs5 []) (retQ Q) :=
    st_s hW hC hs rfl rfl (by decide +kernel) (by decide +kernel) <|
    st_n hW 16 rfl hs (by decide +kernel) (by decide +kernel) (by decide +kernel) (fun σ K k => k) <|
    st_c hW (.int 0) hs (by decide +kernel) (by decide +kernel) (by decide +kernel) (fun σ K k => k) <|
    st_c hW (.int 0) hs (by decide +kernel) (by decide +kernel) (by decide +kernel) (fun σ K k => k) <|
    st_c hW (.int (-1)) hs (by decide +kernel) (by decide +kernel) (by decide +kernel) (fun σ K k => k) <|
    st_c hW (.int (-1)) hs (by decide +kernel) (by decide +kernel) (by decide +kernel) (fun σ K k => k) <|
    st_c hW (.int (-1)) hs (by decide +kernel) (by decide +kernel) (by decide +kernel) (fun σ K k => k) <|
    st_c hW (.str (Str.ofString "read")) hs (by decide +kernel) (by decide +kernel) (by decide +kernel) (fun σ K k => k) <|
    st_c hW (.int 0) hs (by decide +kernel) (by decide +kernel) (by decide +kernel) (fun σ K k => k) <|
    st_c hW (.tup [.int 5, .int 0]) hs (by decide +kernel) (by decide +kernel) (by decide +kernel) (fun σ K k => k) <|
    st_n hW 17 rfl hs (by decide +kernel) (by decide +kernel) (by decide +kernel) (fun σ K k => k) <|
    st_n hW 18 rfl hs (by decide +kernel) (by decide +kernel) (by decide +kernel) (fun σ K k => k) <|
    st_c hW (.bool false) hs (by decide +kernel) (by decide +kernel) (by decide +kernel) (fun σ K k => k) (by rw [hW]; exact hQ)

theorem reset_ok {Q : Ct} (hQ : Q .none (Wd P M0 [])) : callD prog (d + 2) "Areas.reset" [.loc 11] (Bt P fs5 []) Q :=
  callC rfl rfl rfl fun C hC => reset_walk (W := evSs C) rfl hC rfl hQ

theorem areas_init {Q : Ct} (hQ : Q .none (Wd P M0 [])) : callD prog (d + 3) "Areas.__init__" [.loc 11, .loc 5, .loc 10] (Bt P [] []) Q :=
  callF (fn := b_Areas_init) (full := [.loc 11, .loc 5, .loc 10, .int 100000, .bool true, .int 4096]) rfl (by decide) rfl rfl fun C hC => useC hC (reset_ok hQ)

/-- the law's data at the start -/
noncomputable def D0 : Sto := [.dI [], .dI [], .list [.int (-1), .int 0, .loc 19, .loc 20], .dI [], .list []]
noncomputable def G0 : LG := { S := { cur := -1, live := 0, frames := [], vals := [], ls := 2, lf := 0, lv := 1 }, cl := [], lc := 3, lch := 4, chs := [], ps := [], ts := [], made := 0 }
theorem Inv.zero (hp : PoolOk P) : Inv P M0 D0 G0 0 := by
  refine { has := fun p hp => ?_, nod := (by decide), pool := hp, st := ⟨fun k hk => (by cases hk), List.nodup_nil, fun k hk => (by cases hk), List.Pairwise.nil, fun r m hm => (by cases hm), (by decide)⟩, sv := fun c hc => (by cases hc), view := ⟨⟨(by decide), (by decide)⟩, fun r m x hx => (by cases hx)⟩, cp := rfl, hl := rfl, tr := rfl, trok := fun a ha => (by cases ha), chs := rfl, lay := fun c hc => (by cases hc), b0 := fun _ => ⟨rfl, rfl, rfl⟩, b1 := fun c hc => (by cases hc), top := fun q hq => (by cases hq), clk := fun k hk => (by cases hk), s0 := (by decide), m0 := (by decide), nf := (by decide), nv := (by decide), ncl := (by decide), nc := (by decide), nt := (by decide), nst := (by decide), x := (by decide), rw := fun c hc => (by cases hc) }
  have : G0.objs = [(3, .dI []), (4, .list []), (2, .list [.int (-1), .int 0, .loc 19, .loc 20]), (0, .dI []), (1, .dI [])] := rfl
  rw [this] at hp
  simp only [List.mem_cons, List.not_mem_nil, or_false] at hp
  rcases hp with rfl | rfl | rfl | rfl | rfl <;> rfl

theorem law_loop {C : Calls} (hC : C = callD prog (d + 3)) {Q : Cs} (hQ : ∀ ρ σ, Q .next ρ σ) : ∀ (n i : Nat) (P : Pre) (M : Mach) (D : Sto) (G : LG) (ρ : Env), Inv P M D G i → LE0 ρ G → i + n ≤ 18 → P.pp + 30 * n < 2 ^ 61 →
    forV "step" (evSs C lb_turn) ((List.range' i n).map fun (i : Nat) => V.int (0 + (i : Int))) ρ (Wd P M D) Q
  | 0, i, P, M, D, G, ρ, I, E, h1, h2 => hQ ρ _
  | n + 1, i, P, M, D, G, ρ, I, E, h1, h2 => by
    have e : 0 + (i : Int) = i := Int.zero_add _
    rw [← e] at I
    exact turn_ok hC I (E.at (0 + (i : Int))) (by lia) (by lia) fun ρ' P' M' D' G' I' E' hp => law_loop hC hQ n (i + 1) P' M' D' G' ρ' (by rw [e] at I'; exact I') E' (by lia) (by lia)

/-- THE LAW behind its first line: it answers True -/
theorem law_tail {C : Calls} (hC : C = callD prog (d + 3)) {Q : Cs} {ρ : Env} {o1 o2 : O} {zs : List Int} (hz : zs ≠ []) (hs : ρ "pool" = some (.loc 4)) (hQ : ∀ ρ σ, Q (.ret (.bool true)) ρ σ) : evSs C (b_law.body.drop 1) ρ [.pad, o1, o2, .list (zs.map .int), .list [.int 0, .int 0, .loc 3]] Q := by
  refine useC hC (sym_init fun B hB => ?_)
  obtain ⟨c0, c1, c2, c3, c4, ts, es, fs, ks⟩ := B
  obtain ⟨h0, h1, h2, h3, h4⟩ := hB
  obtain rfl : c0 = .pad := h0
  obtain rfl : c1 = o1 := h1
  obtain rfl : c2 = o2 := h2
  obtain rfl : c3 = .list (zs.map .int) := h3
  obtain rfl : c4 = .list [.int 0, .int 0, .loc 3] := h4
  obtain ⟨P, hP⟩ : ∃ P : Pre, P = { o0 := .pad, o1 := c1, o2 := c2, scr := zs.map .int, pa := 0, pp := 0, o5 := symO, o6 := .list ts, o7 := .dS es, o8 := .list fs, o9 := .dP ks } := ⟨_, rfl⟩
  have hp0 : P.pp = 0 := by rw [hP]
  have hpool : PoolOk P := ⟨by rw [hP]; exact Int.le_refl _, by rw [hP]; exact Int.le_refl _, zs, by rw [hP], hz⟩
  have E : LE0 (((((ρ.set "m" (.loc 11)).set "state" (.loc 21)).set "cells" (.loc 22)).set "choices" (.loc 23)).set "made" (.int 0)) G0 := ⟨hs, rfl, rfl, rfl, rfl, rfl⟩
  have goal : callD prog (d + 3) "Areas.__init__" [.loc 11, .loc 5, .loc 10] (Bt P [] []) fun v σ => match v with
      | .none => evSs C (b_law.body.drop 2) (ρ.set "m" (.loc 11)) σ Q
      | _ => False := by
    refine areas_init ?_
    refine som hs (useC hC ((Inv.zero hpool).draw (D := D0) (by decide) (by decide) (by lia) fun k P1 k0 k1 I1 p1 p2 => ?_))
    obtain ⟨n, rfl⟩ := Int.eq_ofNat_of_zero_le k0
    exact forW_w (x := "step") (w := 1 + n) (B := evSs C lb_turn) (by unfold big; lia) (law_loop hC (fun ρ' σ' => hQ _ _) (1 + n) 0 P1 M0 D0 G0 _ I1 E (by lia) (by lia))
  rw [hP] at goal
  exact useC hC goal

end C187

namespace C187
open PySem PySem.W PyProof.Rows

noncomputable def clsL : List (String × Addr) := [("Symbols", 154), ("Store", 374), ("Areas", 534)]
noncomputable def cAddr (f : String) : Option Addr := look clsL f
noncomputable def fAddr (f : String) : Option Addr := look [("fixed_atoms", 60), ("fixed_functors", 67), ("slot_index", 545), ("write", 552), ("_law_draw", 559), ("_law_copied", 566), ("_law_chain", 573), ("_law_end", 580), ("_law_same", 587), ("Symbols.__init__", 81), ("Symbols.atom", 88), ("Symbols.functor", 102), ("Symbols.func", 109), ("Cells.__init__", 195), ("Cells.push", 202), ("Cells.new_var", 209), ("Cells.trim", 223), ("Cells.deref", 230), ("Cells.bind", 244), ("Cells.bind_pair", 251), ("Cells.mark", 265), ("Cells.undo_to", 272), ("Cells.stack_put", 279), ("Areas.__init__", 391), ("Areas.reset", 398), ("Areas.set_x", 405), ("Areas.top", 447), ("Areas.push_environment", 454), ("Areas.pop_environment", 461), ("Areas.in_chain", 468), ("Areas.set_choice", 475), ("Areas.push_choice", 482), ("Areas.set_alternative", 489), ("Areas.choice_part", 496), ("Areas.restore_choice", 503), ("Areas.pop_choice", 510), ("Areas.cut_back", 517), ("Areas.choices", 524), ("Areas.environments", 531)] f
noncomputable def cxK (K : Params → Frag) (w : World) : Cx := ⟨PySem.Challenge.rw_no0187_01.row.prog, w, K w.params, cAddr, fAddr, []⟩

theorem len0 {β : Type} {l : List β} (h : l.length = 0) : l = [] := List.eq_nil_of_length_eq_zero h
theorem len1 {β : Type} {l : List β} {n : Nat} (h : l.length = n + 1) : ∃ a r, l = a :: r ∧ r.length = n := by
  cases l with
  | nil => cases h
  | cons a r => exact ⟨a, r, rfl, Nat.succ.inj h⟩

theorem lst0 {β : Type} {P : List β → Prop} {l : List β} (h : l.length = 0) (k : P []) : P l := by
  have e := len0 h
  subst e
  exact k
theorem lst1 {β : Type} {P : List β → Prop} {l : List β} (h : l.length = 1) (k : ∀ a, P [a]) : P l := by
  obtain ⟨a, r, rfl, hr⟩ := len1 h
  exact lst0 (P := fun r => P (a :: r)) hr (k a)
theorem lst2 {β : Type} {P : List β → Prop} {l : List β} (h : l.length = 2) (k : ∀ a b, P [a, b]) : P l := by
  obtain ⟨a, r, rfl, hr⟩ := len1 h
  exact lst1 (P := fun r => P (a :: r)) hr (k a)
theorem lst3 {β : Type} {P : List β → Prop} {l : List β} (h : l.length = 3) (k : ∀ a b c, P [a, b, c]) : P l := by
  obtain ⟨a, r, rfl, hr⟩ := len1 h
  exact lst2 (P := fun r => P (a :: r)) hr (k a)
theorem lst4 {β : Type} {P : List β → Prop} {l : List β} (h : l.length = 4) (k : ∀ a b c d, P [a, b, c, d]) : P l := by
  obtain ⟨a, r, rfl, hr⟩ := len1 h
  exact lst3 (P := fun r => P (a :: r)) hr (k a)

/-- a function without defaults -/
theorem FnOk.nod {c : Cx} {f : String} {fn : Fn} {K : Frag} (fa : Addr) {oc : Value} {od : Option Addr} {osl : Array (Option Value)} {name qual : Str} {params : Arguments} {body : List Stmt} {scope : Scope} {dV kV doc pm : Value} {an : Option Addr} {cdv ct : Value} (hK : c.K = K) (e1 : c.fn f = some fa)
    (lk : K.lookup fa = some ⟨oc, od, .func (fnOf name qual params body scope dV kV doc pm an cdv ct), osl⟩) (cd : codeIn K cdv qual = true)
    (ck : (ckSs scope.names fn.body body && scope.kind == .function && !scope.isCoroutine && !scope.isGenerator && scope.names.all (fun x => x.2 != .cell) && fn.params.all (fun p => scope.names.lookup (Str.ofString p) == some .local) && decide fn.params.Nodup) = true) (hd : fn.dflts = [])
    (bi : ∀ vals : List Value, vals.length = fn.params.length → ∀ S, peek K S (bindArgs (fnOf name qual params body scope dV kV doc pm an cdv ct) ⟨vals, []⟩) = some ((fn.params.map Str.ofString).zip vals)) : FnOk c f fn := by
  obtain ⟨ck, c7⟩ := and2 ck
  obtain ⟨ck, c6⟩ := and2 ck
  obtain ⟨ck, c5⟩ := and2 ck
  obtain ⟨c1, c2, c3, c4⟩ := and4 ck
  refine FnOk.of (K := K) fa hK e1 lk cd c1 (by simpa using c2) (by simpa using c3) (by simpa using c4) (fun x hx => bne_iff_ne.mp (List.all_eq_true.mp c5 x hx)) (fun p hp => beq_iff_eq.mp (List.all_eq_true.mp c6 p hp)) (fun vals h1 h2 => ?_) (of_decide_eq_true c7)
  rw [hd, List.drop_nil] at h2 ⊢
  exact ⟨[], fun S => by rw [List.append_nil]; exact bi vals h2 S, fun _ _ _ _ => trivial⟩

noncomputable def FldOk (K : Frag) (C : Addr) (f : String) : Prop := plainGet K C (Str.ofString f) = true ∧ hasDictIn K C = true ∧ (∃ attr, findIn K (.ref C) (Str.ofString f) = some attr ∧ noGet K attr = true) ∧ findIn K (.ref C) "__setattr__" = some (some (.builtin "object.__setattr__")) ∧ plainOver K C = true ∧ takerIn K C (Str.ofString f) = some none
theorem FldOk.of {K : Frag} {C : Addr} {f : String} {attr : Option Value} (h2 : hasDictIn K C = true) (h5 : findIn K (.ref C) "__setattr__" = some (some (.builtin "object.__setattr__"))) (h6 : plainOver K C = true) (h1 : plainGet K C (Str.ofString f) = true) (h3 : findIn K (.ref C) (Str.ofString f) = some attr) (h4 : noGet K attr = true) (h7 : takerIn K C (Str.ofString f) = some none) : FldOk K C f := ⟨h1, h2, ⟨attr, h3, h4⟩, h5, h6, h7⟩
noncomputable def GlOk (K : Frag) (x : String) (v : V) : Prop := ∃ u, nsIn K mainGlobals (Str.ofString x) = some (some u) ∧ ∀ α n h, K.In h → RepV α n h v u
theorem GlOk.int {K : Frag} {x : String} {i : Int} {t : Tok} (h1 : nsIn K mainGlobals (Str.ofString x) = some (some (.int i t))) : GlOk K x (.int i) := ⟨_, h1, fun α n h _ => ⟨t, rfl⟩⟩
theorem GlOk.str {K : Frag} {x i : String} {t : Tok} (h1 : nsIn K mainGlobals (Str.ofString x) = some (some (.str (Str.ofString i) t))) : GlOk K x (.str (Str.ofString i)) := ⟨_, h1, fun α n h _ => ⟨strOk_ofString i, t, rfl⟩⟩
theorem GlOk.pair {K : Frag} {x : String} {a : Addr} {od : Option Addr} {k : Nat} {sl : Array (Option Value)} {i j : Int} {t t' : Tok} (h1 : nsIn K mainGlobals (Str.ofString x) = some (some (.ref a))) (h2 : K.lookup a = some ⟨.type "tuple", od, .seq #[.int i t, .int j t'] k, sl⟩) : GlOk K x (.tup [.int i, .int j]) :=
  ⟨_, h1, fun α n h X => ⟨a, _, _, k, rfl, X _ _ h2, rfl, rfl, (by decide : 2 ≤ big), ⟨t, rfl⟩, ⟨t', rfl⟩, trivial⟩⟩
noncomputable def FunOk (K : Frag) (f : String) : Prop := ∃ a, fAddr f = some a ∧ nsIn K mainGlobals (Str.ofString f) = some (some (.ref a)) ∧ keepIn K (.ref a) = true
noncomputable def ClsOk (K : Frag) (f : String) : Prop := ∃ C fI g, cAddr f = some C ∧ nsIn K mainGlobals (Str.ofString f) = some (some (.ref C)) ∧ keepIn K (.ref C) = true ∧ makesIn K C = true ∧
    methOf f "__init__" = some g ∧ fAddr g = some fI ∧ findIn K (.ref C) "__init__" = some (some (.ref fI)) ∧ isFn K (.ref fI) = true
noncomputable def MethOk (K : Frag) (C : Addr) (g f : String) : Prop := ∃ a, fAddr g = some a ∧ plainGet K C (Str.ofString f) = true ∧ findIn K (.ref C) (Str.ofString f) = some (some (.ref a)) ∧ isFn K (.ref a) = true ∧ keepIn K (.ref a) = true

theorem meth_in {L : List String} {f o g : String} {P : String → Prop} (h : (if f ∈ L then some o else none) = some g) (m : f ∈ L → P o) : P g := by
  obtain ⟨h', e⟩ := if_some h
  clear h
  cases e
  exact m h'
theorem kg_of {K : Params → Frag} {w : World}
    (f1 : ∀ f ∈ ["texts", "atom_numbers", "functors", "functor_numbers"], FldOk (K w.params) 154 f)
    (f2 : ∀ f ∈ ["symbols", "max_heap", "heap", "stack", "trail", "hb", "bb"], FldOk (K w.params) 374 f)
    (f3 : ∀ f ∈ ["symbols", "code", "max_heap", "occurs", "max_bits", "store", "x", "p", "cp", "e", "b", "b0", "mode", "s", "guard", "roots", "bags", "collect_wanted"], FldOk (K w.params) 534 f)
    (g : ∀ q ∈ globL, GlOk (K w.params) q.1 q.2)
    (n : ∀ f ∈ ["fixed_atoms", "fixed_functors", "slot_index", "write", "_law_draw", "_law_copied", "_law_chain", "_law_end", "_law_same"], FunOk (K w.params) f)
    (c1 : ClsOk (K w.params) "Symbols") (c2 : ClsOk (K w.params) "Store") (c3 : ClsOk (K w.params) "Areas")
    (m1 : ∀ f ∈ ["__init__", "atom", "functor", "func"], MethOk (K w.params) 154 ("Symbols." ++ f) f)
    (m2 : ∀ f ∈ ["__init__", "push", "new_var", "trim", "deref", "bind", "bind_pair", "mark", "undo_to", "stack_put"], MethOk (K w.params) 374 ("Cells." ++ f) f)
    (m3 : ∀ f ∈ ["__init__", "reset", "set_x", "top", "push_environment", "pop_environment", "in_chain", "set_choice", "push_choice", "set_alternative", "choice_part", "restore_choice", "pop_choice", "cut_back", "choices", "environments"], MethOk (K w.params) 534 ("Areas." ++ f) f)
    (b : ∀ f ∈ ["len", "range", "sorted", "list", "max", "min"], nsIn (K w.params) mainGlobals (Str.ofString f) = some none ∧ bootBuiltins (Str.ofString f) = some (bval f)) : KG (cxK K w) where
  get := fun cn C f hc hf => look_all (l := clsL) (P := fun cn C => ∀ f, isFld cn f = true → FldOk (K w.params) C f) (fc (fun f h => f1 f (of_decide_eq_true h)) (fc (fun f h => f2 f (of_decide_eq_true h)) (fc (fun f h => f3 f (of_decide_eq_true h)) f0))) hc f hf
  glob := fun x v h => look_all (P := GlOk (K w.params)) g h
  fns := fun f h => n f (of_decide_eq_true h)
  clss := fun f h => by
    rcases Bool.or_eq_true_iff.mp h with h | h
    · rcases Bool.or_eq_true_iff.mp h with h | h
      · obtain rfl := of_decide_eq_true h; exact c1
      · obtain rfl := of_decide_eq_true h; exact c2
    · obtain rfl := of_decide_eq_true h; exact c3
  meths := fun cn C f g hc hm => look_all (l := clsL) (P := fun cn C => ∀ f g, methOf cn f = some g → MethOk (K w.params) C g f) (fc (fun f g h => meth_in (P := fun g => MethOk (K w.params) 154 g f) h (m1 f)) (fc (fun f g h => meth_in (P := fun g => MethOk (K w.params) 374 g f) h (m2 f)) (fc (fun f g h => meth_in (P := fun g => MethOk (K w.params) 534 g f) h (m3 f)) f0))) hc f g hm
  blts := b

end C187
namespace C187
open PySem PySem.W PyProof.Rows

theorem ints_all2 {α : Nat → Addr} {n : Nat} {h : Heap} : ∀ {its : List Value} {zs : List Int}, IntsAre its zs → All2 (RepV α n h) (zs.map .int) its
  | _, _, .nil => trivial
  | _, _, .cons n t r => ⟨⟨t, rfl⟩, ints_all2 r⟩

theorem cells_of {names : List (Str × NameKind)} (h : names.all (fun x => x.2 != .cell || x.1 == Str.ofString "chain" || x.1 == Str.ofString "state") = true) : ∀ x, names.lookup x = some .cell → x = Str.ofString "chain" ∨ x = Str.ofString "state" := fun x hx => by
  have := List.all_eq_true.mp h _ (lookup_mem' hx)
  simpa using this

theorem law_entry {c : Cx} (Kg : KG c) (FO : ∀ f fn, prog f = some fn → FnOk c f fn) (hpin : c.pins = []) {h₀ : Heap} {name : Str} {scope : Scope} {fa sl : Addr} {cd : Value} {its : List Value} {zs : List Int} {m : Str → Option Value} {o1 o2 : Obj} {v1 v2 : Option Value} {qk : Flow → Shared → Prop} {ek : Value → Shared → Prop} {s : Shared} {rest : List Stmt}
    {p1 p2 p3 p4 p5 p6 p7 p8 p9 p10 p11 p12 : Pos} {k1 k2 k3 k4 : Tok} (G : Gd c h₀) (F : Fr h₀ h₀.objs.size s.heap m) (N : News h₀ h₀.objs.size s.heap [(h₀.objs.size + 1 + 1, o1), (h₀.objs.size + 1, o2)]) (d1 : o1.data = .cell v1) (d2 : o2.data = .cell v2)
    (hm : m (Str.ofString "script") = some (.ref sl)) (hL : h₀.IsList sl its.toArray) (hI : IntsAre its zs) (hz : zs.length ≤ 63)
    (hk : scope.kind = .function) (hcl : cellsFrom (h₀.objs.size + 1) scope.names [] = [(Str.ofString "chain", h₀.objs.size + 1 + 1), (Str.ofString "state", h₀.objs.size + 1)])
    (hcn : ∀ x, scope.names.lookup x = some .cell → x = Str.ofString "chain" ∨ x = Str.ofString "state") (hsc : scope.names.lookup (Str.ofString "script") = some .local)
    (ck : ckSs scope.names b_law.body (Stmt.Assign [Expr.Name (Str.ofString "pool") p1] (Expr.List [Expr.Constant (Const.int 0) k1 p2, Expr.Constant (Const.int 0) k2 p3, Expr.Subscript (Expr.BinOp (Expr.Name (Str.ofString "script") p4) Operator.Add (Expr.List [Expr.Constant (Const.int 0) k3 p5] p6) p7) (Expr.Slice none (some (Expr.Constant (Const.int 40) k4 p8)) none p9) p10] p11) p12 :: rest) = true)
    (hq : ∀ s', (∀ b o, h₀.get? b = some o → s'.heap.get? b = some o) → s'.os = s.os → s'.gens = s.gens → qk (.ret (.bool true)) s') :
    wpAny (model c.prog c.w) (callerA.deeper (envOfC name scope h₀.objs.size fa cd)) (execs (Stmt.Assign [Expr.Name (Str.ofString "pool") p1] (Expr.List [Expr.Constant (Const.int 0) k1 p2, Expr.Constant (Const.int 0) k2 p3, Expr.Subscript (Expr.BinOp (Expr.Name (Str.ofString "script") p4) Operator.Add (Expr.List [Expr.Constant (Const.int 0) k3 p5] p6) p7) (Expr.Slice none (some (Expr.Constant (Const.int 40) k4 p8)) none p9) p10] p11) p12 :: rest) (envOfC name scope h₀.objs.size fa cd)) qk ek s := by
  obtain ⟨n1, n1', n1''⟩ := N (_, o1) List.mem_cons_self
  obtain ⟨n2, n2', n2''⟩ := N (_, o2) (List.mem_cons_of_mem _ List.mem_cons_self)
  have hcp : c.pin [] = c := by cases c; simp only at hpin; subst hpin; rfl
  have hne : Str.ofString "chain" ≠ Str.ofString "state" := by decide
  have hlk : ∀ x k, (envOfC name scope h₀.objs.size fa cd).cells.lookup x = some k → (x = Str.ofString "chain" ∧ k = h₀.objs.size + 1 + 1) ∨ (x = Str.ofString "state" ∧ k = h₀.objs.size + 1) := fun x k e => by
    have e' : (cellsFrom (h₀.objs.size + 1) scope.names []).lookup x = some k := e
    rw [hcl] at e'
    simp only [List.lookup_cons, List.lookup_nil] at e'
    split at e'
    · rename_i q; cases e'; exact .inl ⟨by simpa using q, rfl⟩
    · split at e'
      · rename_i q; cases e'; exact .inr ⟨by simpa using q, rfl⟩
      · cases e'
  have VE : EnvOk (envOfC name scope h₀.objs.size fa cd) scope.names := by
    refine ⟨rfl, hk, rfl, rfl, fun x hx => ?_, fun x y k hx hy => ?_⟩
    · show ∃ k, (cellsFrom (h₀.objs.size + 1) scope.names []).lookup x = some k
      rw [hcl]
      rcases hcn x hx with rfl | rfl
      · exact ⟨h₀.objs.size + 1 + 1, by rw [List.lookup_cons]; simp⟩
      · refine ⟨h₀.objs.size + 1, ?_⟩
        rw [List.lookup_cons]
        have : (Str.ofString "state" == Str.ofString "chain") = false := by decide
        rw [this]
        simp
    · rcases hlk x k hx with ⟨rfl, h1⟩ | ⟨rfl, h1⟩ <;> rcases hlk y k hy with ⟨rfl, h2⟩ | ⟨rfl, h2⟩
      · rfl
      · exact absurd (h1.symm.trans h2) (Nat.succ_ne_self _)
      · exact absurd (h2.symm.trans h1) (Nat.succ_ne_self _)
      · rfl
  have S0 : Sim c h₀ (envOfC name scope h₀.objs.size fa cd) (fun _ => 0) Env.empty [.pad] s.heap := by
    have nolive : ∀ i, ¬ Live [O.pad] i := by
      rintro i ⟨o, e, hnp, _⟩
      have := List.mem_of_getElem? e
      simp at this
      exact hnp this
    refine ⟨⟨m, F, fun x v e => by cases e⟩, fun l o e => ?_, fun i hi => absurd hi (nolive i), fun i j hi => absurd hi (nolive i), fun x k e => ?_, fun p hp => by rw [hpin] at hp; cases hp⟩
    · have := List.mem_of_getElem? e
      simp at this
      subst this
      trivial
    · rcases hlk x k e with ⟨_, rfl⟩ | ⟨_, rfl⟩
      · exact ⟨n1'', n1', _, o1, n1, d1⟩
      · exact ⟨n2'', n2', _, o2, n2, d2⟩
  have rm : Room1 (callerA.deeper (envOfC name scope h₀.objs.size fa cd)) 3 := ⟨rfl, by show 1 + claimMargin + 1 + 3 * 3 + 2 < recursionLimit; decide, by show 4 + 3 + 110 + 20 * 3 < cLine; decide⟩
  have CO : ∀ P, CallOk (c.pin P) 3 (callD prog 3) := fun P => call_ok Kg prog FO 3 P
  have hb : b_law.body = .asg "pool" (.list [(.int 0), (.int 0), (.slice (.bin .add (.var "script") (.list [(.int 0)])) .none (.int 40) .none)]) :: b_law.body.drop 1 := rfl
  rw [hb] at ck
  obtain ⟨ck1, ckr⟩ := and2 ck
  have ck2 : ckAsg scope.names "pool" (.list [(.int 0), (.int 0), (.slice (.bin .add (.var "script") (.list [(.int 0)])) .none (.int 40) .none)]) (Expr.Name (Str.ofString "pool") p1) (Expr.List [Expr.Constant (Const.int 0) k1 p2, Expr.Constant (Const.int 0) k2 p3, Expr.Subscript (Expr.BinOp (Expr.Name (Str.ofString "script") p4) Operator.Add (Expr.List [Expr.Constant (Const.int 0) k3 p5] p6) p7) (Expr.Slice none (some (Expr.Constant (Const.int 40) k4 p8)) none p9) p10] p11) = true := ck1
  obtain ⟨_, hst, hno, hce⟩ := and4 ck2
  have hces : ckEs scope.names [(.int 0), (.int 0), (.slice (.bin .add (.var "script") (.list [(.int 0)])) .none (.int 40) .none)] [Expr.Constant (Const.int 0) k1 p2, Expr.Constant (Const.int 0) k2 p3, Expr.Subscript (Expr.BinOp (Expr.Name (Str.ofString "script") p4) Operator.Add (Expr.List [Expr.Constant (Const.int 0) k3 p5] p6) p7) (Expr.Slice none (some (Expr.Constant (Const.int 40) k4 p8)) none p9) p10] = true := by
    have : (decide (3 ≤ 1000) && ckEs scope.names [(.int 0), (.int 0), (.slice (.bin .add (.var "script") (.list [(.int 0)])) .none (.int 40) .none)] [Expr.Constant (Const.int 0) k1 p2, Expr.Constant (Const.int 0) k2 p3, Expr.Subscript (Expr.BinOp (Expr.Name (Str.ofString "script") p4) Operator.Add (Expr.List [Expr.Constant (Const.int 0) k3 p5] p6) p7) (Expr.Slice none (some (Expr.Constant (Const.int 40) k4 p8)) none p9) p10]) = true := hce
    exact (Bool.and_eq_true_iff.mp this).2
  have hin : ckE scope.names (.list [.int 0]) (Expr.List [Expr.Constant (Const.int 0) k3 p5] p6) = true := rfl
  refine wpAny_execs_cons (wpAny_Assign_Name ?_ (swaps_none hno))
  refine List_ ?_
  rw [starEach_of _ hces, backTo_of]
  simp only [List.map_cons, List.map_nil]
  refine Calls.spliced_cons (wpAny_Constant_int ?_)
  refine Calls.spliced_cons (wpAny_Constant_int ?_)
  refine Calls.spliced_cons ?_
  refine Subscript_ (wpAny_BinOp ?_)
  refine wpAny_Name (wpAny_loadName_local hk hsc F.ns hm ?_) (by decide)
  refine evE_sound Kg (by have := CO []; rwa [hcp] at this) rm VE G (.list [.int 0]) _ hin Env.empty [.pad] (fun v σ => v = .loc 1 ∧ σ = [.pad, .list [.int 0]]) ?_ (fun _ => 0) { s with toks := s.toks + 1 + 1 } S0 _ _ fun α1 V1 σ1 u1 s1 w1 S1 X1 r1 sm1 => ?_
  · exact And.intro rfl rfl
  obtain ⟨rfl, rfl⟩ := w1
  obtain ⟨_, rfl⟩ := r1
  obtain ⟨i1, kk1, ho1, ra1, _⟩ := S1.list (l := 1) rfl
  obtain ⟨m1, F1, _⟩ := S1.fr
  have hL1 : s1.heap.IsList sl its.toArray := by
    obtain ⟨o, ho, r⟩ := hL
    exact ⟨o, F1.keep _ _ ho, r⟩
  have hil : its.length = zs.length := hI.length
  have hi1 : i1.toList.length = 1 := ra1.length.symm
  obtain ⟨L, hLe⟩ : ∃ L, L = (envOfC name scope h₀.objs.size fa cd).locals := ⟨_, rfl⟩
  rw [← hLe] at F1
  refine add_lists (news := others h₀ s1.heap L s1.heap.objs.size) (vs := its) (ws := i1.toList) F1 news_others hL1 (by simpa using listOf_is ho1) (fun h2 F2 N2 => ?_) (by rw [hil, hi1, ← big_eq]; unfold big; omega)
  have hnew := (N2 _ List.mem_cons_self).1
  simp only at hnew
  have hkeep : ∀ b ob, b ≠ L → s1.heap.get? b = some ob → h2.get? b = some ob := fun b ob hb e =>
    keep_others F1 F2 (fun p hp => N2 p (List.mem_cons_of_mem _ hp)) b ob (by rintro rfl; exact Nat.lt_irrefl _ (Heap.lt_size e)) hb e
  obtain ⟨α2, S2, X2, e2⟩ := S1.alloc (h' := h2) (a := s1.heap.objs.size) (a' := s1.heap.objs.size + 1) (o := .list (zs.map V.int ++ [V.int 0])) (hLe ▸ F1) (hLe ▸ F2) (hLe ▸ hkeep) (get_ge (Nat.le_refl _)) (get_ge (Nat.le_succ _)) (Nat.ne_of_lt (Nat.lt_succ_self _))
    (fun α' q1 q2 q3 X => ⟨(its ++ i1.toList).toArray, 0, by rw [q2]; exact hnew, (ints_all2 hI).append (ra1.mono fun _ _ x => x.mono X), (show (zs.map V.int ++ [V.int 0]).length ≤ big by simp [big]; omega)⟩)
  refine wpAny_Slice ?_
  refine wpAny_pure ?_
  show wpAny _ _ (eval (Expr.Constant (Const.int 40) k4 p8) _) _ _ _
  refine wpAny_Constant_int ?_
  refine wpAny_pure ?_
  have hlen2 : ([O.pad, .list [.int 0], .list (zs.map V.int ++ [V.int 0])] : Sto).length = 3 := rfl
  refine slice_ok (σ := [.pad, .list [.int 0], .list (zs.map V.int ++ [V.int 0])]) (u := .loc 2) (v1 := .none) (v2 := .int 40) (v3 := .none) (Q := fun v σ => v = .loc 3 ∧ σ = [.pad, .list [.int 0], .list (zs.map V.int ++ [V.int 0]), .list ((zs.map V.int ++ [V.int 0]).take 40)]) (s := { s1 with heap := h2, toks := _ }) S2 ?_ rfl (⟨_, rfl⟩) rfl ?_ fun α5 V5 σ5 v5 s5 w5 S5 X5 r5 sm5 => ?_
  · refine ⟨Nat.lt_succ_self 2, ?_⟩
    rw [show 2 * 2 = 2 * ([O.pad, .list [.int 0]] : Sto).length from rfl, e2]
  · exact ⟨rfl, rfl⟩
  obtain ⟨rfl, rfl⟩ := w5
  refine Calls.spliced_nil ?_
  refine list_ok (vs := [.int 0, .int 0, .loc 3]) (Q := fun v σ => v = .loc 4 ∧ σ = [.pad, .list [.int 0], .list (zs.map V.int ++ [V.int 0]), .list ((zs.map V.int ++ [V.int 0]).take 40), .list [.int 0, .int 0, .loc 3]]) S5 ⟨⟨_, rfl⟩, ⟨_, rfl⟩, r5, trivial⟩ (by unfold big; simp) ⟨rfl, rfl⟩ fun α6 V6 σ6 v6 s6 w6 S6 X6 r6 sm6 => ?_
  obtain ⟨rfl, rfl⟩ := w6
  refine store_ok (c := c) VE hst S6 r6 fun h' tk S7 X7 => ?_
  have S7' : Sim (c.pin []) h₀ (envOfC name scope h₀.objs.size fa cd) α6 (Env.empty.set "pool" (.loc 4)) [.pad, .list [.int 0], .list (zs.map V.int ++ [V.int 0]), .list ((zs.map V.int ++ [V.int 0]).take 40), .list [.int 0, .int 0, .loc 3]] ({ s6 with heap := h', toks := tk } : Shared).heap := by rw [hcp]; exact S7
  have hw3 : (zs.map V.int ++ [V.int 0]).take 40 = ((zs ++ [0]).take 40).map V.int := by simp [List.map_take]
  refine evSs_sound Kg CO rm VE G (b_law.body.drop 1) rest ckr [] _ _ (fun fl _ _ => fl = .ret (.bool true)) ?_ α6 { s6 with heap := h', toks := tk } S7' _ _ fun α' fl ρ' σ' f s' q S' X' r sm => ?_
  · rw [hw3]
    exact law_tail (d := 0) rfl (by intro h; have := congrArg List.length h; simp at this) rfl fun _ _ => rfl
  · subst q
    obtain ⟨_, F', _⟩ := S'.fr
    cases f with
    | ret v =>
      have : v = .bool true := r
      subst this
      refine hq s' F'.keep ?_ ?_
      · exact sm.2.2.trans (sm6.2.2.trans (sm5.2.2.trans sm1.2.2))
      · exact sm.1.trans (sm6.1.trans (sm5.1.trans sm1.1))
    | _ => exact r.elim

end C187
set_option Elab.async true
namespace Mine
open C187 PySem PySem.W PyProof.Rows
-- The kit lays fast twins of the constants of the heap under such names. Where a name is taken it goes on without that twin:
-- the proof stands without them, and the compiled file stays small.
def hq.tw449087041054771169 : Nat := 0
def hq.tw6582008036515567535 : Nat := 0
def hq.tw4608049867182957220 : Nat := 0
def hq.tw13502862691939865659 : Nat := 0
def hq.tw18276807595065023739 : Nat := 0
def hq.tw18211489267619455500 : Nat := 0
def hq.tw6180815554035872458 : Nat := 0
def hq.tw11318593042947177075 : Nat := 0
def hq.tw6642654443032573458 : Nat := 0
def hq.tw8057113463039891449 : Nat := 0
def hq.tw5665385369643039098 : Nat := 0
def hq.tw612562812632505309 : Nat := 0
def hq.tw10732651584675014093 : Nat := 0
def hq.tw11198136765380931434 : Nat := 0
def hq.tw5895416178271551497 : Nat := 0
def hq.tw7817238165807549579 : Nat := 0
def hq.tw17855561526073136132 : Nat := 0
def hq.tw163587052932981336 : Nat := 0
def hq.tw6385360951329997762 : Nat := 0
def hq.tw5759843375031171777 : Nat := 0
def hq.tw9776794334754605522 : Nat := 0
def hq.tw2736216900875257000 : Nat := 0
def hq.tw6215518732311051704 : Nat := 0
def hq.tw14276545221849834932 : Nat := 0
def hq.tw1291796905076679158 : Nat := 0
def hq.tw2641918846459505139 : Nat := 0
def hq.tw18372191718298289475 : Nat := 0
def hq.tw9795494098798817151 : Nat := 0
def hq.tw13354247350071896366 : Nat := 0
def hq.tw7672739943655470209 : Nat := 0
def hq.tw1277910818872460002 : Nat := 0
def hq.tw7795197914602774408 : Nat := 0
def hq.tw13605588708827000737 : Nat := 0
def hq.tw14969264746431923806 : Nat := 0
def hq.tw17939040331521840985 : Nat := 0
def hq.tw7179472203213589255 : Nat := 0
def hq.tw8152315387883189214 : Nat := 0
def hq.tw533107537510362154 : Nat := 0
def hq.tw779450028884369565 : Nat := 0
def hq.tw7907064084398135858 : Nat := 0
def hq.tw2223705977466217327 : Nat := 0
def hq.tw2330199731370687674 : Nat := 0
def hq.tw8670592598250618684 : Nat := 0
def hq.tw8796775604911613950 : Nat := 0
def hq.tw3627233070818523257 : Nat := 0
def hq.tw7799593649318314908 : Nat := 0
def hq.tw9492345279908509994 : Nat := 0
def hq.tw9978726442917373551 : Nat := 0
def hq.tw9133466482286349414 : Nat := 0
def hq.tw12849039064130270240 : Nat := 0
def hq.tw5731166914374295624 : Nat := 0
def hq.tw14375828484873233585 : Nat := 0
def hq.tw286664766893622983 : Nat := 0
def hq.tw3560430997919898871 : Nat := 0
def hq.tw9795862094951262385 : Nat := 0
def hq.tw13486078771128344647 : Nat := 0
def hq.tw12514970091603982059 : Nat := 0
def hq.tw11402776170388669038 : Nat := 0
def hq.tw509958578928704077 : Nat := 0
def hq.tw12248578880752265987 : Nat := 0
def hq.tw12964062633142722049 : Nat := 0
def hq.tw3106084185226902877 : Nat := 0
def hq.tw13553215187314863201 : Nat := 0
def hq.tw15385585939819168887 : Nat := 0
def hq.tw14754975526340374285 : Nat := 0
def hq.tw6987171224388242222 : Nat := 0
def hq.tw9127893848950081433 : Nat := 0
def hq.tw3880375719507622018 : Nat := 0
def hq.tw12496698030514209297 : Nat := 0
def hq.tw8843670863553936208 : Nat := 0
def hq.tw384518735521986950 : Nat := 0
def hq.tw6778369824875933703 : Nat := 0
def hq.tw674073021615805732 : Nat := 0
def hq.tw9188848632486924633 : Nat := 0
def hq.tw17113052037052540601 : Nat := 0
def hq.tw10914737284747560342 : Nat := 0
def hq.tw14237485161361176573 : Nat := 0
def hq.tw10376031466752974828 : Nat := 0
def hq.tw9950089704063908547 : Nat := 0
def hq.tw9549253132143110608 : Nat := 0
def hq.tw1383527236628300131 : Nat := 0
def hq.tw5569108009095968475 : Nat := 0
def hq.tw7771484414475045511 : Nat := 0
def hq.tw5597055541091841182 : Nat := 0
def hq.tw11961918275323247916 : Nat := 0
def hq.tw5080482457446688561 : Nat := 0
def hq.tw1134308104302756972 : Nat := 0
def hq.tw13222884669800043539 : Nat := 0
def hq.tw16346589141790774059 : Nat := 0
def hq.tw15189462117764140124 : Nat := 0
def hq.tw4489070043729951717 : Nat := 0
def hq.tw13095705539143481525 : Nat := 0
def hq.tw15944341401679933261 : Nat := 0
def hq.tw12235868485125894331 : Nat := 0
def hq.tw4375985329216827839 : Nat := 0
def hq.tw14594328360725055242 : Nat := 0
def hq.tw9514673175018139828 : Nat := 0
def hq.tw13727620303709000063 : Nat := 0
def hq.tw12481044172393887954 : Nat := 0
def hq.tw2990441756992739365 : Nat := 0
def hq.tw7079364385445073895 : Nat := 0
def hq.tw10775009283162208714 : Nat := 0
def hq.tw8488940147926049524 : Nat := 0
def hq.tw10760802254342755420 : Nat := 0
def hq.tw13480900702918529180 : Nat := 0
def hq.tw9901041768872518651 : Nat := 0
def hq.tw3313988557390523843 : Nat := 0
def hq.tw3647894231261621685 : Nat := 0
def hq.tw15757619958402403948 : Nat := 0
def hq.tw13302039441676172322 : Nat := 0
def hq.tw80881765779249268 : Nat := 0
def hq.tw6717166348545680397 : Nat := 0
def hq.tw16535360979341041665 : Nat := 0
def hq.tw12697402775899135218 : Nat := 0
def hq.tw13023949505232002771 : Nat := 0
def hq.tw7106466396363661638 : Nat := 0
def hq.tw1500765314571102690 : Nat := 0
def hq.tw17463812411989068010 : Nat := 0
def hq.tw3439826505354016753 : Nat := 0
def hq.tw9375045823711978607 : Nat := 0
def hq.tw2060327042702796305 : Nat := 0
def hq.tw15182601442485666286 : Nat := 0
def hq.tw1640272328417397822 : Nat := 0
def hq.tw17884644973305957733 : Nat := 0
def hq.tw13769147277773836033 : Nat := 0
def hq.tw2064276708794333371 : Nat := 0
def hq.tw9055881919929000657 : Nat := 0
def hq.tw4666310112322607275 : Nat := 0
def hq.tw11904904241039891960 : Nat := 0
def hq.tw9428742883436320482 : Nat := 0
def hq.tw2338785445158028428 : Nat := 0
def hq.tw1803784778914781481 : Nat := 0
def hq.tw6710546539944103053 : Nat := 0
def hq.tw285311508116289287 : Nat := 0
def hq.tw7861226076304730246 : Nat := 0
def hq.tw5991825269154617347 : Nat := 0
def hq.tw13743045043681455775 : Nat := 0
def hq.tw781474288783034380 : Nat := 0
def hq.tw3048173636268286377 : Nat := 0
def hq.tw1741535941190239438 : Nat := 0
def hq.tw14886498140707089192 : Nat := 0
def hq.tw4167004640589313651 : Nat := 0
def hq.tw16964586414034191684 : Nat := 0
def hq.tw14968622141724770650 : Nat := 0
def hq.tw3422547408385998623 : Nat := 0
def hq.tw9824468883573414275 : Nat := 0
def hq.tw5102381659091134590 : Nat := 0
def hq.tw17507516277433102289 : Nat := 0
def hq.tw17050193858878772581 : Nat := 0
def hq.tw195319319105484837 : Nat := 0
def hq.tw2996563815162090415 : Nat := 0
def hq.tw7587259842506438161 : Nat := 0
def hq.tw4741875132220596311 : Nat := 0
def hq.tw13001207721643841512 : Nat := 0
def hq.tw9025512103472134450 : Nat := 0
def hq.tw6610265284311954822 : Nat := 0
def hq.tw5578676019213602690 : Nat := 0
def hq.tw15050050835727825964 : Nat := 0
def hq.tw11824069836422780227 : Nat := 0
def hq.tw15465583547859376084 : Nat := 0
def hq.tw9493725803484967530 : Nat := 0
def hq.tw17389483476063430775 : Nat := 0
def hq.tw5282431362952038235 : Nat := 0
def hq.tw8730326856917428115 : Nat := 0
def hq.tw9151865133259420103 : Nat := 0
def hq.tw15281599693950754896 : Nat := 0
def hq.tw14236710644850426643 : Nat := 0
def hq.tw1140332349131322219 : Nat := 0
def hq.tw16038714658078415096 : Nat := 0
def hq.tw8926073059922265167 : Nat := 0
def hq.tw7901640381092740446 : Nat := 0
def hq.tw1869912705798827136 : Nat := 0
def hq.tw18190943572339469658 : Nat := 0
def hq.tw16897822082616854030 : Nat := 0
def hq.tw17790109234249064360 : Nat := 0
def hq.tw13276833702047066570 : Nat := 0
def hq.tw3544906069245241880 : Nat := 0
def hq.tw11085315714167747792 : Nat := 0
def hq.tw5611102857607521741 : Nat := 0
def hq.tw1775702854415158705 : Nat := 0
def hq.tw7589107396602480322 : Nat := 0
def hq.tw771947914003707973 : Nat := 0
def hq.tw8491087748805393471 : Nat := 0
def hq.tw18346841983034571262 : Nat := 0
def hq.tw1738449604571460292 : Nat := 0
def hq.tw12506642881698933559 : Nat := 0
def hq.tw9524481874210789358 : Nat := 0
def hq.tw10223406500745991142 : Nat := 0
def hq.tw6156483766952535384 : Nat := 0
def hq.tw2260561623700716748 : Nat := 0
def hq.tw271354171592042819 : Nat := 0
def hq.tw8172153524177814700 : Nat := 0
def hq.tw2214581351128497116 : Nat := 0
def hq.tw11550264267855334806 : Nat := 0
def hq.tw16316352616789880349 : Nat := 0
def hq.tw16782676387622030179 : Nat := 0
def hq.tw7089316416521786280 : Nat := 0
def hq.tw14187982978997237623 : Nat := 0
def hq.tw16809807526908380884 : Nat := 0
def hq.tw16807017868417353128 : Nat := 0
def hq.tw2443984785262334968 : Nat := 0
def hq.tw15629568606158070697 : Nat := 0
def hq.tw4001032458579979667 : Nat := 0
def hq.tw3154463578298619625 : Nat := 0
def hq.tw7544271963468501779 : Nat := 0
def hq.tw5028797041122850161 : Nat := 0
def hq.tw2367623169485729044 : Nat := 0
def hq.tw9612742909652353465 : Nat := 0
def hq.tw3491428954475440883 : Nat := 0
def hq.tw13963726172316224356 : Nat := 0
def hq.tw16721007635770491178 : Nat := 0
def hq.tw4439803078412725676 : Nat := 0
def hq.tw18123656636353841462 : Nat := 0
def hq.tw15914494056861148915 : Nat := 0
def hq.tw2706923899692441627 : Nat := 0
def hq.tw7511721461442411465 : Nat := 0
def hq.tw722643689031310280 : Nat := 0
def hq.tw10092852166775279130 : Nat := 0
def hq.tw3014720679539756873 : Nat := 0
def hq.tw4991336011138955280 : Nat := 0
def hq.tw5527383127753965283 : Nat := 0
def hq.tw13886267558521391256 : Nat := 0
def hq.tw14772127340083367040 : Nat := 0
def hq.tw943614599572336155 : Nat := 0
def hq.tw10485984637094616880 : Nat := 0
def hq.tw8331520620733812097 : Nat := 0
def hq.tw926538531027841127 : Nat := 0
def hq.tw18340721319590389962 : Nat := 0
def hq.tw2568601839324270733 : Nat := 0
def hq.tw5812001181764318152 : Nat := 0
def hq.tw12728415866068041311 : Nat := 0
def hq.tw10000794576204330153 : Nat := 0
def hq.tw7850188486041987321 : Nat := 0
def hq.tw8837425326911211138 : Nat := 0
def hq.tw15674605124737195981 : Nat := 0
def hq.tw13447289920834928772 : Nat := 0
def hq.tw14501324938897067561 : Nat := 0
def hq.tw17570233290061857690 : Nat := 0
def hq.tw5288753061374985246 : Nat := 0
def hq.tw13450832908405550097 : Nat := 0
def hq.tw13258939022015726476 : Nat := 0
def hq.tw12428739965439566872 : Nat := 0
def hq.tw860166213271251909 : Nat := 0
def hq.tw13976329359730278593 : Nat := 0
def hq.tw5667191905956574498 : Nat := 0
def hq.tw2074748120716196365 : Nat := 0
def hq.tw4017666659659470015 : Nat := 0
def hq.tw13510361038845904283 : Nat := 0
def hq.tw18257735861726044745 : Nat := 0
def hq.tw15734650141668845536 : Nat := 0
def hq.tw5691554338385257998 : Nat := 0
def hq.tw1790225447845560585 : Nat := 0
def hq.tw8804238086855099115 : Nat := 0
def hq.tw13230364761691088398 : Nat := 0
def hq.tw10599665552369709638 : Nat := 0
def hq.tw16552130286418335332 : Nat := 0
def hq.tw8912192177817946102 : Nat := 0
def hq.tw16231039490463794110 : Nat := 0
def hq.tw15079305990305215762 : Nat := 0
def hq.tw7253851005133477568 : Nat := 0
def hq.tw14818870746610397590 : Nat := 0
def hq.tw8878085667783850231 : Nat := 0
def hq.tw3432454565359172088 : Nat := 0
def hq.tw7219658615716743296 : Nat := 0
def hq.tw13448033582049419322 : Nat := 0
def hq.tw925611148017520223 : Nat := 0
def hq.tw17054463797348242521 : Nat := 0
def hq.tw9768242074103074221 : Nat := 0
def hq.tw10001376382149582108 : Nat := 0
def hq.tw13133925777924542315 : Nat := 0
def hq.tw15947022525539137760 : Nat := 0
def hq.tw4171725333644275513 : Nat := 0
def hq.tw18064312367536619883 : Nat := 0
def hq.tw6703137428290144329 : Nat := 0
def hq.tw6428791715259595817 : Nat := 0
def hq.tw11126235452647923558 : Nat := 0
def hq.tw7954074512192545945 : Nat := 0
def hq.tw12058654197788596436 : Nat := 0
def hq.tw16046787055161014137 : Nat := 0
def hq.tw9031073068422697509 : Nat := 0
def hq.tw17490343775666085965 : Nat := 0
def hq.tw8379139677283497518 : Nat := 0
def hq.tw9034970781958629739 : Nat := 0
def hq.tw11363321000426732400 : Nat := 0
def hq.tw5186555515663700001 : Nat := 0
def hq.tw2117800652203068133 : Nat := 0
def hq.tw2920460233129220235 : Nat := 0
def hq.tw2267212845272169836 : Nat := 0
def hq.tw15359170853323125327 : Nat := 0
def hq.tw541360200788322803 : Nat := 0
def hq.tw15298563710665395474 : Nat := 0
def hq.tw3421353514304016194 : Nat := 0
def hq.tw4288558672954378248 : Nat := 0
def hq.tw12169248792132609375 : Nat := 0
def hq.tw17982033904585381360 : Nat := 0
def hq.tw15572320602475567533 : Nat := 0
def hq.tw3445220037759595600 : Nat := 0
def hq.tw8280607470232188737 : Nat := 0
def hq.tw9904924192073418881 : Nat := 0
def hq.tw2446711658860428672 : Nat := 0
def hq.tw14627097287796702097 : Nat := 0
def hq.tw8073309143868657023 : Nat := 0
def hq.tw9290384812151408565 : Nat := 0
def hq.tw11855007290812442598 : Nat := 0
def hq.tw8308388744524497552 : Nat := 0
def hq.tw9168773537736573765 : Nat := 0
def hq.tw13835040335912294723 : Nat := 0
def hq.tw229735081045165173 : Nat := 0
def hq.tw1456264375257627886 : Nat := 0
def hq.tw10935828522154542166 : Nat := 0
def hq.tw9366186876789818649 : Nat := 0
def hq.tw10630391147137001860 : Nat := 0
def hq.tw3513820945434300789 : Nat := 0
def hq.tw13943852286573993618 : Nat := 0
def hq.tw12892139197361222039 : Nat := 0
def hq.tw8635002137240528865 : Nat := 0
def hq.tw10312157954276465073 : Nat := 0
def hq.tw13235256369951820296 : Nat := 0
def hq.tw17543646024803572876 : Nat := 0
def hq.tw15923224271504869091 : Nat := 0
def hq.tw10899058296728633960 : Nat := 0
def hq.tw11955610403688730753 : Nat := 0
def hq.tw11763958687534869680 : Nat := 0
def hq.tw3858204857450945017 : Nat := 0
def hq.tw4836737923570769024 : Nat := 0
def hq.tw2023342415286700836 : Nat := 0
def hq.tw456172942799691745 : Nat := 0
def hq.tw8783513367562574285 : Nat := 0
def hq.tw6336642640299219094 : Nat := 0
def hq.tw1807659152959238612 : Nat := 0
def hq.tw1575580736563710142 : Nat := 0
def hq.tw9954246468241796668 : Nat := 0
def hq.tw7943481926809457172 : Nat := 0
def hq.tw6276318231578556505 : Nat := 0
def hq.tw12092680090172259033 : Nat := 0
def hq.tw5749674737630268323 : Nat := 0
def hq.tw540608965632813519 : Nat := 0
def hq.tw3989797167429120347 : Nat := 0
def hq.tw12664413295080255743 : Nat := 0
def hq.tw13845924549195999638 : Nat := 0
def hq.tw4797868753551183999 : Nat := 0
def hq.tw6118443615581677530 : Nat := 0
def hq.tw15812451359255101891 : Nat := 0
def hq.tw10723133140268546484 : Nat := 0
def hq.tw11603209444005165735 : Nat := 0
def hq.tw13959481576897727349 : Nat := 0
def hq.tw5562705714879443458 : Nat := 0
def hq.tw5253665795339500904 : Nat := 0
def hq.tw8714194948018631825 : Nat := 0
def hq.tw4126966263337158353 : Nat := 0
def hq.tw9783508634671734158 : Nat := 0
def hq.tw1052231730491438768 : Nat := 0
def hq.tw9563767174587072967 : Nat := 0
def hq.tw7902054454379397355 : Nat := 0
def hq.tw11092556201938335259 : Nat := 0
def hq.tw13398516417001538080 : Nat := 0
def hq.tw7723358927924880359 : Nat := 0
def hq.tw1658547955452154472 : Nat := 0
def hq.tw14680810799054715792 : Nat := 0
def hq.tw10846754605235202416 : Nat := 0
def hq.tw12771422461613121140 : Nat := 0
def hq.tw6544732300459080682 : Nat := 0
def hq.tw15906405830009952519 : Nat := 0
def hq.tw16729471575171175110 : Nat := 0
def hq.tw16618909756484684467 : Nat := 0
def hq.tw15487811534215124188 : Nat := 0
def hq.tw14036627289367018796 : Nat := 0
def hq.tw14065372797180803292 : Nat := 0
def hq.tw18332427662228458139 : Nat := 0
def hq.tw14136450828020978689 : Nat := 0
set_option maxRecDepth 100000 in
set_option maxHeartbeats 8000000 in
set_option pp.deepTerms false in
set_option pp.deepTerms.threshold 6 in
theorem hq : PySem.Challenge.rw_no0187_01.Holds := by
  w_on
  o_law
  k_head
  case hw => w_witness2
  have FACTS : ∀ w : World, KG (cxK hq.heap_1_39 w) ∧ ∀ f fn, prog f = some fn → FnOk (cxK hq.heap_1_39 w) f fn := by
    intro w
    have fo_fixed_atoms : FnOk (cxK hq.heap_1_39 w) "fixed_atoms" b_fixed_atoms := by
      refine' FnOk.nod (K := hq.heap_1_39 w.params) 60 rfl rfl ?lk ?cd ?ck rfl ?bi
      case lk => k_is
      case cd => k_is
      case ck => decide +kernel
      case bi =>
        intro vals h
        apply lst0 (l := vals) h
        intro  S
        kernel_rfl
    have fo_fixed_functors : FnOk (cxK hq.heap_1_39 w) "fixed_functors" b_fixed_functors := by
      refine' FnOk.nod (K := hq.heap_1_39 w.params) 67 rfl rfl ?lk ?cd ?ck rfl ?bi
      case lk => k_is
      case cd => k_is
      case ck => decide +kernel
      case bi =>
        intro vals h
        apply lst0 (l := vals) h
        intro  S
        kernel_rfl
    have fo_Symbols_init : FnOk (cxK hq.heap_1_39 w) "Symbols.__init__" b_Symbols_init := by
      refine' FnOk.nod (K := hq.heap_1_39 w.params) 81 rfl rfl ?lk ?cd ?ck rfl ?bi
      case lk => k_is
      case cd => k_is
      case ck => decide +kernel
      case bi =>
        intro vals h
        apply lst1 (l := vals) h
        intro v0 S
        kernel_rfl
    have fo_Symbols_atom : FnOk (cxK hq.heap_1_39 w) "Symbols.atom" b_Symbols_atom := by
      refine' FnOk.nod (K := hq.heap_1_39 w.params) 88 rfl rfl ?lk ?cd ?ck rfl ?bi
      case lk => k_is
      case cd => k_is
      case ck => decide +kernel
      case bi =>
        intro vals h
        apply lst2 (l := vals) h
        intro v0 v1 S
        kernel_rfl
    have fo_Symbols_functor : FnOk (cxK hq.heap_1_39 w) "Symbols.functor" b_Symbols_functor := by
      refine' FnOk.nod (K := hq.heap_1_39 w.params) 102 rfl rfl ?lk ?cd ?ck rfl ?bi
      case lk => k_is
      case cd => k_is
      case ck => decide +kernel
      case bi =>
        intro vals h
        apply lst3 (l := vals) h
        intro v0 v1 v2 S
        kernel_rfl
    have fo_Symbols_func : FnOk (cxK hq.heap_1_39 w) "Symbols.func" b_Symbols_func := by
      refine' FnOk.nod (K := hq.heap_1_39 w.params) 109 rfl rfl ?lk ?cd ?ck rfl ?bi
      case lk => k_is
      case cd => k_is
      case ck => decide +kernel
      case bi =>
        intro vals h
        apply lst3 (l := vals) h
        intro v0 v1 v2 S
        kernel_rfl
    have fo_Cells_init : FnOk (cxK hq.heap_1_39 w) "Cells.__init__" b_Cells_init := by
      refine' FnOk.of (K := hq.heap_1_39 w.params) 195 rfl rfl ?lk ?cd ?ck ?k1 ?k2 ?k3 ?k4 ?k5 ?bi ?nd
      case lk => k_is
      case cd => k_is
      case ck => decide +kernel
      case k1 => exact rfl
      case k2 => exact rfl
      case k3 => exact rfl
      case k4 => decide
      case k5 => decide +kernel
      case nd => decide +kernel
      case bi =>
        intro vals h1 h2
        rcases vals with _ | ⟨v1, _ | ⟨v2, _ | ⟨v3, _ | ⟨u, r⟩⟩⟩⟩
        · simp [b_Cells_init] at h2
        · simp [b_Cells_init] at h2
        · exact ⟨[Value.int 100000 430], fun S => by kernel_rfl, fun α n h _ => by simp [b_Cells_init, All2, RepV]⟩
        · exact ⟨[], fun S => by kernel_rfl, fun α n h _ => by simp [b_Cells_init, All2, RepV]⟩
        · simp [b_Cells_init] at h1
    have fo_Cells_push : FnOk (cxK hq.heap_1_39 w) "Cells.push" b_Cells_push := by
      refine' FnOk.nod (K := hq.heap_1_39 w.params) 202 rfl rfl ?lk ?cd ?ck rfl ?bi
      case lk => k_is
      case cd => k_is
      case ck => decide +kernel
      case bi =>
        intro vals h
        apply lst2 (l := vals) h
        intro v0 v1 S
        kernel_rfl
    have fo_Cells_new_var : FnOk (cxK hq.heap_1_39 w) "Cells.new_var" b_Cells_new_var := by
      refine' FnOk.nod (K := hq.heap_1_39 w.params) 209 rfl rfl ?lk ?cd ?ck rfl ?bi
      case lk => k_is
      case cd => k_is
      case ck => decide +kernel
      case bi =>
        intro vals h
        apply lst1 (l := vals) h
        intro v0 S
        kernel_rfl
    have fo_Cells_trim : FnOk (cxK hq.heap_1_39 w) "Cells.trim" b_Cells_trim := by
      refine' FnOk.nod (K := hq.heap_1_39 w.params) 223 rfl rfl ?lk ?cd ?ck rfl ?bi
      case lk => k_is
      case cd => k_is
      case ck => decide +kernel
      case bi =>
        intro vals h
        apply lst2 (l := vals) h
        intro v0 v1 S
        kernel_rfl
    have fo_Cells_deref : FnOk (cxK hq.heap_1_39 w) "Cells.deref" b_Cells_deref := by
      refine' FnOk.nod (K := hq.heap_1_39 w.params) 230 rfl rfl ?lk ?cd ?ck rfl ?bi
      case lk => k_is
      case cd => k_is
      case ck => decide +kernel
      case bi =>
        intro vals h
        apply lst2 (l := vals) h
        intro v0 v1 S
        kernel_rfl
    have fo_Cells_bind : FnOk (cxK hq.heap_1_39 w) "Cells.bind" b_Cells_bind := by
      refine' FnOk.nod (K := hq.heap_1_39 w.params) 244 rfl rfl ?lk ?cd ?ck rfl ?bi
      case lk => k_is
      case cd => k_is
      case ck => decide +kernel
      case bi =>
        intro vals h
        apply lst3 (l := vals) h
        intro v0 v1 v2 S
        kernel_rfl
    have fo_Cells_bind_pair : FnOk (cxK hq.heap_1_39 w) "Cells.bind_pair" b_Cells_bind_pair := by
      refine' FnOk.nod (K := hq.heap_1_39 w.params) 251 rfl rfl ?lk ?cd ?ck rfl ?bi
      case lk => k_is
      case cd => k_is
      case ck => decide +kernel
      case bi =>
        intro vals h
        apply lst3 (l := vals) h
        intro v0 v1 v2 S
        kernel_rfl
    have fo_Cells_mark : FnOk (cxK hq.heap_1_39 w) "Cells.mark" b_Cells_mark := by
      refine' FnOk.nod (K := hq.heap_1_39 w.params) 265 rfl rfl ?lk ?cd ?ck rfl ?bi
      case lk => k_is
      case cd => k_is
      case ck => decide +kernel
      case bi =>
        intro vals h
        apply lst1 (l := vals) h
        intro v0 S
        kernel_rfl
    have fo_Cells_undo_to : FnOk (cxK hq.heap_1_39 w) "Cells.undo_to" b_Cells_undo_to := by
      refine' FnOk.nod (K := hq.heap_1_39 w.params) 272 rfl rfl ?lk ?cd ?ck rfl ?bi
      case lk => k_is
      case cd => k_is
      case ck => decide +kernel
      case bi =>
        intro vals h
        apply lst2 (l := vals) h
        intro v0 v1 S
        kernel_rfl
    have fo_Cells_stack_put : FnOk (cxK hq.heap_1_39 w) "Cells.stack_put" b_Cells_stack_put := by
      refine' FnOk.nod (K := hq.heap_1_39 w.params) 279 rfl rfl ?lk ?cd ?ck rfl ?bi
      case lk => k_is
      case cd => k_is
      case ck => decide +kernel
      case bi =>
        intro vals h
        apply lst3 (l := vals) h
        intro v0 v1 v2 S
        kernel_rfl
    have fo_Areas_init : FnOk (cxK hq.heap_1_39 w) "Areas.__init__" b_Areas_init := by
      refine' FnOk.of (K := hq.heap_1_39 w.params) 391 rfl rfl ?lk ?cd ?ck ?k1 ?k2 ?k3 ?k4 ?k5 ?bi ?nd
      case lk => k_is
      case cd => k_is
      case ck => decide +kernel
      case k1 => exact rfl
      case k2 => exact rfl
      case k3 => exact rfl
      case k4 => decide
      case k5 => decide +kernel
      case nd => decide +kernel
      case bi =>
        intro vals h1 h2
        rcases vals with _ | ⟨v1, _ | ⟨v2, _ | ⟨v3, _ | ⟨v4, _ | ⟨v5, _ | ⟨v6, _ | ⟨u, r⟩⟩⟩⟩⟩⟩⟩
        · simp [b_Areas_init] at h2
        · simp [b_Areas_init] at h2
        · simp [b_Areas_init] at h2
        · exact ⟨[Value.int 100000 702, Value.bool true, Value.int 4096 703], fun S => by kernel_rfl, fun α n h _ => by simp [b_Areas_init, All2, RepV]⟩
        · exact ⟨[Value.bool true, Value.int 4096 703], fun S => by kernel_rfl, fun α n h _ => by simp [b_Areas_init, All2, RepV]⟩
        · exact ⟨[Value.int 4096 703], fun S => by kernel_rfl, fun α n h _ => by simp [b_Areas_init, All2, RepV]⟩
        · exact ⟨[], fun S => by kernel_rfl, fun α n h _ => by simp [b_Areas_init, All2, RepV]⟩
        · simp [b_Areas_init] at h1
    have fo_Areas_reset : FnOk (cxK hq.heap_1_39 w) "Areas.reset" b_Areas_reset := by
      refine' FnOk.nod (K := hq.heap_1_39 w.params) 398 rfl rfl ?lk ?cd ?ck rfl ?bi
      case lk => k_is
      case cd => k_is
      case ck => decide +kernel
      case bi =>
        intro vals h
        apply lst1 (l := vals) h
        intro v0 S
        kernel_rfl
    have fo_Areas_set_x : FnOk (cxK hq.heap_1_39 w) "Areas.set_x" b_Areas_set_x := by
      refine' FnOk.nod (K := hq.heap_1_39 w.params) 405 rfl rfl ?lk ?cd ?ck rfl ?bi
      case lk => k_is
      case cd => k_is
      case ck => decide +kernel
      case bi =>
        intro vals h
        apply lst3 (l := vals) h
        intro v0 v1 v2 S
        kernel_rfl
    have fo_Areas_top : FnOk (cxK hq.heap_1_39 w) "Areas.top" b_Areas_top := by
      refine' FnOk.nod (K := hq.heap_1_39 w.params) 447 rfl rfl ?lk ?cd ?ck rfl ?bi
      case lk => k_is
      case cd => k_is
      case ck => decide +kernel
      case bi =>
        intro vals h
        apply lst1 (l := vals) h
        intro v0 S
        kernel_rfl
    have fo_Areas_push_environment : FnOk (cxK hq.heap_1_39 w) "Areas.push_environment" b_Areas_push_environment := by
      refine' FnOk.nod (K := hq.heap_1_39 w.params) 454 rfl rfl ?lk ?cd ?ck rfl ?bi
      case lk => k_is
      case cd => k_is
      case ck => decide +kernel
      case bi =>
        intro vals h
        apply lst2 (l := vals) h
        intro v0 v1 S
        kernel_rfl
    have fo_Areas_pop_environment : FnOk (cxK hq.heap_1_39 w) "Areas.pop_environment" b_Areas_pop_environment := by
      refine' FnOk.nod (K := hq.heap_1_39 w.params) 461 rfl rfl ?lk ?cd ?ck rfl ?bi
      case lk => k_is
      case cd => k_is
      case ck => decide +kernel
      case bi =>
        intro vals h
        apply lst1 (l := vals) h
        intro v0 S
        kernel_rfl
    have fo_Areas_in_chain : FnOk (cxK hq.heap_1_39 w) "Areas.in_chain" b_Areas_in_chain := by
      refine' FnOk.nod (K := hq.heap_1_39 w.params) 468 rfl rfl ?lk ?cd ?ck rfl ?bi
      case lk => k_is
      case cd => k_is
      case ck => decide +kernel
      case bi =>
        intro vals h
        apply lst2 (l := vals) h
        intro v0 v1 S
        kernel_rfl
    have fo_Areas_set_choice : FnOk (cxK hq.heap_1_39 w) "Areas.set_choice" b_Areas_set_choice := by
      refine' FnOk.nod (K := hq.heap_1_39 w.params) 475 rfl rfl ?lk ?cd ?ck rfl ?bi
      case lk => k_is
      case cd => k_is
      case ck => decide +kernel
      case bi =>
        intro vals h
        apply lst2 (l := vals) h
        intro v0 v1 S
        kernel_rfl
    have fo_Areas_push_choice : FnOk (cxK hq.heap_1_39 w) "Areas.push_choice" b_Areas_push_choice := by
      refine' FnOk.nod (K := hq.heap_1_39 w.params) 482 rfl rfl ?lk ?cd ?ck rfl ?bi
      case lk => k_is
      case cd => k_is
      case ck => decide +kernel
      case bi =>
        intro vals h
        apply lst3 (l := vals) h
        intro v0 v1 v2 S
        kernel_rfl
    have fo_Areas_set_alternative : FnOk (cxK hq.heap_1_39 w) "Areas.set_alternative" b_Areas_set_alternative := by
      refine' FnOk.nod (K := hq.heap_1_39 w.params) 489 rfl rfl ?lk ?cd ?ck rfl ?bi
      case lk => k_is
      case cd => k_is
      case ck => decide +kernel
      case bi =>
        intro vals h
        apply lst2 (l := vals) h
        intro v0 v1 S
        kernel_rfl
    have fo_Areas_choice_part : FnOk (cxK hq.heap_1_39 w) "Areas.choice_part" b_Areas_choice_part := by
      refine' FnOk.nod (K := hq.heap_1_39 w.params) 496 rfl rfl ?lk ?cd ?ck rfl ?bi
      case lk => k_is
      case cd => k_is
      case ck => decide +kernel
      case bi =>
        intro vals h
        apply lst2 (l := vals) h
        intro v0 v1 S
        kernel_rfl
    have fo_Areas_restore_choice : FnOk (cxK hq.heap_1_39 w) "Areas.restore_choice" b_Areas_restore_choice := by
      refine' FnOk.nod (K := hq.heap_1_39 w.params) 503 rfl rfl ?lk ?cd ?ck rfl ?bi
      case lk => k_is
      case cd => k_is
      case ck => decide +kernel
      case bi =>
        intro vals h
        apply lst1 (l := vals) h
        intro v0 S
        kernel_rfl
    have fo_Areas_pop_choice : FnOk (cxK hq.heap_1_39 w) "Areas.pop_choice" b_Areas_pop_choice := by
      refine' FnOk.nod (K := hq.heap_1_39 w.params) 510 rfl rfl ?lk ?cd ?ck rfl ?bi
      case lk => k_is
      case cd => k_is
      case ck => decide +kernel
      case bi =>
        intro vals h
        apply lst1 (l := vals) h
        intro v0 S
        kernel_rfl
    have fo_Areas_cut_back : FnOk (cxK hq.heap_1_39 w) "Areas.cut_back" b_Areas_cut_back := by
      refine' FnOk.nod (K := hq.heap_1_39 w.params) 517 rfl rfl ?lk ?cd ?ck rfl ?bi
      case lk => k_is
      case cd => k_is
      case ck => decide +kernel
      case bi =>
        intro vals h
        apply lst2 (l := vals) h
        intro v0 v1 S
        kernel_rfl
    have fo_Areas_choices : FnOk (cxK hq.heap_1_39 w) "Areas.choices" b_Areas_choices := by
      refine' FnOk.nod (K := hq.heap_1_39 w.params) 524 rfl rfl ?lk ?cd ?ck rfl ?bi
      case lk => k_is
      case cd => k_is
      case ck => decide +kernel
      case bi =>
        intro vals h
        apply lst1 (l := vals) h
        intro v0 S
        kernel_rfl
    have fo_Areas_environments : FnOk (cxK hq.heap_1_39 w) "Areas.environments" b_Areas_environments := by
      refine' FnOk.nod (K := hq.heap_1_39 w.params) 531 rfl rfl ?lk ?cd ?ck rfl ?bi
      case lk => k_is
      case cd => k_is
      case ck => decide +kernel
      case bi =>
        intro vals h
        apply lst1 (l := vals) h
        intro v0 S
        kernel_rfl
    have fo_slot_index : FnOk (cxK hq.heap_1_39 w) "slot_index" b_slot_index := by
      refine' FnOk.nod (K := hq.heap_1_39 w.params) 545 rfl rfl ?lk ?cd ?ck rfl ?bi
      case lk => k_is
      case cd => k_is
      case ck => decide +kernel
      case bi =>
        intro vals h
        apply lst2 (l := vals) h
        intro v0 v1 S
        kernel_rfl
    have fo_write : FnOk (cxK hq.heap_1_39 w) "write" b_write := by
      refine' FnOk.nod (K := hq.heap_1_39 w.params) 552 rfl rfl ?lk ?cd ?ck rfl ?bi
      case lk => k_is
      case cd => k_is
      case ck => decide +kernel
      case bi =>
        intro vals h
        apply lst3 (l := vals) h
        intro v0 v1 v2 S
        kernel_rfl
    have fo_law_draw : FnOk (cxK hq.heap_1_39 w) "_law_draw" b_law_draw := by
      refine' FnOk.nod (K := hq.heap_1_39 w.params) 559 rfl rfl ?lk ?cd ?ck rfl ?bi
      case lk => k_is
      case cd => k_is
      case ck => decide +kernel
      case bi =>
        intro vals h
        apply lst2 (l := vals) h
        intro v0 v1 S
        kernel_rfl
    have fo_law_copied : FnOk (cxK hq.heap_1_39 w) "_law_copied" b_law_copied := by
      refine' FnOk.nod (K := hq.heap_1_39 w.params) 566 rfl rfl ?lk ?cd ?ck rfl ?bi
      case lk => k_is
      case cd => k_is
      case ck => decide +kernel
      case bi =>
        intro vals h
        apply lst1 (l := vals) h
        intro v0 S
        kernel_rfl
    have fo_law_chain : FnOk (cxK hq.heap_1_39 w) "_law_chain" b_law_chain := by
      refine' FnOk.nod (K := hq.heap_1_39 w.params) 573 rfl rfl ?lk ?cd ?ck rfl ?bi
      case lk => k_is
      case cd => k_is
      case ck => decide +kernel
      case bi =>
        intro vals h
        apply lst1 (l := vals) h
        intro v0 S
        kernel_rfl
    have fo_law_end : FnOk (cxK hq.heap_1_39 w) "_law_end" b_law_end := by
      refine' FnOk.nod (K := hq.heap_1_39 w.params) 580 rfl rfl ?lk ?cd ?ck rfl ?bi
      case lk => k_is
      case cd => k_is
      case ck => decide +kernel
      case bi =>
        intro vals h
        apply lst2 (l := vals) h
        intro v0 v1 S
        kernel_rfl
    have fo_law_same : FnOk (cxK hq.heap_1_39 w) "_law_same" b_law_same := by
      refine' FnOk.nod (K := hq.heap_1_39 w.params) 587 rfl rfl ?lk ?cd ?ck rfl ?bi
      case lk => k_is
      case cd => k_is
      case ck => decide +kernel
      case bi =>
        intro vals h
        apply lst4 (l := vals) h
        intro v0 v1 v2 v3 S
        kernel_rfl
    have hD154 : hasDictIn (hq.heap_1_39 w.params) 154 = true := by k_is
    have hS154 : findIn (hq.heap_1_39 w.params) (.ref 154) "__setattr__" = some (some (.builtin "object.__setattr__")) := by k_is
    have hO154 : plainOver (hq.heap_1_39 w.params) 154 = true := by k_is
    have gf154_texts : FldOk (hq.heap_1_39 w.params) 154 "texts" := by
      refine' FldOk.of hD154 hS154 hO154 ?h1 ?h3 ?h4 ?h7
      case h1 => k_is
      case h3 => k_is
      case h4 => k_is
      case h7 => k_is
    have gf154_atom_numbers : FldOk (hq.heap_1_39 w.params) 154 "atom_numbers" := by
      refine' FldOk.of hD154 hS154 hO154 ?h1 ?h3 ?h4 ?h7
      case h1 => k_is
      case h3 => k_is
      case h4 => k_is
      case h7 => k_is
    have gf154_functors : FldOk (hq.heap_1_39 w.params) 154 "functors" := by
      refine' FldOk.of hD154 hS154 hO154 ?h1 ?h3 ?h4 ?h7
      case h1 => k_is
      case h3 => k_is
      case h4 => k_is
      case h7 => k_is
    have gf154_functor_numbers : FldOk (hq.heap_1_39 w.params) 154 "functor_numbers" := by
      refine' FldOk.of hD154 hS154 hO154 ?h1 ?h3 ?h4 ?h7
      case h1 => k_is
      case h3 => k_is
      case h4 => k_is
      case h7 => k_is
    have hD374 : hasDictIn (hq.heap_1_39 w.params) 374 = true := by k_is
    have hS374 : findIn (hq.heap_1_39 w.params) (.ref 374) "__setattr__" = some (some (.builtin "object.__setattr__")) := by k_is
    have hO374 : plainOver (hq.heap_1_39 w.params) 374 = true := by k_is
    have gf374_symbols : FldOk (hq.heap_1_39 w.params) 374 "symbols" := by
      refine' FldOk.of hD374 hS374 hO374 ?h1 ?h3 ?h4 ?h7
      case h1 => k_is
      case h3 => k_is
      case h4 => k_is
      case h7 => k_is
    have gf374_max_heap : FldOk (hq.heap_1_39 w.params) 374 "max_heap" := by
      refine' FldOk.of hD374 hS374 hO374 ?h1 ?h3 ?h4 ?h7
      case h1 => k_is
      case h3 => k_is
      case h4 => k_is
      case h7 => k_is
    have gf374_heap : FldOk (hq.heap_1_39 w.params) 374 "heap" := by
      refine' FldOk.of hD374 hS374 hO374 ?h1 ?h3 ?h4 ?h7
      case h1 => k_is
      case h3 => k_is
      case h4 => k_is
      case h7 => k_is
    have gf374_stack : FldOk (hq.heap_1_39 w.params) 374 "stack" := by
      refine' FldOk.of hD374 hS374 hO374 ?h1 ?h3 ?h4 ?h7
      case h1 => k_is
      case h3 => k_is
      case h4 => k_is
      case h7 => k_is
    have gf374_trail : FldOk (hq.heap_1_39 w.params) 374 "trail" := by
      refine' FldOk.of hD374 hS374 hO374 ?h1 ?h3 ?h4 ?h7
      case h1 => k_is
      case h3 => k_is
      case h4 => k_is
      case h7 => k_is
    have gf374_hb : FldOk (hq.heap_1_39 w.params) 374 "hb" := by
      refine' FldOk.of hD374 hS374 hO374 ?h1 ?h3 ?h4 ?h7
      case h1 => k_is
      case h3 => k_is
      case h4 => k_is
      case h7 => k_is
    have gf374_bb : FldOk (hq.heap_1_39 w.params) 374 "bb" := by
      refine' FldOk.of hD374 hS374 hO374 ?h1 ?h3 ?h4 ?h7
      case h1 => k_is
      case h3 => k_is
      case h4 => k_is
      case h7 => k_is
    have hD534 : hasDictIn (hq.heap_1_39 w.params) 534 = true := by k_is
    have hS534 : findIn (hq.heap_1_39 w.params) (.ref 534) "__setattr__" = some (some (.builtin "object.__setattr__")) := by k_is
    have hO534 : plainOver (hq.heap_1_39 w.params) 534 = true := by k_is
    have gf534_symbols : FldOk (hq.heap_1_39 w.params) 534 "symbols" := by
      refine' FldOk.of hD534 hS534 hO534 ?h1 ?h3 ?h4 ?h7
      case h1 => k_is
      case h3 => k_is
      case h4 => k_is
      case h7 => k_is
    have gf534_code : FldOk (hq.heap_1_39 w.params) 534 "code" := by
      refine' FldOk.of hD534 hS534 hO534 ?h1 ?h3 ?h4 ?h7
      case h1 => k_is
      case h3 => k_is
      case h4 => k_is
      case h7 => k_is
    have gf534_max_heap : FldOk (hq.heap_1_39 w.params) 534 "max_heap" := by
      refine' FldOk.of hD534 hS534 hO534 ?h1 ?h3 ?h4 ?h7
      case h1 => k_is
      case h3 => k_is
      case h4 => k_is
      case h7 => k_is
    have gf534_occurs : FldOk (hq.heap_1_39 w.params) 534 "occurs" := by
      refine' FldOk.of hD534 hS534 hO534 ?h1 ?h3 ?h4 ?h7
      case h1 => k_is
      case h3 => k_is
      case h4 => k_is
      case h7 => k_is
    have gf534_max_bits : FldOk (hq.heap_1_39 w.params) 534 "max_bits" := by
      refine' FldOk.of hD534 hS534 hO534 ?h1 ?h3 ?h4 ?h7
      case h1 => k_is
      case h3 => k_is
      case h4 => k_is
      case h7 => k_is
    have gf534_store : FldOk (hq.heap_1_39 w.params) 534 "store" := by
      refine' FldOk.of hD534 hS534 hO534 ?h1 ?h3 ?h4 ?h7
      case h1 => k_is
      case h3 => k_is
      case h4 => k_is
      case h7 => k_is
    have gf534_x : FldOk (hq.heap_1_39 w.params) 534 "x" := by
      refine' FldOk.of hD534 hS534 hO534 ?h1 ?h3 ?h4 ?h7
      case h1 => k_is
      case h3 => k_is
      case h4 => k_is
      case h7 => k_is
    have gf534_p : FldOk (hq.heap_1_39 w.params) 534 "p" := by
      refine' FldOk.of hD534 hS534 hO534 ?h1 ?h3 ?h4 ?h7
      case h1 => k_is
      case h3 => k_is
      case h4 => k_is
      case h7 => k_is
    have gf534_cp : FldOk (hq.heap_1_39 w.params) 534 "cp" := by
      refine' FldOk.of hD534 hS534 hO534 ?h1 ?h3 ?h4 ?h7
      case h1 => k_is
      case h3 => k_is
      case h4 => k_is
      case h7 => k_is
    have gf534_e : FldOk (hq.heap_1_39 w.params) 534 "e" := by
      refine' FldOk.of hD534 hS534 hO534 ?h1 ?h3 ?h4 ?h7
      case h1 => k_is
      case h3 => k_is
      case h4 => k_is
      case h7 => k_is
    have gf534_b : FldOk (hq.heap_1_39 w.params) 534 "b" := by
      refine' FldOk.of hD534 hS534 hO534 ?h1 ?h3 ?h4 ?h7
      case h1 => k_is
      case h3 => k_is
      case h4 => k_is
      case h7 => k_is
    have gf534_b0 : FldOk (hq.heap_1_39 w.params) 534 "b0" := by
      refine' FldOk.of hD534 hS534 hO534 ?h1 ?h3 ?h4 ?h7
      case h1 => k_is
      case h3 => k_is
      case h4 => k_is
      case h7 => k_is
    have gf534_mode : FldOk (hq.heap_1_39 w.params) 534 "mode" := by
      refine' FldOk.of hD534 hS534 hO534 ?h1 ?h3 ?h4 ?h7
      case h1 => k_is
      case h3 => k_is
      case h4 => k_is
      case h7 => k_is
    have gf534_s : FldOk (hq.heap_1_39 w.params) 534 "s" := by
      refine' FldOk.of hD534 hS534 hO534 ?h1 ?h3 ?h4 ?h7
      case h1 => k_is
      case h3 => k_is
      case h4 => k_is
      case h7 => k_is
    have gf534_guard : FldOk (hq.heap_1_39 w.params) 534 "guard" := by
      refine' FldOk.of hD534 hS534 hO534 ?h1 ?h3 ?h4 ?h7
      case h1 => k_is
      case h3 => k_is
      case h4 => k_is
      case h7 => k_is
    have gf534_roots : FldOk (hq.heap_1_39 w.params) 534 "roots" := by
      refine' FldOk.of hD534 hS534 hO534 ?h1 ?h3 ?h4 ?h7
      case h1 => k_is
      case h3 => k_is
      case h4 => k_is
      case h7 => k_is
    have gf534_bags : FldOk (hq.heap_1_39 w.params) 534 "bags" := by
      refine' FldOk.of hD534 hS534 hO534 ?h1 ?h3 ?h4 ?h7
      case h1 => k_is
      case h3 => k_is
      case h4 => k_is
      case h7 => k_is
    have gf534_collect_wanted : FldOk (hq.heap_1_39 w.params) 534 "collect_wanted" := by
      refine' FldOk.of hD534 hS534 hO534 ?h1 ?h3 ?h4 ?h7
      case h1 => k_is
      case h3 => k_is
      case h4 => k_is
      case h7 => k_is
    have gl_REF : GlOk (hq.heap_1_39 w.params) "REF" (.int 0) := by
      refine' GlOk.int ?h1
      case h1 => k_is
    have gl_SRF : GlOk (hq.heap_1_39 w.params) "SRF" (.int 1) := by
      refine' GlOk.int ?h1
      case h1 => k_is
    have gl_INT : GlOk (hq.heap_1_39 w.params) "INT" (.int 5) := by
      refine' GlOk.int ?h1
      case h1 => k_is
    have gl_VOID : GlOk (hq.heap_1_39 w.params) "VOID" (.tup [.int 5, .int 0]) := by
      refine' GlOk.pair ?h1 ?h2
      case h1 => k_is
      case h2 => k_is
    have gl_READ : GlOk (hq.heap_1_39 w.params) "READ" (.str (Str.ofString "read")) := by
      refine' GlOk.str ?h1
      case h1 => k_is
    have gl_AT_E : GlOk (hq.heap_1_39 w.params) "AT_E" (.int 1) := by
      refine' GlOk.int ?h1
      case h1 => k_is
    have gl_AT_CP : GlOk (hq.heap_1_39 w.params) "AT_CP" (.int 2) := by
      refine' GlOk.int ?h1
      case h1 => k_is
    have gl_AT_PREVIOUS : GlOk (hq.heap_1_39 w.params) "AT_PREVIOUS" (.int 3) := by
      refine' GlOk.int ?h1
      case h1 => k_is
    have gl_AT_ALTERNATIVE : GlOk (hq.heap_1_39 w.params) "AT_ALTERNATIVE" (.int 4) := by
      refine' GlOk.int ?h1
      case h1 => k_is
    have gl_AT_TRAIL : GlOk (hq.heap_1_39 w.params) "AT_TRAIL" (.int 5) := by
      refine' GlOk.int ?h1
      case h1 => k_is
    have gl_AT_HEAP : GlOk (hq.heap_1_39 w.params) "AT_HEAP" (.int 6) := by
      refine' GlOk.int ?h1
      case h1 => k_is
    have gl_AT_B0 : GlOk (hq.heap_1_39 w.params) "AT_B0" (.int 7) := by
      refine' GlOk.int ?h1
      case h1 => k_is
    have gl_EXTRA : GlOk (hq.heap_1_39 w.params) "EXTRA" (.int 8) := by
      refine' GlOk.int ?h1
      case h1 => k_is
    have fu_fixed_atoms : FunOk (hq.heap_1_39 w.params) "fixed_atoms" := by
      refine ⟨60, rfl, ?_, ?_⟩ <;> k_is
    have fu_fixed_functors : FunOk (hq.heap_1_39 w.params) "fixed_functors" := by
      refine ⟨67, rfl, ?_, ?_⟩ <;> k_is
    have fu_slot_index : FunOk (hq.heap_1_39 w.params) "slot_index" := by
      refine ⟨545, rfl, ?_, ?_⟩ <;> k_is
    have fu_write : FunOk (hq.heap_1_39 w.params) "write" := by
      refine ⟨552, rfl, ?_, ?_⟩ <;> k_is
    have fu__law_draw : FunOk (hq.heap_1_39 w.params) "_law_draw" := by
      refine ⟨559, rfl, ?_, ?_⟩ <;> k_is
    have fu__law_copied : FunOk (hq.heap_1_39 w.params) "_law_copied" := by
      refine ⟨566, rfl, ?_, ?_⟩ <;> k_is
    have fu__law_chain : FunOk (hq.heap_1_39 w.params) "_law_chain" := by
      refine ⟨573, rfl, ?_, ?_⟩ <;> k_is
    have fu__law_end : FunOk (hq.heap_1_39 w.params) "_law_end" := by
      refine ⟨580, rfl, ?_, ?_⟩ <;> k_is
    have fu__law_same : FunOk (hq.heap_1_39 w.params) "_law_same" := by
      refine ⟨587, rfl, ?_, ?_⟩ <;> k_is
    have cl_Symbols : ClsOk (hq.heap_1_39 w.params) "Symbols" := by
      refine ⟨154, 81, "Symbols.__init__", rfl, ?_, ?_, ?_, rfl, rfl, ?_, ?_⟩ <;> k_is
    have cl_Store : ClsOk (hq.heap_1_39 w.params) "Store" := by
      refine ⟨374, 195, "Cells.__init__", rfl, ?_, ?_, ?_, rfl, rfl, ?_, ?_⟩ <;> k_is
    have cl_Areas : ClsOk (hq.heap_1_39 w.params) "Areas" := by
      refine ⟨534, 391, "Areas.__init__", rfl, ?_, ?_, ?_, rfl, rfl, ?_, ?_⟩ <;> k_is
    have me154___init__ : MethOk (hq.heap_1_39 w.params) 154 "Symbols.__init__" "__init__" := by
      refine ⟨81, rfl, ?_, ?_, ?_, ?_⟩ <;> k_is
    have me154_atom : MethOk (hq.heap_1_39 w.params) 154 "Symbols.atom" "atom" := by
      refine ⟨88, rfl, ?_, ?_, ?_, ?_⟩ <;> k_is
    have me154_functor : MethOk (hq.heap_1_39 w.params) 154 "Symbols.functor" "functor" := by
      refine ⟨102, rfl, ?_, ?_, ?_, ?_⟩ <;> k_is
    have me154_func : MethOk (hq.heap_1_39 w.params) 154 "Symbols.func" "func" := by
      refine ⟨109, rfl, ?_, ?_, ?_, ?_⟩ <;> k_is
    have me374___init__ : MethOk (hq.heap_1_39 w.params) 374 "Cells.__init__" "__init__" := by
      refine ⟨195, rfl, ?_, ?_, ?_, ?_⟩ <;> k_is
    have me374_push : MethOk (hq.heap_1_39 w.params) 374 "Cells.push" "push" := by
      refine ⟨202, rfl, ?_, ?_, ?_, ?_⟩ <;> k_is
    have me374_new_var : MethOk (hq.heap_1_39 w.params) 374 "Cells.new_var" "new_var" := by
      refine ⟨209, rfl, ?_, ?_, ?_, ?_⟩ <;> k_is
    have me374_trim : MethOk (hq.heap_1_39 w.params) 374 "Cells.trim" "trim" := by
      refine ⟨223, rfl, ?_, ?_, ?_, ?_⟩ <;> k_is
    have me374_deref : MethOk (hq.heap_1_39 w.params) 374 "Cells.deref" "deref" := by
      refine ⟨230, rfl, ?_, ?_, ?_, ?_⟩ <;> k_is
    have me374_bind : MethOk (hq.heap_1_39 w.params) 374 "Cells.bind" "bind" := by
      refine ⟨244, rfl, ?_, ?_, ?_, ?_⟩ <;> k_is
    have me374_bind_pair : MethOk (hq.heap_1_39 w.params) 374 "Cells.bind_pair" "bind_pair" := by
      refine ⟨251, rfl, ?_, ?_, ?_, ?_⟩ <;> k_is
    have me374_mark : MethOk (hq.heap_1_39 w.params) 374 "Cells.mark" "mark" := by
      refine ⟨265, rfl, ?_, ?_, ?_, ?_⟩ <;> k_is
    have me374_undo_to : MethOk (hq.heap_1_39 w.params) 374 "Cells.undo_to" "undo_to" := by
      refine ⟨272, rfl, ?_, ?_, ?_, ?_⟩ <;> k_is
    have me374_stack_put : MethOk (hq.heap_1_39 w.params) 374 "Cells.stack_put" "stack_put" := by
      refine ⟨279, rfl, ?_, ?_, ?_, ?_⟩ <;> k_is
    have me534___init__ : MethOk (hq.heap_1_39 w.params) 534 "Areas.__init__" "__init__" := by
      refine ⟨391, rfl, ?_, ?_, ?_, ?_⟩ <;> k_is
    have me534_reset : MethOk (hq.heap_1_39 w.params) 534 "Areas.reset" "reset" := by
      refine ⟨398, rfl, ?_, ?_, ?_, ?_⟩ <;> k_is
    have me534_set_x : MethOk (hq.heap_1_39 w.params) 534 "Areas.set_x" "set_x" := by
      refine ⟨405, rfl, ?_, ?_, ?_, ?_⟩ <;> k_is
    have me534_top : MethOk (hq.heap_1_39 w.params) 534 "Areas.top" "top" := by
      refine ⟨447, rfl, ?_, ?_, ?_, ?_⟩ <;> k_is
    have me534_push_environment : MethOk (hq.heap_1_39 w.params) 534 "Areas.push_environment" "push_environment" := by
      refine ⟨454, rfl, ?_, ?_, ?_, ?_⟩ <;> k_is
    have me534_pop_environment : MethOk (hq.heap_1_39 w.params) 534 "Areas.pop_environment" "pop_environment" := by
      refine ⟨461, rfl, ?_, ?_, ?_, ?_⟩ <;> k_is
    have me534_in_chain : MethOk (hq.heap_1_39 w.params) 534 "Areas.in_chain" "in_chain" := by
      refine ⟨468, rfl, ?_, ?_, ?_, ?_⟩ <;> k_is
    have me534_set_choice : MethOk (hq.heap_1_39 w.params) 534 "Areas.set_choice" "set_choice" := by
      refine ⟨475, rfl, ?_, ?_, ?_, ?_⟩ <;> k_is
    have me534_push_choice : MethOk (hq.heap_1_39 w.params) 534 "Areas.push_choice" "push_choice" := by
      refine ⟨482, rfl, ?_, ?_, ?_, ?_⟩ <;> k_is
    have me534_set_alternative : MethOk (hq.heap_1_39 w.params) 534 "Areas.set_alternative" "set_alternative" := by
      refine ⟨489, rfl, ?_, ?_, ?_, ?_⟩ <;> k_is
    have me534_choice_part : MethOk (hq.heap_1_39 w.params) 534 "Areas.choice_part" "choice_part" := by
      refine ⟨496, rfl, ?_, ?_, ?_, ?_⟩ <;> k_is
    have me534_restore_choice : MethOk (hq.heap_1_39 w.params) 534 "Areas.restore_choice" "restore_choice" := by
      refine ⟨503, rfl, ?_, ?_, ?_, ?_⟩ <;> k_is
    have me534_pop_choice : MethOk (hq.heap_1_39 w.params) 534 "Areas.pop_choice" "pop_choice" := by
      refine ⟨510, rfl, ?_, ?_, ?_, ?_⟩ <;> k_is
    have me534_cut_back : MethOk (hq.heap_1_39 w.params) 534 "Areas.cut_back" "cut_back" := by
      refine ⟨517, rfl, ?_, ?_, ?_, ?_⟩ <;> k_is
    have me534_choices : MethOk (hq.heap_1_39 w.params) 534 "Areas.choices" "choices" := by
      refine ⟨524, rfl, ?_, ?_, ?_, ?_⟩ <;> k_is
    have me534_environments : MethOk (hq.heap_1_39 w.params) 534 "Areas.environments" "environments" := by
      refine ⟨531, rfl, ?_, ?_, ?_, ?_⟩ <;> k_is
    have bn_len : nsIn (hq.heap_1_39 w.params) mainGlobals (Str.ofString "len") = some none := by k_is
    have bn_range : nsIn (hq.heap_1_39 w.params) mainGlobals (Str.ofString "range") = some none := by k_is
    have bn_sorted : nsIn (hq.heap_1_39 w.params) mainGlobals (Str.ofString "sorted") = some none := by k_is
    have bn_list : nsIn (hq.heap_1_39 w.params) mainGlobals (Str.ofString "list") = some none := by k_is
    have bn_max : nsIn (hq.heap_1_39 w.params) mainGlobals (Str.ofString "max") = some none := by k_is
    have bn_min : nsIn (hq.heap_1_39 w.params) mainGlobals (Str.ofString "min") = some none := by k_is
    refine ⟨kg_of (fc gf154_texts (fc gf154_atom_numbers (fc gf154_functors (fc gf154_functor_numbers f0)))) (fc gf374_symbols (fc gf374_max_heap (fc gf374_heap (fc gf374_stack (fc gf374_trail (fc gf374_hb (fc gf374_bb f0))))))) (fc gf534_symbols (fc gf534_code (fc gf534_max_heap (fc gf534_occurs (fc gf534_max_bits (fc gf534_store (fc gf534_x (fc gf534_p (fc gf534_cp (fc gf534_e (fc gf534_b (fc gf534_b0 (fc gf534_mode (fc gf534_s (fc gf534_guard (fc gf534_roots (fc gf534_bags (fc gf534_collect_wanted f0)))))))))))))))))) (fc gl_REF (fc gl_SRF (fc gl_INT (fc gl_VOID (fc gl_READ (fc gl_AT_E (fc gl_AT_CP (fc gl_AT_PREVIOUS (fc gl_AT_ALTERNATIVE (fc gl_AT_TRAIL (fc gl_AT_HEAP (fc gl_AT_B0 (fc gl_EXTRA f0))))))))))))) (fc fu_fixed_atoms (fc fu_fixed_functors (fc fu_slot_index (fc fu_write (fc fu__law_draw (fc fu__law_copied (fc fu__law_chain (fc fu__law_end (fc fu__law_same f0))))))))) cl_Symbols cl_Store cl_Areas (fc me154___init__ (fc me154_atom (fc me154_functor (fc me154_func f0)))) (fc me374___init__ (fc me374_push (fc me374_new_var (fc me374_trim (fc me374_deref (fc me374_bind (fc me374_bind_pair (fc me374_mark (fc me374_undo_to (fc me374_stack_put f0)))))))))) (fc me534___init__ (fc me534_reset (fc me534_set_x (fc me534_top (fc me534_push_environment (fc me534_pop_environment (fc me534_in_chain (fc me534_set_choice (fc me534_push_choice (fc me534_set_alternative (fc me534_choice_part (fc me534_restore_choice (fc me534_pop_choice (fc me534_cut_back (fc me534_choices (fc me534_environments f0)))))))))))))))) (fc ⟨bn_len, by rfl⟩ (fc ⟨bn_range, by rfl⟩ (fc ⟨bn_sorted, by rfl⟩ (fc ⟨bn_list, by rfl⟩ (fc ⟨bn_max, by rfl⟩ (fc ⟨bn_min, by rfl⟩ f0)))))), ?_⟩
    exact fun f fn h => look_all (l := progL) (P := FnOk (cxK hq.heap_1_39 w)) (fc fo_fixed_atoms (fc fo_fixed_functors (fc fo_Symbols_init (fc fo_Symbols_atom (fc fo_Symbols_functor (fc fo_Symbols_func (fc fo_Cells_init (fc fo_Cells_push (fc fo_Cells_new_var (fc fo_Cells_trim (fc fo_Cells_deref (fc fo_Cells_bind (fc fo_Cells_bind_pair (fc fo_Cells_mark (fc fo_Cells_undo_to (fc fo_Cells_stack_put (fc fo_Areas_init (fc fo_Areas_reset (fc fo_Areas_set_x (fc fo_Areas_top (fc fo_Areas_push_environment (fc fo_Areas_pop_environment (fc fo_Areas_in_chain (fc fo_Areas_set_choice (fc fo_Areas_push_choice (fc fo_Areas_set_alternative (fc fo_Areas_choice_part (fc fo_Areas_restore_choice (fc fo_Areas_pop_choice (fc fo_Areas_cut_back (fc fo_Areas_choices (fc fo_Areas_environments (fc fo_slot_index (fc fo_write (fc fo_law_draw (fc fo_law_copied (fc fo_law_chain (fc fo_law_end (fc fo_law_same f0))))))))))))))))))))))))))))))))))))))) h
  w_strict (k_go0; (all_goals try k_fold))
  rename_i w s0 s1 mg mb G Y fa o pm doc ho hg KX X V GL T B TE TW a1 a2 M a3 a4 hcd zs hs hlay0 hLl hr1 hl2 as1 as2 sl its as3 hL ra w1 r0 hI hr hc1 hc2 K0 hD h1 tk1 F o1 o2 d1 d2 N0 X0
  refine C187.law_entry (c := C187.cxK hq.heap_1_39 w) (FACTS w).1 (FACTS w).2 rfl (sl := sl) (its := its) (zs := zs) ⟨KX, ?sys, _, _, mg, mb, topRead_of T⟩ F N0 d1 d2 ?hm hL hI ?hz ?hk ?hcl (C187.cells_of ?hcn) ?hsc ?ck ?hq
  case sys => obtain ⟨mm, ⟨ob, es, ep, hh, _⟩, _⟩ := (Glob.seer GL).mods; exact ⟨ob, hh⟩
  case hz => lia
  case hk => rfl
  case hm => first | rfl | kernel_rfl
  case hcl => first | rfl | kernel_rfl
  case hcn => decide +kernel
  case hsc => first | rfl | decide +kernel
  case ck => decide +kernel
  case hq =>
    intro s' keep os gens
    refine ⟨.inl ⟨.bool true, .bool true, [], rfl, fun _ => rfl, .bool true, ?hp, fun _ => ⟨List.nodup_nil, fun a ha => nomatch ha⟩⟩, keep, os, gens.trans hg⟩
    first | rfl | wrow_post | decide
end Mine

theorem PySem.Challenge.cw_no0187_01_holds : PySem.Challenge.rw_no0187_01.Holds := by
  exact Mine.hq

