import PyProof.Rows.All
import Wide.All
import OpenK.AllK
import Wide.FinOn
import PySem.Challenge.RW_pq0558_01
set_option tactic.hygienic false
set_option compiler.extract_closed false
namespace Mine.Internal
set_option linter.unusedVariables false
set_option genSizeOf false
set_option genInjectivity false
inductive Lf where | n (k : Nat) | v (i : Nat) | a (x y : Lf) | m (x : Lf) (k : Nat) | l (k : Nat) (x : Lf)
noncomputable def Lf.nth (c : List Nat) : Nat → Nat := c.rec (fun z0 => 0) fun x z0 f i => Nat.rec x (fun j z0 => f j) i
noncomputable def Lf.ev (c : List Nat) (e : Lf) : Nat := e.rec (fun k => k) (fun i => nth c i) (fun z0 z1 p q => p + q) (fun z0 k p => p * k) (fun k z0 p => k * p)
noncomputable def Lf.add (p : List Nat) : List Nat → List Nat := p.rec (fun q => q) fun x xs f q => List.rec (x :: xs) (fun y ys z0 => (x + y) :: f ys) q
noncomputable def Lf.mul (k : Nat) (p : List Nat) : List Nat := p.map (fun x => x * k)
noncomputable def Lf.le (p : List Nat) : List Nat → Bool := p.rec (fun z0 => true) fun x xs f q => List.rec (Nat.rec (f []) (fun z0 z1 => false) x) (fun y ys z0 => Bool.rec false (f ys) (Nat.ble x y)) q
noncomputable def Lf.un (i : Nat) : List Nat := Nat.rec [1] (fun z0 p => 0 :: p) i
noncomputable def Lf.po (e : Lf) : List Nat := e.rec (fun k => [k]) (fun i => 0 :: un i) (fun z0 z1 p q => add p q) (fun z0 k p => mul k p) (fun k z0 p => mul k p)
noncomputable def Lf.dot (c : List Nat) (p : List Nat) : Nat := p.rec (fun z0 => 0) (fun x z0 f c => List.rec 0 (fun y ys z0 => x * y + f ys) c) c
theorem Lf.dot_add (p : List Nat) : ∀ c q, dot c (add p q) = dot c p + dot c q := by
  induction p with
  | nil => intro c q; exact (Nat.zero_add _).symm
  | cons x xs ih =>
    intro c q
    cases q with
    | nil => exact (Nat.add_zero _).symm
    | cons y ys =>
      cases c with
      | nil => rfl
      | cons z zs => show (x + y) * z + dot zs (add xs ys) = (x * z + dot zs xs) + (y * z + dot zs ys); rw [ih, Nat.add_mul]; ac_rfl
theorem Lf.dot_mul (k : Nat) (p : List Nat) : ∀ c, dot c (mul k p) = dot c p * k := by
  induction p with
  | nil => intro c; exact (Nat.zero_mul _).symm
  | cons x xs ih =>
    intro c
    cases c with
    | nil => exact (Nat.zero_mul _).symm
    | cons z zs => show x * k * z + dot zs (mul k xs) = (x * z + dot zs xs) * k; rw [ih, Nat.add_mul, Nat.mul_right_comm]
theorem Lf.dot_nil (p : List Nat) : dot [] p = 0 := by cases p <;> rfl
theorem Lf.dot_le (p : List Nat) : ∀ c q, le p q = true → dot c p ≤ dot c q := by
  induction p with
  | nil => intro c q h; exact Nat.zero_le _
  | cons x xs ih =>
    intro c q h
    cases c with
    | nil => exact Nat.le_trans (Nat.le_of_eq (dot_nil _)) (Nat.zero_le _)
    | cons z zs =>
      cases q with
      | nil =>
        cases x with
        | zero => exact Nat.le_trans (Nat.le_of_eq (by show 0 * z + dot zs xs = _; rw [Nat.zero_mul, Nat.zero_add])) (ih zs [] h)
        | succ n => cases h
      | cons y ys =>
        have hb : Nat.ble x y = true := by
          cases e : Nat.ble x y with
          | true => rfl
          | false => rw [show le (x :: xs) (y :: ys) = Bool.rec false (le xs ys) (Nat.ble x y) from rfl, e] at h; exact h
        rw [show le (x :: xs) (y :: ys) = Bool.rec false (le xs ys) (Nat.ble x y) from rfl, hb] at h
        exact Nat.add_le_add (Nat.mul_le_mul_right z (Nat.le_of_ble_eq_true hb)) (ih zs ys h)
theorem Lf.dot_un (i : Nat) : ∀ c, dot c (un i) = nth c i := by
  induction i with
  | zero => intro c; cases c with
    | nil => rfl
    | cons z zs => show 1 * z + 0 = z; rw [Nat.one_mul, Nat.add_zero]
  | succ i ih => intro c; cases c with
    | nil => rfl
    | cons z zs => show 0 * z + dot zs (un i) = nth zs i; rw [ih, Nat.zero_mul, Nat.zero_add]
theorem Lf.ev_po (c : List Nat) (e : Lf) : dot (1 :: c) e.po = e.ev c := by
  induction e with
  | n k => show k * 1 + 0 = k; rw [Nat.mul_one, Nat.add_zero]
  | v i => show 0 * 1 + dot c (un i) = nth c i; rw [dot_un, Nat.zero_mul, Nat.zero_add]
  | a x y p q => show dot (1 :: c) (add x.po y.po) = x.ev c + y.ev c; rw [dot_add, p, q]
  | m x k p => show dot (1 :: c) (mul k x.po) = x.ev c * k; rw [dot_mul, p]
  | l k x p => show dot (1 :: c) (mul k x.po) = k * x.ev c; rw [dot_mul, p, Nat.mul_comm]
structure Lc where
  (k : Nat) (l r : Lf)
noncomputable def Lc.ok (c : List Nat) (g : Lc) : Prop := g.l.ev c ≤ g.r.ev c
noncomputable def Lc.L (g : Lc) : Mine.Internal.Lf := g.l.m (g.k + 1)
noncomputable def Lc.R (g : Lc) : Mine.Internal.Lf := g.r.m (g.k + 1)
theorem Lc.ok.le {c : List Nat} {g : Lc} (h : g.ok c) : g.L.ev c ≤ g.R.ev c := Nat.mul_le_mul_right (g.k + 1) h
theorem lin {c : List Nat} {p q : Lf} (hs : p.ev c ≤ q.ev c) (g : Lc) (h : Lf.le (q.a g.L).po ((p.a g.R).a (.n g.k)).po = true) : g.ok c := by
  have h1 := Lf.dot_le _ (1 :: c) _ h
  rw [Lf.ev_po, Lf.ev_po] at h1
  have h2 : q.ev c + g.l.ev c * (g.k + 1) ≤ (p.ev c + g.r.ev c * (g.k + 1)) + g.k := h1
  apply Nat.le_of_not_lt
  intro hn
  have h4 : (g.r.ev c + 1) * (g.k + 1) ≤ g.l.ev c * (g.k + 1) := Nat.mul_le_mul_right _ hn
  rw [Nat.add_mul, Nat.one_mul] at h4
  omega
theorem sb1 (a b : Nat) : a ≤ a - b + b := Nat.le_add_of_sub_le (Nat.le_refl _)
theorem sb3 {a b : Nat} (h : b ≤ a) : a - b + b ≤ a := Nat.le_of_eq (Nat.sub_add_cancel h)
theorem li0 (c : List Nat) (g : Lc) (h : Lf.le ((Lf.n 0).a g.L).po (((Lf.n 0).a g.R).a (.n g.k)).po = true) : g.ok c := lin (Nat.le_refl _) g h
theorem li1 (c : List Nat) (g a : Lc) (h : Lf.le (a.R.a g.L).po ((a.L.a g.R).a (.n g.k)).po = true) (ha : a.ok c) : g.ok c := lin ha.le g h
theorem li2 (c : List Nat) (g a b : Lc) (h : Lf.le ((a.R.a b.R).a g.L).po (((a.L.a b.L).a g.R).a (.n g.k)).po = true) (ha : a.ok c) (hb : b.ok c) : g.ok c := lin (p := a.L.a b.L) (q := a.R.a b.R) (Nat.add_le_add ha.le hb.le) g h
theorem li3 (c : List Nat) (g a b d : Lc) (h : Lf.le (((a.R.a b.R).a d.R).a g.L).po ((((a.L.a b.L).a d.L).a g.R).a (.n g.k)).po = true) (ha : a.ok c) (hb : b.ok c) (hd : d.ok c) : g.ok c := lin (p := (a.L.a b.L).a d.L) (q := (a.R.a b.R).a d.R) (Nat.add_le_add (Nat.add_le_add ha.le hb.le) hd.le) g h
theorem li4 (c : List Nat) (g a b d e : Lc) (h : Lf.le ((((a.R.a b.R).a d.R).a e.R).a g.L).po (((((a.L.a b.L).a d.L).a e.L).a g.R).a (.n g.k)).po = true) (ha : a.ok c) (hb : b.ok c) (hd : d.ok c) (he : e.ok c) : g.ok c := lin (p := ((a.L.a b.L).a d.L).a e.L) (q := ((a.R.a b.R).a d.R).a e.R) (Nat.add_le_add (Nat.add_le_add (Nat.add_le_add ha.le hb.le) hd.le) he.le) g h
theorem li5 (c : List Nat) (g a b d e f : Lc) (h : Lf.le (((((a.R.a b.R).a d.R).a e.R).a f.R).a g.L).po ((((((a.L.a b.L).a d.L).a e.L).a f.L).a g.R).a (.n g.k)).po = true) (ha : a.ok c) (hb : b.ok c) (hd : d.ok c) (he : e.ok c) (hf : f.ok c) : g.ok c := lin (p := (((a.L.a b.L).a d.L).a e.L).a f.L) (q := (((a.R.a b.R).a d.R).a e.R).a f.R) (Nat.add_le_add (Nat.add_le_add (Nat.add_le_add (Nat.add_le_add ha.le hb.le) hd.le) he.le) hf.le) g h
end Mine.Internal
set_option compiler.extract_closed false
set_option genSizeOf false
set_option genInjectivity false
namespace Mine.Internal
inductive Fid
  | bits
  | last_terminal
  | plain_grammar
  | spread
  | nullable
  | first_of
  | first_masks
  | follow_masks
  | transitive
  | predict
  | choices_of
  | ll_clashes
  | is_ll_one
  | led_by
  | advanced
  | kernels_behind
  | complete_rules
  | build
  | inadequate_states
  | is_lr_zero
  | law_pen
  | law_draw
  | law_rules
  | law_row
  | law_bent
  | law_from_right
  | law_from_left
  | law_is_right
  | law
  | Rule_init
  | Grammar_init
  | Grammar_symbol_count
  | Grammar_is_terminal
  | Grammar_number
  | Grammar_rules_of
  | Grammar_item
  | Grammar_rule_of
  | Grammar_dot_of
  | Grammar_after
  | LrState_init
  | LrState_goto
  | LrState_is_consistent
  | Closer_init
  | Closer_wanted
  | Closer_added
  | Closer_close
  | Automaton_init
  | Automaton_goto
  | Builder_init
  | Builder_number_of
  | Builder_expand
  | Builder_built
inductive Cid
  | Rule | Grammar | LrState | Closer | Automaton | Builder
noncomputable def Cid.init : Cid → Fid
  | .Rule => .Rule_init
  | .Grammar => .Grammar_init
  | .LrState => .LrState_init
  | .Closer => .Closer_init
  | .Automaton => .Automaton_init
  | .Builder => .Builder_init
noncomputable def Cid.meths : Cid → List (String × Fid)
  | .Grammar => [("symbol_count", .Grammar_symbol_count), ("is_terminal", .Grammar_is_terminal), ("number", .Grammar_number), ("rules_of", .Grammar_rules_of), ("item", .Grammar_item), ("rule_of", .Grammar_rule_of), ("dot_of", .Grammar_dot_of), ("after", .Grammar_after)]
  | .LrState => [("goto", .LrState_goto), ("is_consistent", .LrState_is_consistent)]
  | .Closer => [("wanted", .Closer_wanted), ("added", .Closer_added), ("close", .Closer_close)]
  | .Automaton => [("goto", .Automaton_goto)]
  | .Builder => [("number_of", .Builder_number_of), ("expand", .Builder_expand), ("built", .Builder_built)]
  | .Rule => []
noncomputable def Cid.meth (c : Cid) (n : String) : Option Fid := c.meths.lookup n
noncomputable def Cid.attrs : Cid → List String
  | .Rule => ["number", "left", "right", "level_of", "action", "line", "before"]
  | .Grammar => ["names", "terminal_count", "rules", "levels", "expect", "start", "by_left", "offsets", "owners", "item_count"]
  | .LrState => ["number", "kernel", "symbol", "items", "moves", "reductions"]
  | .Closer => ["grammar", "firsts"]
  | .Automaton => ["grammar", "states"]
  | .Builder => ["grammar", "closer", "states", "numbers"]
inductive V where
  | none | bool (b : Bool) | int (i : Int) | str (s : String) | ref (a : Nat)
  | tup (vs : List V) | lst (vs : List V)
  | dcI (es : List (Int × V)) | dcT (es : List (List Int × V))
  | obj (c : Cid) (as : List (String × V))
inductive O where
  | list (vs : List V) | dcI (es : List (Int × V)) | dcT (es : List (List Int × V)) | inst (c : Cid) (as : List (String × V))
noncomputable abbrev Hp := Nat → Option O
noncomputable def Hp.set (H : Hp) (a : Nat) (o : O) : Hp := fun b => if b = a then some o else H b
theorem Hp.set_same (H : Hp) (a o) : H.set a o a = some o := if_pos rfl
theorem Hp.set_ne (H : Hp) {a b} (o) (h : b ≠ a) : H.set a o b = H b := if_neg h
noncomputable def Sub (H H' : Hp) : Prop := ∀ a o, H a = some o → H' a = some o
theorem Sub.no {H K : Hp} (h : Sub H K) {a} (e : K a = Option.none) : H a = Option.none := by
  cases x : H a with
  | none => rfl
  | some o => rw [h a o x] at e; cases e
theorem dead {α : Type} {x : α} {P : Prop} (h : Option.none = some x) : P := nomatch h
inductive VV (H K : Hp) : V → V → Prop
  | rfl {v} : VV H K v v
  | lstP {a vs ws} : H a = some (.list vs) → K a = none → vs.length = ws.length → (∀ (i : Nat) v w, vs[i]? = some v → ws[i]? = some w → VV H K v w) → VV H K (.ref a) (.lst ws)
  | dcIP {a es fs} : H a = some (.dcI es) → K a = none → es.map (·.1) = fs.map (·.1) → (∀ (i : Nat) v w, es[i]? = some v → fs[i]? = some w → VV H K v.2 w.2) → VV H K (.ref a) (.dcI fs)
  | dcTP {a es fs} : H a = some (.dcT es) → K a = none → es.map (·.1) = fs.map (·.1) → (∀ (i : Nat) v w, es[i]? = some v → fs[i]? = some w → VV H K v.2 w.2) → VV H K (.ref a) (.dcT fs)
  | objP {a c as bs} : H a = some (.inst c as) → K a = none → as.map (·.1) = bs.map (·.1) → (∀ (i : Nat) v w, as[i]? = some v → bs[i]? = some w → VV H K v.2 w.2) → VV H K (.ref a) (.obj c bs)
  | tupP {vs ws} : vs.length = ws.length → (∀ (i : Nat) v w, vs[i]? = some v → ws[i]? = some w → VV H K v w) → VV H K (.tup vs) (.tup ws)
  | inlP {vs ws} : vs.length = ws.length → (∀ (i : Nat) v w, vs[i]? = some v → ws[i]? = some w → VV H K v w) → VV H K (.lst vs) (.lst ws)
inductive VVs (H K : Hp) : List V → List V → Prop
  | nil : VVs H K [] []
  | cons {v w vs ws} : VV H K v w → VVs H K vs ws → VVs H K (v :: vs) (w :: ws)
inductive VVk {κ : Type} (H K : Hp) : List (κ × V) → List (κ × V) → Prop
  | nil : VVk H K [] []
  | cons {k v w vs ws} : VV H K v w → VVk H K vs ws → VVk H K ((k, v) :: vs) ((k, w) :: ws)
theorem VVs.at {H K : Hp} {vs ws} (z : VVs H K vs ws) : vs.length = ws.length ∧ ∀ (i : Nat) v w, vs[i]? = some v → ws[i]? = some w → VV H K v w := by
  induction z with
  | nil => exact ⟨_root_.rfl, fun z0 z0 z0 h => dead h⟩
  | cons a _ ih => exact ⟨congrArg Nat.succ ih.1, fun i => match i with
    | 0 => fun z0 z0 p q => Option.some.inj p ▸ Option.some.inj q ▸ a
    | i + 1 => ih.2 i⟩
theorem VVk.at {κ : Type} {H K : Hp} {vs ws : List (κ × V)} (z : VVk H K vs ws) : vs.map (·.1) = ws.map (·.1) ∧ ∀ (i : Nat) v w, vs[i]? = some v → ws[i]? = some w → VV H K v.2 w.2 := by
  induction z with
  | nil => exact ⟨_root_.rfl, fun z0 z0 z0 h => dead h⟩
  | cons a _ ih => exact ⟨congrArg (List.cons _) ih.1, fun i => match i with
    | 0 => fun z0 z0 p q => Option.some.inj p ▸ Option.some.inj q ▸ a
    | i + 1 => ih.2 i⟩
theorem VV.lst {H K : Hp} {a vs ws} (e : H a = some (.list vs)) (k : K a = none) (z : VVs H K vs ws) : VV H K (.ref a) (.lst ws) := .lstP e k z.at.1 z.at.2
theorem VV.dcI {H K : Hp} {a vs ws} (e : H a = some (.dcI vs)) (k : K a = none) (z : VVk H K vs ws) : VV H K (.ref a) (.dcI ws) := .dcIP e k z.at.1 z.at.2
theorem VV.dcT {H K : Hp} {a vs ws} (e : H a = some (.dcT vs)) (k : K a = none) (z : VVk H K vs ws) : VV H K (.ref a) (.dcT ws) := .dcTP e k z.at.1 z.at.2
theorem VV.obj {H K : Hp} {a c vs ws} (e : H a = some (.inst c vs)) (k : K a = none) (z : VVk H K vs ws) : VV H K (.ref a) (.obj c ws) := .objP e k z.at.1 z.at.2
theorem VV.tup {H K : Hp} {vs ws} (z : VVs H K vs ws) : VV H K (.tup vs) (.tup ws) := .tupP z.at.1 z.at.2
theorem VV.inl {H K : Hp} {vs ws} (z : VVs H K vs ws) : VV H K (.lst vs) (.lst ws) := .inlP z.at.1 z.at.2
inductive BOp | add | sub | mul | mod | fdiv | pow | shl | shr | band | bor
inductive COp | eq | ne | lt | gt | ge | isIt | isNot | isIn | notIn
inductive Prim | abs | int | len | max | list | tuple | str | sorted | all
inductive Tgt
  | one (i : Nat)
  | two (a b : Tgt)
inductive Cst | none | bool (b : Bool) | int (i : Int) | str (s : String) | txts (l : List String)
noncomputable def Cst.v : Cst → V
  | .none => .none | .bool b => .bool b | .int i => .int i | .str s => .str s
  | .txts l => .tup (l.map .str)
mutual
inductive X
  | cst (c : Cst)
  | loc (i : Nat)
  | tupD (xs : Xs) | lstD (xs : Xs) | dctD
  | bin (op : BOp) (l r : X)
  | cmp (op : COp) (l r : X)
  | not (x : X)
  | and (l r : X)
  | or (l r : X)
  | ite (c t e : X)
  | attr (x : X) (n : String)
  | sub (x i : X)
  | slcTo (x e : X)
  | slcFrom (x e : X)
  | rev (x : X)
  | call (f : Fid) (args : Xs)
  | new (c : Cid) (args : Xs)
  | meth (x : X) (n : String) (args : Xs)
  | prim (b : Prim) (args : Xs)
  | comp (elt : X) (t : Tgt) (it : It)
  | compIf (elt : X) (t : Tgt) (it : It) (c : X)
inductive Xs
  | nil
  | cons (x : X) (xs : Xs)
inductive It
  | val (x : X)
  | range (x : X)
  | revd (x : X)
  | enum (x : X)
end
mutual
inductive S
  | asg (i : Nat) (x : X)
  | asgT (ts : List Nat) (x : X)
  | setA (o : X) (n : String) (x : X)
  | setI (o i x : X)
  | ifS (t : X) (a b : Ss)
  | whileS (t : X) (a : Ss)
  | forS (t : Tgt) (it : It) (a : Ss)
  | ret (x : X)
  | exprS (x : X)
  | cont
  | raise
inductive Ss
  | nil
  | cons (s : S) (ss : Ss)
end
noncomputable abbrev Loc := List (Option V)
inductive Flow | next | cont | ret (v : V)
noncomputable def O.asList : O → Option (List V)
  | .list vs => some vs
  | _ => Option.none
noncomputable def O.asDcI : O → Option (List (Int × V))
  | .dcI vs => some vs
  | _ => Option.none
noncomputable def O.asDcT : O → Option (List (List Int × V))
  | .dcT vs => some vs
  | _ => Option.none
noncomputable def O.asInst : O → Option (Cid × List (String × V))
  | .inst c as => some (c, as)
  | _ => Option.none
noncomputable def lstOf (H : Hp) : V → Option (List V)
  | .lst vs => some vs
  | .ref a => (H a).bind O.asList
  | _ => Option.none
noncomputable def seqOf (H : Hp) : V → Option (List V)
  | .tup vs => some vs
  | v => lstOf H v
noncomputable def dcIOf (H : Hp) : V → Option (List (Int × V))
  | .dcI es => some es
  | .ref a => (H a).bind O.asDcI
  | _ => Option.none
noncomputable def dcTOf (H : Hp) : V → Option (List (List Int × V))
  | .dcT es => some es
  | .ref a => (H a).bind O.asDcT
  | _ => Option.none
noncomputable def instOf (H : Hp) : V → Option (Cid × List (String × V))
  | .obj c as => some (c, as)
  | .ref a => (H a).bind O.asInst
  | _ => Option.none
section
variable {H : Hp} {v : V}
theorem bind_inv {α β : Type} {x : Option α} {f : α → Option β} {r : β} {P : Prop} (h : x.bind f = some r) (k : ∀ a, x = some a → f a = some r → P) : P :=
  match x, h with
  | some a, h => k a rfl h
theorem O.asList_inv {o : O} {vs} (h : o.asList = some vs) : o = .list vs := by
  induction o with
  | list ws => exact congrArg O.list (Option.some.inj h)
  | _ => exact dead h
theorem O.asDcI_inv {o : O} {vs} (h : o.asDcI = some vs) : o = .dcI vs := by
  induction o with
  | dcI ws => exact congrArg O.dcI (Option.some.inj h)
  | _ => exact dead h
theorem O.asDcT_inv {o : O} {vs} (h : o.asDcT = some vs) : o = .dcT vs := by
  induction o with
  | dcT ws => exact congrArg O.dcT (Option.some.inj h)
  | _ => exact dead h
theorem O.asInst_inv {o : O} {p} (h : o.asInst = some p) : o = .inst p.1 p.2 := by
  induction o with
  | inst c as => exact Option.some.inj h ▸ rfl
  | _ => exact dead h
theorem l_ref {r : Nat} {vs} (h : H r = some (.list vs)) : lstOf H (.ref r) = some vs := congrArg (·.bind O.asList) h
theorem s_ref {r : Nat} {vs} (h : H r = some (.list vs)) : seqOf H (.ref r) = some vs := l_ref h
theorem i_ref {r : Nat} {c as} (h : H r = some (.inst c as)) : instOf H (.ref r) = some (c, as) := congrArg (·.bind O.asInst) h
theorem di_ref {r : Nat} {es} (h : H r = some (.dcI es)) : dcIOf H (.ref r) = some es := congrArg (·.bind O.asDcI) h
theorem dt_ref {r : Nat} {es} (h : H r = some (.dcT es)) : dcTOf H (.ref r) = some es := congrArg (·.bind O.asDcT) h
inductive LstC (H : Hp) (vs : List V) : V → Prop
  | lst : LstC H vs (.lst vs)
  | ref {a} : H a = some (.list vs) → LstC H vs (.ref a)
theorem lstOf_inv {vs} (h : lstOf H v = some vs) : LstC H vs v := by
  cases v with
  | lst ws => exact Option.some.inj h ▸ .lst
  | ref a => exact bind_inv h fun o h1 h2 => .ref (O.asList_inv h2 ▸ h1)
  | _ => exact dead h
inductive SeqC (H : Hp) (vs : List V) : V → Prop
  | tup : SeqC H vs (.tup vs)
  | lst {a : V} : lstOf H a = some vs → SeqC H vs a
theorem seqOf_inv {vs} (h : seqOf H v = some vs) : SeqC H vs v := by
  cases v with
  | tup ws => exact Option.some.inj h ▸ .tup
  | _ => exact .lst h
inductive DcIC (H : Hp) (es : List (Int × V)) : V → Prop
  | dcI : DcIC H es (.dcI es)
  | ref {a} : H a = some (.dcI es) → DcIC H es (.ref a)
theorem dcIOf_inv {es} (h : dcIOf H v = some es) : DcIC H es v := by
  cases v with
  | dcI ws => exact Option.some.inj h ▸ .dcI
  | ref a => exact bind_inv h fun o h1 h2 => .ref (O.asDcI_inv h2 ▸ h1)
  | _ => exact dead h
inductive DcTC (H : Hp) (es : List (List Int × V)) : V → Prop
  | dcT : DcTC H es (.dcT es)
  | ref {a} : H a = some (.dcT es) → DcTC H es (.ref a)
theorem dcTOf_inv {es} (h : dcTOf H v = some es) : DcTC H es v := by
  cases v with
  | dcT ws => exact Option.some.inj h ▸ .dcT
  | ref a => exact bind_inv h fun o h1 h2 => .ref (O.asDcT_inv h2 ▸ h1)
  | _ => exact dead h
inductive InstC (H : Hp) (c : Cid) (as : List (String × V)) : V → Prop
  | obj : InstC H c as (.obj c as)
  | ref {a} : H a = some (.inst c as) → InstC H c as (.ref a)
theorem instOf_inv {c as} (h : instOf H v = some (c, as)) : InstC H c as v := by
  cases v with
  | obj c' as' => exact (show InstC H c as (.obj (c', as').1 (c', as').2) from Option.some.inj h ▸ .obj)
  | ref a => exact bind_inv h fun o h1 h2 => .ref (O.asInst_inv h2 ▸ h1)
  | _ => exact dead h
end
noncomputable def big : Nat := 16000000
noncomputable def mkList (vs : List V) (H : Hp) (Q : V → Hp → Prop) : Prop :=
  vs.length ≤ big ∧ (Q (.lst vs) H ∨ ∀ a, H a = none → Q (.ref a) (H.set a (.list vs)))
noncomputable def intP (P : Int → Prop) : V → Prop
  | .int i => P i
  | _ => False
inductive IntC (P : Int → Prop) : V → Prop
  | mk {i} : P i → IntC P (.int i)
theorem intP_inv {P : Int → Prop} {v : V} (h : intP P v) : IntC P v := by
  cases v with
  | int i => exact .mk h
  | _ => exact h.elim
inductive AddR (H : Hp) (Q : V → Hp → Prop) : V → V → Prop
  | str {s t} : s.length + t.length ≤ 1000 → Q (.str (s ++ t)) H → AddR H Q (.str s) (.str t)
  | lst {a b xs ys} : lstOf H a = some xs → lstOf H b = some ys → mkList (xs ++ ys) H Q → AddR H Q a b
inductive MulR (H : Hp) (Q : V → Hp → Prop) (j : Int) : V → Prop
  | int {i} : (i.natAbs < 1000000000 ∨ j.natAbs < 1000000000) → Q (.int (i * j)) H → MulR H Q j (.int i)
  | rep {a x} : lstOf H a = some [x] → 0 ≤ j → mkList (List.replicate j.toNat x) H Q → MulR H Q j a
noncomputable def binV (op : BOp) (a b : V) (H : Hp) (Q : V → Hp → Prop) : Prop :=
  match op with
  | .add => match a with
    | .int i => intP (fun j => Q (.int (i + j)) H) b
    | a => AddR H Q a b
  | .sub => intP (fun i => intP (fun j => Q (.int (i - j)) H) b) a
  | .mul => intP (fun j => MulR H Q j a) b
  | .mod => intP (fun i => intP (fun j => 0 < j ∧ Q (.int (i % j)) H) b) a
  | .fdiv => intP (fun i => intP (fun j => 0 < j ∧ j < 1000000 ∧ Q (.int (i / j)) H) b) a
  | .pow => intP (fun i => intP (fun j => (0 ≤ i ∧ i < 1000000 ∧ j = 5) ∧ Q (.int (i ^ 5)) H) b) a
  | .shl => intP (fun i => intP (fun j => (i = 1 ∧ 0 ≤ j ∧ j < 1000) ∧ Q (.int ((1 <<< j.toNat : Nat) : Int)) H) b) a
  | .shr => intP (fun i => intP (fun j => (0 ≤ i ∧ 0 ≤ j ∧ j < 1000) ∧ Q (.int ((i.toNat >>> j.toNat : Nat) : Int)) H) b) a
  | .band => intP (fun i => intP (fun j => (0 ≤ i ∧ 0 ≤ j) ∧ Q (.int ((i.toNat &&& j.toNat : Nat) : Int)) H) b) a
  | .bor => intP (fun i => intP (fun j => (0 ≤ i ∧ 0 ≤ j) ∧ Q (.int ((i.toNat ||| j.toNat : Nat) : Int)) H) b) a
noncomputable def V.isNone : V → Bool
  | .none => true
  | _ => false
inductive Flat : V → Prop
  | none : Flat .none
  | bool (b) : Flat (.bool b)
  | int (i) : Flat (.int i)
  | ints (l : List Int) : Flat (.lst (l.map .int))
inductive Plain : V → Prop
  | one {v} : Flat v → Plain v
  | two {a b} : Flat a → Flat b → Plain (.tup [a, b])
inductive EqV (H : Hp) : V → V → Bool → Prop
  | int (i j) : EqV H (.int i) (.int j) (decide (i = j))
  | str (s t) : EqV H (.str s) (.str t) (decide (s = t))
  | len {a b xs ys} : lstOf H a = some xs → lstOf H b = some ys → xs.length ≠ ys.length → EqV H a b false
  | nil {a b} : lstOf H a = some [] → lstOf H b = some [] → EqV H a b true
  | dlen {a b xs} : dcIOf H a = some xs → dcIOf H b = some [] → EqV H a b xs.isEmpty
  | same {a} : Plain a → EqV H a a true
inductive InV (H : Hp) : V → V → Prop → Prop
  | memS {x c} {l : List String} : seqOf H c = some (l.map V.str) → InV H (.str x) c (x ∈ l)
  | memI {x c} {l : List Int} : seqOf H c = some (l.map V.int) → InV H (.int x) c (x ∈ l)
  | dcI {x c es} : dcIOf H c = some es → InV H (.int x) c (x ∈ es.map (·.1))
  | dcT {c es} {x : List Int} : dcTOf H c = some es → InV H (.tup (x.map V.int)) c (x ∈ es.map (·.1))
noncomputable def cmpW (op : COp) (a b : V) (H : Hp) (T F : Hp → Prop) : Prop :=
  match op with
  | .eq => ∃ r, EqV H a b r ∧ (r = true → T H) ∧ (r = false → F H)
  | .ne => ∃ r, EqV H a b r ∧ (r = false → T H) ∧ (r = true → F H)
  | .lt => intP (fun i => intP (fun j => (i < j → T H) ∧ (¬ i < j → F H)) b) a
  | .gt => intP (fun i => intP (fun j => (j < i → T H) ∧ (¬ j < i → F H)) b) a
  | .ge => intP (fun i => intP (fun j => (j ≤ i → T H) ∧ (¬ j ≤ i → F H)) b) a
  | .isIt => b = .none ∧ (a.isNone = true → T H) ∧ (a.isNone = false → F H)
  | .isNot => b = .none ∧ (a.isNone = false → T H) ∧ (a.isNone = true → F H)
  | .isIn => ∃ P, InV H a b P ∧ (P → T H) ∧ (¬ P → F H)
  | .notIn => ∃ P, InV H a b P ∧ (¬ P → T H) ∧ (P → F H)
inductive Sorts (H : Hp) : V → (List V → Prop) → Prop
  | ints {a} {l : List Int} : seqOf H a = some (l.map V.int) → l.length < 64 → Sorts H a (fun r => ∃ l' : List Int, r = l'.map V.int ∧ l'.Perm l ∧ l'.Pairwise (· ≤ ·))
  | dcI {a es} : dcIOf H a = some es → es.length < 64 → Sorts H a (fun r => ∃ l' : List Int, r = l'.map V.int ∧ l'.Perm (es.map (·.1)) ∧ l'.Pairwise (· ≤ ·))
  | dcT {a es} : dcTOf H a = some es → es.length < 64 → (∀ e ∈ es, e.1.length = 2) → Sorts H a (fun r => ∃ l' : List (List Int), r = l'.map (fun k => V.tup (k.map V.int)) ∧ l'.length = es.length ∧ ∀ k ∈ l', k ∈ es.map (·.1))
inductive PrimW (H : Hp) (Q : V → Hp → Prop) : Prim → List V → Prop
  | abs {i} : Q (.int (if i < 0 then -i else i)) H → PrimW H Q .abs [.int i]
  | int {i} : Q (.int i) H → PrimW H Q .int [.int i]
  | len {a vs} : seqOf H a = some vs → Q (.int vs.length) H → PrimW H Q .len [a]
  | max {i j} : Q (.int (if i < j then j else i)) H → PrimW H Q .max [.int i, .int j]
  | list {a vs} : seqOf H a = some vs → mkList vs H Q → PrimW H Q .list [a]
  | tuple {a vs} : lstOf H a = some vs → Q (.tup vs) H → PrimW H Q .tuple [a]
  | str {i} : 0 ≤ i → i < 1000000 → Q (.str (toString i)) H → PrimW H Q .str [.int i]
  | sorted {a P} : Sorts H a P → (∀ r, P r → mkList r H Q) → PrimW H Q .sorted [a]
  | all {a} {l : List Bool} : lstOf H a = some (l.map V.bool) → Q (.bool (l.all id)) H → PrimW H Q .all [a]
noncomputable def primW (p : Prim) (as : List V) (H : Hp) (Q : V → Hp → Prop) : Prop := PrimW H Q p as
noncomputable def idxOf (i : Int) (n : Nat) : Option Nat :=
  if 0 ≤ i then (if i.toNat < n then some i.toNat else none) else (if (-i).toNat ≤ n then some (n - (-i).toNat) else none)
inductive SubV (H : Hp) : V → V → V → Prop
  | seq {a vs i k v} : seqOf H a = some vs → idxOf i vs.length = some k → vs[k]? = some v → SubV H a (.int i) v
  | dcI {a es i v} : dcIOf H a = some es → es.lookup i = some v → SubV H a (.int i) v
  | dcT {a es v} {k : List Int} : dcTOf H a = some es → es.lookup k = some v → SubV H a (.tup (k.map V.int)) v
noncomputable def clampTo (i : Int) (n : Nat) : Nat := if 0 ≤ i then min i.toNat n else n - (-i).toNat
noncomputable def putK [BEq κ] (k : κ) (v : V) : List (κ × V) → List (κ × V)
  | [] => [(k, v)]
  | (j, w) :: r => if j == k then (j, v) :: r else (j, w) :: putK k v r
inductive SetI (H : Hp) (v : V) (Q : Hp → Prop) : V → V → Prop
  | list {r vs} {k : Nat} : H r = some (.list vs) → k < vs.length → Q (H.set r (.list (vs.set k v))) → SetI H v Q (.ref r) (.int (k : Int))
  | dcI {r es n} : H r = some (.dcI es) → es.length < big → Q (H.set r (.dcI (putK n v es))) → SetI H v Q (.ref r) (.int n)
  | dcT {r es} {k : List Int} : H r = some (.dcT es) → es.length < big → Q (H.set r (.dcT (putK k v es))) → SetI H v Q (.ref r) (.tup (k.map V.int))
noncomputable def setItemW (a i v : V) (H : Hp) (Q : Hp → Prop) : Prop := SetI H v Q a i
inductive SetA (H : Hp) (n : String) (v : V) (Q : Hp → Prop) : V → Prop
  | mk {r c as} : H r = some (.inst c as) → n ∈ c.attrs → as.length < 100 → Q (H.set r (.inst c (putK n v as))) → SetA H n v Q (.ref r)
noncomputable def setAttrW (a : V) (n : String) (v : V) (H : Hp) (Q : Hp → Prop) : Prop := SetA H n v Q a
inductive MethW (H : Hp) (Q : V → Hp → Prop) : V → String → List V → Prop
  | append {r vs v} : H r = some (.list vs) → vs.length < big → Q .none (H.set r (.list (vs ++ [v]))) → MethW H Q (.ref r) "append" [v]
  | extend {r vs ws} : H r = some (.list vs) → vs.length + ws.length ≤ big → Q .none (H.set r (.list (vs ++ ws))) → MethW H Q (.ref r) "extend" [.lst ws]
  | pop {r vs v} : H r = some (.list (vs ++ [v])) → Q v (H.set r (.list vs)) → MethW H Q (.ref r) "pop" []
  | index {a} {l : List String} {s : String} : lstOf H a = some (l.map V.str) → s ∈ l → l.length ≤ 1000 → Q (.int (l.idxOf s)) H → MethW H Q a "index" [.str s]
  | getT {a es d} {kk : List Int} : dcTOf H a = some es → Q ((es.lookup kk).getD d) H → MethW H Q a "get" [.tup (kk.map V.int), d]
  | getI {a es d kk} : dcIOf H a = some es → Q ((es.lookup kk).getD d) H → MethW H Q a "get" [.int kk, d]
noncomputable def methW (a : V) (n : String) (as : List V) (H : Hp) (Q : V → Hp → Prop) : Prop := MethW H Q a n as
inductive HasMeth (H : Hp) : V → String → Prop
  | lst {a n vs} : n ∈ ["append", "extend", "pop", "index"] → lstOf H a = some vs → HasMeth H a n
  | dcT {a es} : dcTOf H a = some es → HasMeth H a "get"
  | dcI {a es} : dcIOf H a = some es → HasMeth H a "get"
noncomputable def getL (m : Loc) (i : Nat) : Option V := (m[i]?).join
noncomputable def locW : Loc → Nat → (V → Prop) → Prop
  | [], _, _ => False
  | x :: _, 0, P => match x with | some v => P v | none => False
  | _ :: m, i + 1, P => locW m i P
theorem locW_iff {P : V → Prop} : ∀ {m : Loc} {i : Nat}, locW m i P ↔ ∃ v, getL m i = some v ∧ P v
  | [], i => ⟨False.elim, fun ⟨_, h, _⟩ => by simp [getL] at h⟩
  | some v :: m, 0 => ⟨fun h => ⟨v, rfl, h⟩, fun ⟨w, h, p⟩ => by cases (show some v = some w from h); exact p⟩
  | none :: m, 0 => ⟨False.elim, fun ⟨w, h, p⟩ => by cases (show none = some w from h)⟩
  | x :: m, i + 1 => locW_iff (m := m) (i := i)
noncomputable def tup2 : V → Option (V × V)
  | .tup vs => match vs with
    | v :: vs => match vs with
      | w :: vs => match vs with
        | [] => some (v, w)
        | _ :: _ => none
      | [] => none
    | [] => none
  | _ => none
theorem tup2_inv {W : V} {p : V × V} (h : tup2 W = some p) : W = .tup [p.1, p.2] := by
  cases W with
  | tup vs => cases vs with
    | nil => exact dead h
    | cons v vs => cases vs with
      | nil => exact dead h
      | cons w vs => cases vs with
        | nil => exact Option.some.inj h ▸ rfl
        | cons => exact dead h
  | _ => exact dead h
noncomputable def bindT : Tgt → V → Loc → Option Loc
  | .one i, v, m => some (m.set i (some v))
  | .two a b, W, m => (tup2 W).bind fun p => (bindT a p.1 m).bind (bindT b p.2)
noncomputable def bindL : List Nat → List V → Loc → Option Loc
  | [], [], m => some m
  | i :: is, v :: vs, m => bindL is vs (m.set i (some v))
  | _, _, _ => none
noncomputable abbrev CallW := Fid → List V → Hp → (V → Hp → Prop) → Prop
noncomputable def enumFrom : Nat → List V → List V
  | _, [] => []
  | n, v :: vs => .tup [.int n, v] :: enumFrom (n + 1) vs
theorem enum_get {vs : List V} {n k : Nat} : (enumFrom n vs)[k]? = vs[k]?.map fun v => .tup [.int ((n + k : Nat) : Int), v] := by
  induction vs generalizing n k with
  | nil => rfl
  | cons v vs ih => cases k with
    | zero => rfl
    | succ k => exact ih.trans (by rw [Nat.succ_add_eq_add_succ]; rfl)
theorem enum_len : ∀ (vs : List V) (n : Nat), (enumFrom n vs).length = vs.length
  | [], _ => rfl
  | _ :: vs, n => congrArg (· + 1) (enum_len vs (n + 1))
inductive CompR (vs : List V) (G : Hp → Prop) (H : Hp) (T : V → Hp → (V → Hp → Prop) → (Hp → Prop) → Prop) (Q : V → Hp → Prop) : Prop
  | mk (I : Nat → List V → Hp → Prop) : I 0 [] H → (∀ k v acc H, vs[k]? = some v → I k acc H → G H ∧ T v H (fun w H => I (k + 1) (acc ++ [w]) H) (fun H => I (k + 1) acc H)) →
      (∀ acc H, I vs.length acc H → G H ∧ vs.length ≤ big ∧ (Q (.lst acc) H ∨ ∀ a, H a = none → Q (.ref a) (H.set a (.list acc)))) → CompR vs G H T Q
inductive ForR (vs : List V) (G : Hp → Prop) (m : Loc) (H : Hp) (T : V → Loc → Hp → (Loc → Hp → Prop) → Prop) (Q : Loc → Hp → Prop) : Prop
  | mk (I : Nat → Loc → Hp → Prop) : I 0 m H → (∀ k v m H, vs[k]? = some v → I k m H → G H ∧ T v m H (I (k + 1))) → (∀ m H, I vs.length m H → G H ∧ Q m H) → ForR vs G m H T Q
inductive WhileR (m : Loc) (H : Hp) (T : Loc → Hp → (Loc → Hp → Prop) → Prop) : Prop
  | mk (I : Nat → Loc → Hp → Prop) (n : Nat) : I n m H → (∀ n m H, I n m H → T m H fun m H => ∃ n', n' < n ∧ I n' m H) → WhileR m H T
noncomputable def lp (Q : Flow → Loc → Hp → Prop) (I : Loc → Hp → Prop) : Flow → Loc → Hp → Prop := fun fl m H => match fl with | .ret v => Q (.ret v) m H | _ => I m H
noncomputable def boolQ (t f : Hp → Prop) (v : V) (H : Hp) : Prop := ∃ b, v = .bool b ∧ (b = true → t H) ∧ (b = false → f H)
mutual
noncomputable def wE (C : CallW) : X → Loc → Hp → (V → Hp → Prop) → Prop
  | .cst c, _, H, Q => Q c.v H
  | .loc i, m, H, Q => locW m i fun v => Q v H
  | .tupD xs, m, H, Q => wEs C xs m H fun vs H => vs.length ≤ big ∧ Q (.tup vs) H
  | .lstD xs, m, H, Q => wEs C xs m H fun vs H => mkList vs H Q
  | .dctD, _, H, Q => (∀ a, H a = none → Q (.ref a) (H.set a (.dcI []))) ∨ (∀ a, H a = none → Q (.ref a) (H.set a (.dcT [])))
  | .bin op l r, m, H, Q => wE C l m H fun a H => wE C r m H fun b H => binV op a b H Q
  | .cmp op l r, m, H, Q => wE C l m H fun a H => wE C r m H fun b H => cmpW op a b H (fun H => Q (.bool true) H) (fun H => Q (.bool false) H)
  | .not x, m, H, Q => wE C x m H fun v H => ∃ b, v = .bool b ∧ Q (.bool (!b)) H
  | .and l r, m, H, Q => wE C l m H fun v H => ∃ b, v = .bool b ∧ (b = true → wE C r m H Q) ∧ (b = false → Q (.bool false) H)
  | .or l r, m, H, Q => wE C l m H fun v H => ∃ b, v = .bool b ∧ (b = true → Q (.bool true) H) ∧ (b = false → wE C r m H Q)
  | .ite c t e, m, H, Q => wT C c m H (fun H => wE C t m H Q) (fun H => wE C e m H Q)
  | .attr x n, m, H, Q => wE C x m H fun v H => ∃ c as w, instOf H v = some (c, as) ∧ n ∈ c.attrs ∧ as.lookup n = some w ∧ Q w H
  | .sub x i, m, H, Q => wE C x m H fun a H => wE C i m H fun k H => ∃ v, SubV H a k v ∧ Q v H
  | .slcTo x e, m, H, Q => wE C x m H fun a H => wE C e m H fun k H =>
      (∃ s, a = .str s ∧ s.length = 1 ∧ k = .int 1 ∧ Q (.str s) H) ∨ ∃ vs i, lstOf H a = some vs ∧ k = .int i ∧ mkList (vs.take (clampTo i vs.length)) H Q
  | .slcFrom x e, m, H, Q => wE C x m H fun a H => wE C e m H fun k H => ∃ vs i, lstOf H a = some vs ∧ k = .int i ∧ mkList (vs.drop (clampTo i vs.length)) H Q
  | .rev x, m, H, Q => wE C x m H fun a H => (∃ vs, a = .tup vs ∧ Q (.tup vs.reverse) H) ∨ (∃ vs, lstOf H a = some vs ∧ mkList vs.reverse H Q)
  | .call f args, m, H, Q => wEs C args m H fun vs H => C f vs H Q
  | .new c args, m, H, Q => wEs C args m H fun vs H => ∀ a, H a = none →
      C c.init (.ref a :: vs) (H.set a (.inst c [])) fun u H' => u = .none ∧ ∃ v K, Sub K H' ∧ VV H' K (.ref a) v ∧ Q v K
  | .meth x n args, m, H, Q => wE C x m H fun a H =>
      (∃ c as f, instOf H a = some (c, as) ∧ c.meth n = some f ∧ as.lookup n = none ∧ wEs C args m H fun vs H => C f (a :: vs) H Q) ∨
      (HasMeth H a n ∧ wEs C args m H fun vs H => methW a n vs H Q)
  | .prim p args, m, H, Q => wEs C args m H fun vs H => primW p vs H Q
  | .comp elt t it, m, H, Q => wI C it m H fun vs G H => CompR vs G H (fun v H K S => ∃ m', bindT t v m = some m' ∧ wE C elt m' H K) Q
  | .compIf elt t it c, m, H, Q => wI C it m H fun vs G H => CompR vs G H (fun v H K S => ∃ m', bindT t v m = some m' ∧ wT C c m' H (fun H => wE C elt m' H K) S) Q
noncomputable def wEs (C : CallW) : Xs → Loc → Hp → (List V → Hp → Prop) → Prop
  | .nil, _, H, Q => Q [] H
  | .cons x xs, m, H, Q => wE C x m H fun v H => wEs C xs m H fun vs H => Q (v :: vs) H
noncomputable def wT (C : CallW) : X → Loc → Hp → (Hp → Prop) → (Hp → Prop) → Prop
  | .not x, m, H, t, f => wT C x m H f t
  | .and l r, m, H, t, f => wT C l m H (fun H => wT C r m H t f) f
  | .or l r, m, H, t, f => wT C l m H t (fun H => wT C r m H t f)
  | .cmp op l r, m, H, t, f => wE C l m H fun a H => wE C r m H fun b H => cmpW op a b H t f
  | .loc i, m, H, t, f => locW m i fun v => boolQ t f v H
  | .sub x i, m, H, t, f => wE C x m H fun a H => wE C i m H fun k H => ∃ v, SubV H a k v ∧ boolQ t f v H
  | .call g args, m, H, t, f => wEs C args m H fun vs H => C g vs H (boolQ t f)
  | .meth x n args, m, H, t, f => wE C x m H fun a H =>
      (∃ c as g, instOf H a = some (c, as) ∧ c.meth n = some g ∧ as.lookup n = none ∧ wEs C args m H fun vs H => C g (a :: vs) H (boolQ t f)) ∨
      (HasMeth H a n ∧ wEs C args m H fun vs H => methW a n vs H (boolQ t f))
  | _, _, _, _, _ => False
noncomputable def wI (C : CallW) : It → Loc → Hp → (List V → (Hp → Prop) → Hp → Prop) → Prop
  | .val x, m, H, Q => wE C x m H fun v H => (∃ vs, seqOf H v = some vs ∧ Q vs (fun H => seqOf H v = some vs) H) ∨
      (∃ es, v = .dcI es ∧ es.length ≤ big ∧ Q (es.map fun e => .int e.1) (fun z0 => True) H)
  | .range x, m, H, Q => wE C x m H fun v H => ∃ n : Nat, v = .int n ∧ n ≤ big ∧ Q ((List.range n).map fun (i : Nat) => .int (i : Int)) (fun z0 => True) H
  | .revd x, m, H, Q => wE C x m H fun v H => ∃ vs, v = .tup vs ∧ Q vs.reverse (fun z0 => True) H
  | .enum x, m, H, Q => wE C x m H fun v H => ∃ vs, v = .lst vs ∧ Q (enumFrom 0 vs) (fun z0 => True) H
end
mutual
noncomputable def wS (C : CallW) : S → Loc → Hp → (Flow → Loc → Hp → Prop) → Prop
  | .asg i x, m, H, Q => wE C x m H fun v H => Q .next (m.set i (some v)) H
  | .asgT is x, m, H, Q => wE C x m H fun v H => ∃ vs m', v = .tup vs ∧ bindL is vs m = some m' ∧ Q .next m' H
  | .setA o n x, m, H, Q => wE C x m H fun v H => wE C o m H fun a H => setAttrW a n v H fun H => Q .next m H
  | .setI o i x, m, H, Q => wE C x m H fun v H => wE C o m H fun a H => wE C i m H fun k H => setItemW a k v H fun H => Q .next m H
  | .ifS t a b, m, H, Q => wT C t m H (fun H => wSs C a m H Q) (fun H => wSs C b m H Q)
  | .whileS t a, m, H, Q => WhileR m H fun m H J => wT C t m H (fun H => wSs C a m H (lp Q J)) (fun H => Q .next m H)
  | .forS t it a, m, H, Q => wI C it m H fun vs G H => ForR vs G m H (fun v m H J => ∃ m', bindT t v m = some m' ∧ wSs C a m' H (lp Q J)) (Q .next)
  | .ret x, m, H, Q => wE C x m H fun v H => Q (.ret v) m H
  | .exprS x, m, H, Q => wE C x m H fun z0 H => Q .next m H
  | .cont, m, H, Q => Q .cont m H
  | .raise, _, _, _ => False
noncomputable def wSs (C : CallW) : Ss → Loc → Hp → (Flow → Loc → Hp → Prop) → Prop
  | .nil, m, H, Q => Q .next m H
  | .cons s ss, m, H, Q => wS C s m H fun fl m H => match fl with | .next => wSs C ss m H Q | fl => Q fl m H
end
structure Fn where
  nargs : Nat
  dflts : List V
  nloc : Nat
  body : Ss
noncomputable def Flow.val : Flow → V
  | .ret v => v
  | _ => .none
noncomputable def Fn.start (f : Fn) (as : List V) : Option Loc :=
  if as.length + f.dflts.length = f.nargs then some ((as ++ f.dflts).map some ++ List.replicate (f.nloc - f.nargs) none) else none
noncomputable def wF (P : Fid → Option Fn) : Nat → CallW
  | 0, _, _, _, _ => False
  | k + 1, f, as, H, Q => ∃ fn m, P f = some fn ∧ fn.start as = some m ∧
      wSs (wF P k) fn.body m H fun fl z0 H' => ∃ v K, Sub K H' ∧ VV H' K fl.val v ∧ Q v K
open PySem
structure Lvl where
  names : List (Str × NameKind)
  base : Nat
noncomputable def posIn (x : Str) : List (Str × NameKind) → Nat → Option (Nat × NameKind)
  | [], _ => none
  | (y, k) :: r, i => if x = y then some (i, k) else posIn x r (i + 1)
noncomputable def slotK (b : Nat) (r : Option Nat) (p : Nat × NameKind) : Option Nat := match p.2 with
  | .local => some (b + p.1)
  | .cell => some (b + p.1)
  | .free => r
  | _ => none
noncomputable def slotIn : List Lvl → Str → Option Nat
  | [], _ => none
  | l :: ls, x => (posIn x l.names 0).bind (slotK l.base (slotIn ls x))
noncomputable def slotTop : List Lvl → Str → Option Nat
  | [], _ => none
  | l :: _, x => (posIn x l.names 0).bind (slotK l.base none)
noncomputable def kC : NameKind → Bool
  | .cell => true
  | _ => false
noncomputable def kG : NameKind → Bool
  | .globalImplicit => true
  | _ => false
noncomputable def isCell : List Lvl → Str → Bool
  | [], _ => false
  | l :: _, x => ((posIn x l.names 0).map fun p => kC p.2).getD false
noncomputable def isGlob : List Lvl → Str → Bool
  | [], _ => false
  | l :: _, x => ((posIn x l.names 0).map fun p => kG p.2).getD false
noncomputable def isFunKind : ScopeKind → Bool
  | .function => true
  | _ => false
noncomputable def isLocalK : Option NameKind → Bool
  | some .local => true
  | _ => false
noncomputable def compK (ls : List Lvl) (ns : List (Str × NameKind)) (x : Str) : NameKind → Bool
  | .cell => false
  | .local => isLocalK (ns.lookup x)
  | .free => isCell ls x
  | _ => true
noncomputable def compOk (ls : List Lvl) (sc : Scope) : Bool := isFunKind sc.kind && sc.names.all fun y => compK ls sc.names y.1 y.2
inductive SlotC (l : Lvl) (x : Str) (r : Option Nat) : Nat → Prop
  | loc {p} : posIn x l.names 0 = some (p, .local) → SlotC l x r (l.base + p)
  | cell {p} : posIn x l.names 0 = some (p, .cell) → SlotC l x r (l.base + p)
  | free {p i} : posIn x l.names 0 = some (p, .free) → r = some i → SlotC l x r i
theorem slot_inv {l : Lvl} {x : Str} {r : Option Nat} {i : Nat} (h : (posIn x l.names 0).bind (slotK l.base r) = some i) : SlotC l x r i :=
  bind_inv h fun p h1 h2 => by
    induction p with | mk p k => ?_
    induction k with
    | «local» => exact Option.some.inj h2 ▸ .loc h1
    | cell => exact Option.some.inj h2 ▸ .cell h1
    | free => exact .free h1 h2
    | _ => exact dead h2
theorem kind_inv {o : Option (Nat × NameKind)} {q : NameKind → Bool} (h : (o.map fun p => q p.2).getD false = true) : ∃ p, o = some p ∧ q p.2 = true :=
  match o, h with
  | some p, h => ⟨p, rfl, h⟩
theorem kC_inv {k : NameKind} (h : kC k = true) : k = .cell := by cases k <;> first | rfl | cases h
theorem kG_inv {k : NameKind} (h : kG k = true) : k = .globalImplicit := by cases k <;> first | rfl | cases h
theorem isFun_inv {k : ScopeKind} (h : isFunKind k = true) : k = .function := by cases k <;> first | rfl | cases h
theorem isLoc_inv {k : Option NameKind} (h : isLocalK k = true) : k = some .local := by
  cases k with
  | none => cases h
  | some k => cases k <;> first | rfl | cases h
noncomputable def fidTab : List (String × Fid) := [("bits", .bits), ("last_terminal", .last_terminal), ("plain_grammar", .plain_grammar), ("spread", .spread), ("nullable", .nullable), ("first_of", .first_of), ("first_masks", .first_masks), ("follow_masks", .follow_masks), ("transitive", .transitive), ("predict", .predict), ("choices_of", .choices_of), ("ll_clashes", .ll_clashes), ("is_ll_one", .is_ll_one), ("led_by", .led_by), ("advanced", .advanced), ("kernels_behind", .kernels_behind), ("complete_rules", .complete_rules), ("build", .build), ("inadequate_states", .inadequate_states), ("is_lr_zero", .is_lr_zero), ("_law_pen", .law_pen), ("_law_draw", .law_draw), ("_law_rules", .law_rules), ("_law_row", .law_row), ("_law_bent", .law_bent), ("_law_from_right", .law_from_right), ("_law_from_left", .law_from_left), ("_law_is_right", .law_is_right), ("law", .law)]
noncomputable def cidTab : List (String × Cid) := [("Rule", .Rule), ("Grammar", .Grammar), ("LrState", .LrState), ("Closer", .Closer), ("Automaton", .Automaton), ("Builder", .Builder)]
noncomputable def primTab : List (String × Prim) := [("abs", .abs), ("int", .int), ("len", .len), ("max", .max), ("list", .list), ("tuple", .tuple), ("str", .str), ("sorted", .sorted), ("all", .all)]
noncomputable def cstTab : List (String × Cst) := [("END", .int 0), ("NONE", .int (-1)), ("OWN_TERMINALS", .txts ["$end", "error", "$undefined"])]
noncomputable def toS (s : Str) : Option String := if Str.ofString s.toString = s then some s.toString else none
noncomputable def cCst : Const → Option Cst
  | .none => some .none
  | .bool b => some (.bool b)
  | .int i => some (.int i)
  | .str s => (toS s).map .str
  | _ => none
noncomputable def cBop : Operator → Option BOp
  | .Add => some .add | .Sub => some .sub | .Mult => some .mul | .Mod => some .mod | .FloorDiv => some .fdiv | .Pow => some .pow
  | .LShift => some .shl | .RShift => some .shr | .BitAnd => some .band | .BitOr => some .bor | _ => none
noncomputable def cCop : CmpOp → Option COp
  | .Eq => some .eq | .NotEq => some .ne | .Lt => some .lt | .Gt => some .gt | .GtE => some .ge | .Is => some .isIt | .IsNot => some .isNot | .In => some .isIn | .NotIn => some .notIn | _ => none
section
variable {α β γ δ ε ζ : Type}
noncomputable def map2 (F : α → β → γ) (x : Option α) (y : Option β) : Option γ := x.bind fun a => y.map (F a)
noncomputable def map3 (F : α → β → γ → δ) (x : Option α) (y : Option β) (z : Option γ) : Option δ := x.bind fun a => map2 (F a) y z
noncomputable def iff (c : Bool) (x : Option α) : Option α := match c with | true => x | false => none
theorem deadB {P : Prop} (h : false = true) : P := nomatch h
theorem map1_inv {F : α → β} {x : Option α} {r : β} {P : β → Prop} (h : x.map F = some r) (k : ∀ a, x = some a → P (F a)) : P r := by
  obtain ⟨a, h1, rfl⟩ := Option.map_eq_some_iff.mp h; exact k a h1
theorem map2_inv {F : α → β → γ} {x : Option α} {y : Option β} {r : γ} {P : γ → Prop} (h : map2 F x y = some r) (k : ∀ a b, x = some a → y = some b → P (F a b)) : P r := by
  obtain ⟨a, h1, h⟩ := Option.bind_eq_some_iff.mp h; exact map1_inv h fun b h2 => k a b h1 h2
theorem map3_inv {F : α → β → γ → δ} {x : Option α} {y : Option β} {z : Option γ} {r : δ} {P : δ → Prop} (h : map3 F x y z = some r) (k : ∀ a b c, x = some a → y = some b → z = some c → P (F a b c)) : P r := by
  obtain ⟨a, h1, h⟩ := Option.bind_eq_some_iff.mp h; exact map2_inv h fun b c h2 => k a b c h1 h2
theorem iff_inv {c : Bool} {x : Option α} {r : α} {P : Prop} (h : iff c x = some r) (k : c = true → x = some r → P) : P := by
  cases c with
  | true => exact k rfl h
  | false => cases h
theorem or_inv {x y : Option α} {r : α} {P : Prop} (h : x.or y = some r) (k1 : x = some r → P) (k2 : y = some r → P) : P := by
  cases x with
  | none => exact k2 h
  | some a => exact k1 h
theorem and_tt {a b : Bool} (h : (a && b) = true) : a = true ∧ b = true := Bool.and_eq_true_iff.mp h
theorem not_tt {a : Bool} (h : (!a) = true) : a = false := by cases a <;> first | rfl | cases h
theorem isEmpty_eq {l : List α} (h : l.isEmpty = true) : l = [] := List.isEmpty_iff.mp h
end
noncomputable def mkXs : List X → Xs
  | [] => .nil
  | x :: r => .cons x (mkXs r)
noncomputable def pairOf : List PySem.Expr → Option (PySem.Expr × PySem.Expr)
  | [a, b] => some (a, b)
  | _ => none
noncomputable def cTgt (ls : List Lvl) : Nat → PySem.Expr → Option Tgt
  | 0, _ => none
  | n + 1, e => match e with
    | .Name x _ => (slotTop ls x).map .one
    | .Tuple ts _ _ => (pairOf ts).bind fun p => map2 .two (cTgt ls n p.1) (cTgt ls n p.2)
    | _ => none
noncomputable def orX : BoolOp → X → X → X
  | .And => .and
  | .Or => .or
noncomputable def orAll (op : BoolOp) : List X → Option X
  | [] => none
  | x :: r => match r with
    | [] => some x
    | _ :: _ => (orAll op r).map (orX op x)
noncomputable def cEsWith (f : PySem.Expr → Option X) : List PySem.Expr → Option (List X)
  | [] => some []
  | e :: r => map2 .cons (f e) (cEsWith f r)
noncomputable def isTwo : Tgt → Bool
  | .two _ _ => true
  | _ => false
noncomputable def enumOk (i : It) (t : Tgt) : Bool := match i with
  | .enum _ => isTwo t
  | _ => true
noncomputable def nameOf : PySem.Expr → Option Str
  | .Name f _ => some f
  | _ => none
noncomputable def baseOk : PySem.Expr → Bool
  | .Call f as ks _ => !((nameOf f).isSome && as.isEmpty && ks.isEmpty)
  | _ => true
noncomputable def intC : Const → Option Int
  | .int i => some i
  | _ => none
noncomputable def intOf : PySem.Expr → Option Int
  | .Constant c _ _ => intC c
  | _ => none
noncomputable def negOf : PySem.Expr → Option Int
  | .UnaryOp .USub x _ => intOf x
  | _ => none
noncomputable def oneOf {α : Type} : List α → Option α
  | [a] => some a
  | _ => none
noncomputable def cName (ls : List Lvl) (x : Str) : Option X := iff (!(x == ("__debug__" : Str)) && !(x == ("__classdict__" : Str))) (((slotIn ls x).map .loc).or (iff (isGlob ls x) (((toS x).bind fun s => List.lookup s cstTab).map .cst)))
noncomputable def cUn (op : UnaryOp) (e : PySem.Expr) (x : Option X) : Option X := match op with
  | .Not => x.map .not
  | .USub => (intOf e).map fun i => .cst (.int (-i))
  | _ => none
noncomputable def cSlc (f : PySem.Expr → Option X) (o : PySem.Expr) : Option PySem.Expr → Option PySem.Expr → Option PySem.Expr → Option X
  | none, some e, none => map2 .slcTo (f o) (f e)
  | some e, none, none => map2 .slcFrom (f o) (f e)
  | none, none, some k => (negOf k).bind fun i => iff (i == 1) ((f o).map .rev)
  | _, _, _ => none
noncomputable def cSub (f : PySem.Expr → Option X) (o i : PySem.Expr) : Option X := match i with
  | .Slice lo up st _ => cSlc f o lo up st
  | i => map2 .sub (f o) (f i)
noncomputable def cCallN (nm : String) (ys : List X) : Option X := ((fidTab.lookup nm).map fun i => .call i (mkXs ys)).or (((cidTab.lookup nm).map fun i => .new i (mkXs ys)).or ((primTab.lookup nm).map fun i => .prim i (mkXs ys)))
noncomputable def cCall (f : PySem.Expr → Option X) (ls : List Lvl) (g : PySem.Expr) (as : List PySem.Expr) (q : Pos) : Option X := match g with
  | .Attribute o a p => iff (baseOk o && (p.endLine == q.line) && decide (as.length < 20)) (map3 (fun x n ys => .meth x n (mkXs ys)) (f o) (toS a) (cEsWith f as))
  | .Name g _ => iff (isGlob ls g && !(g == ("__debug__" : Str))) ((toS g).bind fun n => (cEsWith f as).bind (cCallN n))
  | _ => none
noncomputable def subLvl (ls : List Lvl) (sc : Scope) : Lvl := ⟨sc.names, match ls with | l :: _ => l.base + l.names.length | [] => 0⟩
noncomputable def itOf (f : Str) (x : X) : Option It :=
  (iff (f == Str.ofString "range") (some (.range x))).or ((iff (f == Str.ofString "reversed") (some (.revd x))).or (iff (f == Str.ofString "enumerate") (some (.enum x))))
noncomputable def callOne : PySem.Expr → Option (Str × PySem.Expr)
  | .Call g as ks _ => iff ks.isEmpty (map2 Prod.mk (nameOf g) (oneOf as))
  | _ => none
mutual
noncomputable def cE : Nat → List Lvl → PySem.Expr → Option X
  | 0, _, _ => none
  | n + 1, ls, e => match e with
    | .Constant c _ _ => (cCst c).map .cst
    | .Name x _ => cName ls x
    | .BoolOp op vs _ => (cEsWith (cE n ls) vs).bind (orAll op)
    | .UnaryOp op x _ => cUn op x (cE n ls x)
    | .BinOp l op r _ => map3 .bin (cBop op) (cE n ls l) (cE n ls r)
    | .IfExp t a b _ => map3 .ite (cE n ls t) (cE n ls a) (cE n ls b)
    | .Tuple es _ _ => (cEsWith (cE n ls) es).map fun xs => .tupD (mkXs xs)
    | .List es _ => (cEsWith (cE n ls) es).map fun xs => .lstD (mkXs xs)
    | .Dict ks vs _ => iff (ks.isEmpty && vs.isEmpty) (some .dctD)
    | .Compare l ops rs _ => (oneOf ops).bind fun op => (oneOf rs).bind fun r => map3 .cmp (cCop op) (cE n ls l) (cE n ls r)
    | .Attribute o a _ => iff (baseOk o) (map2 .attr (cE n ls o) (toS a))
    | .Subscript o i _ => cSub (cE n ls) o i
    | .Call f as ks q => iff ks.isEmpty (cCall (cE n ls) ls f as q)
    | .ListComp elt gs sc _ => (oneOf gs).bind fun g => iff (g.is_async == 0 && compOk ls sc) ((cIt n ls g.iter).bind fun i => (cTgt (subLvl ls sc :: ls) 3 g.target).bind fun T => (cE n (subLvl ls sc :: ls) elt).bind fun y =>
        iff (enumOk i T) ((iff g.ifs.isEmpty (some (.comp y T i))).or ((oneOf g.ifs).bind fun c => (cE n (subLvl ls sc :: ls) c).map (.compIf y T i))))
    | _ => none
noncomputable def cIt : Nat → List Lvl → PySem.Expr → Option It
  | 0, _, _ => none
  | n + 1, ls, e => ((callOne e).bind fun p => iff (isGlob ls p.1) ((cE n ls p.2).bind (itOf p.1))).or ((cE n ls e).map .val)
end
noncomputable def slotsIn (ls : List Lvl) : List PySem.Expr → Option (List Nat)
  | [] => some []
  | e :: r => map2 .cons ((nameOf e).bind (slotTop ls)) (slotsIn ls r)
noncomputable def mkSs : List S → Ss
  | [] => .nil
  | x :: r => .cons x (mkSs r)
noncomputable def cSsWith (f : PySem.Stmt → Option S) : List PySem.Stmt → Option (List S)
  | [] => some []
  | e :: r => map2 .cons (f e) (cSsWith f r)
noncomputable def tupOk : PySem.Expr → Bool
  | .Tuple vs _ _ => !(vs.all (constantsAlone 8))
  | _ => true
noncomputable def exprOk : PySem.Expr → Bool
  | .Call .. => true
  | _ => false
noncomputable def cAsg (ls : List Lvl) (v : PySem.Expr) (x : Option X) : PySem.Expr → Option S
  | .Name y _ => map2 .asg (slotTop ls y) x
  | .Tuple ts _ _ => iff (tupOk v) (map2 .asgT (slotsIn ls ts) x)
  | .Attribute o a _ => map3 .setA (cE 30 ls o) (toS a) x
  | .Subscript o i _ => map3 .setI (cE 30 ls o) (cE 30 ls i) x
  | _ => none
noncomputable def cS : Nat → List Lvl → PySem.Stmt → Option S
  | 0, _, _ => none
  | n + 1, ls, s => match s with
    | .Assign ts v _ => (oneOf ts).bind (cAsg ls v (cE 30 ls v))
    | .If t a b _ => map3 (fun t a b => .ifS t (mkSs a) (mkSs b)) (cE 30 ls t) (cSsWith (cS n ls) a) (cSsWith (cS n ls) b)
    | .While t a b _ => iff b.isEmpty (map2 (fun t a => .whileS t (mkSs a)) (cE 30 ls t) (cSsWith (cS n ls) a))
    | .For t it a b _ => iff b.isEmpty ((cTgt ls 3 t).bind fun T => (cIt 30 ls it).bind fun i => iff (enumOk i T) ((cSsWith (cS n ls) a).map fun a => .forS T i (mkSs a)))
    | .Return v _ => v.bind fun e => (cE 30 ls e).map .ret
    | .Expr e _ => iff (exprOk e) ((cE 30 ls e).map .exprS)
    | .Continue _ => some .cont
    | .Raise .. => some .raise
    | _ => none
noncomputable def cBody (sc : Scope) (body : List PySem.Stmt) : Option Ss := (cSsWith (cS 20 [⟨sc.names, 0⟩]) body).map mkSs
theorem oneOf_eq {α : Type} {l : List α} {a : α} (h : oneOf l = some a) : l = [a] := by
  match l, h with
  | [_], rfl => rfl
theorem nameOf_eq {e : PySem.Expr} {f : Str} (h : nameOf e = some f) : ∃ p, e = .Name f p := by
  cases e with
  | Name g p => exact ⟨p, congrArg (PySem.Expr.Name · p) (Option.some.inj h)⟩
  | _ => exact dead h
theorem callOne_eq {e : PySem.Expr} {r} (h : callOne e = some r) : ∃ p q, e = .Call (.Name r.1 p) [r.2] [] q := by
  cases e with
  | Call g as ks q =>
    refine iff_inv h fun h1 h => map2_inv (P := fun r => ∃ p p', PySem.Expr.Call g as ks q = .Call (.Name r.1 p) [r.2] [] p') h fun f a h2 h3 => ?_
    · obtain ⟨p, rfl⟩ := nameOf_eq h2
      rw [oneOf_eq h3, isEmpty_eq h1]
      exact ⟨p, q, rfl⟩
  | _ => exact dead h
theorem intC_eq {c : Const} {i : Int} (h : intC c = some i) : c = .int i := by
  induction c with
  | int j => exact congrArg Const.int (Option.some.inj h)
  | _ => exact dead h
theorem intOf_eq {e : PySem.Expr} {i : Int} (h : intOf e = some i) : ∃ k p, e = .Constant (.int i) k p := by
  cases e with
  | Constant c k p => exact ⟨k, p, congrArg (PySem.Expr.Constant · k p) (intC_eq h)⟩
  | _ => exact dead h
theorem negOf_eq {e : PySem.Expr} {i : Int} (h : negOf e = some i) : ∃ k p p', e = .UnaryOp .USub (.Constant (.int i) k p) p' := by
  cases e with
  | UnaryOp op x p' =>
    induction op with
    | USub => obtain ⟨k, p, rfl⟩ := intOf_eq h; exact ⟨k, p, p', rfl⟩
    | _ => exact dead h
  | _ => exact dead h
theorem pairOf_eq {l : List PySem.Expr} {p} (h : pairOf l = some p) : l = [p.1, p.2] := by
  match l, h with
  | [_, _], rfl => rfl
inductive TgtC (ls : List Lvl) (n : Nat) : PySem.Expr → Tgt → Prop
  | name {x p i} : slotTop ls x = some i → TgtC ls n (.Name x p) (.one i)
  | two {a b k p Ta Tb} : cTgt ls n a = some Ta → cTgt ls n b = some Tb → TgtC ls n (.Tuple [a, b] k p) (.two Ta Tb)
theorem cTgt_inv {ls : List Lvl} {n : Nat} {e : PySem.Expr} {T : Tgt} (h : cTgt ls (n + 1) e = some T) : TgtC ls n e T := by
  cases e with
  | Name x p => exact map1_inv h fun i h1 => .name h1
  | Tuple ts k p => exact bind_inv h fun q h1 h => map2_inv h fun Ta Tb h2 h3 => by rw [pairOf_eq h1]; exact .two h2 h3
  | _ => exact dead h
inductive CE1 (f : List Lvl → PySem.Expr → Option X) (g : List Lvl → PySem.Expr → Option It) (ls : List Lvl) : PySem.Expr → X → Prop
  | const {c k p c'} : cCst c = some c' → CE1 f g ls (.Constant c k p) (.cst c')
  | loc {x p i} : (x == ("__debug__" : Str)) = false → (x == ("__classdict__" : Str)) = false → slotIn ls x = some i → CE1 f g ls (.Name x p) (.loc i)
  | glob {x p n c} : (x == ("__debug__" : Str)) = false → isGlob ls x = true → toS x = some n → cstTab.lookup n = some c → CE1 f g ls (.Name x p) (.cst c)
  | bool {op vs p xs y} : cEsWith (f ls) vs = some xs → orAll op xs = some y → CE1 f g ls (.BoolOp op vs p) y
  | not {a p x} : f ls a = some x → CE1 f g ls (.UnaryOp .Not a p) (.not x)
  | neg {i k p p'} : CE1 f g ls (.UnaryOp .USub (.Constant (.int i) k p) p') (.cst (.int (-i)))
  | bin {a b o p op x y} : cBop o = some op → f ls a = some x → f ls b = some y → CE1 f g ls (.BinOp a o b p) (.bin op x y)
  | ite {a b c p x y z} : f ls a = some x → f ls b = some y → f ls c = some z → CE1 f g ls (.IfExp a b c p) (.ite x y z)
  | tup {es k p xs} : cEsWith (f ls) es = some xs → CE1 f g ls (.Tuple es k p) (.tupD (mkXs xs))
  | lst {es p xs} : cEsWith (f ls) es = some xs → CE1 f g ls (.List es p) (.lstD (mkXs xs))
  | dct {p} : CE1 f g ls (.Dict [] [] p) .dctD
  | cmp {a b o p op x y} : cCop o = some op → f ls a = some x → f ls b = some y → CE1 f g ls (.Compare a [o] [b] p) (.cmp op x y)
  | attr {o a p x n} : baseOk o = true → f ls o = some x → toS a = some n → CE1 f g ls (.Attribute o a p) (.attr x n)
  | slcTo {o e p q x y} : f ls o = some x → f ls e = some y → CE1 f g ls (.Subscript o (.Slice none (some e) none q) p) (.slcTo x y)
  | slcFrom {o e p q x y} : f ls o = some x → f ls e = some y → CE1 f g ls (.Subscript o (.Slice (some e) none none q) p) (.slcFrom x y)
  | rev {o k p p' p'' q x} : f ls o = some x → CE1 f g ls (.Subscript o (.Slice none none (some (.UnaryOp .USub (.Constant (.int 1) k p) p')) p'') q) (.rev x)
  | sub {o i p x y} : f ls o = some x → f ls i = some y → CE1 f g ls (.Subscript o i p) (.sub x y)
  | meth {o a p as q x n xs} : baseOk o = true → (p.endLine == q.line) = true → as.length < 20 → f ls o = some x → toS a = some n → cEsWith (f ls) as = some xs → CE1 f g ls (.Call (.Attribute o a p) as [] q) (.meth x n (mkXs xs))
  | call {h p as q n xs i} : isGlob ls h = true → (h == ("__debug__" : Str)) = false → toS h = some n → cEsWith (f ls) as = some xs → fidTab.lookup n = some i → CE1 f g ls (.Call (.Name h p) as [] q) (.call i (mkXs xs))
  | new {h p as q n xs c} : isGlob ls h = true → (h == ("__debug__" : Str)) = false → toS h = some n → cEsWith (f ls) as = some xs → cidTab.lookup n = some c → CE1 f g ls (.Call (.Name h p) as [] q) (.new c (mkXs xs))
  | prim {h p as q n xs c} : isGlob ls h = true → (h == ("__debug__" : Str)) = false → toS h = some n → cEsWith (f ls) as = some xs → primTab.lookup n = some c → CE1 f g ls (.Call (.Name h p) as [] q) (.prim c (mkXs xs))
  | comp {elt t it sc p i T y} : compOk ls sc = true → enumOk i T = true → g ls it = some i → cTgt (subLvl ls sc :: ls) 3 t = some T → f (subLvl ls sc :: ls) elt = some y → CE1 f g ls (.ListComp elt [⟨t, it, [], 0⟩] sc p) (.comp y T i)
  | compIf {elt t it sc p c i T y z} : compOk ls sc = true → enumOk i T = true → g ls it = some i → cTgt (subLvl ls sc :: ls) 3 t = some T → f (subLvl ls sc :: ls) elt = some y → f (subLvl ls sc :: ls) c = some z →
      CE1 f g ls (.ListComp elt [⟨t, it, [c], 0⟩] sc p) (.compIf y T i z)
theorem cName_inv {f g} {ls : List Lvl} {y : Str} {p : Pos} {x : X} (h : cName ls y = some x) : CE1 f g ls (.Name y p) x :=
  iff_inv h fun h0 h => or_inv h (fun h => map1_inv h fun i h1 => .loc (not_tt (and_tt h0).1) (not_tt (and_tt h0).2) h1) fun h => iff_inv h fun h1 h => map1_inv h fun c h => bind_inv h fun n h2 h3 => .glob (not_tt (and_tt h0).1) h1 h2 h3
theorem cSlc_inv {f g} {ls : List Lvl} {o : PySem.Expr} {lo up st} {p q : Pos} {x : X} (h : cSlc (f ls) o lo up st = some x) : CE1 f g ls (.Subscript o (.Slice lo up st p) q) x := by
  match lo, up, st, h with
  | none, some e, none, h => exact map2_inv h fun a b h1 h2 => .slcTo h1 h2
  | some e, none, none, h => exact map2_inv h fun a b h1 h2 => .slcFrom h1 h2
  | none, none, some k, h => exact bind_inv h fun i h1 h => iff_inv h fun h2 h => map1_inv h fun a h3 => (by
      obtain ⟨k, p1, p2, rfl⟩ := negOf_eq h1
      rw [eq_of_beq h2]
      exact .rev h3)
theorem cSub_inv {f g} {ls : List Lvl} {o i : PySem.Expr} {q : Pos} {x : X} (h : cSub (f ls) o i = some x) : CE1 f g ls (.Subscript o i q) x := by
  by_cases hi : ∃ lo up st p, i = .Slice lo up st p
  · obtain ⟨lo, up, st, p, rfl⟩ := hi
    exact cSlc_inv h
  · have h : map2 X.sub (f ls o) (f ls i) = some x := by
      cases i with
      | Slice lo up st p => exact absurd ⟨_, _, _, _, rfl⟩ hi
      | _ => exact h
    exact map2_inv h fun a b h1 h2 => .sub h1 h2
theorem cCall_inv {f g} {ls : List Lvl} {h : PySem.Expr} {as : List PySem.Expr} {q : Pos} {x : X} (e : cCall (f ls) ls h as q = some x) : CE1 f g ls (.Call h as [] q) x := by
  cases h with
  | Attribute o a p => exact iff_inv e fun h1 e => map3_inv e fun y n ys h2 h3 h4 => .meth (and_tt (and_tt h1).1).1 (and_tt (and_tt h1).1).2 (of_decide_eq_true (and_tt h1).2) h2 h3 h4
  | Name y p =>
    exact iff_inv e fun h1 e => bind_inv e fun n h2 e => bind_inv e fun ys h3 e => or_inv e (fun e => map1_inv e fun i h4 => .call (and_tt h1).1 (not_tt (and_tt h1).2) h2 h3 h4)
      fun e => or_inv e (fun e => map1_inv e fun i h4 => .new (and_tt h1).1 (not_tt (and_tt h1).2) h2 h3 h4) fun e => map1_inv e fun i h4 => .prim (and_tt h1).1 (not_tt (and_tt h1).2) h2 h3 h4
  | _ => exact dead e
theorem cE_inv {n : Nat} {ls : List Lvl} {e : PySem.Expr} {x : X} (h : cE (n + 1) ls e = some x) : CE1 (cE n) (cIt n) ls e x := by
  cases e with
  | Constant c k p => exact map1_inv h fun c' h1 => .const h1
  | Name y p => exact cName_inv h
  | BoolOp op vs p => exact bind_inv h fun xs h1 h => .bool h1 h
  | UnaryOp op a p =>
    induction op with
    | Not => exact map1_inv h fun y h1 => .not h1
    | USub => exact map1_inv h fun i h1 => by obtain ⟨k, q, rfl⟩ := intOf_eq h1; exact .neg
    | _ => exact dead h
  | BinOp a o b p => exact map3_inv h fun op y z h1 h2 h3 => .bin h1 h2 h3
  | IfExp a b c p => exact map3_inv h fun x y z h1 h2 h3 => .ite h1 h2 h3
  | Tuple es k p => exact map1_inv h fun xs h1 => .tup h1
  | List es p => exact map1_inv h fun xs h1 => .lst h1
  | Dict ks vs p => exact iff_inv h fun h1 h => by rw [isEmpty_eq (and_tt h1).1, isEmpty_eq (and_tt h1).2, ← Option.some.inj h]; exact .dct
  | Compare a ops rs p => exact bind_inv h fun o h1 h => bind_inv h fun b h2 h => by rw [oneOf_eq h1, oneOf_eq h2]; exact map3_inv h fun op y z h3 h4 h5 => .cmp h3 h4 h5
  | Attribute o a p => exact iff_inv h fun h1 h => map2_inv h fun y n h2 h3 => .attr h1 h2 h3
  | Subscript o i p => exact cSub_inv h
  | Call g as ks q => exact iff_inv h fun h1 h => by rw [isEmpty_eq h1]; exact cCall_inv h
  | ListComp elt gs sc p =>
    refine bind_inv h fun g h1 h => iff_inv h fun h0 h => bind_inv h fun i h4 h => bind_inv h fun T h5 h => bind_inv h fun y h6 h => iff_inv h fun h3 h => ?_
    rw [oneOf_eq h1]
    obtain ⟨t, it, fs, k⟩ := g
    cases (show k = 0 from eq_of_beq (and_tt h0).1)
    refine or_inv h (fun h => iff_inv h fun h7 h => ?_) fun h => bind_inv h fun c h7 h => map1_inv h fun z h8 => ?_
    · rw [show fs = [] from isEmpty_eq h7, ← Option.some.inj h]; exact .comp (and_tt h0).2 h3 h4 h5 h6
    · rw [show fs = [c] from oneOf_eq h7]; exact .compIf (and_tt h0).2 h3 h4 h5 h6 h8
  | _ => exact dead h
end Mine.Internal
set_option maxRecDepth 100000
set_option linter.unusedVariables false
namespace Mine.Internal
open PySem PySem.W PyProof.Rows
structure BC where
  prog : Program
  w : World
  base : Heap
  os : OsState
  ca : Cid → Nat
  fa : Fid → Nat
  K : Frag
structure ClsOk (K : Frag) (ca : Cid → Nat) (fa : Fid → Nat) : Prop where
  get : ∀ c, plainGet K (ca c) "" = true
  dict : ∀ c, hasDictIn K (ca c) = true
  set : ∀ c, findIn K (.ref (ca c)) "__setattr__" = some (some (.builtin "object.__setattr__"))
  over : ∀ c, plainOver K (ca c) = true
  make : ∀ c, makesIn K (ca c) = true
  keep : ∀ c, keepIn K (.ref (ca c)) = true
  init : ∀ c, findIn K (.ref (ca c)) "__init__" = some (some (.ref (fa c.init)))
  attr : ∀ c n, n ∈ c.attrs → findIn K (.ref (ca c)) (Str.ofString n) = some none
  meth : ∀ c n f, c.meth n = some f → findIn K (.ref (ca c)) (Str.ofString n) = some (some (.ref (fa f)))
  isfn : ∀ f, isFn K (.ref (fa f)) = true
  keepf : ∀ f, keepIn K (.ref (fa f)) = true
theorem ltS {h : Heap} {a : Nat} {o : Obj} (e : h.get? a = some o) : (a : Nat) < h.objs.size := Heap.lt_size e
noncomputable def Out (H : Hp) (a : Nat) : Prop := H a = none ∧ ∀ c as, H (a + 1) ≠ some (.inst c as)
noncomputable abbrev intKeys (B : BC) : KeyKind B.prog B.w Int := intKind B.prog B.w
noncomputable abbrev tupKeys (B : BC) : HeapKind B.prog B.w (List Int) := tupleKind (intKeys B)
noncomputable def Attrs (es : List DictEntry) (val : String → Option Value) : Prop :=
  (∀ e ∈ es, ∃ x t, e.key = .str x t) ∧ ∀ n, (es.find? fun e => e.key.isStr (Str.ofString n)).map (·.val) = val n
noncomputable def KeyAt (h : Heap) (H : Hp) (R : Nat → Prop) (a : Nat) : Prop := (∃ items n, IsT h a items n) ∧ Out H a ∧ ¬ R a
theorem KeyAt.mono {h h' : Heap} {H H' : Hp} {R R' : Nat → Prop} {a : Nat} (x : KeyAt h H R a) (k : ∀ b o, h.get? b = some o → Out H b → ¬ R b → h'.get? b = some o ∧ Out H' b ∧ ¬ R' b) : KeyAt h' H' R' a :=
  let ⟨⟨i, n, e⟩, o, r⟩ := x; let q := k _ _ e o r; ⟨⟨i, n, q.1⟩, q.2⟩
inductive Rel (B : BC) (h : Heap) (H : Hp) (R : Nat → Prop) : Value → V → Prop
  | none : Rel B h H R .none .none
  | bool (b) : Rel B h H R (.bool b) (.bool b)
  | int (i t) : Rel B h H R (.int i t) (.int i)
  | str (s t) : Rel B h H R (.str (Str.ofString s) t) (.str s)
  | ref (a) : Rel B h H R (.ref a) (.ref a)
  | tup {a items n vs} : IsT h a items n → Out H a → ¬ R a → items.size = vs.length → vs.length ≤ big →
      (∀ (i : Nat) v V, items.toList[i]? = some v → vs[i]? = some V → Rel B h H R v V) → Rel B h H R (.ref a) (.tup vs)
  | lst {a items n vs} : IsL h a items n → Out H a → ¬ R a → items.size = vs.length → vs.length ≤ big →
      (∀ (i : Nat) v V, items.toList[i]? = some v → vs[i]? = some V → Rel B h H R v V) → Rel B h H R (.ref a) (.lst vs)
  | dcI {a kvs es} : (a == sysModules) = false → h.DictOf (intKeys B) a kvs → Out H a → ¬ R a → kvs.map (·.1) = es.map (·.1) →
      (∀ (i : Nat) x y, kvs[i]? = some x → es[i]? = some y → Rel B h H R x.2 y.2) → Rel B h H R (.ref a) (.dcI es)
  | dcT {a kvs es} : (a == sysModules) = false → h.DictOfH (tupKeys B) a kvs → Out H a → ¬ R a → (∀ x ∈ kvs, KeyAt h H R x.2.1) → kvs.map (·.1) = es.map (·.1) →
      (∀ (i : Nat) x y, kvs[i]? = some x → es[i]? = some y → Rel B h H R x.2.2 y.2) → Rel B h H R (.ref a) (.dcT es)
  | obj {a c es n val as} : h.get? (a + 1) = some (instObj (B.ca c) a) → h.get? a = some (dictOf es n) → Out H (a + 1) → Out H a → ¬ R (a + 1) → ¬ R a →
      Attrs es val → es.length = as.length → (∀ n, as.lookup n = none → val n = none) → (∀ n V, as.lookup n = some V → ∃ v, val n = some v) →
      (∀ n v V, val n = some v → as.lookup n = some V → Rel B h H R v V) → Rel B h H R (.ref (a + 1)) (.obj c as)
noncomputable def RelL (B : BC) (h : Heap) (H : Hp) (R : Nat → Prop) (vs : List Value) (Vs : List V) : Prop :=
  vs.length = Vs.length ∧ ∀ (i : Nat) v V, vs[i]? = some v → Vs[i]? = some V → Rel B h H R v V
inductive OList (B : BC) (h : Heap) (H : Hp) (R : Nat → Prop) (a : Nat) (vs : List V) : Prop
  | mk (items n) : IsL h a items n → RelL B h H R items.toList vs → vs.length ≤ big → OList B h H R a vs
inductive ODcI (B : BC) (h : Heap) (H : Hp) (R : Nat → Prop) (a : Nat) (es : List (Int × V)) : Prop
  | mk : (a == sysModules) = false → (kvs : List (Int × Value)) → h.DictOf (intKeys B) a kvs → kvs.map (·.1) = es.map (·.1) → (∀ (i : Nat) x y, kvs[i]? = some x → es[i]? = some y → Rel B h H R x.2 y.2) → ODcI B h H R a es
inductive ODcT (B : BC) (h : Heap) (H : Hp) (R : Nat → Prop) (a : Nat) (es : List (List Int × V)) : Prop
  | mk : (a == sysModules) = false → (kvs : List (List Int × Nat × Value)) → h.DictOfH (tupKeys B) a kvs → (∀ x ∈ kvs, KeyAt h H R x.2.1) → kvs.map (·.1) = es.map (·.1) →
      (∀ (i : Nat) x y, kvs[i]? = some x → es[i]? = some y → Rel B h H R x.2.2 y.2) → ODcT B h H R a es
inductive OInst (B : BC) (h : Heap) (H : Hp) (R : Nat → Prop) (a : Nat) (c : Cid) (as : List (String × V)) : Prop
  | mk (d es n val) : a = d + 1 → h.get? a = some (instObj (B.ca c) d) → h.get? d = some (dictOf es n) → H d = none → Attrs es val → es.length = as.length →
      (∀ n, as.lookup n = none → val n = none) → (∀ n V, as.lookup n = some V → ∃ v, val n = some v) → (∀ n v V, val n = some v → as.lookup n = some V → Rel B h H R v V) → OInst B h H R a c as
noncomputable def ORel (B : BC) (h : Heap) (H : Hp) (R : Nat → Prop) (a : Nat) : O → Prop
  | .list vs => OList B h H R a vs
  | .dcI es => ODcI B h H R a es
  | .dcT es => ODcT B h H R a es
  | .inst c as => OInst B h H R a c as
structure Step (h : Heap) (H : Hp) (h' : Heap) (H' : Hp) : Prop where
  keep : ∀ b o, h.get? b = some o → Out H b → h'.get? b = some o ∧ Out H' b
structure Inv (B : BC) (R : Nat → Prop) (s : Shared) (H : Hp) : Prop where
  objs : ∀ a o, H a = some o → ORel B s.heap H R a o
  base : ∀ b o, B.base.get? b = some o → s.heap.get? b = some o ∧ Out H b ∧ ¬ R b
  res : ∀ a, R a → Out H a ∧ ∃ o, s.heap.get? a = some o
  lo : ∃ (b : Nat) (o : Obj), 10 ≤ b ∧ B.base.get? b = some o
  gens : s.gens = #[]
  os : s.os = B.os
theorem Step.refl (h : Heap) (H : Hp) : Step h H h H := ⟨fun z0 z0 e o => ⟨e, o⟩⟩
theorem Step.trans {h₁ h₂ h₃ : Heap} {H₁ H₂ H₃ : Hp} (x : Step h₁ H₁ h₂ H₂) (y : Step h₂ H₂ h₃ H₃) : Step h₁ H₁ h₃ H₃ :=
  ⟨fun b o e q => let z := x.keep b o e q; y.keep b o z.1 z.2⟩
theorem Rel.mono {B : BC} {h h' : Heap} {H H' : Hp} {R R' : Nat → Prop} {v : Value} {V : V} (x : Rel B h H R v V)
    (k : ∀ b o, h.get? b = some o → Out H b → ¬ R b → h'.get? b = some o ∧ Out H' b ∧ ¬ R' b) : Rel B h' H' R' v V := by
  induction x with
  | none => exact .none
  | bool b => exact .bool b
  | int i t => exact .int i t
  | str s t => exact .str s t
  | ref a => exact .ref a
  | tup e o r z z' _ ih => have q := k _ _ e o r; exact .tup q.1 q.2.1 q.2.2 z z' ih
  | lst e o r z z' _ ih => have q := k _ _ e o r; exact .lst q.1 q.2.1 q.2.2 z z' ih
  | dcI n1 D o r z _ ih =>
    obtain ⟨ob, es, ep, hO⟩ := D; have e := hO.1; have rest := hO.2; clear hO
    have q := k _ _ e o r
    exact .dcI n1 ⟨ob, es, ep, q.1, rest⟩ q.2.1 q.2.2 z ih
  | dcT n1 D o r kk z _ ih =>
    obtain ⟨ob, es, ep, hO⟩ := D; have e := hO.1; have x1 := hO.2.1; have x2 := hO.2.2.1; have x3 := hO.2.2.2.1; have x4 := hO.2.2.2.2.1; have x5 := hO.2.2.2.2.2; clear hO
    have q := k _ _ e o r
    refine .dcT n1 ⟨ob, es, ep, q.1, x1, x2, x3, fun x hx => ?_, x5⟩ q.2.1 q.2.2 (fun x hx => (kk x hx).mono k) z ih
    obtain ⟨o', items, n, hO⟩ := x4 x hx; have g1 := hO.1; have g2 := hO.2; clear hO
    exact ⟨o', items, n, (k _ _ g1 (kk x hx).2.1 (kk x hx).2.2).1, g2⟩
  | obj e1 e2 o1 o2 r1 r2 A L z1 z2 _ ih =>
    have q1 := k _ _ e1 o1 r1
    have q2 := k _ _ e2 o2 r2
    exact .obj q1.1 q2.1 q1.2.1 q2.2.1 q1.2.2 q2.2.2 A L z1 z2 ih
theorem Rel.step {B : BC} {h h' : Heap} {H H' : Hp} {R : Nat → Prop} {v : Value} {V : V} (x : Rel B h H R v V) (k : Step h H h' H') : Rel B h' H' R v V :=
  x.mono fun b o e q r => ⟨(k.keep b o e q).1, (k.keep b o e q).2, r⟩
theorem RelL.step {B : BC} {h h' : Heap} {H H' : Hp} {R : Nat → Prop} {vs : List Value} {Vs : List V} (x : RelL B h H R vs Vs) (k : Step h H h' H') : RelL B h' H' R vs Vs :=
  ⟨x.1, fun i v V a b => (x.2 i v V a b).step k⟩
section
variable {B : BC} {h : Heap} {H : Hp} {R : Nat → Prop} {v : Value} {V : V} {vs : List Value} {Vs : List Mine.Internal.V}
theorem RelL.nil : RelL B h H R [] [] := ⟨rfl, fun z0 z0 z0 h => dead h⟩
theorem RelL.cons (x : Rel B h H R v V) (y : RelL B h H R vs Vs) : RelL B h H R (v :: vs) (V :: Vs) :=
  ⟨congrArg Nat.succ y.1, fun i => match i with
    | 0 => fun z0 z0 a b => Option.some.inj a ▸ Option.some.inj b ▸ x
    | i + 1 => y.2 i⟩
theorem RelL.uncons (x : RelL B h H R (v :: vs) (V :: Vs)) : Rel B h H R v V ∧ RelL B h H R vs Vs :=
  ⟨x.2 0 v V rfl rfl, Nat.succ.inj x.1, fun i => x.2 (i + 1)⟩
inductive RCons (B : BC) (h : Heap) (H : Hp) (R : Nat → Prop) (V : Mine.Internal.V) (Vs : List Mine.Internal.V) : List Value → Prop
  | mk {v ws} : Rel B h H R v V → RelL B h H R ws Vs → RCons B h H R V Vs (v :: ws)
theorem RelL.inv_cons (x : RelL B h H R vs (V :: Vs)) : RCons B h H R V Vs vs := by
  cases vs with
  | nil => exact nomatch x.1
  | cons v vs => exact .mk x.uncons.1 x.uncons.2
theorem RelL.inv_nil (x : RelL B h H R vs []) : vs = [] := List.length_eq_zero_iff.mp x.1
end
theorem ORel.change {B : BC} {h h' : Heap} {H H' : Hp} {R R' : Nat → Prop} {a : Nat} {o : O} (x : ORel B h H R a o)
    (k : ∀ b o, h.get? b = some o → Out H b → ¬ R b → h'.get? b = some o ∧ Out H' b ∧ ¬ R' b) (ka : ∀ o, h.get? a = some o → h'.get? a = some o)
    (kd : ∀ d c as, a = d + 1 → o = .inst c as → H d = none → ∀ o, h.get? d = some o → h'.get? d = some o ∧ H' d = none) : ORel B h' H' R' a o := by
  have rr : ∀ {v V}, Rel B h H R v V → Rel B h' H' R' v V := fun y => y.mono k
  induction o with
  | list vs => obtain ⟨items, n, e, l, z⟩ := x; exact ⟨items, n, ka _ e, ⟨l.1, fun i v V p q => rr (l.2 i v V p q)⟩, z⟩
  | dcI es =>
    obtain ⟨n1, kvs, ⟨ob, es', ep, e, rest⟩, z, l⟩ := x
    exact ⟨n1, kvs, ⟨ob, es', ep, ka _ e, rest⟩, z, fun i x y p q => rr (l i x y p q)⟩
  | dcT es =>
    obtain ⟨n1, kvs, ⟨ob, es', ep, e, x1, x2, x3, x4, x5⟩, kk, z, l⟩ := x
    refine ⟨n1, kvs, ⟨ob, es', ep, ka _ e, x1, x2, x3, fun x hx => ?_, x5⟩, fun x hx => (kk x hx).mono k, z, fun i x y p q => rr (l i x y p q)⟩
    obtain ⟨o', items, n, hO⟩ := x4 x hx; have g1 := hO.1; have g2 := hO.2; clear hO
    exact ⟨o', items, n, (k _ _ g1 (kk x hx).2.1 (kk x hx).2.2).1, g2⟩
  | inst c as =>
    obtain ⟨d, es, n, val, rfl, e1, e2, e3, A, L, z1, z2, l⟩ := x
    have q := kd d c as rfl rfl e3 _ e2
    exact ⟨d, es, n, val, rfl, ka _ e1, q.1, q.2, A, L, z1, z2, fun n v V p q => rr (l n v V p q)⟩
theorem ORel.at {B : BC} {h : Heap} {H : Hp} {R : Nat → Prop} {a : Nat} {o : O} (x : ORel B h H R a o) : ∃ ob, h.get? a = some ob := by
  induction o with
  | list vs => obtain ⟨items, n, e, l⟩ := x; exact ⟨_, e⟩
  | dcI es => obtain ⟨n1, kvs, ⟨ob, es', ep, e, rest⟩, z, l⟩ := x; exact ⟨_, e⟩
  | dcT es => obtain ⟨n1, kvs, ⟨ob, es', ep, e, rest⟩, z, l⟩ := x; exact ⟨_, e⟩
  | inst c as => obtain ⟨d, es, n, val, rfl, e1, e2, r⟩ := x; exact ⟨_, e1⟩
theorem Inv.lt {B : BC} {R : Nat → Prop} {s : Shared} {H : Hp} (I : Inv B R s H) {a : Nat} (e : H a ≠ none) : a < s.heap.objs.size := by
  cases q : H a with
  | none => exact absurd q e
  | some o => obtain ⟨ob, z⟩ := (I.objs a o q).at; exact ltS z
theorem Inv.fresh {B : BC} {R : Nat → Prop} {s : Shared} {H : Hp} (I : Inv B R s H) {a : Nat} (e : s.heap.objs.size ≤ a) : Out H a ∧ ¬ R a :=
  ⟨⟨by cases q : H a with
      | none => rfl
      | some o => exact absurd (I.lt (by rw [q]; exact fun e => nomatch e)) (Nat.not_lt.mpr e),
    fun c as q => absurd (I.lt (a := a + 1) (by rw [q]; exact fun e => nomatch e)) (by exact Nat.not_lt_of_le (li1 [_, _] ⟨0, .v 0, .a (.v 1) (.n 1)⟩ ⟨0, .v 0, .v 1⟩ rfl e))⟩, fun r => let ⟨_, z⟩ := (I.res a r).2; absurd (ltS z) (Nat.not_lt.mpr e)⟩
theorem Inv.size {B : BC} {R : Nat → Prop} {s : Shared} {H : Hp} (I : Inv B R s H) : 10 < s.heap.objs.size := by
  obtain ⟨b, o, hO⟩ := I.lo; have h := hO.1; have e := hO.2; clear hO
  have := ltS (I.base b o e).1
  exact li2 [_, _] ⟨0, .n 11, .v 0⟩ ⟨0, .n 10, .v 1⟩ ⟨0, .a (.v 1) (.n 1), .v 0⟩ rfl h this
theorem Inv.hidden {B : BC} {R : Nat → Prop} {s : Shared} {H : Hp} (I : Inv B R s H) {d : Nat} {c as} (e : H (d + 1) = some (.inst c as)) : H d = none ∧ ∃ o, s.heap.get? d = some o := by
  induction (I.objs _ _ e) with | mk d' es n val e0 e1 e2 e3 r => ?_
  cases Nat.succ.inj e0
  exact ⟨e3, _, e2⟩
theorem Inv.grown {B : BC} {R : Nat → Prop} {s : Shared} {H : Hp} (I : Inv B R s H) {h' : Heap} (tk : Nat) (k : ∀ b o, s.heap.get? b = some o → h'.get? b = some o) :
    Inv B R { s with heap := h', toks := tk } H ∧ Step s.heap H h' H :=
  ⟨⟨fun a o e => (I.objs a o e).change (fun b o e q r => ⟨k b o e, q, r⟩) (fun o e => k a o e) (fun d z0 z0 z0 z0 n o e => ⟨k d o e, n⟩), fun b o e => ⟨k b o (I.base b o e).1, (I.base b o e).2⟩,
    fun a r => ⟨(I.res a r).1, let ⟨o, e⟩ := (I.res a r).2; ⟨o, k a o e⟩⟩, I.lo, I.gens, I.os⟩, ⟨fun b o e q => ⟨k b o e, q⟩⟩⟩
theorem Inv.toks {B : BC} {R : Nat → Prop} {s : Shared} {H : Hp} (I : Inv B R s H) (tk : Nat) : Inv B R { s with toks := tk } H := ⟨I.objs, I.base, I.res, I.lo, I.gens, I.os⟩
theorem Inv.push {B : BC} {R : Nat → Prop} {s : Shared} {H : Hp} (I : Inv B R s H) (tk : Nat) (ob : Obj) : Inv B R { s with heap := s.heap.push ob, toks := tk } H ∧ Step s.heap H (s.heap.push ob) H :=
  I.grown tk (fun b o e => Heap.get?_push_of_some _ e)
theorem Inv.atRes {B : BC} {R : Nat → Prop} {s : Shared} {H : Hp} (I : Inv B R s H) {h' : Heap} (tk : Nat) {L : Nat} (hL : R L) (hL' : ∃ o, h'.get? L = some o) (k : Heap.SameBut L s.heap h') : Inv B R { s with heap := h', toks := tk } H := by
  have q := (I.res L hL).1
  have oo : ∀ b o, s.heap.get? b = some o → b ≠ L → h'.get? b = some o := fun b o e n => (k.2 b n).trans e
  refine ⟨fun a o e => (I.objs a o e).change (fun b o e q r => ⟨oo b o e fun x => r (x ▸ hL), q, r⟩) (fun o' e' => oo a o' e' fun x => nomatch (x ▸ e).symm.trans q.1) (fun d c as x y n o e' => ⟨oo d o e' fun z => ?_, n⟩),
    fun b o e => ⟨oo b o (I.base b o e).1 fun x => (I.base b o e).2.2 (x ▸ hL), (I.base b o e).2⟩, fun a r => ⟨(I.res a r).1, ?_⟩, I.lo, I.gens, I.os⟩
  · subst x y z; exact q.2 _ _ e
  · by_cases h : a = L
    · subst h; exact hL'
    · obtain ⟨o, e⟩ := (I.res a r).2; exact ⟨o, oo a o e h⟩
theorem Inv.release {B : BC} {R R' : Nat → Prop} {s : Shared} {H : Hp} (I : Inv B R' s H) (k : ∀ a, R a → R' a) : Inv B R s H :=
  ⟨fun a o e => (I.objs a o e).change (fun b o e q r => ⟨e, q, fun x => r (k b x)⟩) (fun o e => e) (fun d z0 z0 z0 z0 n o e => ⟨e, n⟩), fun b o e => ⟨(I.base b o e).1, (I.base b o e).2.1, fun x => (I.base b o e).2.2 (k b x)⟩,
    fun a r => I.res a (k a r), I.lo, I.gens, I.os⟩
theorem Rel.release {B : BC} {h : Heap} {H : Hp} {R R' : Nat → Prop} {v : Value} {V : V} (x : Rel B h H R' v V) (k : ∀ a, R a → R' a) : Rel B h H R v V := x.mono fun b o e q r => ⟨e, q, fun y => r (k b y)⟩
noncomputable def O.isInst : O → Bool
  | .inst .. => true
  | _ => false
theorem Inv.put {B : BC} {R : Nat → Prop} {s : Shared} {H : Hp} (I : Inv B R s H) {a : Nat} {o o' : O} {h' : Heap} (tk : Nat) (ha : H a = some o) (io : o.isInst = false) (io' : o'.isInst = false)
    (k : Heap.SameBut a s.heap h')
    (ho : (∀ {v V}, Rel B s.heap H R v V → Rel B h' (H.set a o') R v V) → ORel B h' (H.set a o') R a o') : Inv B R { s with heap := h', toks := tk } (H.set a o') ∧ Step s.heap H h' (H.set a o') := by
  have out : ∀ b, Out H b → b ≠ a ∧ Out (H.set a o') b := fun b q => by
    have hb : b ≠ a := fun x => nomatch (x ▸ q.1).symm.trans ha
    refine ⟨hb, by rw [Hp.set_ne _ _ hb]; exact q.1, fun c as e => ?_⟩
    by_cases h1 : b + 1 = a
    · rw [h1, Hp.set_same] at e; cases e; cases io'
    · rw [Hp.set_ne _ _ h1] at e; exact q.2 c as e
  have kk : ∀ b ob, s.heap.get? b = some ob → Out H b → h'.get? b = some ob ∧ Out (H.set a o') b := fun b ob e q => ⟨(k.2 b (out b q).1).trans e, (out b q).2⟩
  have rr : ∀ {v V}, Rel B s.heap H R v V → Rel B h' (H.set a o') R v V := fun x => x.mono fun b ob e q r => ⟨(kk b ob e q).1, (kk b ob e q).2, r⟩
  refine ⟨⟨fun a' oo e => ?_, fun b ob e => ⟨(kk b ob (I.base b ob e).1 (I.base b ob e).2.1).1, (kk b ob (I.base b ob e).1 (I.base b ob e).2.1).2, (I.base b ob e).2.2⟩, fun b r => ⟨(out b (I.res b r).1).2, let ⟨o, e⟩ := (I.res b r).2; ⟨o, (kk b o e (I.res b r).1).1⟩⟩, I.lo, I.gens, I.os⟩, ⟨kk⟩⟩
  · by_cases h1 : a' = a
    · subst h1; rw [Hp.set_same] at e; cases e; exact ho rr
    · rw [Hp.set_ne _ _ h1] at e
      refine (I.objs a' oo e).change (fun b ob e q r => ⟨(kk b ob e q).1, (kk b ob e q).2, r⟩) (fun ob e => (k.2 a' h1).trans e) (fun d c as x y n ob e' => ?_)
      have hd : d ≠ a := fun z => nomatch (z ▸ n).symm.trans ha
      exact ⟨(k.2 d hd).trans e', by rw [Hp.set_ne _ _ hd]; exact n⟩
theorem Inv.putI {B : BC} {R : Nat → Prop} {s : Shared} {H : Hp} (I : Inv B R s H) {d : Nat} {c : Cid} {as as' : List (String × V)} {h' : Heap} (tk : Nat) (ha : H (d + 1) = some (.inst c as))
    (k : Heap.SameBut d s.heap h')
    (ho : (∀ {v V}, Rel B s.heap H R v V → Rel B h' (H.set (d + 1) (.inst c as')) R v V) → ORel B h' (H.set (d + 1) (.inst c as')) R (d + 1) (.inst c as')) :
    Inv B R { s with heap := h', toks := tk } (H.set (d + 1) (.inst c as')) ∧ Step s.heap H h' (H.set (d + 1) (.inst c as')) := by
  have out : ∀ b, Out H b → b ≠ d ∧ Out (H.set (d + 1) (.inst c as')) b := fun b q => by
    have hb : b ≠ d := fun x => q.2 c as (x ▸ ha)
    have hb' : b ≠ d + 1 := fun x => nomatch (x ▸ q.1).symm.trans ha
    refine ⟨hb, by rw [Hp.set_ne _ _ hb']; exact q.1, fun c as e => ?_⟩
    rw [Hp.set_ne _ _ (by omega)] at e; exact q.2 c as e
  have kk : ∀ b ob, s.heap.get? b = some ob → Out H b → h'.get? b = some ob ∧ Out (H.set (d + 1) (.inst c as')) b := fun b ob e q => ⟨(k.2 b (out b q).1).trans e, (out b q).2⟩
  have rr : ∀ {v V}, Rel B s.heap H R v V → Rel B h' (H.set (d + 1) (.inst c as')) R v V := fun x => x.mono fun b ob e q r => ⟨(kk b ob e q).1, (kk b ob e q).2, r⟩
  have hdn := (I.hidden ha).1
  refine ⟨⟨fun a' oo e => ?_, fun b ob e => ⟨(kk b ob (I.base b ob e).1 (I.base b ob e).2.1).1, (kk b ob (I.base b ob e).1 (I.base b ob e).2.1).2, (I.base b ob e).2.2⟩, fun b r => ⟨(out b (I.res b r).1).2, let ⟨o, e⟩ := (I.res b r).2; ⟨o, (kk b o e (I.res b r).1).1⟩⟩, I.lo, I.gens, I.os⟩, ⟨kk⟩⟩
  · by_cases h1 : a' = d + 1
    · subst h1; rw [Hp.set_same] at e; cases e; exact ho rr
    · rw [Hp.set_ne _ _ h1] at e
      have hd' : a' ≠ d := fun z => nomatch (z ▸ hdn).symm.trans e
      refine (I.objs a' oo e).change (fun b ob e q r => ⟨(kk b ob e q).1, (kk b ob e q).2, r⟩) (fun ob e => (k.2 a' hd').trans e) (fun d2 c as x y n ob e' => ?_)
      exact ⟨(k.2 d2 (fun z => h1 (x.trans (congrArg (· + 1) z)))).trans e', by rw [Hp.set_ne _ _ (fun z => nomatch (z ▸ n).symm.trans ha)]; exact n⟩
theorem Inv.fresh' {B : BC} {R : Nat → Prop} {s : Shared} {H : Hp} (I : Inv B R s H) {a : Nat} (e : s.heap.get? a = none) : Out H a ∧ ¬ R a := by
  refine ⟨⟨?_, fun c as q => ?_⟩, fun r => ?_⟩
  · cases q : H a with
    | none => rfl
    | some o => obtain ⟨ob, z⟩ := (I.objs a o q).at; rw [e] at z; cases z
  · obtain ⟨_, o, z⟩ := I.hidden q; rw [e] at z; cases z
  · obtain ⟨_, z⟩ := (I.res a r).2; rw [e] at z; cases z
theorem none_of_keeps {h h' : Heap} (k : ∀ b o, h.get? b = some o → h'.get? b = some o) {a : Nat} (e : h'.get? a = none) : h.get? a = none := by
  cases q : h.get? a with
  | none => rfl
  | some o => rw [k a o q] at e; cases e
theorem none_size (h : Heap) : h.get? h.objs.size = none := Heap.get?_none_of_le (Nat.le_refl _)
theorem Inv.new {B : BC} {R : Nat → Prop} {s : Shared} {H : Hp} (I : Inv B R s H) {a : Nat} {o' : O} {h' : Heap} (tk : Nat) (ha : s.heap.get? a = none) (ia : o'.isInst = true → ∀ b, b + 1 = a → s.heap.get? b = none)
    (k : ∀ b o, s.heap.get? b = some o → h'.get? b = some o)
    (ho : (∀ {v V}, Rel B s.heap H R v V → Rel B h' (H.set a o') R v V) → ORel B h' (H.set a o') R a o') : Inv B R { s with heap := h', toks := tk } (H.set a o') ∧ Step s.heap H h' (H.set a o') := by
  have na : ∀ b o, s.heap.get? b = some o → b ≠ a := fun b o e x => by rw [x, ha] at e; cases e
  have out : ∀ b ob, s.heap.get? b = some ob → Out H b → Out (H.set a o') b := fun b ob hb q => by
    refine ⟨by rw [Hp.set_ne _ _ (na b ob hb)]; exact q.1, fun c as e => ?_⟩
    by_cases h1 : b + 1 = a
    · rw [h1, Hp.set_same] at e; cases e; have := ia rfl b h1; rw [this] at hb; cases hb
    · rw [Hp.set_ne _ _ h1] at e; exact q.2 c as e
  have kk : ∀ b ob, s.heap.get? b = some ob → Out H b → h'.get? b = some ob ∧ Out (H.set a o') b := fun b ob e q => ⟨k b ob e, out b ob e q⟩
  have rr : ∀ {v V}, Rel B s.heap H R v V → Rel B h' (H.set a o') R v V := fun x => x.mono fun b ob e q r => ⟨(kk b ob e q).1, (kk b ob e q).2, r⟩
  refine ⟨⟨fun a' oo e => ?_, fun b ob e => ⟨(kk b ob (I.base b ob e).1 (I.base b ob e).2.1).1, (kk b ob (I.base b ob e).1 (I.base b ob e).2.1).2, (I.base b ob e).2.2⟩, fun b r => let ⟨o, e⟩ := (I.res b r).2; ⟨out b o e (I.res b r).1, o, k b o e⟩, I.lo, I.gens, I.os⟩, ⟨kk⟩⟩
  by_cases h1 : a' = a
  · subst h1; rw [Hp.set_same] at e; cases e; exact ho rr
  · rw [Hp.set_ne _ _ h1] at e
    refine (I.objs a' oo e).change (fun b ob e q r => ⟨(kk b ob e q).1, (kk b ob e q).2, r⟩) (fun ob e => k a' ob e) (fun d c as x y n ob e' => ⟨k d ob e', ?_⟩)
    rw [Hp.set_ne _ _ (na d ob e')]; exact n
inductive PostE (B : BC) (R : Nat → Prop) (Q : V → Hp → Prop) (H : Hp) (s : Shared) (v : Value) (s' : Shared) : Prop
  | mk (V H') : Rel B s'.heap H' R v V → Inv B R s' H' → Step s.heap H s'.heap H' → Q V H' → PostE B R Q H s v s'
theorem PostE.on {B : BC} {R : Nat → Prop} {Q : V → Hp → Prop} {H H₁ : Hp} {s s₁ : Shared} {v : Value} {s' : Shared} (x : PostE B R Q H₁ s₁ v s') (k : Step s.heap H s₁.heap H₁) : PostE B R Q H s v s' :=
  let ⟨V, H', r, i, st, q⟩ := x; ⟨V, H', r, i, k.trans st, q⟩
noncomputable abbrev noE : Value → Shared → Prop := fun z0 z0 => False
end Mine.Internal
set_option maxRecDepth 100000
set_option linter.unusedVariables false
namespace Mine.Internal
open PySem PySem.W PyProof.Rows
structure Room (A : Around) (d : Nat) : Prop where
  depth : A.depth + d ≤ 640
  units : A.units + 20 * d ≤ 9000
  handled : A.handled = none
theorem Room.le {A : Around} {d e : Nat} (r : Room A d) (h : e ≤ d) : Room A e := ⟨by have := r.depth; exact li2 [_, _, _] ⟨0, .a (.v 0) (.v 1), .n 640⟩ ⟨0, .v 1, .v 2⟩ ⟨0, .a (.v 0) (.v 2), .n 640⟩ rfl h this, by have := r.units; exact li2 [_, _, _] ⟨0, .a (.v 0) (.l 20 (.v 1)), .n 9000⟩ ⟨19, .v 1, .v 2⟩ ⟨0, .a (.v 0) (.l 20 (.v 2)), .n 9000⟩ rfl h this, r.handled⟩
theorem cLine_9900 : cLine = 9900 := rfl
theorem Room.u {A : Around} {d : Nat} (r : Room A d) : A.units < cLine := by have := r.units; rw [cLine_9900]; exact li1 [_, _] ⟨0, .a (.v 0) (.n 1), .n 9900⟩ ⟨0, .a (.v 0) (.l 20 (.v 1)), .n 9000⟩ rfl this
theorem Room.u64 {A : Around} {d : Nat} (r : Room A d) : A.units + 64 < cLine := by have := r.units; rw [cLine_9900]; exact li1 [_, _] ⟨0, .a (.a (.v 0) (.n 64)) (.n 1), .n 9900⟩ ⟨0, .a (.v 0) (.l 20 (.v 1)), .n 9000⟩ rfl this
theorem Room.u' {A : Around} {d : Nat} (r : Room A d) : A.in1.units < cLine := by have := r.units; show A.units + 1 < cLine; rw [cLine_9900]; exact li1 [_, _] ⟨0, .a (.a (.v 0) (.n 1)) (.n 1), .n 9900⟩ ⟨0, .a (.v 0) (.l 20 (.v 1)), .n 9000⟩ rfl this
theorem ofString_cps (s : String) : (Str.ofString s).cps.toList = s.toList.map Char.toNat := by rw [Str.ofString_eq_toList]
theorem ofString_inj {s t : String} (h : Str.ofString s = Str.ofString t) : s = t := by
  have h1 : s.toList.map Char.toNat = t.toList.map Char.toNat := by rw [← ofString_cps, ← ofString_cps, h]
  have h2 : s.toList = t.toList := (List.map_inj_right (fun x y e => Char.toNat_inj.mp e)).mp h1
  exact String.toList_inj.mp h2
theorem ofString_length (s : String) : (Str.ofString s).length = s.length := by
  show (Str.ofString s).cps.size = _
  rw [← Array.length_toList, ofString_cps, List.length_map, String.length_toList]
theorem ofString_append (s t : String) : Str.ofString s ++ Str.ofString t = Str.ofString (s ++ t) := by
  have : ∀ x y : Str, x.cps = y.cps → x = y := fun ⟨_⟩ ⟨_⟩ e => congrArg Str.mk e
  refine this _ _ (Array.toList_inj.mp ?_)
  rw [ofString_cps, String.toList_append, List.map_append, ← ofString_cps, ← ofString_cps]
  exact Array.toList_append
end Mine.Internal
set_option maxRecDepth 100000
set_option linter.unusedVariables false
namespace Mine.Internal
open PySem PySem.W PyProof.Rows
inductive RTup (B : BC) (h : Heap) (H : Hp) (R : Nat → Prop) (vs : List V) : Value → Prop
  | mk (a items n) : IsT h a items n → Out H a → ¬ R a → RelL B h H R items.toList vs → vs.length ≤ big → RTup B h H R vs (.ref a)
inductive RLst (B : BC) (h : Heap) (H : Hp) (R : Nat → Prop) (vs : List V) : Value → Prop
  | mk (a items n) : IsL h a items n → Out H a → ¬ R a → RelL B h H R items.toList vs → vs.length ≤ big → RLst B h H R vs (.ref a)
inductive RDcI (B : BC) (h : Heap) (H : Hp) (R : Nat → Prop) (es : List (Int × V)) : Value → Prop
  | mk (a kvs) : (a == sysModules) = false → h.DictOf (intKeys B) a kvs → Out H a → ¬ R a → kvs.map (·.1) = es.map (·.1) → (∀ (i : Nat) x y, kvs[i]? = some x → es[i]? = some y → Rel B h H R x.2 y.2) → RDcI B h H R es (.ref a)
inductive RDcT (B : BC) (h : Heap) (H : Hp) (R : Nat → Prop) (es : List (List Int × V)) : Value → Prop
  | mk (a kvs) : (a == sysModules) = false → h.DictOfH (tupKeys B) a kvs → Out H a → ¬ R a → (∀ x ∈ kvs, KeyAt h H R x.2.1) → kvs.map (·.1) = es.map (·.1) → (∀ (i : Nat) x y, kvs[i]? = some x → es[i]? = some y → Rel B h H R x.2.2 y.2) → RDcT B h H R es (.ref a)
inductive RObj (B : BC) (h : Heap) (H : Hp) (R : Nat → Prop) (c : Cid) (as : List (String × V)) : Value → Prop
  | mk (a es n val) : h.get? (a + 1) = some (instObj (B.ca c) a) → h.get? a = some (dictOf es n) → Out H (a + 1) → Out H a → ¬ R (a + 1) → ¬ R a →
      Attrs es val → es.length = as.length → (∀ n, as.lookup n = none → val n = none) → (∀ n V, as.lookup n = some V → ∃ v, val n = some v) →
      (∀ n v V, val n = some v → as.lookup n = some V → Rel B h H R v V) → RObj B h H R c as (.ref (a + 1))
noncomputable def RelInv (B : BC) (h : Heap) (H : Hp) (R : Nat → Prop) (v : Value) : V → Prop
  | .none => v = .none
  | .bool b => v = .bool b
  | .int i => ∃ t, v = .int i t
  | .str s => ∃ t, v = .str (Str.ofString s) t
  | .ref a => v = .ref a
  | .tup vs => RTup B h H R vs v
  | .lst vs => RLst B h H R vs v
  | .dcI es => RDcI B h H R es v
  | .dcT es => RDcT B h H R es v
  | .obj c as => RObj B h H R c as v
section
variable {B : BC} {h : Heap} {H : Hp} {R : Nat → Prop} {v : Value}
theorem Rel.inv {V} (x : Rel B h H R v V) : RelInv B h H R v V := by
  cases x with
  | none => exact rfl
  | bool b => exact rfl
  | int i t => exact ⟨t, rfl⟩
  | str s t => exact ⟨t, rfl⟩
  | ref a => exact rfl
  | tup e o r z z' l => exact .mk _ _ _ e o r ⟨z, l⟩ z'
  | lst e o r z z' l => exact .mk _ _ _ e o r ⟨z, l⟩ z'
  | dcI n d o r z l => exact .mk _ _ n d o r z l
  | dcT n d o r k z l => exact .mk _ _ n d o r k z l
  | obj e1 e2 o1 o2 r1 r2 A L z1 z2 l => exact .mk _ _ _ _ e1 e2 o1 o2 r1 r2 A L z1 z2 l
theorem Rel.inv_int {i} (x : Rel B h H R v (.int i)) : ∃ t, v = .int i t := x.inv
theorem Rel.inv_bool {b} (x : Rel B h H R v (.bool b)) : v = .bool b := x.inv
theorem Rel.inv_none (x : Rel B h H R v .none) : v = .none := x.inv
theorem Rel.inv_str {s} (x : Rel B h H R v (.str s)) : ∃ t, v = .str (Str.ofString s) t := x.inv
theorem Rel.inv_ref {a} (x : Rel B h H R v (.ref a)) : v = .ref a := x.inv
theorem Rel.inv_tup {vs} (x : Rel B h H R v (.tup vs)) : RTup B h H R vs v := x.inv
theorem Rel.inv_lst {vs} (x : Rel B h H R v (.lst vs)) : RLst B h H R vs v := x.inv
theorem Rel.inv_dcI {es} (x : Rel B h H R v (.dcI es)) : RDcI B h H R es v := x.inv
theorem Rel.inv_dcT {es} (x : Rel B h H R v (.dcT es)) : RDcT B h H R es v := x.inv
theorem Rel.inv_obj {c as} (x : Rel B h H R v (.obj c as)) : RObj B h H R c as v := x.inv
end
inductive LstAt (B : BC) (s : Shared) (H : Hp) (R : Nat → Prop) (vs : List V) : Value → Prop
  | mk (a items n) : IsL s.heap a items n → RelL B s.heap H R items.toList vs → vs.length ≤ big → LstAt B s H R vs (.ref a)
theorem lst_at {B : BC} {s : Shared} {H R v V vs} (I : Inv B R s H) (x : Rel B s.heap H R v V) (e : lstOf H V = some vs) : LstAt B s H R vs v := by
  cases lstOf_inv e with
  | lst => obtain ⟨a, items, n, e, o, r, l, z⟩ := x.inv_lst; exact .mk a items n e l z
  | ref h =>
    cases x.inv_ref
    induction (I.objs _ _ h) with | mk items n e l z => ?_
    exact .mk _ items n e l z
theorem postInt {B R Q H s} {i : Int} (I : Inv B R s H) (q : Q (.int i) H) (t tk : Nat) : PostE B R Q H s (.int i t) { s with toks := tk } :=
  ⟨.int i, H, .int _ _, I.toks tk, Step.refl _ _, q⟩
theorem postStr {B R Q H s} {x : String} (I : Inv B R s H) (q : Q (.str x) H) (t tk : Nat) : PostE B R Q H s (.str (Str.ofString x) t) { s with toks := tk } :=
  ⟨.str x, H, .str _ _, I.toks tk, Step.refl _ _, q⟩
theorem sizeLine_big {n : Nat} (h : n ≤ big) : n ≤ sizeLine := by
  have e : sizeLine = 16777216 := by decide
  rw [e]; exact Nat.le_trans h (by decide)
theorem sizeLine_big' {n : Nat} (h : n < big) : n ≤ sizeLine := sizeLine_big (Nat.le_of_lt h)
theorem postList {B R Q H s} {items : Array Value} {vs : List V} (I : Inv B R s H) (r : RelL B s.heap H R items.toList vs) (hz : vs.length ≤ big) (q : Q (.lst vs) H ∨ ∀ a, H a = none → Q (.ref a) (H.set a (.list vs))) (tk : Nat) :
    PostE B R Q H s (.ref s.heap.objs.size) { s with heap := s.heap.push { cls := .type "list", data := .seq items }, toks := tk } := by
  have J := I.push tk { cls := .type "list", data := .seq items }
  have f := I.fresh (Nat.le_refl _)
  have z : IsL (s.heap.push { cls := .type "list", data := .seq items }) s.heap.objs.size items 0 := IsL.new _ _
  rcases q with q | q
  · refine ⟨_, H, .lst z f.1 f.2 (by simpa using r.1) hz fun i v V a b => (r.2 i v V a b).step J.2, J.1, J.2, q⟩
  · have K := I.new (a := s.heap.objs.size) (o' := .list vs) (h' := s.heap.push { cls := .type "list", data := .seq items }) tk (none_size _) (fun e => nomatch e) (fun b o e => Heap.get?_push_of_some _ e)
      fun rr => ⟨items, 0, z, ⟨r.1, fun i v V a b => rr (r.2 i v V a b)⟩, hz⟩
    exact ⟨_, _, .ref _, K.1, K.2, q _ f.1.1⟩
theorem postListAt {B R Q H s} {items : Array Value} {vs : List V} {a n : Nat} {h' : Heap} (I : Inv B R s H) (r : RelL B s.heap H R items.toList vs) (hz : vs.length ≤ big) (q : Q (.lst vs) H ∨ ∀ a, H a = none → Q (.ref a) (H.set a (.list vs))) (tk : Nat)
    (ha : s.heap.get? a = none) (z : IsL h' a items n) (k : ∀ b o, s.heap.get? b = some o → h'.get? b = some o) : PostE B R Q H s (.ref a) { s with heap := h', toks := tk } := by
  have J := I.grown tk k
  have f := I.fresh' ha
  rcases q with q | q
  · refine ⟨_, H, .lst z f.1 f.2 (by simpa using r.1) hz fun i v V a b => (r.2 i v V a b).step J.2, J.1, J.2, q⟩
  · have K := I.new (a := a) (o' := .list vs) (h' := h') tk ha (fun e => nomatch e) k fun rr => ⟨items, n, z, ⟨r.1, fun i v V a b => rr (r.2 i v V a b)⟩, hz⟩
    exact ⟨_, _, .ref _, K.1, K.2, q _ f.1.1⟩
theorem postMk {B R Q H s} {items : Array Value} {vs : List V} (I : Inv B R s H) (r : RelL B s.heap H R items.toList vs) (q : mkList vs H Q) (tk : Nat) :
    PostE B R Q H s (.ref s.heap.objs.size) { s with heap := s.heap.push { cls := .type "list", data := .seq items }, toks := tk } := postList I r q.1 q.2 tk
theorem RelL.append {B : BC} {h : Heap} {H : Hp} {R : Nat → Prop} {as bs : List Value} {As Bs : List V} (x : RelL B h H R as As) (y : RelL B h H R bs Bs) : RelL B h H R (as ++ bs) (As ++ Bs) := by
  refine ⟨by simp [x.1, y.1], fun i v V p q => ?_⟩
  by_cases hi : i < as.length
  · rw [List.getElem?_append_left hi] at p
    rw [List.getElem?_append_left (by rw [← x.1]; exact hi)] at q
    exact x.2 i v V p q
  · rw [List.getElem?_append_right (by exact (Nat.le_of_not_lt hi))] at p
    rw [List.getElem?_append_right (by rw [← x.1]; exact (Nat.le_of_not_lt hi)), ← x.1] at q
    exact y.2 _ v V p q
theorem RelL.replicate {B : BC} {h : Heap} {H : Hp} {R : Nat → Prop} {a : Value} {A : V} (x : Rel B h H R a A) (n : Nat) : RelL B h H R (List.replicate n a) (List.replicate n A) :=
  ⟨by simp, fun i v V p q => by
    rw [List.getElem?_replicate] at p q
    by_cases hi : i < n
    · rw [if_pos hi] at p q; cases p; cases q; exact x
    · rw [if_neg hi] at p; cases p⟩
theorem mul_list_plain {prog : Program} {w : World} {A : Around} {E : Value → Shared → Prop} {s : Shared} {l : Nat} {items : Array Value} {k : Nat} {x : Int} {u : Tok} {Q : Value → Shared → Prop}
    (hl : IsL s.heap l items k) (hlo : -(2 ^ 63 : Int) ≤ x) (hhi : x < 2 ^ 63) (hsz : items.size * x.toNat ≤ 2 ^ 24)
    (h : Q (.ref s.heap.objs.size) { s with heap := s.heap.push { cls := .type "list", data := .seq (List.foldl (fun x1 x2 => x1 ++ x2) #[] (List.replicate (if items.isEmpty = true then 0 else x.toNat) items)) } }) :
    wpAny (model prog w) A (binaryOp .Mult (.ref l) (.int x u)) Q E s := by
  exact wpAny_binaryOp_repeat_ref (T := "list") (U := "int") (by decide) ⟨_, hl, rfl⟩ (fun s' => typeIs_int s' x u) noFill_list_mul F.fills_int_mul F.slot_int_rmul repeat_list F.slot_int_index.lookup
    (call_meets F.slot_int_rmul (typeIs_int s x u) F.entry_int_rmul (F.args_int_rmul_2 _ _) (int___rmul___int_list x u l items k)
      ⟨hl, rfl, ⟨_, hl, rfl⟩, call_meets F.slot_list_mul ⟨_, hl, rfl⟩ F.entry_list_mul (F.args_list_mul_2 _ _)
        (AutoListH.list___mul___list_int_3 l items k x u (by simp [Builtin.List.listFitsIndex]; omega) (by omega) (by simp [Builtin.List.listTooLong, sizeLine]; exact hsz)) ⟨hl, h⟩⟩)
theorem foldl_rep (x : Value) (n : Nat) (acc : Array Value) : (List.foldl (fun x1 x2 => x1 ++ x2) acc (List.replicate n #[x])).toList = acc.toList ++ List.replicate n x := by
  induction n generalizing acc with
  | zero => simp
  | succ n ih => rw [List.replicate_succ, List.foldl_cons, ih]; simp [List.replicate_succ]
theorem bitAnd_nat {i j : Int} (hi : 0 ≤ i) (hj : 0 ≤ j) : Builtin.bitAnd i j = ((i.toNat &&& j.toNat : Nat) : Int) := by
  unfold Builtin.bitAnd; rw [decide_eq_true hi, decide_eq_true hj]
theorem bitOr_nat {i j : Int} (hi : 0 ≤ i) (hj : 0 ≤ j) : Builtin.bitOr i j = ((i.toNat ||| j.toNat : Nat) : Int) := by
  have n1 : ∀ k : Int, 0 ≤ k → decide (0 ≤ Builtin.bitNot k) = false := fun k hk => by
    unfold Builtin.bitNot; simp; omega
  have nn : ∀ k : Int, Builtin.bitNot (Builtin.bitNot k) = k := fun k => by unfold Builtin.bitNot; omega
  unfold Builtin.bitOr Builtin.bitAnd
  rw [n1 i hi, n1 j hj]
  simp only [nn]
theorem shr_nat {i j : Int} (hi : 0 ≤ i) (hj : 0 ≤ j) : i.fdiv (2 ^ j.toNat) = ((i.toNat >>> j.toNat : Nat) : Int) := by
  obtain ⟨n, rfl⟩ := Int.eq_ofNat_of_zero_le hi
  rw [Int.fdiv_eq_ediv_of_nonneg _ (Int.pow_nonneg (by decide)), Nat.shiftRight_eq_div_pow]
  simp
theorem shl_nat (j : Nat) : (1 : Int) * (2 : Int) ^ j = ((1 <<< j : Nat) : Int) := by
  rw [Nat.shiftLeft_eq]; simp
theorem intBits_small {i : Int} (h : i.natAbs < 1000000000) : Builtin.Int.intBits i ≤ 64 := by
  unfold Builtin.Int.intBits
  split
  · exact li0 [] ⟨0, .n 0, .n 64⟩ rfl
  · have h1 : i.natAbs ≠ 0 := by intro e; rename_i q; apply q; simp; omega
    have : i.natAbs.log2 < 30 := (Nat.log2_lt h1).mpr (Nat.lt_trans h (by decide))
    exact li1 [_] ⟨0, .a (.v 0) (.n 1), .n 64⟩ ⟨0, .a (.v 0) (.n 1), .n 30⟩ rfl this
inductive BopC : Operator → BOp → Prop
  | add : BopC .Add .add | sub : BopC .Sub .sub | mul : BopC .Mult .mul | mod : BopC .Mod .mod | fdiv : BopC .FloorDiv .fdiv | pow : BopC .Pow .pow
  | shl : BopC .LShift .shl | shr : BopC .RShift .shr | band : BopC .BitAnd .band | bor : BopC .BitOr .bor
theorem cBop_inv {o : Operator} {op : BOp} (h : cBop o = some op) : BopC o op := by
  induction o with
  | Add => exact Option.some.inj h ▸ .add
  | Sub => exact Option.some.inj h ▸ .sub
  | Mult => exact Option.some.inj h ▸ .mul
  | Mod => exact Option.some.inj h ▸ .mod
  | FloorDiv => exact Option.some.inj h ▸ .fdiv
  | Pow => exact Option.some.inj h ▸ .pow
  | LShift => exact Option.some.inj h ▸ .shl
  | RShift => exact Option.some.inj h ▸ .shr
  | BitAnd => exact Option.some.inj h ▸ .band
  | BitOr => exact Option.some.inj h ▸ .bor
  | _ => exact dead h
section
variable {B : BC} {A : Around} {R : Nat → Prop} {H : Hp} {s : Shared} {Q : V → Hp → Prop} {v u : Value} {a b : V}
theorem bin_ii {P : Int → Int → Prop} {T : Value → Value → Prop} (hq : intP (fun i => intP (P i) b) a) (ra : Rel B s.heap H R v a) (rb : Rel B s.heap H R u b) (k : ∀ i j t t', P i j → T (.int i t) (.int j t')) : T v u := by
  cases intP_inv hq with
  | mk h =>
    cases intP_inv h with
    | mk h =>
      obtain ⟨t, rfl⟩ := ra.inv_int; obtain ⟨t', rfl⟩ := rb.inv_int
      exact k _ _ _ _ h
theorem add_sound (hq : AddR H Q a b) (I : Inv B R s H) (ra : Rel B s.heap H R v a) (rb : Rel B s.heap H R u b) : wpAny (model B.prog B.w) A (binaryOp .Add v u) (PostE B R Q H s) noE s := by
  induction hq with
  | str hl hq =>
    obtain ⟨t, rfl⟩ := ra.inv_str; obtain ⟨t', rfl⟩ := rb.inv_str
    refine add_str (fun t' tk => ?_) (hsz := by rw [ofString_length, ofString_length]; exact sizeLine_big (Nat.le_trans hl (by decide)))
    rw [ofString_append]
    exact postStr I hq _ _
  | lst h1 h2 hq =>
    induction (lst_at I ra h1) with | mk a1 i1 n1 l1 r1 z1 => ?_
    induction (lst_at I rb h2) with | mk a2 i2 n2 l2 r2 z2 => ?_
    refine P.add_list l1 l2 (postMk (items := i1 ++ i2) I (by rw [Array.toList_append]; exact r1.append r2) hq _) (sizeLine_big ?_)
    have := hq.1
    rwa [List.length_append, ← r1.1, ← r2.1] at this
theorem single {i1 : Array Value} {x : V} (r : RelL B s.heap H R i1.toList [x]) : ∃ c, i1 = #[c] :=
  let ⟨c, e⟩ := List.length_eq_one_iff.mp r.1; ⟨c, Array.toList_inj.mp e⟩
theorem mul_sound {j : Int} {t : Tok} (hq : MulR H Q j a) (I : Inv B R s H) (ra : Rel B s.heap H R v a) : wpAny (model B.prog B.w) A (binaryOp .Mult v (.int j t)) (PostE B R Q H s) noE s := by
  induction hq with
  | int h hq =>
    obtain ⟨t, rfl⟩ := ra.inv_int
    exact P.mul_int (postInt I hq _ _) (h.elim (fun z => IntMulOk.of_left (intBits_small z)) fun z => IntMulOk.of_right (intBits_small z))
  | rep h1 h0 hq =>
    induction (lst_at I ra h1) with | mk a1 i1 n1 l1 r1 z1 => ?_
    obtain ⟨c, rfl⟩ := single r1
    have hb := hq.1
    rw [List.length_replicate] at hb
    have hb' : j.toNat ≤ 16000000 := hb
    refine mul_list_plain l1 (by omega) (by omega) (by show 1 * _ ≤ _; omega) (postMk I ?_ hq _)
    rw [show (if (#[c] : Array Value).isEmpty = true then 0 else j.toNat) = j.toNat from rfl, foldl_rep]
    exact RelL.replicate (r1.2 0 c _ rfl rfl) _
theorem binV_sound {op : BOp} {o : Operator} (ho : cBop o = some op) (hq : binV op a b H Q) (I : Inv B R s H)
    (ra : Rel B s.heap H R v a) (rb : Rel B s.heap H R u b) (hr : Room A 0) : wpAny (model B.prog B.w) A (binaryOp o v u) (PostE B R Q H s) noE s := by
  cases cBop_inv ho with
  | add =>
    by_cases ha : ∃ i, a = .int i
    · obtain ⟨i, rfl⟩ := ha
      cases intP_inv hq with
      | mk h =>
        obtain ⟨t, rfl⟩ := ra.inv_int; obtain ⟨t', rfl⟩ := rb.inv_int
        exact P.add_int (postInt I h _ _)
    · refine add_sound (a := a) (b := b) ?_ I ra rb
      cases a with
      | int i => exact absurd ⟨i, rfl⟩ ha
      | _ => exact hq
  | sub => exact bin_ii (T := fun v u => wpAny (model B.prog B.w) A (binaryOp .Sub v u) _ _ _) hq ra rb fun i j z0 z0 h => P.sub_int (postInt I h _ _)
  | mul =>
    cases intP_inv hq with
    | mk h => obtain ⟨t', rfl⟩ := rb.inv_int; exact mul_sound h I ra
  | mod =>
    refine bin_ii (T := fun v u => wpAny (model B.prog B.w) A (binaryOp .Mod v u) _ _ _) hq ra rb fun i j z0 z0 h => mod_int' (Int.ne_of_gt h.1) ?_
    rw [Int.fmod_eq_emod_of_nonneg _ (Int.le_of_lt h.1)]
    exact postInt I h.2 _ _
  | fdiv =>
    refine bin_ii (T := fun v u => wpAny (model B.prog B.w) A (binaryOp .FloorDiv v u) _ _ _) hq ra rb fun i j z0 z0 h => floordiv_int (Int.ne_of_gt h.1) ?_ (.inl (PyProof.noPylong_small (by omega)))
    rw [Int.fdiv_eq_ediv_of_nonneg _ (Int.le_of_lt h.1)]
    exact postInt I h.2.2 _ _
  | pow =>
    refine bin_ii (T := fun v u => wpAny (model B.prog B.w) A (binaryOp .Pow v u) _ _ _) hq ra rb fun i j z0 z0 h => ?_
    obtain ⟨⟨h0, h1, rfl⟩, hq⟩ := h
    refine pow_int (by decide) ?_ (postInt I hq _ _)
    have := intBits_small (i := i) (by omega)
    omega
  | shl =>
    refine bin_ii (T := fun v u => wpAny (model B.prog B.w) A (binaryOp .LShift v u) _ _ _) hq ra rb fun i j z0 z0 h => ?_
    obtain ⟨⟨rfl, h1, h2⟩, hq⟩ := h
    refine lshift_int_small h1 (by omega) (by decide) ?_
    rw [shl_nat]
    exact postInt I hq _ _
  | shr =>
    refine bin_ii (T := fun v u => wpAny (model B.prog B.w) A (binaryOp .RShift v u) _ _ _) hq ra rb fun i j z0 z0 h => rshift_int h.1.2.1 ?_
    rw [shr_nat h.1.1 h.1.2.1]
    exact postInt I h.2 _ _
  | band =>
    refine bin_ii (T := fun v u => wpAny (model B.prog B.w) A (binaryOp .BitAnd v u) _ _ _) hq ra rb fun i j z0 z0 h => and_int ?_
    rw [bitAnd_nat h.1.1 h.1.2]
    exact postInt I h.2 _ _
  | bor =>
    refine bin_ii (T := fun v u => wpAny (model B.prog B.w) A (binaryOp .BitOr v u) _ _ _) hq ra rb fun i j z0 z0 h => or_int ?_
    rw [bitOr_nat h.1.1 h.1.2]
    exact postInt I h.2 _ _
end
end Mine.Internal
set_option maxRecDepth 100000
set_option linter.unusedVariables false
namespace Mine.Internal
open PySem PySem.W PyProof.Rows PySem.SeqAt
theorem ints_of {B : BC} {h H R} {l : List Int} {vs : List Value} (r : RelL B h H R vs (l.map V.int)) : IntsAre vs l := by
  induction l generalizing vs with
  | nil => exact r.inv_nil ▸ .nil
  | cons i l ih => induction r.inv_cons with
    | mk a b => obtain ⟨t, rfl⟩ := a.inv_int; exact .cons i t (ih b)
theorem strs_of {B : BC} {h H R} {l : List String} {vs : List Value} (r : RelL B h H R vs (l.map V.str)) : StrsAre vs (l.map Str.ofString) := by
  induction l generalizing vs with
  | nil => exact r.inv_nil ▸ .nil
  | cons i l ih => induction r.inv_cons with
    | mk a b => obtain ⟨t, rfl⟩ := a.inv_str; exact .cons _ t (ih b)
theorem toArray_toList {α : Type} (a : Array α) : a.toList.toArray = a := Array.toArray_toList
theorem reads_ints {h : Heap} : ∀ {vs : List Value} {l : List Int}, IntsAre vs l → ReadsAll h vs (l.map .int) []
  | _, _, .nil => .nil
  | _, _, .cons n t r => ReadsAll.cons (.int n t) (reads_ints r)
theorem canLay_ints : ∀ l : List Int, PyData.canLayAll0 (l.map .int) = true
  | [] => by simp [PyData.canLayAll0]
  | i :: l => by simp [PyData.canLayAll0, PyData.canLay0, canLay_ints l]
theorem depth_ints : ∀ l : List Int, PyData.depthAll (l.map .int) ≤ 1
  | [] => by simp [PyData.depthAll]
  | i :: l => by have := depth_ints l; simp [PyData.depthAll, PyData.depth]; exact this
inductive FlatD (B : BC) (h : Heap) (H : Hp) (R : Nat → Prop) (V : V) : Prop
  | mk (d : PyData) : (∀ u, Rel B h H R u V → ∃ as, Reads h u d as) → d.canLay0 = true → d.depth ≤ 2 → FlatD B h H R V
theorem flat_data {B : BC} {h H R} {V : V} (f : Flat V) : FlatD B h H R V := by
  cases f with
  | none => exact .mk .none (fun u y => y.inv_none ▸ ⟨_, .none⟩) (by unfold PyData.canLay0; rfl) (by unfold PyData.depth; decide)
  | bool b => exact .mk (.bool b) (fun u y => y.inv_bool ▸ ⟨_, .bool b⟩) (by unfold PyData.canLay0; rfl) (by unfold PyData.depth; decide)
  | int i => exact .mk (.int i) (fun u y => let ⟨t, e⟩ := y.inv_int; e ▸ ⟨_, .int i t⟩) (by unfold PyData.canLay0; rfl) (by unfold PyData.depth; decide)
  | «ints» l => exact .mk (.list (l.map .int)) (fun u y => let ⟨a, items, n, e, _, _, r, _⟩ := y.inv_lst; ⟨_, .list e rfl rfl (reads_ints (ints_of r))⟩) (by unfold PyData.canLay0; exact canLay_ints l) (by unfold PyData.depth; exact Nat.succ_le_succ (depth_ints l))
inductive PlainD (B : BC) (h : Heap) (H : Hp) (R : Nat → Prop) (V : V) : Prop
  | mk (d : PyData) : (∀ u, Rel B h H R u V → ∃ as, Reads h u d as) → shaped d = true → PlainD B h H R V
theorem shaped_of {d : PyData} (h : d.canLay0 = true) (g : d.depth ≤ 3) : shaped d = true := by
  unfold shaped; rw [h, decide_eq_true (Nat.le_trans g (by decide))]; rfl
theorem plain_data {B : BC} {h H R} {V : V} (f : Plain V) : PlainD B h H R V := by
  induction f with
  | one f => obtain ⟨d, h1, h2, h3⟩ := flat_data (B := B) (h := h) (H := H) (R := R) f; exact .mk d h1 (shaped_of h2 (Nat.le_succ_of_le h3))
  | @two V1 V2 f g =>
    induction (flat_data (B := B) (h := h) (H := H) (R := R) f) with | mk d1 h1 h2 h3 => ?_
    induction (flat_data (B := B) (h := h) (H := H) (R := R) g) with | mk d2 k1 k2 k3 => ?_
    refine .mk (.tuple [d1, d2]) (fun u y => ?_) (shaped_of (by simp only [PyData.canLay0, PyData.canLayAll0, h2, k2]; rfl) ?_)
    · induction y.inv_tup with | mk ad items n e o r l _ => ?_
      have : ∀ {l}, RelL B h H R l [V1, V2] → ∃ as, ReadsAll h l [d1, d2] as := fun l => by
        induction l.inv_cons with
        | mk a l2 => induction l2.inv_cons with
          | mk b l3 => cases l3.inv_nil; obtain ⟨as1, q1⟩ := h1 _ a; obtain ⟨as2, q2⟩ := k1 _ b; exact ⟨_, .cons q1 (.cons q2 .nil)⟩
      obtain ⟨as, q⟩ := this l
      exact ⟨_, .tuple e rfl rfl q⟩
    · simp only [PyData.depth, PyData.depthAll]; omega
inductive DcIAt (B : BC) (s : Shared) (H : Hp) (R : Nat → Prop) (es : List (Int × V)) : Value → Prop
  | mk (a kvs) : (a == sysModules) = false → s.heap.DictOf (intKeys B) a kvs → kvs.map (·.1) = es.map (·.1) → (∀ (i : Nat) x y, kvs[i]? = some x → es[i]? = some y → Rel B s.heap H R x.2 y.2) → DcIAt B s H R es (.ref a)
inductive DcTAt (B : BC) (s : Shared) (H : Hp) (R : Nat → Prop) (es : List (List Int × V)) : Value → Prop
  | mk (a kvs) : (a == sysModules) = false → s.heap.DictOfH (tupKeys B) a kvs → (∀ x ∈ kvs, KeyAt s.heap H R x.2.1) → kvs.map (·.1) = es.map (·.1) → (∀ (i : Nat) x y, kvs[i]? = some x → es[i]? = some y → Rel B s.heap H R x.2.2 y.2) → DcTAt B s H R es (.ref a)
theorem dcI_at {B : BC} {s : Shared} {H R v V es} (I : Inv B R s H) (x : Rel B s.heap H R v V) (e : dcIOf H V = some es) : DcIAt B s H R es v := by
  cases dcIOf_inv e with
  | dcI => obtain ⟨a, kvs, n, d, o, r, z, l⟩ := x.inv_dcI; exact .mk a kvs n d z l
  | ref h => cases x.inv_ref; obtain ⟨n, kvs, d, z, l⟩ := I.objs _ _ h; exact .mk _ kvs n d z l
theorem dcT_at {B : BC} {s : Shared} {H R v V es} (I : Inv B R s H) (x : Rel B s.heap H R v V) (e : dcTOf H V = some es) : DcTAt B s H R es v := by
  cases dcTOf_inv e with
  | dcT => obtain ⟨a, kvs, n, d, o, r, k, z, l⟩ := x.inv_dcT; exact .mk a kvs n d k z l
  | ref h => cases x.inv_ref; obtain ⟨n, kvs, d, k, z, l⟩ := I.objs _ _ h; exact .mk _ kvs n d k z l
noncomputable def CmpP (s : Shared) (r : Bool) (c : Value) (s' : Shared) : Prop := c = .bool r ∧ ∃ tk, s' = { s with toks := tk }
theorem any_beq {α : Type} [DecidableEq α] (l : List α) (x : α) : l.any (· == x) = decide (x ∈ l) := by
  rw [Bool.eq_iff_iff]
  simp
theorem mem_ofString {l : List String} {x : String} : Str.ofString x ∈ l.map Str.ofString ↔ x ∈ l :=
  ⟨fun h => by obtain ⟨y, hy, e⟩ := List.mem_map.mp h; exact ofString_inj e ▸ hy, fun h => List.mem_map_of_mem h⟩
theorem eqV_sound {B : BC} {A : Around} {R H s} {a b : V} {r : Bool} {v u : Value} (hq : EqV H a b r) (I : Inv B R s H) (ra : Rel B s.heap H R v a) (rb : Rel B s.heap H R u b) (hr : Room A 0) :
    wpAny (model B.prog B.w) A (compareOp .Eq v u) (CmpP s r) noE s ∧ wpAny (model B.prog B.w) A (compareOp .NotEq v u) (CmpP s (!r)) noE s := by
  induction hq with
  | int i j =>
    obtain ⟨t, rfl⟩ := ra.inv_int; obtain ⟨t', rfl⟩ := rb.inv_int
    exact ⟨P.eq_int ⟨rfl, _, rfl⟩, P.ne_int ⟨rfl, _, rfl⟩⟩
  | str x y =>
    obtain ⟨t, rfl⟩ := ra.inv_str; obtain ⟨t', rfl⟩ := rb.inv_str
    have e : ((Str.ofString x).cps.toList == (Str.ofString y).cps.toList) = decide (x = y) := by
      by_cases h : x = y
      · subst h; simp
      · rw [decide_eq_false h, beq_eq_false_iff_ne]
        intro e
        apply h; apply ofString_inj
        have : ∀ p q : Str, p.cps = q.cps → p = q := fun ⟨_⟩ ⟨_⟩ e => congrArg Str.mk e
        exact this _ _ (Array.toList_inj.mp e)
    exact ⟨P.eq_str ⟨by rw [e], _, rfl⟩, P.ne_str ⟨by rw [bne, e], _, rfl⟩⟩
  | len h1 h2 h3 =>
    induction (lst_at I ra h1) with | mk a1 i1 n1 l1 r1 z1 => ?_
    induction (lst_at I rb h2) with | mk a2 i2 n2 l2 r2 z2 => ?_
    have hz : (i1.size != i2.size) = true := by
      have e1 := r1.1; have e2 := r2.1
      rw [Array.length_toList] at e1 e2
      rw [e1, e2]; simpa using h3
    exact ⟨P.eq_list_lengths l1 l2 hz hr.u ⟨rfl, _, rfl⟩, cmp_ofNotEq (RcNeAt.lists_lengths l1.isList l2.isList hz hr.u _ _ _ _ ⟨rfl, _, rfl⟩)⟩
  | nil h1 h2 =>
    induction (lst_at I ra h1) with | mk a1 i1 n1 l1 r1 z1 => ?_
    induction (lst_at I rb h2) with | mk a2 i2 n2 l2 r2 z2 => ?_
    have e1 : i1.toList = [] := List.length_eq_zero_iff.mp r1.1
    have e2 : i2.toList = [] := List.length_eq_zero_iff.mp r2.1
    have d1 : Reads s.heap (.ref a1) (.list []) [a1] := .list l1 rfl rfl (by rw [e1]; exact .nil)
    have d2 : Reads s.heap (.ref a2) (.list []) [a2] := .list l2 rfl rfl (by rw [e2]; exact .nil)
    exact ⟨compareEq_shaped d1 d2 (by decide) (by decide) hr.u64 ⟨rfl, _, rfl⟩, compareNe_shaped d1 d2 (by decide) (by decide) hr.u64 ⟨rfl, _, rfl⟩⟩
  | @dlen _ _ es h1 h2 =>
    induction (dcI_at I ra h1) with | mk a1 k1 n1 d1 r1 _ => ?_
    induction (dcI_at I rb h2) with | mk a2 k2 n2 d2 r2 _ => ?_
    cases (List.map_eq_nil_iff.mp r2)
    cases k1 with
    | nil => cases (List.map_eq_nil_iff.mp r1.symm); exact ⟨keq_eq n1 n2 d1 d2 hr.u (fun z0 => .nil) ⟨rfl, _, rfl⟩, keq_ne n1 n2 d1 d2 hr.u (fun z0 => .nil) ⟨rfl, _, rfl⟩⟩
    | cons k k1 =>
      cases es with
      | nil => cases r1
      | cons y ys => exact ⟨keq_eq (r := true) n1 n2 d1 d2 hr.u nofun ⟨rfl, _, rfl⟩, keq_ne (r := true) n1 n2 d1 d2 hr.u nofun ⟨rfl, _, rfl⟩⟩
  | same f =>
    induction (plain_data (B := B) (h := s.heap) (H := H) (R := R) f) with | mk d h1 h2 => ?_
    obtain ⟨_, q1⟩ := h1 _ ra
    obtain ⟨_, q2⟩ := h1 _ rb
    have e := eqv_refl d (canLay_of_shaped h2)
    exact ⟨compareEq_shaped q1 q2 h2 h2 hr.u64 ⟨by rw [e], _, rfl⟩, compareNe_shaped q1 q2 h2 h2 hr.u64 ⟨by rw [e], _, rfl⟩⟩
end Mine.Internal
set_option maxRecDepth 100000
set_option linter.unusedVariables false
namespace Mine.Internal
open PySem PySem.W PyProof.Rows PySem.SeqAt
inductive SeqAt (B : BC) (s : Shared) (H : Hp) (R : Nat → Prop) (vs : List V) : Value → Prop
  | mk (a items n) : (IsL s.heap a items n ∨ IsT s.heap a items n) → RelL B s.heap H R items.toList vs → vs.length ≤ big → SeqAt B s H R vs (.ref a)
theorem seq_at {B : BC} {s : Shared} {H R v V vs} (I : Inv B R s H) (x : Rel B s.heap H R v V) (e : seqOf H V = some vs) : SeqAt B s H R vs v := by
  cases seqOf_inv e with
  | tup => obtain ⟨a, items, n, e, _, _, l, z⟩ := x.inv_tup; exact .mk a items n (.inr e) l z
  | lst h => obtain ⟨a, items, n, e, l, z⟩ := lst_at I x h; exact .mk a items n (.inl e) l z
theorem isTup_of {h : Heap} {a items n} (x : IsT h a items n) : IsTup h a items := ⟨_, x, rfl, n, rfl⟩
theorem isList_toArray {h : Heap} {a items n} (x : IsL h a items n) : h.IsList a items.toList.toArray := by rw [Array.toArray_toList]; exact x.isList
theorem find_isSome {K α : Type} [DecidableEq K] (kvs : List (K × α)) (k : K) : ((kvs.find? fun x => decide (x.1 = k)).map (·.2)).isSome = decide (k ∈ kvs.map (·.1)) := by
  induction kvs with
  | nil => rfl
  | cons kv r ih =>
    rw [List.find?_cons]
    by_cases h : kv.1 = k
    · rw [decide_eq_true h]; exact (decide_eq_true (h ▸ List.mem_cons_self)).symm
    · rw [decide_eq_false h]; exact ih.trans (decide_eq_decide.mpr ⟨List.mem_cons_of_mem _, fun m => (List.mem_cons.mp m).resolve_left fun e => h e.symm⟩)
theorem valueAt_isSome {K : Type} [DecidableEq K] (kvs : List (K × Value)) (k : K) : (valueAt kvs k).isSome = decide (k ∈ kvs.map (·.1)) := find_isSome kvs k
theorem atKey_isSome {K : Type} [DecidableEq K] (kvs : List (K × Nat × Value)) (k : K) : (atKey kvs k).isSome = decide (k ∈ kvs.map (·.1)) := find_isSome kvs k
theorem itemsAre_ints {B : BC} {vs : List Value} {l : List Int} (h : IntsAre vs l) : ItemsAre (intKeys B) l vs := by
  induction h with
  | nil => exact .nil
  | cons n t _ ih => exact .cons (intKind_is _ _ n t) ih
inductive TupKey (B : BC) (h : Heap) (H : Hp) (R : Nat → Prop) (k : List Int) : Value → Prop
  | mk (a) : (tupKeys B).is h k a → KeyAt h H R a → TupKey B h H R k (.ref a)
theorem tupKey {B : BC} {h H R v} {k : List Int} (x : Rel B h H R v (.tup (k.map V.int))) : TupKey B h H R k v := by
  induction x.inv_tup with | mk a items n e o r l _ => ?_
  exact .mk a ⟨_, items, n, e, rfl, rfl, itemsAre_ints (ints_of l)⟩ ⟨⟨_, _, e⟩, o, r⟩
set_option tactic.hygienic true in
theorem inV_sound {B : BC} {A : Around} {R H s} {a b : V} {P : Prop} {v u : Value} (hq : InV H a b P) (I : Inv B R s H) (ra : Rel B s.heap H R v a) (rb : Rel B s.heap H R u b) (hr : Room A 0) :
    ∃ d : Decidable P, wpAny (model B.prog B.w) A (compareOp .In v u) (CmpP s (decide P)) noE s ∧ wpAny (model B.prog B.w) A (compareOp .NotIn v u) (CmpP s (!decide P)) noE s := by
  cases hq with
  | memS h =>
    rename_i x l
    obtain ⟨t, rfl⟩ := ra.inv_str
    induction (seq_at I rb h) with | mk a1 i1 n1 l1 r1 z1 => ?_
    have e : ((l.map Str.ofString).any (· == Str.ofString x)) = decide (x ∈ l) := by rw [any_beq]; exact decide_eq_decide.mpr mem_ofString
    refine ⟨inferInstance, ?_⟩
    rcases l1 with l1 | l1
    · exact ⟨in_list_strs (isList_toArray l1) (strs_of r1) ⟨by rw [e], _, rfl⟩, notin_list_strs (isList_toArray l1) (strs_of r1) ⟨by rw [e], _, rfl⟩⟩
    · exact ⟨in_tuple_strs (isTup_of l1) (strs_of r1) ⟨by rw [e], _, rfl⟩, notin_tuple_strs (isTup_of l1) (strs_of r1) ⟨by rw [e], _, rfl⟩⟩
  | memI h =>
    rename_i x l
    obtain ⟨t, rfl⟩ := ra.inv_int
    induction (seq_at I rb h) with | mk a1 i1 n1 l1 r1 z1 => ?_
    have e : l.any (· == x) = decide (x ∈ l) := any_beq _ _
    refine ⟨inferInstance, ?_⟩
    rcases l1 with l1 | l1
    · exact ⟨in_list_ints (isList_toArray l1) (ints_of r1) ⟨by rw [e], _, rfl⟩, notin_list_ints (isList_toArray l1) (ints_of r1) ⟨by rw [e], _, rfl⟩⟩
    · exact ⟨in_tuple_ints (isTup_of l1) (ints_of r1) ⟨by rw [e], _, rfl⟩, notin_tuple_ints (isTup_of l1) (ints_of r1) ⟨by rw [e], _, rfl⟩⟩
  | dcI h =>
    obtain ⟨t, rfl⟩ := ra.inv_int
    induction (dcI_at I rb h) with | mk a1 k1 n1 d1 e1 r1 => ?_
    refine ⟨inferInstance, wpAny_in_of (knd := intKeys B) (intKind_is _ _ _ t) n1 d1.mapOf ⟨?_, _, rfl⟩, wpAny_notIn_of (knd := intKeys B) (intKind_is _ _ _ t) n1 d1.mapOf ⟨?_, _, rfl⟩⟩
    · rw [valueAt_isSome, e1]
    · rw [valueAt_isSome, e1]
  | dcT h =>
    induction (tupKey ra) with | mk a0 hk _ => ?_
    induction (dcT_at I rb h) with | mk a1 k1 n1 d1 _ e1 r1 => ?_
    refine ⟨inferInstance, wpAny_in_heap (knd := tupKeys B) hr.u' hk n1 d1 ⟨?_, _, rfl⟩, wpAny_notIn_heap (knd := tupKeys B) hr.u' hk n1 d1 ⟨?_, _, rfl⟩⟩
    · rw [atKey_isSome, e1]; exact congrArg Value.bool (decide_eq_decide.mpr .rfl)
    · rw [atKey_isSome, e1]; exact congrArg (fun b => Value.bool !b) (decide_eq_decide.mpr .rfl)
end Mine.Internal
set_option maxRecDepth 100000
set_option linter.unusedVariables false
namespace Mine.Internal
open PySem PySem.W PyProof.Rows PySem.SeqAt
inductive CopC : CmpOp → COp → Prop
  | eq : CopC .Eq .eq | ne : CopC .NotEq .ne | lt : CopC .Lt .lt | gt : CopC .Gt .gt | ge : CopC .GtE .ge | isIt : CopC .Is .isIt | isNot : CopC .IsNot .isNot | isIn : CopC .In .isIn | notIn : CopC .NotIn .notIn
theorem cCop_inv {o : CmpOp} {op : COp} (h : cCop o = some op) : CopC o op := by
  induction o with
  | Eq => exact Option.some.inj h ▸ .eq
  | NotEq => exact Option.some.inj h ▸ .ne
  | Lt => exact Option.some.inj h ▸ .lt
  | Gt => exact Option.some.inj h ▸ .gt
  | GtE => exact Option.some.inj h ▸ .ge
  | Is => exact Option.some.inj h ▸ .isIt
  | IsNot => exact Option.some.inj h ▸ .isNot
  | In => exact Option.some.inj h ▸ .isIn
  | NotIn => exact Option.some.inj h ▸ .notIn
  | _ => exact dead h
inductive CmpR (s : Shared) (T F : Prop) : Value → Shared → Prop
  | mk (r tk) : (r = true → T) → (r = false → F) → CmpR s T F (.bool r) { s with toks := tk }
theorem CmpR.d {s : Shared} {T F p : Prop} [Decidable p] (h : (p → T) ∧ (¬ p → F)) (tk) : CmpR s T F (.bool (decide p)) { s with toks := tk } := .mk _ tk (fun z => h.1 (of_decide_eq_true z)) fun z => h.2 (of_decide_eq_false z)
theorem CmpP.r {s s' : Shared} {T F : Prop} {r : Bool} {c : Value} (h : CmpP s r c s') (t : r = true → T) (f : r = false → F) : CmpR s T F c s' := by
  obtain ⟨rfl, tk, rfl⟩ := h; exact .mk r tk t f
theorem nf {b : Bool} (h : (!b) = false) : b = true := by cases b <;> first | rfl | cases h
theorem rel_isNone {B : BC} {h H R v} {a : V} (x : Rel B h H R v a) : (v == .none) = a.isNone := by induction x <;> rfl
section
variable {B : BC} {A : Around} {R : Nat → Prop} {H : Hp} {s : Shared} {T F : Hp → Prop} {a b : V} {v u : Value}
theorem cmpW_sound {op : COp} {o : CmpOp} (ho : cCop o = some op) (hq : cmpW op a b H T F) (I : Inv B R s H)
    (ra : Rel B s.heap H R v a) (rb : Rel B s.heap H R u b) (hr : Room A 0) : wpAny (model B.prog B.w) A (compareOp o v u) (CmpR s (T H) (F H)) noE s := by
  cases cCop_inv ho with
  | eq => obtain ⟨r, e, h1, h2⟩ := hq; exact wpAny_mono (eqV_sound e I ra rb hr).1 (fun c s' h => h.r h1 h2) fun z0 z0 x => x
  | ne => obtain ⟨r, e, h1, h2⟩ := hq; exact wpAny_mono (eqV_sound e I ra rb hr).2 (fun c s' h => h.r (fun z => h1 (not_tt z)) fun z => h2 (nf z)) fun z0 z0 x => x
  | lt => exact bin_ii (T := fun v u => wpAny (model B.prog B.w) A (compareOp .Lt v u) _ _ _) hq ra rb fun i j z0 z0 h => P.lt_int (.d h _)
  | gt => exact bin_ii (T := fun v u => wpAny (model B.prog B.w) A (compareOp .Gt v u) _ _ _) hq ra rb fun i j z0 z0 h => P.gt_int (.d h _)
  | ge => exact bin_ii (T := fun v u => wpAny (model B.prog B.w) A (compareOp .GtE v u) _ _ _) hq ra rb fun i j z0 z0 h => P.ge_int (.d h _)
  | isIt => obtain ⟨rfl, h1, h2⟩ := hq; cases rb.inv_none; exact is_none (.mk _ _ (fun z => h1 (rel_isNone ra ▸ z)) fun z => h2 (rel_isNone ra ▸ z))
  | isNot => obtain ⟨rfl, h1, h2⟩ := hq; cases rb.inv_none; exact isNot_none (.mk _ _ (fun z => h1 (rel_isNone ra ▸ not_tt z)) fun z => h2 (rel_isNone ra ▸ nf z))
  | isIn => obtain ⟨P, e, h1, h2⟩ := hq; obtain ⟨d, q, _⟩ := inV_sound e I ra rb hr; exact wpAny_mono q (fun c s' h => h.r (fun z => h1 (of_decide_eq_true z)) fun z => h2 (of_decide_eq_false z)) fun z0 z0 x => x
  | notIn => obtain ⟨P, e, h1, h2⟩ := hq; obtain ⟨d, _, q⟩ := inV_sound e I ra rb hr; exact wpAny_mono q (fun c s' h => h.r (fun z => h1 (of_decide_eq_false (not_tt z))) fun z => h2 (of_decide_eq_true (nf z))) fun z0 z0 x => x
end
theorem subscripted_false (slice : PySem.Expr) (o i : Value) : ∃ ops, subscripted slice false o i = operate ops (getItem o i) := by
  cases slice with
  | Slice a b c p => cases c <;> exact ⟨_, rfl⟩
  | _ => exact ⟨_, rfl⟩
theorem tail_sound {prog : Program} {w : World} {A : Around} {E : Value → Shared → Prop} {s : Shared} {value slice : PySem.Expr} {o i : Value} {T id : String} {Q : Value → Shared → Prop} (hT : s.TypeIs o T)
    (hl : typeLookup (.type T) "__getitem__" = pure (some (.builtin id))) (hg : wpAny (model prog w) A (getItem o i) Q E s) : wpAny (model prog w) A (subscriptTail value slice o i) Q E s :=
  let ⟨_, e⟩ := subscripted_false slice o i; tail_any hT hl hg e
theorem idxOf_seq {i : Int} {n k : Nat} (h : idxOf i n = some k) (hn : n ≤ big) : k < n ∧ seqIndex? i n = some k ∧ -(2 ^ 63 : Int) ≤ i ∧ i < 2 ^ 63 ∧ ((0 ≤ i ∧ i.toNat = k) ∨ (i < 0 ∧ -(n : Int) ≤ i ∧ (i + n).toNat = k)) := by
  have hb : n ≤ 16000000 := hn
  unfold idxOf at h
  unfold seqIndex?
  split at h
  · split at h <;> cases h
    refine ⟨by assumption, ?_, by omega, by omega, .inl ⟨by assumption, rfl⟩⟩
    have h1 : ¬ i < 0 := by omega
    have h2 : i < (n : Int) := by omega
    simp only [h1, if_false]
    rw [if_pos (by simp; omega)]
  · split at h <;> cases h
    refine ⟨by omega, ?_, by omega, by omega, .inr ⟨by omega, by omega, by omega⟩⟩
    have h1 : i < 0 := by omega
    simp only [h1, if_true]
    rw [if_pos (by simp; omega)]
    congr 1; omega
inductive OptR {α β : Type} (T : α → β → Prop) : Option α → Option β → Prop
  | none : OptR T none none
  | some {x y} : T x y → OptR T (some x) (some y)
theorem find_opt {K α : Type} [BEq K] [LawfulBEq K] [DecidableEq K] {T : α → V → Prop} {kvs : List (K × α)} {es : List (K × V)} (k : K) (e : kvs.map (·.1) = es.map (·.1))
    (r : ∀ (i : Nat) x y, kvs[i]? = some x → es[i]? = some y → T x.2 y.2) : OptR T ((kvs.find? fun x => decide (x.1 = k)).map (·.2)) (es.lookup k) := by
  induction kvs generalizing es with
  | nil => cases es with
    | nil => exact .none
    | cons y es => cases e
  | cons x kvs ih => cases es with
    | nil => cases e
    | cons y es =>
      have e1 : x.1 = y.1 := (List.cons.inj e).1
      rw [List.find?_cons, List.lookup_cons]
      by_cases hk : x.1 = k
      · rw [show (k == y.1) = true from beq_iff_eq.mpr (hk.symm.trans e1), decide_eq_true hk]
        exact .some (r 0 x y rfl rfl)
      · rw [show (k == y.1) = false from beq_eq_false_iff_ne.mpr fun z => hk (e1.trans z.symm), decide_eq_false hk]
        exact ih (List.cons.inj e).2 fun i => r (i + 1)
theorem optR_at {α β : Type} {T : α → β → Prop} {x : Option α} {y : Option β} {b : β} (h : OptR T x y) (e : y = some b) : ∃ a, x = some a ∧ T a b := by
  cases h with
  | none => exact dead e
  | some h => exact ⟨_, rfl, Option.some.inj e ▸ h⟩
theorem lookup_at {kvs : List (Int × Value)} {es : List (Int × V)} {B : BC} {h H R} {k : Int} {V : V} (e : kvs.map (·.1) = es.map (·.1))
    (r : ∀ (i : Nat) x y, kvs[i]? = some x → es[i]? = some y → Rel B h H R x.2 y.2) (hl : es.lookup k = some V) : ∃ v, valueAt kvs k = some v ∧ Rel B h H R v V := optR_at (find_opt (T := Rel B h H R) k e r) hl
theorem lookupT_at {kvs : List (List Int × Nat × Value)} {es : List (List Int × V)} {B : BC} {h H R} {k : List Int} {V : V} (e : kvs.map (·.1) = es.map (·.1))
    (r : ∀ (i : Nat) x y, kvs[i]? = some x → es[i]? = some y → Rel B h H R x.2.2 y.2) (hl : es.lookup k = some V) : ∃ p, atKey kvs k = some p ∧ Rel B h H R p.2 V := optR_at (find_opt (T := fun (p : Nat × Value) => Rel B h H R p.2) k e r) hl
set_option tactic.hygienic true in
theorem sub_sound {B : BC} {A : Around} {R H s Q} {a k V : V} {v u : Value} {value slice : PySem.Expr} (hq : SubV H a k V) (q : Q V H) (I : Inv B R s H) (ra : Rel B s.heap H R v a) (rb : Rel B s.heap H R u k) (hr : Room A 0) :
    wpAny (model B.prog B.w) A (subscriptTail value slice v u) (PostE B R Q H s) noE s := by
  cases hq with
  | seq h1 h2 h3 =>
    obtain ⟨t, rfl⟩ := rb.inv_int
    induction (seq_at I ra h1) with | mk a1 i1 n1 l1 r1 z1 => ?_
    have hz : i1.size = _ := (Array.length_toList (xs := i1)).symm.trans r1.1
    have hO := idxOf_seq h2 z1; have e1 := hO.1; have e2 := hO.2.1; have e3 := hO.2.2.1; have e4 := hO.2.2.2.1; have e5 := hO.2.2.2.2; clear hO
    rename_i vs i j
    obtain ⟨x, hx⟩ : ∃ x, i1.toList[j]? = some x := ⟨_, List.getElem?_eq_getElem (by rw [Array.length_toList, hz]; exact e1)⟩
    have rx := r1.2 j x V hx h3
    have hx' : i1[j]? = some x := by rw [← Array.getElem?_toList]; exact hx
    have post : PostE B R Q H s x s := ⟨V, H, rx, I, Step.refl _ _, q⟩
    rcases l1 with l1 | l1
    · refine tail_sound (T := "list") ⟨_, l1, rfl⟩ list_getitem_lookup ?_
      rcases e5 with ⟨g1, g2⟩ | ⟨g1, g2, g3⟩
      · exact wpAny_getItem_list l1.isList g1 e4 (by rw [g2]; exact hx') post
      · exact wpAny_getItem_list_neg l1.isList g1 (by rw [hz]; exact g2) e3 (by rw [hz, g3]; exact hx') post
    · exact tail_sound (T := "tuple") ⟨_, l1, rfl⟩ F.slot_tuple_getitem.lookup (P.getItem_tuple l1 e3 e4 (by rw [hz]; exact e2) hx' post)
  | dcI h1 h2 =>
    obtain ⟨t, rfl⟩ := rb.inv_int
    induction (dcI_at I ra h1) with | mk a1 k1 n1 d1 e1 r1 => ?_
    obtain ⟨x, hO⟩ := lookup_at e1 r1 h2; have hx := hO.1; have rx := hO.2; clear hO
    exact tail_sound d1.mapOf.typeIs F.slot_dict_getitem.lookup (wpAny_getItem_of (knd := intKeys B) (intKind_is _ _ _ t) d1.mapOf hx ⟨V, H, rx, I.toks _, Step.refl _ _, q⟩)
  | dcT h1 h2 =>
    induction (tupKey rb) with | mk a0 hk _ => ?_
    induction (dcT_at I ra h1) with | mk a1 k1 n1 d1 _ e1 r1 => ?_
    obtain ⟨p, hO⟩ := lookupT_at e1 r1 h2; have hx := hO.1; have rx := hO.2; clear hO
    exact tail_sound d1.typeIs F.slot_dict_getitem.lookup (wpAny_getItem_heap (knd := tupKeys B) hr.u' hk d1 hx ⟨V, H, rx, I.toks _, Step.refl _ _, q⟩)
end Mine.Internal
set_option maxRecDepth 100000
set_option linter.unusedVariables false
namespace Mine.Internal
open PySem PySem.W PyProof.Rows PySem.SeqAt
theorem kms_to (l : List Value) (i : Int) : kms_pick l none (some i) = l.take (clampTo i l.length) := by
  unfold kms_pick clampTo kms_lo kms_hi
  simp only [List.drop_zero, Nat.sub_zero]
  congr 1
  split <;> split <;> omega
theorem kms_from (l : List Value) (i : Int) : kms_pick l (some i) none = l.drop (clampTo i l.length) := by
  unfold kms_pick clampTo kms_lo kms_hi
  have e : (if i < 0 then l.length - (-i).toNat else min i.toNat l.length) = (if 0 ≤ i then min i.toNat l.length else l.length - (-i).toNat) := by
    split <;> split <;> omega
  simp only [e]
  rw [List.take_of_length_le (by rw [List.length_drop]; exact Nat.le_refl _)]
theorem RelL.take {B : BC} {h : Heap} {H : Hp} {R : Nat → Prop} {vs : List Value} {Vs : List V} (x : RelL B h H R vs Vs) (n : Nat) : RelL B h H R (vs.take n) (Vs.take n) :=
  ⟨by simp [x.1], fun i v V a b => by
    rw [List.getElem?_take] at a b
    by_cases hi : i < n
    · rw [if_pos hi] at a b; exact x.2 i v V a b
    · rw [if_neg hi] at a; cases a⟩
theorem RelL.drop {B : BC} {h : Heap} {H : Hp} {R : Nat → Prop} {vs : List Value} {Vs : List V} (x : RelL B h H R vs Vs) (n : Nat) : RelL B h H R (vs.drop n) (Vs.drop n) :=
  ⟨by simp [x.1], fun i v V a b => by rw [List.getElem?_drop] at a b; exact x.2 _ v V a b⟩
theorem RelL.reverse {B : BC} {h : Heap} {H : Hp} {R : Nat → Prop} {vs : List Value} {Vs : List V} (x : RelL B h H R vs Vs) : RelL B h H R vs.reverse Vs.reverse :=
  ⟨by simp [x.1], fun i v V a b => by
    have h1 : i < vs.length := by have := (List.getElem?_eq_some_iff.mp a).1; simpa using this
    rw [List.getElem?_reverse h1] at a
    rw [List.getElem?_reverse (by rw [← x.1]; exact h1), ← x.1] at b
    exact x.2 _ v V a b⟩
theorem listSlice_sound {B : BC} {A : Around} {R H s Q} {a : V} {v : Value} {vs ws : List V} {sl : Nat} {vl vu vk : Value} {lo hi st : Option Int} (I : Inv B R s H) (ra : Rel B s.heap H R v a) (h1 : lstOf H a = some vs)
    (hs : s.heap.IsSliceOf sl vl vu vk) (pl : IsPart vl lo) (pu : IsPart vu hi) (pk : IsPart vk st) (h0 : st ≠ some 0)
    (e : ∀ items : Array Value, RelL B s.heap H R items.toList vs → RelL B s.heap H R (slicePick items lo hi st).toList ws) (hq : mkList ws H Q) :
    s.TypeIs v "list" ∧ wpAny (model B.prog B.w) A (getItem v (.ref sl)) (PostE B R Q H s) noE s := by
  induction (lst_at I ra h1) with | mk a1 i1 n1 l1 r1 z1 => ?_
  refine ⟨⟨_, l1, rfl⟩, wpAny_getItem_list_slice l1.isList hs pl pu pk h0 (postMk I (e i1 r1) hq _) ?_⟩
  rw [← Array.length_toList, r1.1]; exact sizeLine_big z1
theorem getItem_tuple_rev {prog : Program} {w : World} {A : Around} {E : Value → Shared → Prop} {s : Shared} {t sl : Nat} {items : Array Value} {n : Nat} {u : Tok} {Q : Value → Shared → Prop} (ht : IsT s.heap t items n) (hs : s.heap.IsSliceOf sl .none .none (.int (-1) u))
    (h : Q (.ref s.heap.objs.size) { s with heap := s.heap.push { cls := .type "tuple", data := .seq items.toList.reverse.toArray } })
    (hsz : items.size ≤ sizeLine) : wpAny (model prog w) A (getItem (.ref t) (.ref sl)) Q E s := by
  have ht' : IsTup s.heap t items := isTup_of ht
  have hdrop : sizeOk (.seq items.toList.reverse.toArray) := by
    show items.toList.reverse.toArray.size ≤ sizeLine
    rw [List.size_toArray, List.length_reverse, Array.length_toList]; exact hsz
  obtain ⟨os, hO⟩ := id hs; have hos := hO.1; have hcs := hO.2.1; have hds := hO.2.2; clear hO
  have hTs : s.TypeIs (.ref sl) "slice" := ⟨os, hos, hcs⟩
  unfold getItem
  try with_reducible refine wpAny_holding ?_
  refine wpAny_bind (wpAny_sequenceKey ht'.typeIs (by decide) ?_)
  refine wpAny_bind (wpAny_callSpecial?_slot (name := Str.ofString "__getitem__") ht'.typeIs F.slot_tuple_getitem
    (wpAny_call_entry F.slot_tuple_getitem ht'.typeIs F.entry_tuple_getitem ?_ (F.args_tuple_getitem_2 _ _)))
  show wpAny _ _ (Builtin.Tuple.tupleItemsOf (.ref t) >>= _) _ _ s
  refine wpAny_bind (tupleItemsOf_ ht' ?_)
  refine wpAny_bind (wpAny_typeOf hTs ?_)
  rw [if_pos (by decide)]
  refine wpAny_bind ?_
  unfold Builtin.Slice.sliceApplied Builtin.Slice.sliceFields
  refine wpAny_bind (wpAny_bind (wpAny_field hos hds (x := .none) rfl (wpAny_bind (wpAny_field hos hds (x := .none) rfl (wpAny_bind (wpAny_field hos hds (x := .int (-1) u) rfl (wpAny_pure ?_)))))))
  refine wpAny_bind (slicePart_int ?_)
  rw [if_neg (by decide)]
  refine wpAny_bind (slicePart_none (wpAny_bind (slicePart_none (wpAny_bind (wpAny_pure ?_)))))
  have e1 : Builtin.Slice.sliceAdjust none none (-1) (items.size : Int) = ((items.size : Int) - 1, -1) := rfl
  have e2 : Builtin.Slice.slicePlaces ((items.size : Int) - 1) (-1) (-1) = items.size := by
    unfold Builtin.Slice.slicePlaces
    have h1 : ¬ ((-1 : Int) > 0) := by omega
    simp only [h1, if_false]
    split <;> simp <;> omega
  show wpAny _ _ (match Builtin.Slice.sliceAdjust none none (-1) (items.size : Int) with | (lo, hi) => pure (lo, (-1 : Int), Builtin.Slice.slicePlaces lo hi (-1))) _ _ s
  rw [e1]
  show wpAny _ _ (pure ((items.size : Int) - 1, (-1 : Int), Builtin.Slice.slicePlaces ((items.size : Int) - 1) (-1) (-1))) _ _ s
  rw [e2]
  refine wpAny_pure ?_
  have e3 : ((List.range items.size).filterMap fun (k : Nat) => items[(((items.size : Int) - 1) + (k : Int) * (-1)).toNat]?).toArray = items.toList.reverse.toArray := by
    congr 1
    have q : (fun (k : Nat) => items[(((items.size : Int) - 1) + (k : Int) * (-1)).toNat]?) = fun k => items[items.size - 1 - k]? := by
      funext k
      have : (((items.size : Int) - 1) + (k : Int) * (-1)).toNat = items.size - 1 - k := by omega
      rw [this]
    rw [q]
    have q2 : (List.range items.size).filterMap (fun k => items[items.size - 1 - k]?) = ((List.range items.size).map fun k => items.size - 1 - k).filterMap (items[·]?) := by rw [List.filterMap_map]; rfl
    rw [q2, krv_range, List.filterMap_reverse, krv_all]
  show wpAny _ _ (if ((items.size : Int) - 1 == 0 && (-1 : Int) == 1 && items.size == items.size) = true then _ else _) _ _ s
  rw [if_neg (by simp), e3]
  first
    | exact wpAny_bind (m := Builtin.Tuple.tupleExact _) (wpAny_newObj_type (wpAny_pure ⟨_, rfl, wpAny_pure h⟩) hdrop)
    | exact wpAny_bind (m := Builtin.Tuple.tupleExact _) (wpAny_newObj_type (wpAny_bind (wpAny_pure (wpAny_pure ⟨_, rfl, wpAny_pure h⟩))) hdrop)
    | exact wpAny_bind (wpAny_bind (m := Builtin.Tuple.tupleExact _) (wpAny_newObj_type (wpAny_pure (wpAny_pure ⟨_, rfl, wpAny_pure h⟩)) hdrop))
    | exact wpAny_bind (wpAny_bind (m := Builtin.Tuple.tupleExact _) (wpAny_newObj_type (wpAny_pure ⟨_, rfl, wpAny_pure h⟩) hdrop))
theorem strSlice1_sound {B : BC} {A : Around} {R H s Q} {x : String} {t u : Tok} {sl : Nat} (I : Inv B R s H) (hs : s.heap.get? sl = some { cls := .type "slice", data := .fields #[.none, .int 1 u, .none] })
    (hx : x.length = 1) (hq : Q (.str x) H) :
    wpAny (model B.prog B.w) A (getItem (.str (Str.ofString x) t) (.ref sl)) (PostE B R Q H s) noE s := by
  refine getItem_meets (typeIs_str s _ t) (by decide) F.slot_str_getitem F.entry_str_getitem (F.args_str_getitem_2 _ _) (meets_str_getitem_slice (Str.ofString x) t sl none (some (1, u)) none rfl) ⟨⟨_, hs, rfl, rfl⟩, ?_⟩
  have e : sliceMade (Str.ofString x) t none (some (1, u)) none = .val (.str (Str.ofString x) t) := by
    unfold sliceMade slicePicked
    rw [ofString_length, hx]
    exact if_pos (show (((1 : Int) == 1) && ((Builtin.Str.strSliceIndices none (some 1) 1 1).length == 1)) = true by decide)
  rw [e]
  exact ⟨.str x, H, .str _ _, I, Step.refl _ _, hq⟩
end Mine.Internal
set_option maxRecDepth 100000
set_option linter.unusedVariables false
namespace Mine.Internal
open PySem PySem.W PyProof.Rows PySem.SeqAt
noncomputable def RawD (h : Heap) (d : Nat) (es : Array DictEntry) (ep : Nat) : Prop := ∃ o, h.get? d = some o ∧ o.ExactDict ∧ o.data = .dict es ep
section
variable {prog : Program} {w : World} {A : Around} {E : Value → Shared → Prop} {s : Shared} {it d i ep : Nat} {es : Array DictEntry}
theorem RawD.typeIs (r : RawD s.heap d es ep) : s.TypeIs (.ref d) "dict" := let ⟨o, e, c, _⟩ := r; ⟨o, e, c.1⟩
theorem RawD.lt {h : Heap} (r : RawD h d es ep) : d < h.objs.size := let ⟨_, e, _⟩ := r; Heap.lt_size e
theorem RawD.at {h h' : Heap} (r : RawD h d es ep) (k : ∀ o, h.get? d = some o → h'.get? d = some o) : RawD h' d es ep := let ⟨o, e, c⟩ := r; ⟨o, k _ e, c⟩
theorem raw_iter {Q : Value → Shared → Prop} (lo : (d == sysModules) = false) (r : RawD s.heap d es ep)
    (q : Q (.ref s.heap.objs.size) { s with heap := s.heap.push { cls := .type "dict_keyiterator", data := .fields #[.ref d, .int 0 0, .int es.size 0, .int ep 0] } }) : wpAny (model prog w) A (pyIter (.ref d)) Q E s := by
  have hT := r.typeIs
  obtain ⟨o, hO⟩ := r; have ho := hO.1; have hd := hO.2.2; clear hO
  refine wpAny_pyIter_slot hT F.slot_dict_iter (wpAny_call_entry F.slot_dict_iter hT F.entry_dict_iter ?_ (F.args_dict_iter_1 _))
  unfold Builtin.«dict.__iter__» Builtin.Dict.dictSlotNone
  refine wpAny_bind (wpAny_bind (wpAny_notOrdered_dict hT (wpAny_pure ?_)))
  show wpAny _ _ (Builtin.Dict.showsAll d >>= _) _ _ s
  unfold Builtin.Dict.showsAll
  rw [if_neg (by rw [lo]; exact Bool.false_ne_true)]
  refine wpAny_bind (wpAny_pure (wpAny_bind (wpAny_dictEntries ho hd (wpAny_bind (wpAny_dictEpoch ho hd ?_)))))
  refine wpAny_bind (wpAny_newObj_type (wpAny_pure ⟨_, rfl, "dict_keyiterator", _, ⟨_, Heap.get?_push_size _ rfl, rfl⟩, F.slot_dict_keyiterator_next.lookup, ?_⟩))
  simpa [rawInt] using q
theorem raw_next {Q : Option Value → Shared → Prop} (hh : A.handled = none) (hit : s.heap.IsKeyIter it d i es.size ep) (r : RawD s.heap d es ep)
    (q1 : ∀ e h', es[i]? = some e → h'.IsKeyIter it d (i + 1) es.size ep → Heap.SameBut it s.heap h' → Q (some e.key) { s with heap := h' })
    (q2 : es[i]? = none → ∀ h', Heap.ExtBut it s.heap h' → Q none { s with heap := h' }) : wpAny (model prog w) A (pyNext (.ref it)) Q E s := by
  obtain ⟨o, hO⟩ := id hit; have ho := hO.1; have hc := hO.2.1; have hd := hO.2.2; clear hO
  obtain ⟨od, hO⟩ := r; have hod := hO.1; have hdd := hO.2.2; clear hO
  unfold pyNext
  refine wpAny_bind (wpAny_attempt (wpAny_callSpecial?_slot (name := Str.ofString "__next__") hit.typeIs F.slot_dict_keyiterator_next
    (wpAny_call_entry F.slot_dict_keyiterator_next hit.typeIs F.entry_dict_keyiterator_next ?_ (F.args_dict_keyiterator_next_1 _))))
  refine wpAny_bind (wpAny_pure (wpAny_bind (wpAny_bind ?_)))
  first | refine wpAny_bind (wpAny_typeNameOfWhole_keyiter hit.typeIs (wpAny_pure ?_)) | refine wpAny_bind (wpAny_typeNameOf_keyiter hit.typeIs (wpAny_pure ?_))
  refine wpAny_bind (wpAny_fieldsOf ho hd ?_)
  rw [if_neg (show ¬ Builtin.Dict_items.ownsTuple "dict_keyiterator" = true by decide)]
  show wpAny _ _ (if (Value.ref d == Value.none) = true then _ else _) _ _ s
  rw [if_neg (show ¬ ((Value.ref d == Value.none) = true) from Bool.false_ne_true)]
  refine wpAny_bind (wpAny_pure (wpAny_bind (wpAny_dictEntries hod hdd ?_)))
  rw [if_neg (by simp)]
  refine wpAny_bind (wpAny_pure (wpAny_bind (wpAny_dictEpoch hod hdd ?_)))
  rw [if_neg (by simp)]
  refine wpAny_pure ?_
  dsimp only
  rw [if_neg (Int.not_lt.2 (Int.natCast_nonneg i)), Int.toNat_natCast]
  cases he : es[i]? with
  | some e =>
    refine wpAny_bind ?_
    first | refine wpAny_bind (wpAny_typeNameOfWhole_keyiter hit.typeIs (wpAny_pure ?_)) | refine wpAny_bind (wpAny_typeNameOf_keyiter hit.typeIs (wpAny_pure ?_))
    refine wpAny_bind (wpAny_isOneOf_keyiter hit.typeIs ?_)
    show wpAny _ _ (setField (.ref it) 1 (rawInt ((i : Int) + 1)) >>= _) _ _ s
    refine wpAny_bind (wpAny_setField ho hd (by simp) ?_)
    have hit' : (s.heap.update it (Obj.mapFields (·.setIfInBounds 1 (rawInt ((i : Int) + 1))))).IsKeyIter it d (i + 1) es.size ep :=
      ⟨_, Heap.get?_update_self _ ho (Obj.isFreed_of_fields (Obj.data_mapFields hd _)), (Obj.cls_mapFields ..).trans hc, by rw [Obj.data_mapFields hd]; simp [rawInt]⟩
    refine wpAny_bind (wpAny_holding (wpAny_bind (wpAny_isOneOf_keyiter (s := { s with heap := s.heap.update it (Obj.mapFields (·.setIfInBounds 1 (rawInt ((i : Int) + 1)))) }) hit'.typeIs ?_)))
    exact wpAny_pure (wpAny_pure ⟨_, rfl, wpAny_pure (q1 e _ he hit' (Heap.SameBut.update ..))⟩)
  | none =>
    refine wpAny_bind ?_
    first | refine wpAny_bind (wpAny_typeNameOfWhole_keyiter hit.typeIs (wpAny_pure ?_)) | refine wpAny_bind (wpAny_typeNameOf_keyiter hit.typeIs (wpAny_pure ?_))
    show wpAny _ _ (setField (.ref it) 0 .none >>= _) _ _ s
    refine wpAny_bind (wpAny_setField ho hd (by simp) ?_)
    refine wpAny_bind ?_
    unfold newExc newTuple
    refine wpAny_bind (wpAny_newObj_type ?_ (by size_fits))
    refine wpAny_bind (m := firstArgMember _ _) (wpAny_of_eq (a := Value.none) (by first | rfl | (simp only [firstArgMember]; rfl)) ?_)
    refine wpAny_newObj_type ?_ (by size_fits)
    unfold raiseNew
    refine wpAny_bind (wpAny_handled ?_)
    rw [show A.in1.handled = none from hh]
    refine wpAny_bind (wpAny_pure (wpAny_throw ?_))
    refine wpAny_bind (wpAny_isInstance (T := "StopIteration") (b := true) ⟨_, Heap.get?_push_size _ rfl, rfl⟩ isSubtype_stop ?_)
    exact wpAny_pure (q2 he _ (((Heap.SameBut.update ..).extBut.push _).push _))
theorem raw_src (lo : (d == sysModules) = false) : KdlSrc prog w "dict" d d es.size (fun j v => ∃ e, es[j]? = some e ∧ v = e.key) (fun h => RawD h d es ep) where
  type := fun z0 r => r.typeIs
  there := fun z0 r => ⟨r.lt, r.lt⟩
  keep := fun z0 z0 r k => r.at fun o e => k d (.inl rfl) o e
  notList := by decide
  notTuple := by decide
  hint := fun z0 z0 z0 z0 r q => kdl_hint_dict r.typeIs q
  iter := fun A s hh r => ⟨_, fun j h => h.IsKeyIter s.heap.objs.size d j es.size ep ∧ RawD h d es ep, (fun z0 z0 q => raw_iter lo r q), {
      sub := fun b hb => by simp at hb; simp [hb]
      frame := fun z0 z0 z0 st k => ⟨st.1.at fun o e => k _ (by simp) o e, st.2.at fun o e => k d (by simp) o e⟩
      item := fun j s' Q E hj st q => raw_next hh st.1 st.2 (fun e h' he hi hs => q e.key h' s'.toks ⟨e, he, rfl⟩ ⟨hi, st.2.at fun o e => (hs.2 d (Nat.ne_of_lt r.lt)).trans e⟩ fun b o hb e => (hs.2 b (fun h => hb (by simp [h]))).trans e) fun he => by simp at he; omega
      done := fun s' Q E st q => raw_next hh st.1 st.2 (fun e h' he => by simp at he) fun z0 h' hs => q h' s'.toks fun b o hb e => hs b o (fun h => hb (by simp [h])) e
      self := fun z0 z0 z0 z0 st q => wpAny_pyIter_keyiter st.1 q }, ⟨⟨_, Heap.get?_push_size _ rfl, rfl, rfl⟩, r.at fun o e => Heap.get?_push_of_some _ e⟩⟩
end
end Mine.Internal
set_option maxRecDepth 100000
set_option linter.unusedVariables false
namespace Mine.Internal
open PySem PySem.W PyProof.Rows PySem.SeqAt PySem.Calls
section
variable {N : Nat} {cmp : Nat → Nat → (Bool → Shared → Prop) → Shared → Prop} {s : Shared}
noncomputable abbrev AnyAns (N : Nat) (cmp : Nat → Nat → (Bool → Shared → Prop) → Shared → Prop) (s : Shared) : Prop := ∀ i j (C : Bool → Shared → Prop), i < N → j < N → (∀ b, C b s) → cmp i j C s
noncomputable abbrev Below (N : Nat) (p : Array Nat) : Prop := ∀ k, p.getD k 0 < N
theorem below_of {p p0 : Array Nat} (h : Below N p0) (hN : 0 < N) (hp : p.Perm p0) : Below N p := fun k => by
  by_cases hk : k < p.size
  · have hm : p[k] ∈ p0 := hp.mem_iff.1 (Array.getElem_mem hk)
    obtain ⟨i, hi, e⟩ := Array.getElem_of_mem hm
    have := h i
    rw [Array.getD, dif_pos hi] at this
    rw [Array.getD, dif_pos hk]
    show p[k] < N
    rw [← e]; exact this
  · rw [Array.getD, dif_neg hk]; exact hN
variable (any : AnyAns N cmp s)
include any
theorem ks_asc {p : Array Nat} (hb : Below N p) {Q : Nat → Shared → Prop} (q : ∀ m, Q m s) : ∀ f n, (kas_asc p f n).kasWp cmp Q s
  | 0, n => q n
  | f + 1, n => any _ _ _ (hb _) (hb _) fun b => by
    cases b
    · exact ks_asc hb q f (n + 1)
    · exact q n
theorem ks_place {p : Array Nat} (hb : Below N p) {k : Nat} {Q : Nat → Shared → Prop} (q : ∀ m, Q m s) : ∀ f l r, (kas_place p k f l r).kasWp cmp Q s
  | 0, l, _ => q l
  | f + 1, l, r => by
    unfold kas_place
    split
    · exact q l
    · exact any _ _ _ (hb _) (hb _) fun b => by
        cases b
        · exact ks_place hb q f _ _
        · exact ks_place hb q f _ _
variable {p0 : Array Nat} (hb : Below N p0) (hN : 0 < N)
include hb hN
theorem ks_desc {Q : Array Nat × Nat × Nat → Shared → Prop} (q : ∀ p a b, p.Perm p0 → Q (p, a, b) s) : ∀ f p n t, p.Perm p0 → (kas_desc f p n t).kasWp cmp Q s
  | 0, p, n, t, h => q p n t h
  | f + 1, p, n, t, h => any _ _ _ (below_of hb hN h _) (below_of hb hN h _) fun b => by
    cases b
    · exact any _ _ _ (below_of hb hN h _) (below_of hb hN h _) fun d => by
        cases d
        · exact ks_desc q f p _ _ h
        · exact q p n t h
    · show (if t > 0 then _ else _ : KasT _).kasWp cmp Q s
      split
      · exact ks_desc q f _ _ _ ((mirror_perm ..).trans h)
      · exact ks_desc q f _ _ _ h
theorem ks_tail {n m : Nat} {p : Array Nat} (h : p.Perm p0) {Q : Nat × Array Nat → Shared → Prop} (q : ∀ a p, p.Perm p0 → Q (a, p) s) : (kas_tail3 n m p).kasWp cmp Q s := by
  unfold kas_tail3
  rw [KasT.kasWp_bind]
  have hp := (mirror_perm p 0 n ((n - 0) / 2)).trans h
  exact ks_asc any (below_of hb hN hp) (fun m => q m _ hp) _ _
theorem ks_part {n m : Nat} {p : Array Nat} (h : p.Perm p0) {Q : Nat × Array Nat → Shared → Prop} (q : ∀ a p, p.Perm p0 → Q (a, p) s) : (kas_descPart n m p).kasWp cmp Q s := by
  unfold kas_descPart
  rw [KasT.kasWp_bind]
  refine ks_desc any hb hN (fun p a b hp => ?_) _ _ _ _ h
  split
  · exact ks_tail any hb hN ((mirror_perm ..).trans hp) q
  · exact ks_tail any hb hN hp q
theorem ks_count {m : Nat} {Q : Nat × Array Nat → Shared → Prop} (q : ∀ a p, p.Perm p0 → Q (a, p) s) : (kas_count m p0).kasWp cmp Q s := by
  unfold kas_count
  rw [KasT.kasWp_bind]
  refine ks_asc any hb (fun n => ?_) _ _
  have hr : p0.Perm p0 := Array.Perm.refl _
  split
  · exact q _ _ hr
  · split
    · exact any _ _ _ (hb _) (hb _) fun b => by
        cases b
        · exact ks_part any hb hN (mirror_perm ..) q
        · exact q _ _ hr
    · exact ks_part any hb hN hr q
theorem ks_bin {Q : Array Nat → Shared → Prop} (q : ∀ p, p.Perm p0 → Q p s) : ∀ f p k, p.Perm p0 → (kas_bin f p k).kasWp cmp Q s
  | 0, p, _, h => q p h
  | f + 1, p, k, h => by
    unfold kas_bin
    rw [KasT.kasWp_bind]
    exact ks_place any (below_of hb hN h) (fun l => ks_bin q f _ _ ((bubble_perm ..).trans h)) _ _ _
omit hb in
theorem ks_sort {Q : Array Nat → Shared → Prop} (q : ∀ p : Array Nat, p.size = N → Below N p → Q p s) : (kas_sort N).kasWp cmp Q s := by
  have h0 : Below N (List.toArray (List.range N)) := fun k => by
    by_cases hk : k < N
    · simp [Array.getD, hk]
    · simpa [Array.getD, hk] using hN
  have q' : ∀ p, p.Perm (List.toArray (List.range N)) → Q p s := fun p hp => q p (by rw [hp.size_eq]; simp) (below_of h0 hN hp)
  unfold kas_sort
  rw [KasT.kasWp_bind]
  refine ks_count any h0 hN fun a p hp => ?_
  split
  · exact ks_bin any h0 hN q' _ _ _ hp
  · exact q' p hp
end
noncomputable def TI (h : Heap) (v : Value) : Prop := ∃ a x t y u n, v = .ref a ∧ IsT h a #[.int x t, .int y u] n
section
variable {prog : Program} {w : World} {A : Around} {E : Value → Shared → Prop} {s : Shared}
theorem ti_lt {v u : Value} (hv : TI s.heap v) (hu : TI s.heap u) {C : Bool → Shared → Prop} (q : ∀ b, C b s) : wpAny (model prog w) A (keyLt' (tuples' true) v u) C E s := by
  obtain ⟨a, x, t, y, z, n, rfl, h1⟩ := hv
  obtain ⟨b, x', t', y', z', n', rfl, h2⟩ := hu
  refine kat_lt h1 rfl h2 rfl ?_
  refine kat_cons (wpAny_eqBool_int (kat_go (fun z0 => kat_yes (kat_cons (wpAny_eqBool_int (kat_go (fun z0 => kat_yes (q _)) fun z0 => kat_no (kat_one _ _ (lt_int (q _))))))) fun z0 => kat_no (oneLt_int (q _))))
theorem ti_firsts {h : Heap} : ∀ {vs : List Value}, (∀ v ∈ vs, TI h v) → ∃ fs, KatTups h vs fs ∧ fs.length = vs.length ∧ ∀ f ∈ fs, ∃ x t, f = .int x t
  | [], _ => ⟨[], .nil, rfl, nofun⟩
  | v :: vs, hv => by
    obtain ⟨fs, hO⟩ := ti_firsts fun u hu => hv u (List.mem_cons_of_mem _ hu); have h1 := hO.1; have h2 := hO.2.1; have h3 := hO.2.2; clear hO
    obtain ⟨a, x, t, y, z, n, rfl, h4⟩ := hv _ (List.mem_cons_self ..)
    exact ⟨.int x t :: fs, .cons h4 rfl rfl rfl h1, congrArg (· + 1) h2, fun f hf => (List.mem_cons.1 hf).elim (fun e => ⟨x, t, e⟩) (h3 f)⟩
theorem ti_sort {a : Addr} {vs : List Value} {P : Fin → Shared → Prop} (ho : s.heap.get? a = some (seqObj "list" vs.toArray 0)) (hv : ∀ v ∈ vs, TI s.heap v) (h64 : vs.length < 64)
    (q : ∀ out : Array Value, out.size = vs.length → (∀ v ∈ out.toList, v ∈ vs) → P (.done (.ret .none)) { s with heap := sortedHeap s.heap a vs out }) : wpAny (model prog w) A (Builtin.«list.sort» ⟨[.ref a], []⟩) P E s := by
  rw [list_sort_plain]
  have ha : a < s.heap.objs.size := Heap.lt_size ho
  refine wpAny_bind (listItems_at ho rfl (wpAny_bind (listUpdate_at ho rfl ?_)))
  obtain ⟨e1, ho1⟩ : ∃ e1, (s.heap.update a (Obj.mapSeq fun z0 => #[])).get? a = some (seqObj "list" #[] e1) := ⟨_, get?_update_seq ho (fun z0 => #[])⟩
  refine wpAny_bind (seqEpoch_at ho1 rfl (wpAny_bind (wpAny_newTuple (wpAny_bind (wpAny_newList (wpAny_holding ?_))))))
  have keep : ∀ b o, b ≠ a → s.heap.get? b = some o → (((s.heap.update a (Obj.mapSeq fun z0 => #[])).push (seqObj "tuple" vs.toArray 0)).push (seqObj "list" #[] 0)).get? b = some o := fun b o hb e =>
    Heap.get?_push_of_some _ (Heap.get?_push_of_some _ ((Heap.get?_update_ne _ _ _ _ hb).trans e))
  have ho6 : (((s.heap.update a (Obj.mapSeq fun z0 => #[])).push (seqObj "tuple" vs.toArray 0)).push (seqObj "list" #[] 0)).get? a = some (seqObj "list" #[] e1) := Heap.get?_push_of_some _ (Heap.get?_push_of_some _ ho1)
  have tis : ∀ v ∈ vs, TI (((s.heap.update a (Obj.mapSeq fun z0 => #[])).push (seqObj "tuple" vs.toArray 0)).push (seqObj "list" #[] 0)) v := fun v h => by
    obtain ⟨b, x, t, y, z, n, rfl, h4⟩ := hv v h
    refine ⟨b, x, t, y, z, n, rfl, keep b _ (fun e => ?_) h4⟩
    rw [e] at h4
    have h5 : some _ = some _ := (show s.heap.get? a = _ from h4).symm.trans ho
    have h6 : Value.type "tuple" = Value.type "list" := congrArg Obj.cls (Option.some.inj h5)
    exact absurd h6 (by decide)
  have fin : ∀ out : Array Value, out.size = vs.length → (∀ v ∈ out.toList, v ∈ vs) → P (.done (.ret .none)) { s with heap := (((s.heap.update a (Obj.mapSeq fun z0 => #[])).push (seqObj "tuple" vs.toArray 0)).push (seqObj "list" #[] 0)).update a (Obj.mapSeq fun z0 => out) } := q
  generalize (((s.heap.update a (Obj.mapSeq fun z0 => #[])).push (seqObj "tuple" vs.toArray 0)).push (seqObj "list" #[] 0)) = h6 at *
  dsimp only
  by_cases h2 : vs.toArray.size < 2
  · rw [if_pos h2, if_pos h2]
    refine wpAny_bind (wpAny_pure ?_)
    rw [StateT.run_pure]
    refine wpAny_bind (wpAny_pure ?_)
    have e2 : (arrOf (SortSt.mk' general' (vs.toArray.zip vs.toArray) #[] 7 none)).map (·.2) = vs.toArray := by
      exact Array.toList_inj.mp (by simp [List.map_snd_zip])
    rw [e2]
    refine wpAny_bind (seqEpoch_at ho6 rfl (wpAny_bind (listUpdate_at ho6 rfl ?_ (hsz2 := by rw [List.size_toArray, sizeLine_eq]; exact li1 [_] ⟨0, .v 0, .n 16777217⟩ ⟨0, .a (.v 0) (.n 1), .n 64⟩ rfl h64))))
    simp only [bne_self_eq_false, Bool.false_eq_true, if_false]
    exact wpAny_pure (fin _ (List.size_toArray ..) fun v h => h)
  · rw [if_neg h2, if_neg h2]
    rw [List.size_toArray] at h2
    obtain ⟨fs, hO⟩ := ti_firsts tis; have k1 := hO.1; have k2 := hO.2.1; have k3 := hO.2.2; clear hO
    refine wpAny_bind (kat_kind (T := .type "int") k1 (by exact li2 [_, _] ⟨0, .n 1, .v 0⟩ ⟨0, .n 2, .v 1⟩ ⟨0, .v 1, .v 0⟩ rfl (Nat.le_of_not_lt h2) (Nat.le_of_eq k2.symm)) (fun f hf => by obtain ⟨x, t, rfl⟩ := k3 f hf; exact .now) (by decide) ?_)
    have hget : ∀ i, i < vs.length → vs.getD i .none ∈ vs := fun i hi => by
      rw [List.getD_eq_getElem?_getD, List.getElem?_eq_getElem hi]; exact List.getElem_mem hi
    refine wpAny_bind (wpAny_mono (kat_run (ks := vs) (vs := vs) (Q := fun st' s' => s' = { s with heap := h6 } ∧ failedOf st' = none ∧ ((arrOf st').map (·.2)).size = vs.length ∧ ∀ v ∈ ((arrOf st').map (·.2)).toList, v ∈ vs)
      (G := fun p s' => s' = { s with heap := h6 } ∧ Below vs.length p) rfl (by exact (Nat.le_of_not_lt h2)) h64 (fun p st' s' a1 a2 a3 a4 => ⟨a4.1, a3, ?_, ?_⟩) ?_) ?_ fun z0 z0 e => e)
    · rw [kat_snds rfl a2, List.size_toArray, List.length_map, Array.length_toList, a1]
    · rw [kat_snds rfl a2]
      intro v hv'
      obtain ⟨i, hi, rfl⟩ := List.mem_map.1 hv'
      obtain ⟨j, hj, e⟩ := List.mem_iff_getElem.1 hi
      have := a4.2 j
      rw [Array.length_toList] at hj
      rw [Array.getD, dif_pos hj] at this
      exact hget i (by rw [← e]; simpa using this)
    · exact ks_sort (fun i j C hi hj hC => ti_lt (tis _ (hget i hi)) (tis _ (hget j hj)) hC) (by exact li1 [_] ⟨0, .n 1, .v 0⟩ ⟨0, .n 2, .v 0⟩ rfl (Nat.le_of_not_lt h2)) fun p hp hb => ⟨rfl, hb⟩
    · rintro ⟨⟨⟩, st'⟩ s' ⟨rfl, hf, hz, hm⟩
      refine wpAny_bind (seqEpoch_at ho6 rfl (wpAny_bind (listUpdate_at ho6 rfl ?_ (hsz2 := by rw [hz, sizeLine_eq]; exact li1 [_] ⟨0, .v 0, .n 16777217⟩ ⟨0, .a (.v 0) (.n 1), .n 64⟩ rfl h64))))
      rw [hf]
      simp only [bne_self_eq_false, Bool.false_eq_true, if_false]
      exact wpAny_pure (fin _ hz hm)
end
end Mine.Internal
set_option maxRecDepth 100000
set_option linter.unusedVariables false
namespace Mine.Internal
open PySem PySem.W PyProof.Rows PySem.SeqAt
noncomputable def primV : Prim → Value
  | .abs => .builtin "abs" | .int => .type "int" | .len => .builtin "len" | .max => .builtin "max" | .list => .type "list" | .tuple => .type "tuple" | .str => .type "str" | .sorted => .builtin "sorted" | .all => .builtin "all"
theorem postGrown {B R Q H s} {v : Value} {V : V} {h' : Heap} {tk : Nat} (I : Inv B R s H) (r : Rel B s.heap H R v V) (q : Q V H) (k : ∀ b o, s.heap.get? b = some o → h'.get? b = some o) :
    PostE B R Q H s v { s with heap := h', toks := tk } :=
  let J := I.grown tk k; ⟨V, H, r.step J.2, J.1, J.2, q⟩
theorem bools_of {B : BC} {h H R} {l : List Bool} {vs : List Value} (r : RelL B h H R vs (l.map V.bool)) : vs = l.map Value.bool := by
  induction l generalizing vs with
  | nil => exact r.inv_nil
  | cons i l ih => induction r.inv_cons with
    | mk a b => rw [a.inv_bool, ih b]; rfl
theorem relL_ints {B : BC} {h H R} {vs : List Value} {l : List Int} (x : IntsAre vs l) : RelL B h H R vs (l.map V.int) := by
  induction x with
  | nil => exact .nil
  | cons n t _ ih => exact .cons (.int n t) ih
theorem all_range (l : List Bool) : (List.range l.length).all (fun i => l.getD i false) = l.all id := by
  rw [Bool.eq_iff_iff]
  simp only [List.all_eq_true, List.mem_range, id]
  constructor
  · intro h b hb
    obtain ⟨i, hi, rfl⟩ := List.mem_iff_getElem.mp hb
    have := h i hi
    rwa [List.getD_eq_getElem?_getD, List.getElem?_eq_getElem hi] at this
  · intro h i hi
    rw [List.getD_eq_getElem?_getD, List.getElem?_eq_getElem hi]
    exact h _ (List.getElem_mem hi)
inductive ROne (B : BC) (h : Heap) (H : Hp) (R : Nat → Prop) (V : Mine.Internal.V) : List Value → Prop
  | mk {v} : Rel B h H R v V → ROne B h H R V [v]
inductive RTwo (B : BC) (h : Heap) (H : Hp) (R : Nat → Prop) (V W : Mine.Internal.V) : List Value → Prop
  | mk {v w} : Rel B h H R v V → Rel B h H R w W → RTwo B h H R V W [v, w]
theorem RelL.inv_one {B : BC} {h H R} {vs : List Value} {V : Mine.Internal.V} (r : RelL B h H R vs [V]) : ROne B h H R V vs := by
  induction r.inv_cons with
  | mk a b => cases b.inv_nil; exact .mk a
theorem RelL.inv_two {B : BC} {h H R} {vs : List Value} {V W : Mine.Internal.V} (r : RelL B h H R vs [V, W]) : RTwo B h H R V W vs := by
  induction r.inv_cons with
  | mk a b => induction b.inv_one with
    | mk c => exact .mk a c
theorem len_sound {B : BC} {A : Around} {R H s Q} {v : Value} {V : V} {vs : List Mine.Internal.V} (I : Inv B R s H) (r : Rel B s.heap H R v V) (e : seqOf H V = some vs) (q : Q (.int vs.length) H) :
    wpAny (model B.prog B.w) A (call (.builtin "len") [v]) (PostE B R Q H s) noE s := by
  induction (seq_at I r e) with | mk a1 i1 n1 l1 r1 z1 => ?_
  have hz : i1.size = vs.length := (Array.length_toList (xs := i1)).symm.trans r1.1
  have hb : vs.length ≤ 16000000 := z1
  rcases l1 with l1 | l1
  · exact PySem.Calls.call_len_list l1.isList (by omega) (by rw [hz]; exact postInt I q _ _)
  · exact P.len_tuple l1 (by omega) (by rw [hz]; exact postInt I q _ _)
theorem list_sound {B : BC} {A : Around} {R H s Q} {v : Value} {V : V} {vs : List Mine.Internal.V} (I : Inv B R s H) (r : Rel B s.heap H R v V) (e : seqOf H V = some vs) (q : mkList vs H Q) :
    wpAny (model B.prog B.w) A (call (.type "list") [v]) (PostE B R Q H s) noE s := by
  induction (seq_at I r e) with | mk a1 i1 n1 l1 r1 z1 => ?_
  have hz : i1.size = vs.length := (Array.length_toList (xs := i1)).symm.trans r1.1
  rcases l1 with l1 | l1
  · exact call_list_seq a1 (.inl rfl) l1 rfl rfl (fun h' c' k z => postListAt I r1 q.1 q.2 _ (none_size _) z k) (by rw [hz]; exact sizeLine_big z1)
  · exact call_list_seq a1 (.inr rfl) l1 rfl rfl (fun h' c' k z => postListAt I r1 q.1 q.2 _ (none_size _) z k) (by rw [hz]; exact sizeLine_big z1)
theorem postTup {B R Q H s} {items : Array Value} {vs : List V} {a n : Nat} {h' : Heap} (I : Inv B R s H) (r : RelL B s.heap H R items.toList vs) (hz : vs.length ≤ big) (q : Q (.tup vs) H) (tk : Nat)
    (ha : s.heap.get? a = none) (z : IsT h' a items n) (k : ∀ b o, s.heap.get? b = some o → h'.get? b = some o) : PostE B R Q H s (.ref a) { s with heap := h', toks := tk } := by
  have J := I.grown tk k
  have f := I.fresh' ha
  exact ⟨_, H, .tup z f.1 f.2 (by simpa using r.1) hz fun i v V a b => (r.2 i v V a b).step J.2, J.1, J.2, q⟩
theorem tuple_sound {B : BC} {A : Around} {R H s Q} {v : Value} {V : V} {vs : List Mine.Internal.V} (I : Inv B R s H) (r : Rel B s.heap H R v V) (e : lstOf H V = some vs) (q : Q (.tup vs) H) :
    wpAny (model B.prog B.w) A (call (.type "tuple") [v]) (PostE B R Q H s) noE s := by
  induction (lst_at I r e) with | mk a1 i1 n1 l1 r1 z1 => ?_
  have hz : i1.size = vs.length := (Array.length_toList (xs := i1)).symm.trans r1.1
  refine call_tuple_list l1.isList (fun h' k => ?_) (by rw [hz]; exact sizeLine_big z1)
  exact postTup I r1 z1 q _ (none_of_keeps k (none_size _)) (IsT.new _ _) (fun b o e => Heap.get?_push_of_some _ (k b o e))
theorem sorted_via {prog : Program} {w : World} {A : Around} {E : Value → Shared → Prop} {s : Shared} {v : Value} {Q : Value → Shared → Prop} {P : List Int → Prop}
    (hc : ∀ G : List Value → Shared → Prop, (∀ h' tk vs ns, (∀ b o, s.heap.get? b = some o → h'.get? b = some o) → IntsAre vs ns → vs.length < 64 → P ns → G vs { s with heap := h', toks := tk }) → wpAny (model prog w) A.in1 (collect v) G E s)
    (h : ∀ h' tk l out e ns ns', (∀ b o, s.heap.get? b = some o → h'.get? b = some o) → s.heap.get? l = none → IsL h' l out e → IntsAre out.toList ns' → P ns → ns'.Perm ns → ns'.Pairwise (· ≤ ·) → Q (.ref l) { s with heap := h', toks := tk }) :
    wpAny (model prog w) A (call (.builtin "sorted") [v]) Q E s := by
  refine Calls.call_function_entry kind_sorted plain_sorted entry_sorted (args_sorted1 _) ?_
  unfold Builtin.«sorted»
  refine wpAny_bind (m := checkCount "sorted" 1 1 _) (wpAny_pure ?_)
  refine wpAny_bind (hc _ fun h' tk vs ns k hI h64 hP => ?_)
  have hb : vs.length ≤ sizeLine := sizeLine_big (Nat.le_trans (Nat.le_of_lt h64) (by decide))
  refine wpAny_bind (wpAny_newList ?_ hb)
  have hoL : (h'.push (seqObj "list" vs.toArray 0)).get? h'.objs.size = some (seqObj "list" vs.toArray 0) := Heap.get?_push_size _ rfl
  refine wpAny_bind (wpAny_holding (wpAny_call_entry slot_list_sort ⟨_, hoL, rfl⟩ entry_list_sort (list_sort_tree hoL hI h64 fun out ns' a1 a2 a3 => ⟨_, rfl, ?_⟩) (args_list_sort _)))
  refine wpAny_pure ⟨_, rfl, ?_⟩
  obtain ⟨e, he⟩ := sortedHeap_at (out := out) hoL
  refine h _ tk h'.objs.size out e ns ns' (fun b o q => ?_) (none_of_keeps k (none_size _)) he a1 hP a2 a3
  have hlt := ltS (k b o q)
  rw [sortedHeap_old (Nat.ne_of_lt hlt) (by rw [size_push']; exact Nat.lt_succ_of_lt hlt)]
  exact Heap.get?_push_of_some _ (k b o q)
theorem intsAre_keys {vs : List Value} {ks : List Int} (e : vs.length = ks.length) (h : ∀ (j : Nat) v, vs[j]? = some v → ∃ k, ks[j]? = some k ∧ Value.isInt k v = true) : IntsAre vs ks := by
  induction ks generalizing vs with
  | nil => exact List.length_eq_zero_iff.mp e ▸ .nil
  | cons k ks ih => cases vs with
    | nil => cases e
    | cons v vs =>
      obtain ⟨k', hO⟩ := h 0 v rfl; have hk := hO.1; have hv := hO.2; clear hO
      obtain ⟨t, rfl⟩ := Value.isInt_shape (Option.some.inj hk ▸ hv)
      exact .cons _ _ (ih (Nat.succ.inj e) fun j => h (j + 1))
theorem sortedI_sound {B : BC} {A : Around} {R H s Q} {v : Value} {V : Mine.Internal.V} {l : List Int} (I : Inv B R s H) (r : Rel B s.heap H R v V) (e : seqOf H V = some (l.map Mine.Internal.V.int)) (h64 : l.length < 64)
    (q : ∀ l' : List Int, l'.Perm l → l'.Pairwise (· ≤ ·) → mkList (l'.map Mine.Internal.V.int) H Q) :
    wpAny (model B.prog B.w) A (call (.builtin "sorted") [v]) (PostE B R Q H s) noE s := by
  induction (seq_at I r e) with | mk a1 i1 n1 l1 r1 z1 => ?_
  have hI := ints_of r1
  have h64' : i1.toList.length < 64 := by rw [r1.1, List.length_map]; exact h64
  have hz : i1.size ≤ sizeLine := sizeLine_big (by rw [← Array.length_toList]; exact Nat.le_trans (Nat.le_of_lt h64') (by decide))
  refine sorted_via (P := fun ns => ns = l) (fun G hG => ?_) fun h' tk l out e ns ns' k hn hL hI' hP hp hs => ?_
  · rcases l1 with l1 | l1
    · exact wpAny_collect_seq (hsz := hz) a1 (.inl rfl) l1 rfl rfl fun h' k => hG h' _ _ _ k hI h64' rfl
    · exact wpAny_collect_seq (hsz := hz) a1 (.inr rfl) l1 rfl rfl fun h' k => hG h' _ _ _ k hI h64' rfl
  · subst hP
    have q' := q ns' hp hs
    exact postListAt I (relL_ints hI') q'.1 q'.2 _ hn hL k
theorem sortedD_sound {B : BC} {A : Around} {R H s Q} {v : Value} {V : Mine.Internal.V} {es : List (Int × Mine.Internal.V)} (I : Inv B R s H) (r : Rel B s.heap H R v V) (e : dcIOf H V = some es) (h64 : es.length < 64) (hr : Room A 0)
    (q : ∀ l' : List Int, l'.Perm (es.map (·.1)) → l'.Pairwise (· ≤ ·) → mkList (l'.map Mine.Internal.V.int) H Q) :
    wpAny (model B.prog B.w) A (call (.builtin "sorted") [v]) (PostE B R Q H s) noE s := by
  induction (dcI_at I r e) with | mk a1 k1 n1 d1 e1 r1 => ?_
  obtain ⟨ep, d2⟩ := d1.dictAt
  have hk : k1.length = es.length := by have := congrArg List.length e1; simpa using this
  refine sorted_via (P := fun ns => ns = es.map (·.1)) (fun G hG => ?_) fun h' tk l out e ns ns' k hn hL hI' hP hp hs => ?_
  · refine kdu_collect (A := A.in1) (kdl_dict (knd := intKeys B) (kvs := k1) (ep := ep) n1) hr.handled d2 (sizeLine_big (by rw [hk]; exact Nat.le_trans (Nat.le_of_lt h64) (by decide))) fun h' tk acc k it => ?_
    have hl : acc.toList.length = es.length := by rw [Array.length_toList, it.1, hk]
    refine hG h' tk acc.toList _ k (intsAre_keys (by rw [List.length_map]; exact hl) fun j v q => ?_) (by rw [hl]; exact h64) rfl
    obtain ⟨kk, x, hx, hi⟩ := it.2 j v (by rw [← Array.getElem?_toList]; exact q)
    exact ⟨kk, by rw [← e1, List.getElem?_map, hx]; rfl, hi⟩
  · subst hP
    have q' := q ns' hp hs
    exact postListAt I (relL_ints hI') q'.1 q'.2 _ hn hL k
theorem relL_tups {B : BC} {h H R} : ∀ {vs : List Value} {ks : List (List Int)}, vs.length = ks.length → (∀ (j : Nat) v k, vs[j]? = some v → ks[j]? = some k → Rel B h H R v (.tup (k.map Mine.Internal.V.int))) → RelL B h H R vs (ks.map fun k => .tup (k.map Mine.Internal.V.int)) :=
  fun e h => ⟨by rw [List.length_map]; exact e, fun i v V a b => by
    rw [List.getElem?_map] at b
    obtain ⟨k, hk, rfl⟩ := Option.map_eq_some_iff.mp b
    exact h i v k a hk⟩
theorem len_two {α : Type} {l : List α} (h : l.length = 2) : ∃ a b, l = [a, b] := by match l, h with | [a, b], _ => exact ⟨a, b, rfl⟩
theorem ints_two {vs : List Value} {x y : Int} (h : IntsAre vs [x, y]) : ∃ t u, vs = [.int x t, .int y u] := by
  cases h with
  | cons n t r => cases r with
    | cons n u r => cases r; exact ⟨t, u, rfl⟩
theorem itemsAre_back {B : BC} : ∀ {vs : List Value} {l : List Int}, ItemsAre (intKeys B) l vs → IntsAre vs l
  | [], _, h => by cases h; exact .nil
  | v :: vs, _, h => by
    cases h with
    | cons h1 h2 => obtain ⟨t, rfl⟩ := Value.isInt_shape h1; exact .cons _ _ (itemsAre_back h2)
theorem sortedT_sound {B : BC} {A : Around} {R H s Q} {v : Value} {V : Mine.Internal.V} {es : List (List Int × Mine.Internal.V)} (I : Inv B R s H) (r : Rel B s.heap H R v V) (e : dcTOf H V = some es) (h64 : es.length < 64) (h2 : ∀ e ∈ es, e.1.length = 2) (hr : Room A 0)
    (q : ∀ l' : List (List Int), l'.length = es.length → (∀ k ∈ l', k ∈ es.map (·.1)) → mkList (l'.map fun k => Mine.Internal.V.tup (k.map Mine.Internal.V.int)) H Q) :
    wpAny (model B.prog B.w) A (call (.builtin "sorted") [v]) (PostE B R Q H s) noE s := by
  induction (dcT_at I r e) with | mk a1 k1 n1 d1 kk e1 r1 => ?_
  obtain ⟨o, des, ep, hO⟩ := d1; have ho := hO.1; have hx := hO.2.1; have hd := hO.2.2.1; have hes := hO.2.2.2.1; have hk := hO.2.2.2.2.1; have hn := hO.2.2.2.2.2; clear hO
  have hkl : k1.length = es.length := by have := congrArg List.length e1; simpa using this
  have hsz : des.size = es.length := by rw [← Array.length_toList, hes, List.length_map, hkl]
  have key : ∀ x ∈ k1, ∃ p q : Int, x.1 = [p, q] ∧ (∃ t u n, IsT s.heap x.2.1 #[.int p t, .int q u] n) ∧ KeyAt s.heap H R x.2.1 := fun x hx => by
    have hm : x.1 ∈ es.map (·.1) := by rw [← e1]; exact List.mem_map_of_mem hx
    obtain ⟨y, hO⟩ := List.mem_map.mp hm; have hy := hO.1; have ey := hO.2; clear hO
    obtain ⟨p, q, hp⟩ := len_two (h2 y hy)
    have hK := kk x hx
    obtain ⟨⟨i, n, hT⟩, _⟩ := hK
    obtain ⟨o', items, n', hO⟩ := hk x hx; have g1 := hO.1; have g2 := hO.2.1; have g3 := hO.2.2.1; have g4 := hO.2.2.2; clear hO
    rw [show s.heap.get? x.2.1 = _ from hT] at g1
    cases g1
    cases g3
    rw [← ey, hp] at g4
    obtain ⟨t, u, hi⟩ := ints_two (itemsAre_back g4)
    refine ⟨p, q, by rw [← ey, hp], ⟨t, u, n, ?_⟩, kk x hx⟩
    have hi : i = #[.int p t, .int q u] := Array.toList_inj.mp hi
    rw [← hi]; exact hT
  refine Calls.call_function_entry kind_sorted plain_sorted entry_sorted (args_sorted1 _) ?_
  unfold Builtin.«sorted»
  refine wpAny_bind (m := checkCount "sorted" 1 1 _) (wpAny_pure ?_)
  refine wpAny_bind (kdu_collect (A := A.in1) (raw_src (es := des) (ep := ep) n1) hr.handled ⟨o, ho, hx, hd⟩ (sizeLine_big (by rw [hsz]; exact Nat.le_trans (Nat.le_of_lt h64) (by decide))) fun h' tk acc k it => ?_)
  have hl : acc.toList.length = es.length := by rw [Array.length_toList, it.1, hsz]
  have from_ : ∀ v ∈ acc.toList, ∃ x ∈ k1, v = .ref x.2.1 := fun v hv => by
    obtain ⟨j, hj⟩ := List.mem_iff_getElem?.mp hv
    obtain ⟨e', he', rfl⟩ := it.2 j v (by rw [← Array.getElem?_toList]; exact hj)
    rw [← Array.getElem?_toList, hes, List.getElem?_map] at he'
    obtain ⟨x, hx, rfl⟩ := Option.map_eq_some_iff.mp he'
    exact ⟨x, List.mem_of_getElem? hx, rfl⟩
  have hb : acc.toList.length ≤ sizeLine := sizeLine_big (by rw [hl]; exact Nat.le_trans (Nat.le_of_lt h64) (by decide))
  refine wpAny_bind (wpAny_newList ?_ hb)
  have hoL : (h'.push (seqObj "list" acc.toList.toArray 0)).get? h'.objs.size = some (seqObj "list" acc.toList.toArray 0) := Heap.get?_push_size _ rfl
  have k2 : ∀ b o, s.heap.get? b = some o → (h'.push (seqObj "list" acc.toList.toArray 0)).get? b = some o := fun b o e => Heap.get?_push_of_some _ (k b o e)
  refine wpAny_bind (wpAny_holding (wpAny_call_entry slot_list_sort ⟨_, hoL, rfl⟩ entry_list_sort (ti_sort hoL (fun v hv => ?_) (by rw [hl]; exact h64) fun out a1 a2 => ⟨_, rfl, ?_⟩) (args_list_sort _)))
  · obtain ⟨x, hx, rfl⟩ := from_ v hv
    obtain ⟨p, q, _, ⟨t, u, n, hT⟩, _⟩ := key x hx
    exact ⟨_, p, t, q, u, n, rfl, k2 _ _ hT⟩
  · refine wpAny_pure ⟨_, rfl, ?_⟩
    obtain ⟨e', he⟩ := sortedHeap_at (out := out) hoL
    have keep : ∀ b o, s.heap.get? b = some o → (sortedHeap (h'.push (seqObj "list" acc.toList.toArray 0)) h'.objs.size acc.toList out).get? b = some o := fun b o q => by
      have hlt := ltS (k b o q)
      rw [sortedHeap_old (Nat.ne_of_lt hlt) (by rw [size_push']; exact Nat.lt_succ_of_lt hlt)]
      exact Heap.get?_push_of_some _ (k b o q)
    have outs : ∀ v ∈ out.toList, ∃ x ∈ k1, v = .ref x.2.1 := fun v hv => from_ v (a2 v hv)
    have ex : ∃ ks : List (List Int), ks.length = out.toList.length ∧ (∀ k ∈ ks, k ∈ es.map (·.1)) ∧ ∀ (j : Nat) v k, out.toList[j]? = some v → ks[j]? = some k → Rel B s.heap H R v (.tup (k.map Mine.Internal.V.int)) := by
      clear a1 a2 he keep
      revert outs
      generalize out.toList = l
      intro outs
      induction l with
      | nil => exact ⟨[], rfl, nofun, fun j v k h => by simp at h⟩
      | cons v l ih =>
        obtain ⟨ks, hO⟩ := ih fun u hu => outs u (List.mem_cons_of_mem _ hu); have g1 := hO.1; have g2 := hO.2.1; have g3 := hO.2.2; clear hO
        obtain ⟨x, hx, rfl⟩ := outs v List.mem_cons_self
        obtain ⟨p, q, hp, ⟨t, u, n, hT⟩, hK⟩ := key x hx
        refine ⟨[p, q] :: ks, congrArg (· + 1) g1, fun k hk => ?_, fun j v k h1 h2 => ?_⟩
        · rcases List.mem_cons.mp hk with rfl | hk
          · rw [← hp, ← e1]; exact List.mem_map_of_mem hx
          · exact g2 k hk
        · cases j with
          | zero =>
            cases h1; cases h2
            exact .tup hT hK.2.1 hK.2.2 rfl (Nat.le_of_ble_eq_true rfl) fun i v V a b => by
              match i, a, b with
              | 0, a, b => cases a; cases b; exact .int _ _
              | 1, a, b => cases a; cases b; exact .int _ _
          | succ j => exact g3 j v k h1 h2
    obtain ⟨ks, hO⟩ := ex; have g1 := hO.1; have g2 := hO.2.1; have g3 := hO.2.2; clear hO
    have hks : ks.length = es.length := by rw [g1, Array.length_toList, a1, hl]
    have q' := q ks hks g2
    exact postListAt I (relL_tups g1.symm g3) q'.1 q'.2 _ (none_of_keeps k (none_size _)) he keep
section
variable {B : BC} {A : Around} {R : Nat → Prop} {H : Hp} {s : Shared} {Q : V → Hp → Prop}
theorem all_sound {v : Value} {a : V} {l : List Bool} (I : Inv B R s H) (r : Rel B s.heap H R v a) (e : lstOf H a = some (l.map V.bool)) (q : Q (.bool (l.all id)) H) (hr : Room A 0) :
    wpAny (model B.prog B.w) A (call (.builtin "all") [v] []) (PostE B R Q H s) noE s := by
  induction (lst_at I r e) with | mk a1 i1 n1 l1 r1 z1 => ?_
  have hb := bools_of r1
  have hz : i1.size = l.length := by rw [← Array.length_toList, hb, List.length_map]
  refine call_all_walk (wpAny_pyIter_list l1.isList ?_)
  have hne : a1 ≠ s.heap.objs.size := Nat.ne_of_lt (ltS l1)
  have hnx : ((s.heap.push { cls := .type "list_iterator", data := .fields #[.ref a1, .int 0 0] }).IsListIter s.heap.objs.size a1 0) := ⟨_, Heap.get?_push_size _ rfl, rfl, rfl⟩
  refine ⟨s.heap.objs.size, [s.heap.objs.size, a1], [s.heap.objs.size], i1.size, (fun i v => i1[i]? = some v), (fun i h => h.IsListIter s.heap.objs.size a1 i ∧ h.IsList a1 i1), fun i => l.getD i false, rfl, Walks.list (by exact hr.handled) _ a1 hne i1, ⟨hnx, (l1.push _).isList⟩, ?_, ?_⟩
  · intro i v s' Q' E' hP hQ
    have : (l.map Value.bool)[i]? = some v := by rw [← hb, Array.getElem?_toList]; exact hP
    rw [List.getElem?_map] at this
    obtain ⟨b, hl, rfl⟩ := Option.map_eq_some_iff.mp this
    refine wpAny_truthy_bool ?_
    exact (show l.getD i false = b by rw [List.getD_eq_getElem?_getD, hl]; rfl) ▸ hQ
  · intro h' tk k
    rw [hz, all_range]
    exact postGrown I (.bool _) q fun b o e => k b o (fun m => absurd (List.mem_singleton.mp m) (Nat.ne_of_lt (ltS e))) (Heap.get?_push_of_some _ e)
theorem prim_sound {p : Prim} {Vs : List V} {vs : List Value} (hq : primW p Vs H Q) (I : Inv B R s H) (rs : RelL B s.heap H R vs Vs) (hr : Room A 0) :
    wpAny (model B.prog B.w) A (call (primV p) vs []) (PostE B R Q H s) noE s := by
  induction hq with
  | abs q => induction rs.inv_one with
    | mk r => obtain ⟨t, rfl⟩ := r.inv_int; exact call_abs_int fun u tk => postInt I q _ _
  | int q => induction rs.inv_one with
    | mk r => obtain ⟨t, rfl⟩ := r.inv_int; exact call_int_int (.mk _ H (.int _ _) I (Step.refl _ _) q)
  | len e q => induction rs.inv_one with
    | mk r => exact len_sound I r e q
  | @max i j q => induction rs.inv_two with
    | mk r1 r2 =>
      obtain ⟨t, rfl⟩ := r1.inv_int; obtain ⟨t', rfl⟩ := r2.inv_int
      refine max_two_ints hr.handled fun h' tk k => postGrown I ?_ q k
      by_cases h : i < j
      · rw [if_pos h, if_pos (show j > i from h)]; exact .int _ _
      · rw [if_neg h, if_neg (show ¬ j > i from h)]; exact .int _ _
  | list e q => induction rs.inv_one with
    | mk r => exact list_sound I r e q
  | tuple e q => induction rs.inv_one with
    | mk r => exact tuple_sound I r e q
  | @str i h0 h1 q => induction rs.inv_one with
    | mk r =>
      obtain ⟨t, rfl⟩ := r.inv_int
      refine PySem.P.str_of_int (a := i) ?_ (postStr I q _ _)
      by_cases h0 : i.natAbs = 0
      · rw [h0]; decide
      · exact Nat.lt_trans ((Nat.log2_lt (k := 30) h0).mpr (by omega)) (by decide)
  | sorted e q => induction rs.inv_one with
    | mk r => induction e with
      | «ints» e h64 => exact sortedI_sound I r e h64 fun l' p1 p2 => q _ ⟨l', rfl, p1, p2⟩
      | dcI e h64 => exact sortedD_sound I r e h64 hr fun l' p1 p2 => q _ ⟨l', rfl, p1, p2⟩
      | dcT e h64 h2 => exact sortedT_sound I r e h64 h2 hr fun l' p1 p2 => q _ ⟨l', rfl, p1, p2⟩
  | all e q => induction rs.inv_one with
    | mk r => exact all_sound I r e q hr
end
end Mine.Internal
set_option maxRecDepth 100000
set_option linter.unusedVariables false
namespace Mine.Internal
open PySem PySem.W PyProof.Rows PySem.SeqAt
noncomputable def methId (n : String) : String :=
  if n = "append" then "list.append" else if n = "extend" then "list.extend" else if n = "pop" then "list.pop" else if n = "index" then "list.index" else "dict.get"
section
variable {B : BC} {A : Around} {E : Value → Shared → Prop} {R : Nat → Prop} {H : Hp} {s : Shared}
theorem getMeth_sound {v : Value} {a : V} {n : String} {pl : Sem Bool} {Q : Value × List Value → Shared → Prop} (hm : HasMeth H a n) (I : Inv B R s H) (ra : Rel B s.heap H R v a)
    (h : Q (.builtin (methId n), [v]) s) : wpAny (model B.prog B.w) A (getMethod v (Str.ofString n) pl) Q E s := by
  have dict : ∀ {a1 o}, s.TypeIs (.ref a1) "dict" → s.heap.get? a1 = some o → o.dict = none → Q (.builtin (methId "get"), [.ref a1]) s → wpAny (model B.prog B.w) A (getMethod (.ref a1) (Str.ofString "get") pl) Q E s :=
    fun hT ho hd h => getMethod_builtin hT F.plainAttrs_dict F.slot_dict_get F.type_dict_get (fun a e => Value.ref.inj e ▸ ⟨_, ho, hd⟩) h
  induction hm with
  | lst hn e =>
    induction (lst_at I ra e) with | mk a1 i1 n1 l1 r1 z1 => ?_
    have hd : ∀ a, Value.ref a1 = .ref a → ∃ o, s.heap.get? a = some o ∧ o.dict = none := fun a e => Value.ref.inj e ▸ ⟨_, l1, rfl⟩
    have hT : s.TypeIs (.ref a1) "list" := ⟨_, l1, rfl⟩
    cases hn with
    | head => exact getMethod_builtin hT F.plainAttrs_list F.slot_list_append F.type_list_append hd h
    | tail _ hn => cases hn with
      | head => exact getMethod_builtin hT F.plainAttrs_list F.slot_list_extend F.type_list_extend hd h
      | tail _ hn => cases hn with
        | head => exact getMethod_builtin hT F.plainAttrs_list F.slot_list_pop F.type_list_pop hd h
        | tail _ hn => cases hn with
          | head => exact getMethod_builtin hT F.plainAttrs_list F.slot_list_index F.type_list_index hd h
          | tail _ hn => cases hn
  | dcT e =>
    induction (dcT_at I ra e) with | mk a1 k1 n1 d1 _ => ?_
    obtain ⟨o, es, ep, hO⟩ := id d1; have ho := hO.1; have hx := hO.2.1; clear hO
    exact dict d1.typeIs ho hx.2.1 h
  | dcI e =>
    induction (dcI_at I ra e) with | mk a1 k1 n1 d1 _ => ?_
    obtain ⟨o, es, ep, hO⟩ := id d1; have ho := hO.1; have hx := hO.2.1; clear hO
    exact dict d1.mapOf.typeIs ho hx.2.1 h
end
theorem RelL.one {B : BC} {h H R} {v : Value} {V : Mine.Internal.V} (x : Rel B h H R v V) : RelL B h H R [v] [V] := RelL.cons x RelL.nil
theorem put_list {B : BC} {R s H} (I : Inv B R s H) {r n : Nat} {items : Array Value} {vs ws : List V} {f : Array Value → Array Value} {tk : Nat} (e : H r = some (.list vs)) (l : IsL s.heap r items n)
    (rl : RelL B s.heap H R (f items).toList ws) (hz : ws.length ≤ big) :
    Inv B R { s with heap := s.heap.update r (Obj.mapSeq f), toks := tk } (H.set r (.list ws)) ∧ Step s.heap H (s.heap.update r (Obj.mapSeq f)) (H.set r (.list ws)) :=
  I.put tk e rfl rfl (Heap.SameBut.update ..) fun rr => ⟨_, _, l.update f, ⟨rl.1, fun i v V p q => rr (rl.2 i v V p q)⟩, hz⟩
theorem list_of {B : BC} {R s H} (I : Inv B R s H) {r : Nat} {vs : List V} (e : H r = some (.list vs)) : OList B s.heap H R r vs := I.objs _ _ e
theorem size_eq {B : BC} {h H R} {items : Array Value} {vs : List V} (r : RelL B h H R items.toList vs) : items.size = vs.length := (Array.length_toList (xs := items)).symm.trans r.1
theorem append_sound {B : BC} {A : Around} {R H s Q} {r : Nat} {u : Value} {V : Mine.Internal.V} {vs : List Mine.Internal.V} (I : Inv B R s H) (e : H r = some (.list vs)) (ru : Rel B s.heap H R u V) (hb : vs.length < big)
    (q : Q .none (H.set r (.list (vs ++ [V])))) : wpAny (model B.prog B.w) A (call (.builtin "list.append") [.ref r, u]) (PostE B R Q H s) noE s := by
  induction (list_of I e) with | mk items n l rl hz => ?_
  have hs := size_eq rl
  refine call_meets F.slot_list_append ⟨_, l, rfl⟩ F.entry_list_append (F.args_list_append_2 _ _) (list_append r items n u (by rw [hs]; exact sizeLine_big hz)) ⟨l, ?_⟩
  have J := put_list (tk := s.toks) (f := fun xs => xs.push u) I e l (ws := vs ++ [V]) (by rw [Array.toList_push]; exact rl.append (RelL.one ru)) (by rw [List.length_append]; exact hb)
  exact ⟨.none, _, .none, J.1, J.2, q⟩
theorem extend_sound {B : BC} {A : Around} {R H s Q} {r : Nat} {u : Value} {vs ws : List Mine.Internal.V} (I : Inv B R s H) (e : H r = some (.list vs)) (ru : Rel B s.heap H R u (.lst ws)) (hb : vs.length + ws.length ≤ big)
    (q : Q .none (H.set r (.list (vs ++ ws)))) : wpAny (model B.prog B.w) A (call (.builtin "list.extend") [.ref r, u]) (PostE B R Q H s) noE s := by
  induction (list_of I e) with | mk items n l rl hz => ?_
  induction (lst_at I ru rfl) with | mk b items2 n2 l2 rl2 hz2 => ?_
  have hs := size_eq rl
  have hs2 := size_eq rl2
  have hb' : vs.length + ws.length ≤ 16000000 := hb
  refine call_meets F.slot_list_extend ⟨_, l, rfl⟩ F.entry_list_extend (F.args_list_extend_2 _ _) (AutoSeq1.list_extend_list_list_0 r items n b items2 n2 (by simp [Builtin.List.listTooLong, sizeLine]; omega) (by rw [hs]; exact sizeLine_big hz) (by have := sizeLine_big hb; exact li3 [_, _, _, _, _] ⟨0, .a (.v 0) (.v 1), .a (.v 2) (.n 1)⟩ ⟨0, .v 0, .v 3⟩ ⟨0, .v 1, .v 4⟩ ⟨0, .a (.v 3) (.v 4), .v 2⟩ rfl (Nat.le_of_eq hs) (Nat.le_of_eq hs2) this)) ⟨l, l2, ?_⟩
  have J := put_list (tk := s.toks) (f := fun xs => xs ++ items2) I e l (ws := vs ++ ws) (by rw [Array.toList_append]; exact rl.append rl2) (by rw [List.length_append]; exact hb)
  exact ⟨.none, _, .none, J.1, J.2, q⟩
theorem pop_sound {B : BC} {A : Around} {R H s Q} {r : Nat} {v : Mine.Internal.V} {vs : List Mine.Internal.V} (I : Inv B R s H) (e : H r = some (.list (vs ++ [v])))
    (q : Q v (H.set r (.list vs))) : wpAny (model B.prog B.w) A (call (.builtin "list.pop") [.ref r]) (PostE B R Q H s) noE s := by
  induction (list_of I e) with | mk items n l rl hz => ?_
  have hs := size_eq rl
  have hl : items.toList.length = vs.length + 1 := by rw [rl.1]; simp
  rw [List.length_append] at hs hz
  have hs : items.size = vs.length + 1 := hs
  obtain ⟨y, hy⟩ : ∃ y, items.toList[vs.length]? = some y := ⟨_, List.getElem?_eq_getElem (by exact (Nat.le_of_eq hl.symm))⟩
  have ry := rl.2 vs.length y v hy (by simp)
  refine call_meets F.slot_list_pop ⟨_, l, rfl⟩ F.entry_list_pop (F.args_list_pop_1 _) (MeetsSeq.list_pop_last r items n y (by rw [hs, ← Array.getElem?_toList]; exact hy) (by rw [hs]; exact sizeLine_big hz)) ⟨l, ?_⟩
  have J := put_list (tk := s.toks) (f := fun xs => xs.eraseIdxIfInBounds (items.size - 1)) I e l (ws := vs) (by
      have e1 : (items.eraseIdxIfInBounds (items.size - 1)).toList = items.toList.take vs.length := by
        rw [hs]
        have : vs.length < items.size := by exact (Nat.le_of_eq hs.symm)
        simp only [Nat.add_sub_cancel, Array.eraseIdxIfInBounds, this, dif_pos, Array.toList_eraseIdx]
        rw [List.eraseIdx_eq_take_drop_succ, List.drop_of_length_le (by exact (Nat.le_of_eq hl)), List.append_nil]
      rw [e1]
      have := RelL.take rl vs.length
      rwa [List.take_left] at this) (by exact Nat.le_trans (Nat.le_add_right _ _) hz)
  exact ⟨v, _, ry.step J.2, J.1, J.2, q⟩
theorem idxOf_le_of {α : Type} [BEq α] [LawfulBEq α] : ∀ {l : List α} {m : Nat} {h : m < l.length} {x : α}, l[m] = x → l.idxOf x ≤ m
  | a :: l, 0, _, x, e => by simp at e; subst e; simp
  | a :: l, m + 1, h, x, e => by
    rw [List.idxOf_cons]
    cases hb : (a == x)
    case true => exact Nat.zero_le _
    case false =>
      have := idxOf_le_of (l := l) (m := m) (h := by simpa using h) (x := x) (by simpa using e)
      exact li1 [_, _] ⟨0, .a (.v 0) (.n 1), .a (.v 1) (.n 1)⟩ ⟨0, .v 0, .v 1⟩ rfl this
theorem index_sound {B : BC} {A : Around} {R H s Q} {v u : Value} {a : V} {l : List String} {x : String} (I : Inv B R s H) (ra : Rel B s.heap H R v a) (ru : Rel B s.heap H R u (.str x)) (e : lstOf H a = some (l.map V.str)) (hx : x ∈ l) (hb : l.length ≤ 1000)
    (q : Q (.int (l.idxOf x)) H) : wpAny (model B.prog B.w) A (call (.builtin "list.index") [v, u]) (PostE B R Q H s) noE s := by
  induction (lst_at I ra e) with | mk a1 items n l1 r1 z1 => ?_
  obtain ⟨t, rfl⟩ := ru.inv_str
  have hs := size_eq r1
  rw [List.length_map] at hs
  have hj : l.idxOf x < l.length := List.idxOf_lt_length_iff.mpr hx
  have at_ : ∀ (j : Nat) (hj : j < items.size), ∃ y t, l[j]? = some y ∧ items[j] = .str (Str.ofString y) t := fun j hj => by
    have h1 : items.toList[j]? = some items[j] := by rw [Array.getElem?_toList]; exact Array.getElem?_eq_getElem hj
    obtain ⟨y, hy⟩ : ∃ y, l[j]? = some y := ⟨_, List.getElem?_eq_getElem (by exact Nat.le_trans hj (Nat.le_of_eq hs))⟩
    obtain ⟨t, ht⟩ := (r1.2 j _ (.str y) h1 (by rw [List.getElem?_map, hy]; rfl)).inv_str
    exact ⟨y, t, hy, ht⟩
  let g : Value → Bool := fun y => match y with | .str y _ => y == Str.ofString x | _ => false
  refine call_meets F.slot_list_index ⟨_, l1, rfl⟩ F.entry_list_index (F.args_list_index_2 _ _) (MeetsSeq.list_index a1 items n _ g (fun y hy => ?_) (l.idxOf x) (by exact Nat.le_trans hj (Nat.le_of_eq hs.symm)) (by omega) ?_ ?_) ⟨l1, ?_⟩
  · obtain ⟨j, hj, rfl⟩ := Array.getElem_of_mem hy
    obtain ⟨y, t', hO⟩ := at_ j hj; have hy := hO.1; have e := hO.2; clear hO
    rw [e]; exact eqGives_str _ _ _ _
  · obtain ⟨y, t', hO⟩ := at_ (l.idxOf x) (by exact Nat.le_trans hj (Nat.le_of_eq hs.symm)); have hy := hO.1; have e := hO.2; clear hO
    rw [e]
    rw [List.getElem?_eq_getElem hj, List.getElem_idxOf] at hy
    cases hy
    exact beq_self_eq_true _
  · intro m hm hlt
    obtain ⟨y, t', hO⟩ := at_ m hm; have hy := hO.1; have e := hO.2; clear hO
    rw [e]
    rw [beq_eq_false_iff_ne]
    intro he
    have he := ofString_inj he
    subst he
    have h1 : m < l.length := by exact Nat.le_trans hm (Nat.le_of_eq hs)
    rw [List.getElem?_eq_getElem h1] at hy
    simp at hy
    have h2 := idxOf_le_of hy
    omega
  · exact postInt I q _ _
theorem getI_sound {B : BC} {A : Around} {R H s Q} {v u w : Value} {a d : V} {es : List (Int × Mine.Internal.V)} {k : Int} (I : Inv B R s H) (ra : Rel B s.heap H R v a) (ru : Rel B s.heap H R u (.int k)) (rw' : Rel B s.heap H R w d) (e : dcIOf H a = some es)
    (q : Q ((es.lookup k).getD d) H) : wpAny (model B.prog B.w) A (call (.builtin "dict.get") [v, u, w]) (PostE B R Q H s) noE s := by
  induction (dcI_at I ra e) with | mk a1 k1 n1 d1 e1 r1 => ?_
  obtain ⟨t, rfl⟩ := ru.inv_int
  refine call_meetsIn F.slot_dict_get d1.mapOf.typeIs F.entry_dict_get (F.args_dict_get_3 _ _ _) (meets_dict_get_default (intKeys B) a1 (intKind_is _ _ k t) n1 w) ⟨_, d1.mapOf, ?_⟩
  have o : OptR (Rel B s.heap H R) (valueAt k1 k) _ := find_opt k e1 r1
  revert q
  generalize valueAt k1 k = x, es.lookup k = y at o ⊢
  cases o with
  | none => exact fun q => .mk _ H rw' (I.toks _) (Step.refl _ _) q
  | some r => exact fun q => .mk _ H r (I.toks _) (Step.refl _ _) q
theorem getT_sound {B : BC} {A : Around} {R H s Q} {v u w : Value} {a d : V} {es : List (List Int × Mine.Internal.V)} {k : List Int} (I : Inv B R s H) (ra : Rel B s.heap H R v a) (ru : Rel B s.heap H R u (.tup (k.map V.int))) (rw' : Rel B s.heap H R w d) (e : dcTOf H a = some es)
    (hr : Room A 0) (q : Q ((es.lookup k).getD d) H) : wpAny (model B.prog B.w) A (call (.builtin "dict.get") [v, u, w]) (PostE B R Q H s) noE s := by
  induction (dcT_at I ra e) with | mk a1 k1 n1 d1 _ e1 r1 => ?_
  induction (tupKey ru) with | mk a0 hk _ => ?_
  refine call_meetsIn F.slot_dict_get d1.typeIs F.entry_dict_get (F.args_dict_get_3 _ _ _) (meetsH_dict_get_default (tupKeys B) a1 a0 n1 w) ⟨hr.u', k, k1, hk, d1, ?_⟩
  have o : OptR (fun (p : Nat × Value) => Rel B s.heap H R p.2) (atKey k1 k) _ := find_opt k e1 r1
  revert q
  generalize atKey k1 k = x, es.lookup k = y at o ⊢
  cases o with
  | none => exact fun q => .mk _ H rw' (I.toks _) (Step.refl _ _) q
  | some r => exact fun q => .mk _ H r (I.toks _) (Step.refl _ _) q
theorem methW_sound {B : BC} {A : Around} {R H s Q} {v : Value} {vs : List Value} {a : V} {n : String} {Vs : List Mine.Internal.V} (hq : methW a n Vs H Q) (I : Inv B R s H) (ra : Rel B s.heap H R v a) (rs : RelL B s.heap H R vs Vs) (hr : Room A 0) :
    wpAny (model B.prog B.w) A (call (.builtin (methId n)) (v :: vs)) (PostE B R Q H s) noE s := by
  induction hq with
  | append e hb q => induction rs.inv_one with
    | mk ru => cases ra.inv_ref; exact append_sound I e ru hb q
  | extend e hb q => induction rs.inv_one with
    | mk ru => cases ra.inv_ref; exact extend_sound I e ru hb q
  | pop e q => cases rs.inv_nil; cases ra.inv_ref; exact pop_sound I e q
  | index e hx hb q => induction rs.inv_one with
    | mk ru => exact index_sound I ra ru e hx hb q
  | getT e q => induction rs.inv_two with
    | mk ru rw' => exact getT_sound I ra ru rw' e hr q
  | getI e q => induction rs.inv_two with
    | mk ru rw' => exact getI_sound I ra ru rw' e q
end Mine.Internal
set_option maxRecDepth 100000
set_option linter.unusedVariables false
namespace Mine.Internal
open PySem PySem.W PyProof.Rows PySem.SeqAt
theorem Sub.out {K H : Hp} (x : Sub K H) {a : Nat} (o : Out H a) : Out K a :=
  ⟨x.no o.1, fun c as q => o.2 c as (x _ _ q)⟩
theorem Inv.shrink {B : BC} {R : Nat → Prop} {s : Shared} {H K : Hp} (I : Inv B R s H) (x : Sub K H) : Inv B R s K ∧ Step s.heap H s.heap K :=
  ⟨⟨fun a o e => (I.objs a o (x a o e)).change (fun b o e q r => ⟨e, x.out q, r⟩) (fun o e => e) (fun d c as z y n o e => ⟨e, x.no n⟩),
    fun b o e => ⟨(I.base b o e).1, x.out (I.base b o e).2.1, (I.base b o e).2.2⟩, fun a r => ⟨x.out (I.res a r).1, (I.res a r).2⟩, I.lo, I.gens, I.os⟩, ⟨fun b o e q => ⟨e, x.out q⟩⟩⟩
theorem get_len {α β : Type} {as : List α} {bs : List β} (l : as.length = bs.length) {i : Nat} {b : β} (q : bs[i]? = some b) : ∃ a, as[i]? = some a :=
  ⟨_, List.getElem?_eq_getElem (l ▸ (List.getElem?_eq_some_iff.mp q).1)⟩
theorem len_keys {κ α β : Type} {as : List (κ × α)} {bs : List (κ × β)} (e : as.map (·.1) = bs.map (·.1)) : as.length = bs.length := by
  have := congrArg List.length e; rwa [List.length_map, List.length_map] at this
theorem lookup_opt {κ α β : Type} [BEq κ] {T : α → β → Prop} {as : List (κ × α)} {bs : List (κ × β)} (n : κ) (e : as.map (·.1) = bs.map (·.1)) (r : ∀ (i : Nat) x y, as[i]? = some x → bs[i]? = some y → T x.2 y.2) : OptR T (as.lookup n) (bs.lookup n) := by
  induction as generalizing bs with
  | nil => cases bs with
    | nil => exact .none
    | cons => cases e
  | cons x as ih => cases bs with
    | nil => cases e
    | cons y bs =>
      rw [List.lookup_cons, List.lookup_cons, show x.1 = y.1 from (List.cons.inj e).1]
      cases n == y.1 with
      | true => exact .some (r 0 x y rfl rfl)
      | false => exact ih (List.cons.inj e).2 fun i => r (i + 1)
section
variable {B : BC} {R : Nat → Prop} {s : Shared} {H K : Hp}
theorem rel_sub (I : Inv B R s H) (x : Sub K H) {v : Value} {V : V} (r : Rel B s.heap H R v V) : Rel B s.heap K R v V := r.step (I.shrink x).2
theorem out_at (I : Inv B R s H) (x : Sub K H) {a : Nat} {o : O} (e : H a = some o) (k : K a = none) : Out K a ∧ ¬ R a :=
  ⟨⟨k, fun c as q => by have := (I.hidden (x _ _ q)).1; rw [e] at this; cases this⟩, fun r => by have := (I.res a r).1.1; rw [e] at this; cases this⟩
theorem vv_rel (I : Inv B R s H) (x : Sub K H) {V W : Mine.Internal.V} (z : VV H K V W) : ∀ {v}, Rel B s.heap H R v V → Rel B s.heap K R v W := by
  induction z with
  | rfl => exact fun r => rel_sub I x r
  | lstP e k z _ ih =>
    intro v r
    cases r.inv_ref
    induction (I.objs _ _ e) with | mk items n l rl hz => ?_
    have o := out_at I x e k
    exact .lst l o.1 o.2 (rl.1.trans z) (z ▸ hz) fun i u W p q => let ⟨V, h⟩ := get_len z q; ih i V W h q (rl.2 i u V p h)
  | dcIP e k z _ ih =>
    intro v r
    cases r.inv_ref
    induction (I.objs _ _ e) with | mk n1 kvs d e1 l => ?_
    have o := out_at I x e k
    exact .dcI n1 d o.1 o.2 (e1.trans z) fun i u W p q => let ⟨V, h⟩ := get_len (len_keys z) q; ih i V W h q (l i u V p h)
  | dcTP e k z _ ih =>
    intro v r
    cases r.inv_ref
    induction (I.objs _ _ e) with | mk n1 kvs d kk e1 l => ?_
    have o := out_at I x e k
    exact .dcT n1 d o.1 o.2 (fun x' hx => ⟨(kk x' hx).1, x.out (kk x' hx).2.1, (kk x' hx).2.2⟩) (e1.trans z) fun i u W p q => let ⟨V, h⟩ := get_len (len_keys z) q; ih i V W h q (l i u V p h)
  | @objP a c as bs e k z _ ih =>
    intro v r
    cases r.inv_ref
    obtain ⟨d, es, n, val, rfl, e1, e2, e3, A, L, z1, z2, l⟩ := I.objs _ _ e
    have o := out_at I x e k
    have od : Out K d := ⟨x.no e3, fun c as q => by rw [k] at q; cases q⟩
    have q : ∀ n, OptR (fun V W => ∀ {v}, Rel B s.heap H R v V → Rel B s.heap K R v W) (as.lookup n) (bs.lookup n) := fun n => lookup_opt n z ih
    exact .obj e1 e2 o.1 od o.2 (fun r => (I.res d r).1.2 _ _ e) A (L.trans (len_keys z)) (fun n h => z1 n (by have := q n; rw [h] at this; generalize as.lookup n = y at this; cases this; rfl))
      (fun n V h => let ⟨V', h', _⟩ := optR_at (q n) h; z2 n V' h') fun n v V a b => let ⟨V', h', hr⟩ := optR_at (q n) b; hr (l n v V' a h')
  | tupP z _ ih =>
    intro v r
    induction r.inv_tup with | mk a items n e o rr l hz => ?_
    exact .tup e (x.out o) rr (l.1.trans z) (z ▸ hz) fun i u W p q => let ⟨V, h⟩ := get_len z q; ih i V W h q (l.2 i u V p h)
  | inlP z _ ih =>
    intro v r
    induction r.inv_lst with | mk a items n e o rr l hz => ?_
    exact .lst e (x.out o) rr (l.1.trans z) (z ▸ hz) fun i u W p q => let ⟨V, h⟩ := get_len z q; ih i V W h q (l.2 i u V p h)
theorem freeze {Q : V → Hp → Prop} {v : Value} {V W : Mine.Internal.V} (I : Inv B R s H) (r : Rel B s.heap H R v V) (x : Sub K H) (z : VV H K V W) (q : Q W K) : PostE B R Q H s v s :=
  ⟨W, K, vv_rel I x z r, (I.shrink x).1, (I.shrink x).2, q⟩
end
end Mine.Internal
set_option maxRecDepth 100000
set_option linter.unusedVariables false
namespace Mine.Internal
open PySem PySem.W PyProof.Rows PySem.SeqAt
structure BaseK (B : BC) : Prop where
  kin : B.K.In B.base
  cls : ClsOk B.K B.ca B.fa
theorem Inv.kin {B : BC} {R s H} (I : Inv B R s H) (b : BaseK B) : B.K.In s.heap := fun a o e => (I.base a o (b.kin a o e)).1
section
variable {prog : Program} {w : World} {A : Around} {E : Value → Shared → Prop} {s : Shared}
theorem setItem_L {l : Nat} {items : Array Value} {n : Nat} {k : Int} {t : Tok} {v : Value} {Q : Unit → Shared → Prop} (hl : IsL s.heap l items n)
    (h0 : 0 ≤ k) (hfit : k < 2 ^ 63) (hn : k < items.size)
    (hQ : Q () { s with heap := s.heap.update l (Obj.mapSeq (·.setIfInBounds k.toNat v)) }) :
    wpAny (model prog w) A (setItem (.ref l) (.int k t) v) Q E s := by
  have hT : s.TypeIs (.ref l) "list" := ⟨_, hl, rfl⟩
  unfold setItem
  try with_reducible refine wpAny_holding ?_
  first | refine wpAny_bind (wpAny_pure ?_) | skip
  refine wpAny_bind (wpAny_sequenceKey hT (by decide) ?_)
  refine wpAny_bind (wpAny_callSpecial?_slot (name := Str.ofString "__setitem__") hT slot_list_setitem
    (wpAny_call_entry slot_list_setitem hT entry_list_setitem ?_ (args_list_setitem _ _ _)))
  show wpAny _ _ (Builtin.List.listSubscript? (.int k t) >>= _) _ _ s
  refine wpAny_bind (wpAny_listSubscript_int (fitsIndex_of h0 hfit) ?_)
  clear hfit
  obtain ⟨j, rfl⟩ := Int.eq_ofNat_of_zero_le h0
  have hj : j < items.size := by exact (Int.ofNat_lt.1 hn)
  have hx' : items[j]? = some items[j] := Array.getElem?_eq_getElem hj
  show wpAny _ _ ((seqItemAt l j >>= fun r => pure (r.map (j, ·))) >>= _) _ _ s
  refine wpAny_bind (wpAny_bind (wpAny_seqItemAt hl rfl (wpAny_pure ?_)))
  rw [hx']
  show wpAny _ _ (setSeqItemAt l j v >>= _) _ _ s
  refine wpAny_bind (wpAny_setSeqItemAt hl rfl ?_)
  first
    | exact wpAny_bind (wpAny_pure (wpAny_pure ⟨.none, rfl, wpAny_pure hQ⟩))
    | exact wpAny_pure ⟨.none, rfl, wpAny_pure hQ⟩
end
noncomputable def storG {κ α : Type} [DecidableEq κ] (k : κ) (g : α → α) (a0 : α) (l : List (κ × α)) : List (κ × α) :=
  if l.any (fun kv => kv.1 = k) then l.map (fun kv => if kv.1 = k then (kv.1, g kv.2) else kv) else l ++ [(k, a0)]
noncomputable def putA {κ α : Type} [DecidableEq κ] (k : κ) (g : α → α) (a0 : α) : List (κ × α) → List (κ × α)
  | [] => [(k, a0)]
  | e :: l => if e.1 = k then (e.1, g e.2) :: l else e :: putA k g a0 l
theorem storG_putA {κ α : Type} [DecidableEq κ] (k : κ) (g : α → α) (a0 : α) (l : List (κ × α)) (hn : (l.map (·.1)).Nodup) : storG k g a0 l = putA k g a0 l := by
  induction l with
  | nil => rfl
  | cons e l ih =>
    have ih := ih (List.nodup_cons.mp hn).2
    unfold storG at ih ⊢
    unfold putA
    by_cases h : e.1 = k
    · rw [if_pos h, if_pos (List.any_eq_true.mpr ⟨e, List.mem_cons_self, decide_eq_true h⟩), List.map_cons, if_pos h]
      refine congrArg (List.cons _) ((List.map_congr_left fun x hx => if_neg fun q => (List.nodup_cons.mp hn).1 ?_).trans (List.map_id' l))
      show e.1 ∈ _
      rw [h, ← q]; exact List.mem_map_of_mem hx
    · rw [if_neg h, List.any_cons, decide_eq_false h, Bool.false_or, List.map_cons, if_neg h, ← ih]
      split <;> rfl
inductive PL {κ α : Type} (P : α → V → Prop) : List (κ × α) → List (κ × V) → Prop
  | nil : PL P [] []
  | cons {k x y as bs} : P x y → PL P as bs → PL P ((k, x) :: as) ((k, y) :: bs)
theorem PL.of {κ α : Type} {P : α → V → Prop} {as : List (κ × α)} {bs : List (κ × V)} (e : as.map (·.1) = bs.map (·.1)) (h : ∀ (i : Nat) x y, as[i]? = some x → bs[i]? = some y → P x.2 y.2) : PL P as bs := by
  induction as generalizing bs with
  | nil => exact List.map_eq_nil_iff.mp e.symm ▸ .nil
  | cons x as ih => cases bs with
    | nil => cases e
    | cons y bs =>
      obtain ⟨k, x⟩ := x; obtain ⟨k', y⟩ := y
      cases (show k = k' from (List.cons.inj e).1)
      exact .cons (h 0 _ _ rfl rfl) (ih (List.cons.inj e).2 fun i => h (i + 1))
theorem PL.at {κ α : Type} {P : α → V → Prop} {as : List (κ × α)} {bs : List (κ × V)} (h : PL P as bs) : as.map (·.1) = bs.map (·.1) ∧ ∀ (i : Nat) x y, as[i]? = some x → bs[i]? = some y → P x.2 y.2 := by
  induction h with
  | nil => exact ⟨rfl, fun z0 z0 z0 h => dead h⟩
  | cons a _ ih => exact ⟨congrArg (List.cons _) ih.1, fun i => match i with
    | 0 => fun z0 z0 p q => Option.some.inj p ▸ Option.some.inj q ▸ a
    | i + 1 => ih.2 i⟩
theorem put_pairs {κ α : Type} [BEq κ] [LawfulBEq κ] [DecidableEq κ] {P : α → V → Prop} (k : κ) (g : α → α) (a : α) (b : V) (hab : P a b) (hg : ∀ x, P (g x) b) (as : List (κ × α)) (bs : List (κ × V)) (e : as.map (·.1) = bs.map (·.1)) (hn : (as.map (·.1)).Nodup)
    (h : ∀ (i : Nat) x y, as[i]? = some x → bs[i]? = some y → P x.2 y.2) :
    (storG k g a as).map (·.1) = (putK k b bs).map (·.1) ∧ ∀ (i : Nat) x y, (storG k g a as)[i]? = some x → (putK k b bs)[i]? = some y → P x.2 y.2 := by
  rw [storG_putA _ _ _ _ hn]
  refine PL.at ?_
  have z := PL.of e h
  clear e h hn
  induction z with
  | nil => exact .cons hab .nil
  | @cons j x y as bs p z ih =>
    unfold putA putK
    by_cases h : j = k
    · rw [if_pos h, if_pos (beq_iff_eq.mpr h)]; exact .cons (hg x) z
    · rw [if_neg h, if_neg (fun q => h (beq_iff_eq.mp q))]; exact .cons p ih
theorem storG_mem {κ α : Type} [DecidableEq κ] {k : κ} {g : α → α} {a0 : α} {l : List (κ × α)} {x : κ × α} (h : x ∈ storG k g a0 l) : (∃ y ∈ l, x = y ∨ (x.1 = y.1 ∧ x.2 = g y.2)) ∨ x = (k, a0) := by
  unfold storG at h
  split at h
  · obtain ⟨y, hO⟩ := List.mem_map.mp h; have hy := hO.1; have e := hO.2; clear hO
    split at e
    · subst e; exact .inl ⟨y, hy, .inr ⟨rfl, rfl⟩⟩
    · subst e; exact .inl ⟨y, hy, .inl rfl⟩
  · rcases List.mem_append.mp h with h | h
    · exact .inl ⟨x, h, .inl rfl⟩
    · exact .inr (List.mem_singleton.mp h)
theorem storedH_storG {κ : Type} [DecidableEq κ] (l : List (κ × Nat × Value)) (k : κ) (a : Nat) (v : Value) : storedH l k a v = storG k (fun p => (p.1, v)) (a, v) l := by
  unfold storedH storG
  have : (atKey l k).isSome = l.any (fun kv => decide (kv.1 = k)) := by
    unfold atKey; rw [Option.isSome_map, Bool.eq_iff_iff, List.find?_isSome]; simp
  rw [this]
  rfl
inductive PostH (B : BC) (R : Nat → Prop) (Q : Hp → Prop) (H : Hp) (s : Shared) (s' : Shared) : Prop
  | mk (H') : Inv B R s' H' → Step s.heap H s'.heap H' → Q H' → PostH B R Q H s s'
section
variable {B : BC} {A : Around} {R : Nat → Prop} {H : Hp} {s : Shared} {Q : Hp → Prop} {r : Nat} {u : Value} {V : Mine.Internal.V}
theorem RelL.set {vs : List Value} {Vs : List Mine.Internal.V} (rl : RelL B s.heap H R vs Vs) (ru : Rel B s.heap H R u V) (k : Nat) : RelL B s.heap H R (vs.set k u) (Vs.set k V) := by
  refine ⟨by rw [List.length_set, List.length_set]; exact rl.1, fun i v W p q => ?_⟩
  by_cases hi : k = i
  · subst hi
    have h1 := (List.getElem?_eq_some_iff.mp p).1
    have h2 := (List.getElem?_eq_some_iff.mp q).1
    rw [List.length_set] at h1 h2
    rw [List.getElem?_set_self h1] at p; rw [List.getElem?_set_self h2] at q
    exact Option.some.inj p ▸ Option.some.inj q ▸ ru
  · rw [List.getElem?_set_ne hi] at p q
    exact rl.2 i v W p q
theorem listI_sound {vs : List Mine.Internal.V} {n : Nat} {t : Tok} (I : Inv B R s H) (e : H r = some (.list vs)) (ru : Rel B s.heap H R u V) (hn : n < vs.length)
    (q : Q (H.set r (.list (vs.set n V)))) : wpAny (model B.prog B.w) A (setItem (.ref r) (.int (n : Int) t) u) (fun z0 => PostH B R Q H s) noE s := by
  induction (list_of I e) with | mk items c l rl hz => ?_
  have hs := size_eq rl
  have hz' : vs.length ≤ 16000000 := hz
  refine setItem_L l (Int.natCast_nonneg n) (by omega) (by exact Int.ofNat_lt.2 (Nat.le_trans hn (Nat.le_of_eq hs.symm))) ?_
  have J := put_list (tk := s.toks) (f := fun xs => xs.setIfInBounds n u) I e l (ws := vs.set n V) (by rw [Array.toList_setIfInBounds]; exact rl.set ru n) (by rw [List.length_set]; exact hz)
  exact ⟨_, J.1, J.2, q⟩
theorem dictI_sound {es : List (Int × Mine.Internal.V)} {n : Int} {t : Tok} (I : Inv B R s H) (e : H r = some (.dcI es)) (ru : Rel B s.heap H R u V) (hb : es.length < big)
    (q : Q (H.set r (.dcI (putK n V es)))) : wpAny (model B.prog B.w) A (setItem (.ref r) (.int n t) u) (fun z0 => PostH B R Q H s) noE s := by
  induction (I.objs _ _ e) with | mk n1 kvs d e1 l => ?_
  refine wpAny_setItem_pairs (knd := intKeys B) (intKind_is _ _ n t) d (fun h' d' k => ?_) (by rw [len_keys e1]; exact sizeLine_big' hb)
  have J := I.put (o' := .dcI (putK n V es)) (s.toks + 1) e rfl rfl k fun rr =>
    have z := put_pairs (P := Rel B h' (H.set r (.dcI (putK n V es))) R) n (fun z0 => u) u V (rr ru) (fun z0 => rr ru) kvs es e1 d.dictAt.choose_spec.nodup fun i x y p q => rr (l i x y p q)
    .mk n1 _ d' z.1 z.2
  exact ⟨_, J.1, J.2, q⟩
theorem out_set {es : List (List Int × Mine.Internal.V)} {o} (e : H r = some o) {b : Nat} (q : Out H b) : Out (H.set r (.dcT es)) b := by
  have hb : b ≠ r := fun x => nomatch (x ▸ q.1).symm.trans e
  refine ⟨by rw [Hp.set_ne _ _ hb]; exact q.1, fun c as e => ?_⟩
  by_cases h1 : b + 1 = r
  · rw [h1, Hp.set_same] at e; cases e
  · rw [Hp.set_ne _ _ h1] at e; exact q.2 c as e
theorem dictT_sound {es : List (List Int × Mine.Internal.V)} {n : List Int} {a0 : Nat} (I : Inv B R s H) (e : H r = some (.dcT es)) (hk : (tupKeys B).is s.heap n a0) (hK : KeyAt s.heap H R a0) (ru : Rel B s.heap H R u V) (hb : es.length < big) (hr : Room A 0)
    (q : Q (H.set r (.dcT (putK n V es)))) : wpAny (model B.prog B.w) A (setItem (.ref r) (.ref a0) u) (fun z0 => PostH B R Q H s) noE s := by
  induction (I.objs _ _ e) with | mk n1 kvs d kk e1 l => ?_
  have hn : (kvs.map (·.1)).Nodup := by obtain ⟨_, _, _, _, _, _, _, _, hn⟩ := d; exact hn
  refine wpAny_setItem_heap (knd := tupKeys B) hr.u' hk d (fun h' d' k => ?_) (by rw [len_keys e1]; exact sizeLine_big' hb)
  have kt : ∀ b, KeyAt s.heap H R b → KeyAt h' (H.set r (.dcT (putK n V es))) R b := fun b ⟨⟨i, z, e'⟩, o, rr⟩ => ⟨⟨i, z, (k.2 b fun x => nomatch (x ▸ o.1).symm.trans e).trans e'⟩, out_set e o, rr⟩
  have mem : ∀ x ∈ storedH kvs n a0 u, KeyAt s.heap H R x.2.1 := fun x hx => by
    rw [storedH_storG] at hx
    rcases storG_mem hx with ⟨y, hy, rfl | ⟨_, e2⟩⟩ | rfl
    · exact kk _ hy
    · rw [e2]; exact kk _ hy
    · exact hK
  have J := I.put (o' := .dcT (putK n V es)) (s.toks + (tupKeys B).draws n) e rfl rfl k fun rr =>
    have z := put_pairs (P := fun (v : Nat × Value) W => Rel B h' (H.set r (.dcT (putK n V es))) R v.2 W) n (fun p => (p.1, u)) (a0, u) V (rr ru) (fun z0 => rr ru) kvs es e1 hn fun i x y p q => rr (l i x y p q)
    .mk n1 _ d' (fun x hx => kt _ (mem x hx))
      (by rw [storedH_storG]; exact z.1) (by rw [storedH_storG]; exact z.2)
  exact ⟨_, J.1, J.2, q⟩
theorem setItemW_sound {v x : Value} {a i : Mine.Internal.V} (hq : setItemW a i V H Q) (I : Inv B R s H) (ra : Rel B s.heap H R v a) (ri : Rel B s.heap H R x i) (ru : Rel B s.heap H R u V) (hr : Room A 0) :
    wpAny (model B.prog B.w) A (setItem v x u) (fun z0 => PostH B R Q H s) noE s := by
  induction hq with
  | list e hk q => cases ra.inv_ref; obtain ⟨t, rfl⟩ := ri.inv_int; exact listI_sound I e ru hk q
  | dcI e hb q => cases ra.inv_ref; obtain ⟨t, rfl⟩ := ri.inv_int; exact dictI_sound I e ru hb q
  | dcT e hb q => cases ra.inv_ref; obtain ⟨a0, hk, hK⟩ := tupKey ri; exact dictT_sound I e hk hK ru hb hr q
end
end Mine.Internal
set_option maxRecDepth 100000
set_option linter.unusedVariables false
namespace Mine.Internal
open PySem PySem.W PyProof.Rows PySem.SeqAt
inductive ObjAt (B : BC) (s : Shared) (H : Hp) (R : Nat → Prop) (c : Cid) (as : List (String × V)) : Value → Prop
  | mk (d es n val) : s.heap.get? (d + 1) = some (instObj (B.ca c) d) → s.heap.get? d = some (dictOf es n) → Attrs es val → es.length = as.length →
      (∀ n, as.lookup n = none → val n = none) → (∀ n V, as.lookup n = some V → ∃ v, val n = some v) → (∀ n v V, val n = some v → as.lookup n = some V → Rel B s.heap H R v V) → ObjAt B s H R c as (.ref (d + 1))
theorem inst_at {B : BC} {s : Shared} {H R v V c as} (I : Inv B R s H) (x : Rel B s.heap H R v V) (e : instOf H V = some (c, as)) : ObjAt B s H R c as v := by
  cases instOf_inv e with
  | obj => obtain ⟨d, es, n, val, e1, e2, _, _, _, _, A, L, z1, z2, l⟩ := x.inv_obj; exact .mk d es n val e1 e2 A L z1 z2 l
  | ref h => cases x.inv_ref; obtain ⟨d, es, n, val, rfl, e1, e2, e3, A, L, z1, z2, l⟩ := I.objs _ _ h; exact .mk d es n val e1 e2 A L z1 z2 l
theorem Attrs.get {es : List DictEntry} {val : String → Option Value} (A : Attrs es val) (n : String) : PySem.W.getL (Str.ofString n) es = some (val n) := by
  have h := A.2 n
  unfold PySem.W.getL
  cases q : es.find? (fun x => x.key.isStr (Str.ofString n)) with
  | some e => rw [q] at h; rw [← h]; rfl
  | none =>
    rw [q] at h
    have : es.any (·.refKey) = false := by
      rw [List.any_eq_false]
      intro e he
      obtain ⟨x, t, hk⟩ := A.1 e he
      unfold DictEntry.refKey
      rw [hk]; exact Bool.false_ne_true
    rw [this, if_neg Bool.false_ne_true, ← h]; rfl
theorem Rel.handed {B : BC} {h H R v V} (x : Rel B h H R v V) : handedIn v = true := by induction x <;> rfl
theorem inst_InstAt {h : Heap} {d : Nat} {C : Nat} {es n} (e1 : h.get? (d + 1) = some (instObj C d)) (e2 : h.get? d = some (dictOf es n)) : InstAt h (d + 1) (instObj C d) C (some (dictOf es n)) := ⟨e1, rfl, rfl, e2⟩
theorem attr_sound {B : BC} (b : BaseK B) {A : Around} {R H s Q} {v : Value} {a W : V} {c : Cid} {as : List (String × V)} {n : String} {expr : Bool} (I : Inv B R s H) (ra : Rel B s.heap H R v a) (e : instOf H a = some (c, as)) (hn : n ∈ c.attrs)
    (hl : as.lookup n = some W) (q : Q W H) : wpAny (model B.prog B.w) A (getAttr v (Str.ofString n) expr) (PostE B R Q H s) noE s := by
  induction (inst_at I ra e) with | mk d es m val e1 e2 A' L z1 z2 l => ?_
  obtain ⟨x, hx⟩ := z2 n W hl
  have rx := l n x W hx hl
  refine get_value (I.kin b) (inst_InstAt e1 e2) (plainGet_of (b.cls.get c)).1 (findObj_own (b.cls.dict c) (b.cls.attr c n hn) rfl (v := x) ?_) rx.handed ⟨W, H, rx, I.toks _, Step.refl _ _, q⟩
  rw [lookIn_dict, A'.get, hx]
theorem getMethI_sound {B : BC} (b : BaseK B) {A : Around} {E : Value → Shared → Prop} {R H s} {v : Value} {a : V} {c : Cid} {as : List (String × V)} {n : String} {f : Fid} {pl : Sem Bool} {Q : Value × List Value → Shared → Prop} (I : Inv B R s H) (ra : Rel B s.heap H R v a)
    (e : instOf H a = some (c, as)) (hm : c.meth n = some f) (hl : as.lookup n = none) (h : Q (.ref (B.fa f), [v]) s) : wpAny (model B.prog B.w) A (getMethod v (Str.ofString n) pl) Q E s := by
  induction (inst_at I ra e) with | mk d es m val e1 e2 A' L z1 z2 l => ?_
  have hg := plainGet_of (b.cls.get c)
  exact method_fn (I.kin b) (inst_InstAt e1 e2) hg.1 hg.2 (b.cls.meth c n f hm) (beq_iff_eq.mp (b.cls.isfn f)) (by show (lookIn _ (dictOf es m)).map _ = _; rw [lookIn_dict, A'.get, z1 n hl]; rfl) h
set_option tactic.hygienic true in
theorem osa_plain {prog : Program} {w : World} {A : Around} {K : Frag} {C dx : Nat} {R : Result → Shared → Prop} {s : Shared} {x : Nat} {name : Str} {tk : Tok} {v : Value} {es : List DictEntry} {n : Nat} (X : K.In s.heap)
    (hx : s.heap.get? x = some (instObj C dx)) (D : s.heap.get? dx = some (dictOf es n)) (hp : plainOver K C = true) (ht : takerIn K C name = some none) (hh : hasDictIn K C = true)
    (hl : (PySem.W.getL name es).isSome = true) (hz : (putL name (PyData.keyHash w.params name) (.str name s.toks) v es).length ≤ 1000)
    (h : ∀ h', Heap.SameBut dx s.heap h' → h'.get? dx = some (dictOf (putL name (PyData.keyHash w.params name) (.str name s.toks) v es) (putN name es n)) → R (.ok (.ret .none)) { s with heap := h', toks := s.toks + 1 }) :
    codeAny (model prog w) A (.call (.builtin "object.__setattr__") ⟨[.ref x, .str name tk, v], []⟩) R s := by
  have I : InstAt s.heap x (instObj C dx) C (some (dictOf es n)) := ⟨hx, rfl, rfl, D⟩
  refine osa_open X I hp ht fun b => ?_
  obtain ⟨cd, hO⟩ := any_some hh; have hc := hO.1; have hd' := hO.2; clear hO
  have D' : (s.heap.update dx (Obj.putName name (PyData.keyHash w.params name) (.str name s.toks) v)).get? dx = some (dictOf (putL name (PyData.keyHash w.params name) (.str name s.toks) v es) (putN name es n)) := by
    rw [← putName_dict]
    exact Heap.get?_update_self _ D (by rw [putName_dict]; rfl)
  refine wpAny_bind (wpAny_pure (wpAny_bind (wpAny_bind (wpAny_loadPart hx (wpAny_bind ((looks_clsIn X hc).here ?_))))))
  rw [hd']
  refine wpAny_pure (a := some dx) (wpAny_bind (wpAny_pure (wpAny_bind ?_)))
  unfold nsSet
  refine wpAny_bind (wpAny_bind (wpAny_askSetting (wpAny_pure (wpAny_bind (wpAny_mkText (wpAny_bind (wpAny_loadPart D ?_)))))))
  have c : (!es.toArray.any (·.key.isStr name) && es.toArray.any (·.refKey)) = false := by
    rw [← Array.any_toList, ← Array.any_toList]
    unfold PySem.W.getL at hl
    split at hl
    · rename_i en he
      rw [List.any_eq_true.mpr ⟨en, List.mem_of_find?_eq_some he, List.find?_some he⟩]; rfl
    · split at hl
      · cases hl
      · rename_i z; rw [Bool.not_eq_true] at z; rw [z, Bool.and_false]
  dsimp only [dictOf]
  rw [aRefKeyMayBeTheName_at, c]
  refine wpAny_updatePart D ?_
  refine wpAny_bind (wpAny_lookBehind D' (pastItsLine_dict (by rw [List.size_toArray, sizeLine_eq]; exact li1 [_] ⟨0, .v 0, .n 16777217⟩ ⟨0, .v 0, .n 1000⟩ rfl hz)) ?_)
  exact wpAny_pure (h _ (Heap.SameBut.update ..) D')
theorem isStr_ofString {x : Str} {t : Tok} {n m : String} : (Value.str x t).isStr (Str.ofString n) = true → (Value.str x t).isStr (Str.ofString m) = true → n = m := by
  intro h1 h2
  have h1 : x = Str.ofString n := eq_of_beq h1
  have h2 : x = Str.ofString m := eq_of_beq h2
  exact ofString_inj (h1.symm.trans h2)
theorem isStr_no {x : Str} {t : Tok} {n m : String} (h : (Value.str x t).isStr (Str.ofString n) = true) (hm : m ≠ n) : (Value.str x t).isStr (Str.ofString m) = false :=
  Bool.eq_false_iff.mpr fun h2 => hm (isStr_ofString h2 h)
theorem Attrs.cons {e : DictEntry} {es : List DictEntry} {val : String → Option Value} (he : ∃ x t, e.key = .str x t) (A : Attrs es val) : Attrs (e :: es) fun m => if e.key.isStr (Str.ofString m) then some e.val else val m :=
  ⟨fun e' h => (List.mem_cons.mp h).elim (fun q => q ▸ he) (A.1 e'), fun m => by
    show _ = ite _ _ _
    rw [List.find?_cons]
    cases e.key.isStr (Str.ofString m) with
    | true => rfl
    | false => exact A.2 m⟩
theorem Attrs.eq {es : List DictEntry} {val val' : String → Option Value} (A : Attrs es val) (h : ∀ m, val m = val' m) : Attrs es val' := ⟨A.1, fun m => (A.2 m).trans (h m)⟩
theorem putL_attrs {es : List DictEntry} {val : String → Option Value} (A : Attrs es val) (n : String) (hsh : Int) (t : Tok) (v : Value) :
    Attrs (putL (Str.ofString n) hsh (.str (Str.ofString n) t) v es) (fun m => if m = n then some v else val m) ∧ (putL (Str.ofString n) hsh (.str (Str.ofString n) t) v es).length = (if (val n).isSome then es.length else es.length + 1) := by
  have self : (Value.str (Str.ofString n) t).isStr (Str.ofString n) = true := beq_self_eq_true (Str.ofString n)
  induction es generalizing val with
  | nil =>
    refine ⟨(Attrs.cons ⟨_, _, rfl⟩ (val := val) A).eq fun m => ?_, by rw [← A.2 n]; rfl⟩
    by_cases h : m = n
    · subst h; rw [if_pos rfl]; exact if_pos self
    · rw [if_neg h]; exact if_neg (by rw [isStr_no self h]; exact Bool.false_ne_true)
  | cons e es ih =>
    obtain ⟨x, t', hk⟩ := A.1 e List.mem_cons_self
    have A' : Attrs es fun m => (es.find? (fun x => x.key.isStr (Str.ofString m))).map (·.val) := ⟨fun e h => A.1 e (List.mem_cons_of_mem _ h), fun m => rfl⟩
    have hv : ∀ m, val m = if e.key.isStr (Str.ofString m) then some e.val else (es.find? (fun x => x.key.isStr (Str.ofString m))).map (·.val) := fun m => by
      rw [← A.2 m, List.find?_cons]; cases e.key.isStr (Str.ofString m) <;> rfl
    by_cases he : e.key.isStr (Str.ofString n) = true
    · rw [putL, if_pos he]
      refine ⟨(Attrs.cons (e := { e with val := v }) ⟨x, t', hk⟩ A').eq fun m => ?_, by rw [hv n, if_pos he]; rfl⟩
      by_cases h : m = n
      · subst h; rw [if_pos rfl]; exact if_pos he
      · rw [if_neg h, hv m]
        have no : e.key.isStr (Str.ofString m) = false := by rw [hk] at he ⊢; exact isStr_no he h
        rw [if_neg (by rw [no]; exact Bool.false_ne_true), if_neg (by rw [no]; exact Bool.false_ne_true)]
    · rw [putL, if_neg he]
      have q := ih A'
      refine ⟨(Attrs.cons ⟨x, t', hk⟩ q.1).eq fun m => ?_, ?_⟩
      · rw [hv m]
        by_cases h : m = n
        · subst h; rw [if_pos rfl, if_neg he, if_pos rfl]
        · rw [if_neg h, if_neg h]
      · rw [List.length_cons, q.2, hv n, if_neg he]; split <;> rfl
theorem lookup_putK {κ : Type} [BEq κ] [LawfulBEq κ] [DecidableEq κ] (k m : κ) (v : V) (l : List (κ × V)) : (putK k v l).lookup m = if m = k then some v else l.lookup m := by
  induction l with
  | nil =>
    unfold putK
    rw [List.lookup_cons]
    by_cases h : m = k
    · rw [if_pos h, show (m == k) = true from beq_iff_eq.mpr h]
    · rw [if_neg h, show (m == k) = false from beq_eq_false_iff_ne.mpr h]
  | cons e l ih =>
    unfold putK
    by_cases h : e.1 = k
    · rw [if_pos (beq_iff_eq.mpr h), List.lookup_cons, List.lookup_cons, h]
      by_cases hm : m = k
      · rw [if_pos hm, show (m == k) = true from beq_iff_eq.mpr hm]
      · rw [if_neg hm, show (m == k) = false from beq_eq_false_iff_ne.mpr hm]
    · rw [if_neg (fun q => h (beq_iff_eq.mp q)), List.lookup_cons, List.lookup_cons, ih]
      by_cases hm : m = k
      · rw [if_pos hm, if_pos hm, show (m == e.1) = false from beq_eq_false_iff_ne.mpr fun q => h (q.symm.trans hm)]
      · rw [if_neg hm, if_neg hm]
theorem length_putK {κ : Type} [BEq κ] [LawfulBEq κ] [DecidableEq κ] (k : κ) (v : V) (l : List (κ × V)) : (putK k v l).length = if (l.lookup k).isSome then l.length else l.length + 1 := by
  induction l with
  | nil => rfl
  | cons e l ih =>
    unfold putK
    by_cases h : e.1 = k
    · rw [if_pos (beq_iff_eq.mpr h), List.lookup_cons, show (k == e.1) = true from beq_iff_eq.mpr h.symm]; rfl
    · rw [if_neg (fun q => h (beq_iff_eq.mp q)), List.lookup_cons, show (k == e.1) = false from beq_eq_false_iff_ne.mpr fun z => h z.symm, List.length_cons, ih]
      split <;> rfl
set_option tactic.hygienic true in
theorem setAttr_sound {B : BC} (b : BaseK B) {A : Around} {R H s} {Q : Hp → Prop} {v u : Value} {a V : Mine.Internal.V} {n : String} (hq : setAttrW a n V H Q) (I : Inv B R s H) (ra : Rel B s.heap H R v a) (ru : Rel B s.heap H R u V) :
    wpAny (model B.prog B.w) A (setAttr v (Str.ofString n) u) (fun z0 => PostH B R Q H s) noE s := by
  induction hq with | mk e hn hb q => ?_
  rename_i r c as
  cases ra.inv_ref
  obtain ⟨d, es, m, val, rfl, e1, e2, e3, A', L, z1, z2, l⟩ := I.objs _ _ e
  have P := putL_attrs A' n (PyData.keyHash B.w.params (Str.ofString n)) (s.toks + 1) u
  have hlen : (putL (Str.ofString n) (PyData.keyHash B.w.params (Str.ofString n)) (.str (Str.ofString n) (s.toks + 1)) u es).length = (putK n V as).length := by
    rw [P.2, length_putK, L]
    cases hl : as.lookup n with
    | none => rw [z1 n hl]; rfl
    | some W => obtain ⟨x, hx⟩ := z2 n W hl; rw [hx]; rfl
  refine set_plain (I.kin b) (inst_InstAt e1 e2) (b.cls.set c) (osa_plain (s := { s with toks := s.toks + 1 }) (I.kin b) e1 e2 (b.cls.over c) ?_ (b.cls.dict c) (by rw [A'.get]; rfl) (hlen ▸ ?_) fun h' k D' => ?_)
  · unfold takerIn; rw [b.cls.attr c n hn]; rfl
  · rw [length_putK]; split
    · exact Nat.le_trans (Nat.le_of_lt hb) (by decide)
    · exact Nat.le_trans hb (by decide)
  · have J := I.putI (as' := putK n V as) (s.toks + 2) e k fun rr => ⟨d, _, _, _, rfl, (k.2 (d + 1) (Nat.succ_ne_self d)).trans e1, D', (Hp.set_ne _ _ (Nat.ne_of_lt (Nat.lt_succ_self d))).trans e3, P.1, hlen, fun x hx => ?_, fun x W hx => ?_, fun x y W h1 h2 => ?_⟩
    · exact ⟨_, J.1, J.2, q⟩
    · rw [lookup_putK] at hx
      by_cases h : x = n
      · rw [if_pos h] at hx; cases hx
      · rw [if_neg h] at hx ⊢; exact z1 x hx
    · rw [lookup_putK] at hx
      by_cases h : x = n
      · exact ⟨u, if_pos h⟩
      · rw [if_neg h] at hx ⊢; exact z2 x W hx
    · rw [lookup_putK] at h2
      by_cases h : x = n
      · rw [if_pos h] at h1 h2; exact Option.some.inj h1 ▸ Option.some.inj h2 ▸ rr ru
      · rw [if_neg h] at h1 h2; exact rr (l x y W h1 h2)
end Mine.Internal
set_option maxRecDepth 100000
set_option linter.unusedVariables false
namespace Mine.Internal
open PySem PySem.W PyProof.Rows PySem.SeqAt
noncomputable def StepX (X : Nat → Prop) (h : Heap) (H : Hp) (h' : Heap) (H' : Hp) : Prop := ∀ b o, h.get? b = some o → Out H b → ¬ X b → h'.get? b = some o ∧ Out H' b
theorem StepX.refl {X : Nat → Prop} {h : Heap} {H : Hp} : StepX X h H h H := fun z0 z0 e o z0 => ⟨e, o⟩
theorem StepX.trans {X : Nat → Prop} {h₁ h₂ h₃ : Heap} {H₁ H₂ H₃ : Hp} (x : StepX X h₁ H₁ h₂ H₂) (y : StepX X h₂ H₂ h₃ H₃) : StepX X h₁ H₁ h₃ H₃ :=
  fun b o e q n => let z := x b o e q n; y b o z.1 z.2 n
theorem Step.x {X : Nat → Prop} {h h' : Heap} {H H' : Hp} (x : Step h H h' H') : StepX X h H h' H' := fun b o e q z0 => x.keep b o e q
theorem StepX.mono {X Y : Nat → Prop} {h h' : Heap} {H H' : Hp} (x : StepX X h H h' H') (k : ∀ b, X b → Y b) : StepX Y h H h' H' := fun b o e q n => x b o e q fun z => n (k b z)
theorem StepX.of_same {X : Nat → Prop} {h h' : Heap} {H : Hp} {L : Nat} (hL : X L) (k : Heap.SameBut L h h') : StepX X h H h' H := fun b o e q n => ⟨(k.2 b fun z => n (z ▸ hL)).trans e, q⟩
theorem Rel.stepX {B : BC} {h h' : Heap} {H H' : Hp} {R X : Nat → Prop} {v : Value} {V : V} (x : Rel B h H R v V) (hX : ∀ b, X b → R b) (k : StepX X h H h' H') : Rel B h' H' R v V :=
  x.mono fun b o e q r => let z := k b o e q fun y => r (hX b y); ⟨z.1, z.2, r⟩
theorem posIn_lookup {l : List (Str × NameKind)} {x : Str} {n i : Nat} {k : NameKind} (h : posIn x l n = some (i, k)) : l.lookup x = some k ∧ n ≤ i ∧ i < n + l.length := by
  induction l generalizing n with
  | nil => exact dead h
  | cons y r ih =>
    induction y with | mk y k' => ?_
    rw [List.lookup_cons]
    unfold posIn at h
    by_cases e : x = y
    · rw [if_pos e] at h
      cases h
      rw [show (x == y) = true from beq_iff_eq.mpr e]
      exact ⟨rfl, Nat.le_refl _, Nat.lt_add_of_pos_right (Nat.succ_pos _)⟩
    · rw [if_neg e] at h
      have a := ih h
      rw [show (x == y) = false from beq_eq_false_iff_ne.mpr e]
      exact ⟨a.1, Nat.le_of_succ_le a.2.1, Nat.lt_of_lt_of_eq a.2.2 (Nat.succ_add_eq_add_succ ..)⟩
theorem posIn_inj {l : List (Str × NameKind)} {x y : Str} {n i : Nat} {k k' : NameKind} (h : posIn x l n = some (i, k)) (h' : posIn y l n = some (i, k')) : x = y := by
  induction l generalizing n with
  | nil => exact dead h
  | cons z r ih =>
    induction z with | mk z kz => ?_
    unfold posIn at h h'
    by_cases e : x = z
    · by_cases e' : y = z
      · exact e.trans e'.symm
      · rw [if_pos e] at h; rw [if_neg e'] at h'; cases h; exact absurd (posIn_lookup h').2.1 (Nat.not_succ_le_self _)
    · rw [if_neg e] at h
      by_cases e' : y = z
      · rw [if_pos e'] at h'; cases h'; exact absurd (posIn_lookup h).2.1 (Nat.not_succ_le_self _)
      · rw [if_neg e'] at h'; exact ih h h'
noncomputable def CellAt (B : BC) (h : Heap) (H : Hp) (R : Nat → Prop) (c : Nat) : Option V → Prop
  | some V => ∃ v, h.IsCell c (some v) ∧ Rel B h H R v V
  | none => ∃ v, h.IsCell c v
structure EnvOk (B : BC) (l : Lvl) (ls : List Lvl) (env : Env) (R : Nat → Prop) (h : Heap) (H : Hp) (m : Loc) : Prop where
  kind : env.scope.kind = .function
  glob : env.globals = mainGlobals
  blt : env.builtins = builtinsNs
  kl : ∀ x i, posIn x l.names 0 = some (i, .local) → env.kindOf x = some .local
  kc : ∀ x i, posIn x l.names 0 = some (i, .cell) → env.kindOf x = some .cell
  kf : ∀ x i, posIn x l.names 0 = some (i, .free) → env.kindOf x = some .cell ∨ env.kindOf x = some .free
  kg : ∀ x i, posIn x l.names 0 = some (i, .globalImplicit) → env.kindOf x = some .globalImplicit
  ns : ∃ mm, h.Ns env.locals mm ∧ ∀ x i V, posIn x l.names 0 = some (i, .local) → getL m (l.base + i) = some V → ∃ v, mm x = some v ∧ Rel B h H R v V
  cell : ∀ x i, posIn x l.names 0 = some (i, .cell) → ∃ c, env.cells.lookup x = some c ∧ R c ∧ CellAt B h H R c (getL m (l.base + i))
  free : ∀ x i j, posIn x l.names 0 = some (i, .free) → slotIn ls x = some j → ∃ c, env.cells.lookup x = some c ∧ R c ∧ CellAt B h H R c (getL m j)
  res : R env.locals
  apart : ∀ x c, env.cells.lookup x = some c → c ≠ env.locals
  apart2 : ∀ x y c, env.cells.lookup x = some c → env.cells.lookup y = some c → x = y
  top : ∀ j, l.base + l.names.length ≤ j → getL m j = none
  cres : ∀ x c, env.cells.lookup x = some c → R c
theorem IsCell.at {h h' : Heap} {c : Nat} {v} (x : h.IsCell c v) (k : ∀ o, h.get? c = some o → h'.get? c = some o) : h'.IsCell c v := let ⟨o, ho, hd⟩ := x; ⟨o, k o ho, hd⟩
theorem CellAt.step {B h H R c V?} (x : CellAt B h H R c V?) {h' : Heap} {H' : Hp} {R' : Nat → Prop} (k : ∀ o, h.get? c = some o → h'.get? c = some o) (r : ∀ {v V}, Rel B h H R v V → Rel B h' H' R' v V) : CellAt B h' H' R' c V? := by
  cases V? with
  | none => obtain ⟨v, hv⟩ := x; exact ⟨v, IsCell.at hv k⟩
  | some V => obtain ⟨v, hv, hr⟩ := x; exact ⟨v, IsCell.at hv k, r hr⟩
theorem CellAt.is {B h H R c V?} (x : CellAt B h H R c V?) : ∃ v, h.IsCell c v := by
  cases V? with
  | none => exact x
  | some V => obtain ⟨v, hv, _⟩ := x; exact ⟨_, hv⟩
theorem slot_lt {l : Lvl} {x : Str} {p : Nat} {k : NameKind} (h : posIn x l.names 0 = some (p, k)) : l.base + p < l.base + l.names.length := Nat.add_lt_add_left (Nat.lt_of_lt_of_eq (posIn_lookup h).2.2 (Nat.zero_add _)) _
noncomputable def Pl (env : Env) (b : Nat) : Prop := b = env.locals ∨ ∃ x, env.cells.lookup x = some b
theorem EnvOk.map {B l ls env R h H m} (x : EnvOk B l ls env R h H m) {h' : Heap} {H' : Hp} {R' : Nat → Prop} (k : ∀ b o, R b → Pl env b → h.get? b = some o → h'.get? b = some o) (r : ∀ {v V}, Rel B h H R v V → Rel B h' H' R' v V) (hl : R' env.locals)
    (hc : ∀ y c, env.cells.lookup y = some c → R c → R' c) : EnvOk B l ls env R' h' H' m where
  kind := x.kind
  glob := x.glob
  blt := x.blt
  kl := x.kl
  kc := x.kc
  kf := x.kf
  kg := x.kg
  ns := let ⟨mm, hn, hm⟩ := x.ns; ⟨mm, hn.at' fun o e => k _ o x.res (.inl rfl) e, fun y i V a b => let ⟨v, e, q⟩ := hm y i V a b; ⟨v, e, r q⟩⟩
  cell := fun y i a => let ⟨c, e, hr, q⟩ := x.cell y i a; ⟨c, e, hc y c e hr, q.step (fun o e' => k c o hr (.inr ⟨y, e⟩) e') r⟩
  free := fun y i j a b => let ⟨c, e, hr, q⟩ := x.free y i j a b; ⟨c, e, hc y c e hr, q.step (fun o e' => k c o hr (.inr ⟨y, e⟩) e') r⟩
  res := hl
  apart := x.apart
  apart2 := x.apart2
  top := x.top
  cres := fun y c e => hc y c e (x.cres y c e)
theorem EnvOk.change {B l ls env R h H m} (x : EnvOk B l ls env R h H m) {h' : Heap} {H' : Hp} {R' : Nat → Prop} (k : ∀ b o, R b → Pl env b → h.get? b = some o → h'.get? b = some o) (r : ∀ {v V}, Rel B h H R v V → Rel B h' H' R' v V) (hR : ∀ b, R b → R' b) : EnvOk B l ls env R' h' H' m :=
  x.map k r (hR _ x.res) fun y c z0 => hR c
theorem EnvOk.step {B l ls env R s H m} (x : EnvOk B l ls env R s.heap H m) (I : Inv B R s H) {h' : Heap} {H' : Hp} (k : Step s.heap H h' H') : EnvOk B l ls env R h' H' m :=
  x.change (fun b o hr z0 e => (k.keep b o e (I.res b hr).1).1) (fun y => y.step k) fun z0 y => y
theorem Rel.reserve {B : BC} {s : Shared} {H : Hp} {R R' : Nat → Prop} {v : Value} {V : V} (x : Rel B s.heap H R v V) (z : ∀ a, R' a → R a ∨ s.heap.get? a = Option.none) {h' : Heap} (k : ∀ b o, s.heap.get? b = some o → h'.get? b = some o) : Rel B h' H R' v V :=
  x.mono fun b o e q r => ⟨k b o e, q, fun y => (z b y).elim r fun n => by rw [n] at e; cases e⟩
theorem EnvOk.release {B l ls env R R' m} {h : Heap} {H : Hp} (x : EnvOk B l ls env R' h H m) (hR : ∀ b, R b → R' b) (hl : R env.locals) (hc : ∀ y c, env.cells.lookup y = some c → R' c → R c) : EnvOk B l ls env R h H m :=
  x.map (fun b o z0 z0 e => e) (fun y => y.release hR) hl hc
theorem load_sound {B : BC} {l ls env R m} {M : Model} {A : Around} {E : Value → Shared → Prop} {s : Shared} {H : Hp} {x : Str} {i : Nat} {V : Mine.Internal.V} {Q : Value → Shared → Prop} (K : EnvOk B l ls env R s.heap H m) (hs : slotIn (l :: ls) x = some i) (hv : getL m i = some V)
    (hd : (x == ("__classdict__" : Str)) = false) (h : ∀ v, Rel B s.heap H R v V → Q v s) : wpAny M A (loadName env x) Q E s := by
  cases slot_inv hs with
  | loc e =>
    obtain ⟨mm, hO⟩ := K.ns; have hn := hO.1; have hm := hO.2; clear hO
    obtain ⟨v, hO⟩ := hm x _ V e hv; have e1 := hO.1; have r := hO.2; clear hO
    exact wpAny_loadName_local K.kind (K.kl x _ e) hn e1 (h v r)
  | cell e =>
    obtain ⟨c, hO⟩ := K.cell x _ e; have e1 := hO.1; have hr := hO.2.1; have q := hO.2.2; clear hO
    rw [hv] at q
    obtain ⟨v, hO⟩ := q; have hc := hO.1; have r := hO.2; clear hO
    exact wpAny_loadName_cell K.kind (K.kc x _ e) e1 hc (h v r)
  | free e hs =>
    obtain ⟨c, hO⟩ := K.free x _ i e hs; have e1 := hO.1; have hr := hO.2.1; have q := hO.2.2; clear hO
    rw [hv] at q
    obtain ⟨v, hO⟩ := q; have hc := hO.1; have r := hO.2; clear hO
    exact (K.kf x _ e).elim (fun kk => wpAny_loadName_cell K.kind kk e1 hc (h v r)) fun kk => wpAny_loadName_free K.kind kk e1 hc (h v r) hd
theorem getL_set {m : Loc} {i j : Nat} {V W : Mine.Internal.V} (h : getL (m.set i (some V)) j = some W) : (j = i ∧ W = V) ∨ (j ≠ i ∧ getL m j = some W) := by
  unfold getL at h ⊢
  rw [List.getElem?_set] at h
  by_cases e : i = j
  · rw [if_pos e] at h
    split at h
    · cases h; exact .inl ⟨e.symm, rfl⟩
    · cases h
  · rw [if_neg e] at h; exact .inr ⟨fun z => e z.symm, h⟩
theorem getL_set_ne {m : Loc} {i j : Nat} {V : Mine.Internal.V} (h : j ≠ i) : getL (m.set i (some V)) j = getL m j := by
  unfold getL; rw [List.getElem?_set, if_neg fun e => h e.symm]
noncomputable def Below' (l : Lvl) (ls : List Lvl) : Prop := ∀ x j, slotIn ls x = some j → j < l.base
theorem store_sound {B : BC} {l ls env R m} {prog : Program} {w : World} {A : Around} {E : Value → Shared → Prop} {s : Shared} {H : Hp} {x : Str} {i : Nat} {V : Mine.Internal.V} {v : Value} {Q : Unit → Shared → Prop} (K : EnvOk B l ls env R s.heap H m) (I : Inv B R s H) (hb : Below' l ls)
    (hs : slotTop (l :: ls) x = some i) (rv : Rel B s.heap H R v V)
    (h : ∀ (c : Nat) h' tk, (c = env.locals ∨ ∃ p, posIn x l.names 0 = some (p, .cell) ∧ env.cells.lookup x = some c) → Heap.SameBut c s.heap h' → Inv B R { s with heap := h', toks := tk } H → EnvOk B l ls env R h' H (m.set i (some V)) → Q () { s with heap := h', toks := tk }) :
    wpAny (model prog w) A (storeName env x v) Q E s := by
  cases slot_inv hs with
  | @loc p e =>
    obtain ⟨mm, hO⟩ := K.ns; have hn := hO.1; have hm := hO.2; clear hO
    refine wpAny_storeName_local (K.kl x p e) hn (fun h' hn' k => h env.locals h' _ (.inl rfl) k ?_ ?_) (by rw [K.kind]; rfl)
    · obtain ⟨o, es, ep, hO⟩ := hn'; have ho := hO.1; clear hO
      exact I.atRes _ K.res ⟨o, ho⟩ k
    · have rr : ∀ {v V}, Rel B s.heap H R v V → Rel B h' H R v V := fun y => y.stepX (X := fun b => b = env.locals) (fun b e => e ▸ K.res) (StepX.of_same rfl k)
      have kc : ∀ {y c V?}, env.cells.lookup y = some c → CellAt B s.heap H R c V? → CellAt B h' H R c V? := fun e1 q => q.step (fun o e => (k.2 _ (K.apart _ _ e1)).trans e) rr
      refine { K with ns := ⟨_, hn', fun y j W a b => ?_⟩, cell := fun y j a => ?_, free := fun y j j' a b => ?_, top := fun j hj => (getL_set_ne (Nat.ne_of_gt (Nat.lt_of_lt_of_le (slot_lt e) hj))).trans (K.top j hj) }
      · rcases getL_set b with ⟨e1, rfl⟩ | ⟨e1, e2⟩
        · cases Nat.add_left_cancel e1
          exact ⟨v, if_pos (posIn_inj a e), rr rv⟩
        · obtain ⟨v', hO⟩ := hm y j W a e2; have e3 := hO.1; have q := hO.2; clear hO
          exact ⟨v', (if_neg fun z => e1 (by subst z; rw [e] at a; cases a; rfl)).trans e3, rr q⟩
      · obtain ⟨c, hO⟩ := K.cell y j a; have e1 := hO.1; have hr := hO.2.1; have q := hO.2.2; clear hO
        rw [getL_set_ne fun z => by cases Nat.add_left_cancel z; cases posIn_inj a e; rw [e] at a; cases a]
        exact ⟨c, e1, hr, kc e1 q⟩
      · obtain ⟨c, hO⟩ := K.free y j j' a b; have e1 := hO.1; have hr := hO.2.1; have q := hO.2.2; clear hO
        rw [getL_set_ne (Nat.ne_of_lt (Nat.lt_of_lt_of_le (hb y j' b) (Nat.le_add_right _ _)))]
        exact ⟨c, e1, hr, kc e1 q⟩
  | @cell p e =>
    obtain ⟨c, hO⟩ := K.cell x p e; have e1 := hO.1; have hr := hO.2.1; have q := hO.2.2; clear hO
    obtain ⟨v0, hc⟩ := q.is
    refine wpAny_storeName_cell K.kind (K.kc x p e) e1 hc fun h' hc' k => h c h' s.toks (.inr ⟨p, e, e1⟩) k ?_ ?_
    · obtain ⟨o, hO⟩ := hc'; have ho := hO.1; clear hO
      exact I.atRes _ hr ⟨o, ho⟩ k
    · have rr : ∀ {v V}, Rel B s.heap H R v V → Rel B h' H R v V := fun y => y.stepX (X := fun b => b = c) (fun b e => e ▸ hr) (StepX.of_same rfl k)
      have kc : ∀ {y c' V?}, y ≠ x → env.cells.lookup y = some c' → CellAt B s.heap H R c' V? → CellAt B h' H R c' V? := fun {y c' _} hy e3 q => q.step (fun o e => (k.2 c' fun z => hy (K.apart2 y x c (z ▸ e3) e1)).trans e) rr
      obtain ⟨mm, hO⟩ := K.ns; have hn := hO.1; have hm := hO.2; clear hO
      refine { K with ns := ⟨mm, hn.sameBut k (fun z => K.apart x c e1 z.symm), fun y j W a b => ?_⟩, cell := fun y j a => ?_, free := fun y j j' a b => ?_, top := fun j hj => (getL_set_ne (Nat.ne_of_gt (Nat.lt_of_lt_of_le (slot_lt e) hj))).trans (K.top j hj) }
      · rcases getL_set b with ⟨e3, rfl⟩ | ⟨e3, e4⟩
        · cases Nat.add_left_cancel e3; cases posIn_inj a e; rw [e] at a; cases a
        · obtain ⟨v', hO⟩ := hm y j W a e4; have e5 := hO.1; have q := hO.2; clear hO
          exact ⟨v', e5, rr q⟩
      · obtain ⟨c', hO⟩ := K.cell y j a; have e3 := hO.1; have hr' := hO.2.1; have q' := hO.2.2; clear hO
        by_cases hy : y = x
        · subst hy
          rw [e] at a; cases a
          rw [e1] at e3; cases e3
          refine ⟨c, e1, hr, ?_⟩
          unfold getL
          rw [List.getElem?_set, if_pos rfl]
          split
          · exact ⟨v, hc', rr rv⟩
          · exact ⟨_, hc'⟩
        · rw [getL_set_ne fun z => hy (by cases Nat.add_left_cancel z; exact posIn_inj a e)]
          exact ⟨c', e3, hr', kc hy e3 q'⟩
      · obtain ⟨c', hO⟩ := K.free y j j' a b; have e3 := hO.1; have hr' := hO.2.1; have q' := hO.2.2; clear hO
        rw [getL_set_ne (Nat.ne_of_lt (Nat.lt_of_lt_of_le (hb y j' b) (Nat.le_add_right _ _)))]
        exact ⟨c', e3, hr', kc (fun z => by subst z; rw [e] at a; cases a) e3 q'⟩
  | free e h => exact dead h
end Mine.Internal
set_option maxRecDepth 100000
set_option linter.unusedVariables false
namespace Mine.Internal
open PySem PySem.W PyProof.Rows PySem.SeqAt
inductive GlobOk (B : BC) : Prop
  | mk (mg mb) : B.base.Ns mainGlobals mg → B.base.Ns builtinsNs mb →
    (∀ n f, fidTab.lookup n = some f → mg (Str.ofString n) = some (.ref (B.fa f))) →
    (∀ n c, cidTab.lookup n = some c → mg (Str.ofString n) = some (.ref (B.ca c))) →
    (∀ n p, primTab.lookup n = some p → mg (Str.ofString n) = none ∧ mb (Str.ofString n) = some (primV p)) →
    (∀ n ∈ ["range", "reversed", "enumerate"], mg (Str.ofString n) = none ∧ mb (Str.ofString n) = some (.type n)) →
    (∀ n c, cstTab.lookup n = some c → ∃ v, mg (Str.ofString n) = some v ∧ Rel B B.base (fun z0 => none) (fun z0 => False) v c.v) → GlobOk B
theorem Inv.baseRel {B : BC} {R s H} (I : Inv B R s H) {v : Value} {V : Mine.Internal.V} (x : Rel B B.base (fun z0 => none) (fun z0 => False) v V) : Rel B s.heap H R v V :=
  x.mono fun b o e z0 z0 => I.base b o e
section
variable {B : BC} {l : Lvl} {ls : List Lvl} {env : Env} {R : Nat → Prop} {m : Loc} {A : Around} {E : Value → Shared → Prop} {s : Shared} {H : Hp}
theorem glob_kind (K : EnvOk B l ls env R s.heap H m) {x : Str} (h : isGlob (l :: ls) x = true) : env.kindOf x = some .globalImplicit := by
  obtain ⟨⟨p, k⟩, e, h⟩ := kind_inv h
  cases kG_inv h
  exact K.kg x p e
theorem glob_load {M : Model} {x : Str} {pos : Pos} {v : Value} {mg : Str → Option Value} {Q : Value → Shared → Prop} (K : EnvOk B l ls env R s.heap H m) (I : Inv B R s H) (h : isGlob (l :: ls) x = true) (hd : (x == ("__debug__" : Str)) = false)
    (hg : B.base.Ns mainGlobals mg) (hv : mg x = some v) (q : Q v s) : wpAny M A (eval (.Name x pos) env) Q E s :=
  Calls.Name_function_global K.kind (glob_kind K h) (Calls.loadGlobal_global (mg := mg) (by rw [K.glob]; exact hg.at' fun o e => (I.base _ o e).1) hv q) hd
theorem glob_builtin {M : Model} {x : Str} {pos : Pos} {v : Value} {mg mb : Str → Option Value} {Q : Value → Shared → Prop} (K : EnvOk B l ls env R s.heap H m) (I : Inv B R s H) (h : isGlob (l :: ls) x = true) (hd : (x == ("__debug__" : Str)) = false)
    (hg : B.base.Ns mainGlobals mg) (hm : mg x = none) (hb : B.base.Ns builtinsNs mb) (hv : mb x = some v) (q : Q v s) : wpAny M A (eval (.Name x pos) env) Q E s :=
  Calls.Name_function_global K.kind (glob_kind K h) (Calls.loadGlobal_builtin (mg := mg) (mb := mb) (by rw [K.glob]; exact hg.at' fun o e => (I.base _ o e).1) hm (by rw [K.blt]; exact hb.at' fun o e => (I.base _ o e).1) hv q) hd
end
noncomputable def plainArgs (es : List PySem.Expr) (env : Env) : List (Bool × Sem Value) := es.map fun e => (false, eval e env)
noncomputable def isStar : PySem.Expr → Bool
  | .Starred .. => true
  | _ => false
theorem star_plain (pos : Pos) (env : Env) : ∀ {es : List PySem.Expr}, (∀ e ∈ es, isStar e = false) → backTo pos (starEach es env) = plainArgs es env
  | [], _ => rfl
  | e :: r, h => by
    have h1 := h e List.mem_cons_self
    have ih := star_plain pos env (es := r) fun x hx => h x (List.mem_cons_of_mem _ hx)
    have : starEach (e :: r) env = (false, eval e env) :: starEach r env := by cases e <;> first | rfl | cases h1
    rw [this]
    show (false, eval e env) :: backTo pos (starEach r env) = _
    rw [ih]; rfl
theorem plainArgs_plain (es : List PySem.Expr) (env : Env) : (plainArgs es env).any (·.1) = false := by
  induction es with
  | nil => rfl
  | cons e r ih => exact ih
theorem evalArgs_all {M : Model} {A : Around} {E : Value → Shared → Prop} {s : Shared} {f : Value} {es : List PySem.Expr} {env : Env} {Q : Args → Shared → Prop} (h : wpAny M A (spliced (plainArgs es env)) (fun vs s' => Q ⟨vs, []⟩ s') E s) :
    wpAny M A (evalArgs f true (plainArgs es env) []) Q E s := by
  cases es with
  | nil =>
    unfold evalArgs
    refine wpAny_bind (wpAny_mono h (fun vs s' h' => ?_) fun z0 z0 x => x)
    refine wpAny_holding ?_
    exact wpAny_bind (wpAny_pure (wpAny_bind (wpAny_pure (wpAny_pure h'))))
  | cons e r => exact Calls.evalArgs_plain h
inductive PostL (B : BC) (R : Nat → Prop) (Q : List V → Hp → Prop) (H : Hp) (s : Shared) (vs : List Value) (s' : Shared) : Prop
  | mk (Vs H') : RelL B s'.heap H' R vs Vs → Inv B R s' H' → Step s.heap H s'.heap H' → Q Vs H' → PostL B R Q H s vs s'
inductive PostT (B : BC) (R : Nat → Prop) (t f : Hp → Prop) (H : Hp) (s : Shared) (r : Bool) (s' : Shared) : Prop
  | mk (H') : Inv B R s' H' → Step s.heap H s'.heap H' → (r = true → t H') → (r = false → f H') → PostT B R t f H s r s'
section
variable {M : Model} {A : Around} {B : BC} {R : Nat → Prop} {H H₀ : Hp} {s s₀ s₁ : Shared} {E : Value → Shared → Prop}
theorem seqE {p : Sem Value} {Q : V → Hp → Prop} {Q' : Value → Shared → Prop} (h : wpAny M A p (PostE B R Q H s) noE s₁)
    (k : ∀ v s' V H', Rel B s'.heap H' R v V → Inv B R s' H' → Step s.heap H s'.heap H' → Q V H' → Q' v s') : wpAny M A p Q' E s₁ :=
  wpAny_mono h (fun v s' ⟨V, H', r, i, st, q⟩ => k v s' V H' r i st q) fun z0 z0 x => x.elim
theorem seqL {p : Sem (List Value)} {Q : List V → Hp → Prop} {Q' : List Value → Shared → Prop} (h : wpAny M A p (PostL B R Q H s) noE s₁)
    (k : ∀ v s' V H', RelL B s'.heap H' R v V → Inv B R s' H' → Step s.heap H s'.heap H' → Q V H' → Q' v s') : wpAny M A p Q' E s₁ :=
  wpAny_mono h (fun v s' ⟨V, H', r, i, st, q⟩ => k v s' V H' r i st q) fun z0 z0 x => x.elim
theorem seqT {p : Sem Bool} {t f : Hp → Prop} {Q' : Bool → Shared → Prop} (h : wpAny M A p (PostT B R t f H s) noE s₁)
    (k : ∀ r s' H', Inv B R s' H' → Step s.heap H s'.heap H' → (r = true → t H') → (r = false → f H') → Q' r s') : wpAny M A p Q' E s₁ :=
  wpAny_mono h (fun v s' ⟨H', i, st, q, q'⟩ => k v s' H' i st q q') fun z0 z0 x => x.elim
theorem onE {p : Sem Value} {Q : V → Hp → Prop} (h : wpAny M A p (PostE B R Q H s) noE s₁) (k : Step s₀.heap H₀ s.heap H) : wpAny M A p (PostE B R Q H₀ s₀) noE s₁ :=
  wpAny_mono h (fun z0 z0 x => x.on k) fun z0 z0 x => x
theorem onT {p : Sem Bool} {t f : Hp → Prop} (h : wpAny M A p (PostT B R t f H s) noE s₁) (k : Step s₀.heap H₀ s.heap H) : wpAny M A p (PostT B R t f H₀ s₀) noE s₁ :=
  wpAny_mono h (fun _ _ ⟨H', i, st, q, q'⟩ => ⟨H', i, k.trans st, q, q'⟩) fun z0 z0 x => x
end
noncomputable def EOk (B : BC) (A : Around) (l : Lvl) (ls : List Lvl) (C : CallW) (env : Env) (e : PySem.Expr) (x : X) : Prop :=
  ∀ R H m s Q, wE C x m H Q → Inv B R s H → EnvOk B l ls env R s.heap H m → wpAny (model B.prog B.w) A (eval e env) (PostE B R Q H s) noE s
theorem args_sound {B : BC} {A : Around} {l ls C env} {f : PySem.Expr → Option X} (hf : ∀ e x, f e = some x → EOk B A l ls C env e x)
    {es : List PySem.Expr} {xs : List X} {R H m s} {Q : List V → Hp → Prop} (hc : cEsWith f es = some xs) (hq : wEs C (mkXs xs) m H Q) (I : Inv B R s H) (K : EnvOk B l ls env R s.heap H m) :
      wpAny (model B.prog B.w) A (spliced (plainArgs es env)) (PostL B R Q H s) noE s := by
  induction es generalizing xs H s Q with
  | nil => cases hc; exact Calls.spliced_nil ⟨[], H, RelL.nil, I, Step.refl _ _, hq⟩
  | cons e r ih =>
    refine map2_inv (P := fun xs => wEs C (mkXs xs) m H Q → _) hc (fun x ys h1 h2 hq => ?_) hq
    refine Calls.spliced_cons (wpAny_mono (hf e x h1 R H m s _ hq I K) (fun v s₁ h => ?_) fun z0 z0 x => x)
    induction h with | mk V H₁ rv I₁ st₁ q₁ => ?_
    refine wpAny_mono (ih h2 q₁ I₁ (K.step I st₁)) (fun vs s₂ h => ?_) fun z0 z0 x => x
    induction h with | mk Vs H₂ rs I₂ st₂ q₂ => ?_
    exact ⟨V :: Vs, H₂, RelL.cons (rv.step st₂) rs, I₂, st₁.trans st₂, q₂⟩
theorem cEs_star {f : PySem.Expr → Option X} (hs : ∀ e, isStar e = true → f e = none) {es : List PySem.Expr} {xs : List X} (hc : cEsWith f es = some xs) : ∀ e ∈ es, isStar e = false := by
  induction es generalizing xs with
  | nil => exact fun e he => nomatch he
  | cons e r ih =>
    intro e' he
    refine map2_inv (P := fun z0 => isStar e' = false) hc fun x ys h1 h2 => (List.mem_cons.mp he).elim (fun z => Bool.eq_false_iff.mpr fun h3 => ?_) (ih h2 e')
    subst z
    exact dead ((hs _ h3).symm.trans h1)
noncomputable def CallOk (B : BC) (d : Nat) (C : CallW) : Prop :=
  ∀ f vs Vs R H s A Q, C f Vs H Q → Inv B R s H → RelL B s.heap H R vs Vs → Room A d →
    codeAny (model B.prog B.w) A (.call (.ref (B.fa f)) ⟨vs, []⟩) (fun r s' => match r with | .ok (.ret v) => PostE B R Q H s v s' | _ => False) s
theorem callRef_sound {B : BC} (b : BaseK B) {A : Around} {f : Value} {first : List Value} {es : List PySem.Expr} {env : Env} {pos : Pos} {Q : Value → Shared → Prop} {s : Shared} (hk : keepIn B.K f = true)
    (h : wpAny (model B.prog B.w) A (spliced (plainArgs es env)) (fun vs s' => B.K.In s'.heap ∧ wpAny (model B.prog B.w) A (call f (first ++ vs)) Q noE s') noE s) :
    wpAny (model B.prog B.w) A (callWith pos f first (plainArgs es env) []) Q noE s :=
  callWith_of (P := fun h => B.K.In h) (by rw [plainArgs_plain]; rfl) (keeps_K hk) (evalArgs_all h)
theorem under_room {A : Around} {d : Nat} (r : Room A (d + 1)) (C : Nat) (vs : List Value) : Room (A.under (.builtin "type.__call__" ⟨.ref C :: vs, []⟩)) d := by
  refine ⟨?_, ?_, r.handled⟩
  · have h : (A.under (.builtin "type.__call__" ⟨.ref C :: vs, []⟩)).depth = A.depth + 1 := rfl
    rw [h]; have := r.depth; exact li1 [_, _] ⟨0, .a (.a (.v 0) (.n 1)) (.v 1), .n 640⟩ ⟨0, .a (.v 0) (.a (.v 1) (.n 1)), .n 640⟩ rfl this
  · have h : (A.under (.builtin "type.__call__" ⟨.ref C :: vs, []⟩)).units = A.units + (Code.builtin "type.__call__" ⟨.ref C :: vs, []⟩).cUnits := rfl
    have h2 : (Code.builtin "type.__call__" ⟨.ref C :: vs, []⟩).cUnits ≤ 20 := by
      first | decide | exact Nat.le_of_ble_eq_true rfl
    rw [h]; have := r.units; exact li2 [_, _, _] ⟨0, .a (.a (.v 0) (.v 1)) (.l 20 (.v 2)), .n 9000⟩ ⟨0, .v 1, .n 20⟩ ⟨0, .a (.v 0) (.l 20 (.a (.v 2) (.n 1))), .n 9000⟩ rfl h2 this
theorem new_sound {B : BC} (b : BaseK B) {A : Around} {d : Nat} {C : CallW} (hC : CallOk B d C) {c : Cid} {vs : List Value} {Vs : List V} {R H s Q} (hq : ∀ a, H a = none → C c.init (.ref a :: Vs) (H.set a (.inst c [])) fun u H' => u = .none ∧ ∃ v K, Sub K H' ∧ VV H' K (.ref a) v ∧ Q v K)
    (I : Inv B R s H) (rs : RelL B s.heap H R vs Vs) (hr : Room A (d + 1)) : wpAny (model B.prog B.w) A (call (.ref (B.ca c)) vs) (PostE B R Q H s) noE s := by
  induction s with | mk hh g dr t os => ?_
  refine wpAny_call ?_
  have fr := I.fresh' (a := hh.objs.size + 1) (Heap.get?_none_of_le (Nat.le_succ _))
  have k : ∀ b o, hh.get? b = some o → ((hh.push emptyDict).push (instObj (B.ca c) hh.objs.size)).get? b = some o := fun b o e => Heap.get?_push_of_some _ (Heap.get?_push_of_some _ e)
  have e1 : ((hh.push emptyDict).push (instObj (B.ca c) hh.objs.size)).get? (hh.objs.size + 1) = some (instObj (B.ca c) hh.objs.size) := by
    have := Heap.get?_push_size (hh.push emptyDict) (o := instObj (B.ca c) hh.objs.size) rfl
    rwa [size_push'] at this
  have e2 : ((hh.push emptyDict).push (instObj (B.ca c) hh.objs.size)).get? hh.objs.size = some (dictOf [] 0) := Heap.get?_push_of_some _ (Heap.get?_push_size _ rfl)
  have J := I.new (a := hh.objs.size + 1) (o' := .inst c []) (h' := (hh.push emptyDict).push (instObj (B.ca c) hh.objs.size)) t (Heap.get?_none_of_le (Nat.le_succ _)) (fun z0 b hb => by cases hb; exact none_size _) k
    fun rr => ⟨hh.objs.size, [], 0, fun z0 => none, rfl, e1, e2, by rw [Hp.set_ne _ _ (Nat.ne_of_lt (Nat.lt_succ_self _))]; exact (I.fresh' (none_size _)).1.1, ⟨fun e he => absurd he List.not_mem_nil, fun n => rfl⟩, rfl, fun z0 z0 => rfl, fun n V h => dead h, fun n v V h => dead h⟩
  refine make_core (makes_of (I.kin b) (b.cls.make c)) (looks_findIn (I.kin b) (b.cls.init c)) (fun self => bind_fn (I.kin b) self (beq_iff_eq.mp (b.cls.isfn c.init))) (.inl rfl) ?_
  refine codeAny_mono (hC c.init (.ref (hh.objs.size + 1) :: vs) (.ref (hh.objs.size + 1) :: Vs) R _ _ _ _ (hq _ fr.1.1) J.1 (RelL.cons (.ref _) (rs.step J.2)) (under_room hr _ _)) fun r s' z => ?_
  rcases r with e | (v | _ | _ | _) <;> first | exact z.elim | skip
  obtain ⟨V, H', rv, I', st, rfl, w, K, sub, vv, q⟩ := z
  cases rv.inv_none
  exact ⟨rfl, (freeze I' (.ref _) sub vv q).on (J.2.trans st)⟩
end Mine.Internal
set_option maxRecDepth 100000
set_option linter.unusedVariables false
namespace Mine.Internal
open PySem PySem.W PyProof.Rows PySem.SeqAt
theorem slot_rev_next : Slot "reversed" "__next__" "reversed.__next__" :=
  .of (owner := "reversed") (n := "__next__") (by rw [typeLookup_type, builtinLookup_eq_fast]; kernel_rfl) (by decide +kernel) (by decide +kernel) (by decide +kernel)
    (by first | exact .inl (by decide +kernel) | exact .inr (by decide +kernel)) (by rw [isSubtype_type]; kernel_rfl)
theorem entry_rev_next : entryFor table "reversed.__next__" = some Builtin.«reversed.__next__» := entryFor_of_tree (by kernel_rfl)
theorem args_rev_next (a : Value) : argsOk "reversed.__next__" ⟨[a], []⟩ := by unfold argsOk; kernel_rfl
theorem slot_rev_iter : Slot "reversed" "__iter__" "reversed.__iter__" :=
  .of (owner := "reversed") (n := "__iter__") (by rw [typeLookup_type, builtinLookup_eq_fast]; kernel_rfl) (by decide +kernel) (by decide +kernel) (by decide +kernel)
    (by first | exact .inl (by decide +kernel) | exact .inr (by decide +kernel)) (by rw [isSubtype_type]; kernel_rfl)
theorem args_rev_iter (a : Value) : argsOk "reversed.__iter__" ⟨[a], []⟩ := by unfold argsOk; kernel_rfl
theorem entry_rev_iter : entryFor table "reversed.__iter__" = some Builtin.«dict_keyiterator.__iter__» :=
  entryFor_alias (id' := "dict_keyiterator.__iter__") (by kernel_rfl) (by first | rfl | decide +kernel | (unfold String.splitOn; simp +decide [String.splitOnAux])) (by decide +kernel) (by kernel_rfl)
theorem no_tuple_reversed : typeLookup (.type "tuple") "__reversed__" = pure none := by rw [typeLookup_type, builtinLookup_eq_fast]; kernel_rfl
theorem called_reversed : TypeCalled "reversed" "reversed.__new__" "object.__init__" :=
  ⟨by decide +kernel, by decide +kernel, ⟨_, _, F.mro_reversed⟩, madeBy_type F.mro_reversed F.lookup_reversed_new (by decide +kernel), by decide +kernel, by rw [isSubtype_type]; kernel_rfl,
    .of (owner := "object") (n := "__init__") (by rw [typeLookup_type, builtinLookup_eq_fast]; kernel_rfl) (by decide +kernel) (by decide +kernel) (by decide +kernel)
      (by first | exact .inl (by decide +kernel) | exact .inr (by decide +kernel)) (by rw [isSubtype_type]; kernel_rfl)⟩
noncomputable abbrev revT (t : Nat) (i : Int) : Obj := { cls := .type "reversed", dict := none, data := .fields #[.ref t, rawInt i], slots := #[] }
theorem meets_reversed_new (t : Nat) (items : Array Value) (n : Nat) (hz : items.size ≤ 16000000) :
    Meets (Builtin.«reversed.__new__» ⟨[.type "reversed", .ref t], []⟩) (fun z0 R s => IsT s.heap t items n ∧
      R (.ok (.ret (.ref s.heap.objs.size))) { s with heap := s.heap.push (revT t ((items.size : Int) - 1)), toks := s.toks + 1 + 1 }) :=
  .of_wp fun prog w A R s h => by
    induction s with | mk hp g d tk os => ?_
    have hO := h; have ht := hO.1; have h := hO.2; clear hO
    have hT : Shared.TypeIs ⟨hp, g, d, tk, os⟩ (.ref t) "tuple" := ⟨_, ht, rfl⟩
    unfold Builtin.«reversed.__new__»
    refine wpAny_bind (wpAny_of_eq (newClass_reversed _) ?_)
    refine wpAny_bind (wpAny_of_eq (a := ()) (by first | rfl | kernel_rfl) ?_)
    refine wpAny_bind (wpAny_of_eq (a := ()) (by first | rfl | kernel_rfl) ?_)
    refine wpAny_bind (wpAny_specialOf hT no_tuple_reversed ?_)
    refine wpAny_bind (wpAny_bind (wpAny_isInstance hT PySem.F.sub_tuple_dict ?_))
    simp only [Bool.false_eq_true, if_false]
    refine wpAny_bind (wpAny_specialOf hT F.slot_tuple_getitem.lookup ?_)
    first
      | rw [if_pos (by decide)]
      | (refine wpAny_ite ?_; rw [if_pos (by decide)])
      | skip
    refine wpAny_pure ?_
    rw [if_neg (by decide)]
    refine wpAny_bind (P.len_tuple ht (by omega) ?_)
    refine wpAny_bind (wpAny_pure ?_)
    refine wpAny_bind ?_
    show wpAny _ _ (newObj (.type "reversed") (.fields #[.ref t, rawInt ((items.size : Int) - 1)])) _ _ _
    exact wpAny_newObj_type (wpAny_pure ⟨_, rfl, h⟩)
section
variable {prog : Program} {w : World} {A : Around} {E : Value → Shared → Prop} {s : Shared}
theorem call_reversed_tuple {t n : Nat} {items : Array Value} {Q : Value → Shared → Prop} (ht : IsT s.heap t items n) (hz : items.size ≤ 16000000)
    (h : Q (.ref s.heap.objs.size) { s with heap := s.heap.push (revT t ((items.size : Int) - 1)), toks := s.toks + 1 + 1 }) :
    wpAny (model prog w) A (call (.type "reversed") [.ref t]) Q E s :=
  callType_new called_reversed (by decide) (F.typeCall_reversed_1 _) (F.newCall_reversed_1 _) (fun obj => F.args_object_init_2 obj _) F.entry_reversed_new
    (meets_reversed_new t items n hz) ⟨ht, ⟨_, Heap.get?_push_size _ rfl, rfl⟩, h⟩
theorem wpAny_pyIter_revT {it t : Nat} {i : Int} {Q : Value → Shared → Prop} (hit : s.heap.get? it = some (revT t i)) (h : Q (.ref it) s) : wpAny (model prog w) A (pyIter (.ref it)) Q E s := by
  have hT : s.TypeIs (.ref it) "reversed" := ⟨_, hit, rfl⟩
  refine wpAny_pyIter_slot hT slot_rev_iter (wpAny_call_entry slot_rev_iter hT entry_rev_iter ?_ (args_rev_iter _))
  exact wpAny_pure ⟨_, rfl, "reversed", _, hT, slot_rev_next.lookup, h⟩
theorem wpAny_pyNext_revT_item {it t n i : Nat} {items : Array Value} {x : Value} {Q : Option Value → Shared → Prop} (hit : s.heap.get? it = some (revT t (i : Int))) (ht : IsT s.heap t items n) (hz : items.size ≤ 16000000) (hx : items[i]? = some x)
    (hQ : ∀ h' tk, h'.get? it = some (revT t ((i : Int) - 1)) → Heap.SameBut it s.heap h' → Q (some x) { s with heap := h', toks := tk }) : wpAny (model prog w) A (pyNext (.ref it)) Q E s := by
  have hT : s.TypeIs (.ref it) "reversed" := ⟨_, hit, rfl⟩
  have hTt : s.TypeIs (.ref t) "tuple" := ⟨_, ht, rfl⟩
  have hi : i < items.size := (Array.getElem?_eq_some_iff.mp hx).1
  unfold pyNext
  refine wpAny_bind (wpAny_attempt (wpAny_callSpecial?_slot (name := Str.ofString "__next__") hT slot_rev_next
    (wpAny_call_entry slot_rev_next hT entry_rev_next ?_ (args_rev_next _))))
  unfold Builtin.«reversed.__next__»
  refine wpAny_bind (wpAny_of_eq (a := (Value.ref it, [])) rfl ?_)
  refine wpAny_bind (wpAny_field hit rfl (x := .ref t) rfl ?_)
  refine wpAny_bind (wpAny_field hit rfl (x := rawInt (i : Int)) rfl ?_)
  show wpAny _ _ (if (i : Int) < 0 then _ else _) _ _ s
  rw [if_neg (Int.not_lt.2 (Int.natCast_nonneg i))]
  refine wpAny_bind (wpAny_specialOf hTt F.slot_tuple_getitem.lookup ?_)
  rw [if_neg (by decide)]
  refine wpAny_bind (wpAny_mkInt ?_)
  refine wpAny_bind (wpAny_attempt ?_)
  refine P.getItem_tuple (k := i) ht (by omega) (by omega) ?_ hx ?_
  · unfold seqIndex?
    rw [if_neg (Int.not_lt.2 (Int.natCast_nonneg i))]
    rw [if_pos (by simp; exact hi)]
    simp
  · try dsimp only
    refine wpAny_bind (wpAny_field hit rfl (x := rawInt (i : Int)) rfl ?_)
    refine wpAny_bind (wpAny_setField_rec hit (by simp) fun h' he hs => ?_)
    exact wpAny_pure ⟨x, rfl, wpAny_pure (hQ h' _ he hs)⟩
theorem wpAny_pyNext_revT_end {it t : Nat} {Q : Option Value → Shared → Prop} (hh : A.handled = none) (hit : s.heap.get? it = some (revT t (-1)))
    (hQ : ∀ h', Heap.ExtBut it s.heap h' → Q none { s with heap := h' }) : wpAny (model prog w) A (pyNext (.ref it)) Q E s := by
  have hT : s.TypeIs (.ref it) "reversed" := ⟨_, hit, rfl⟩
  unfold pyNext
  refine wpAny_bind (wpAny_attempt (wpAny_callSpecial?_slot (name := Str.ofString "__next__") hT slot_rev_next
    (wpAny_call_entry slot_rev_next hT entry_rev_next ?_ (args_rev_next _))))
  unfold Builtin.«reversed.__next__»
  refine wpAny_bind (wpAny_of_eq (a := (Value.ref it, [])) rfl ?_)
  refine wpAny_bind (wpAny_field hit rfl (x := .ref t) rfl ?_)
  refine wpAny_bind (wpAny_field hit rfl (x := rawInt (-1)) rfl ?_)
  show wpAny _ _ (if (-1 : Int) < 0 then _ else _) _ _ s
  rw [if_pos (by decide)]
  refine wpAny_bind (wpAny_rule ?_)
  refine wpAny_bind (wpAny_bind (wpAny_setField_rec hit (by simp) fun h₁ he₁ hs₁ => wpAny_setField_rec he₁ (by simp) fun h₂ he₂ hs₂ => ?_))
  have k : Heap.ExtBut it s.heap h₂ := fun b o hb e => hs₂.extBut b o hb (hs₁.extBut b o hb e)
  refine wpAny_bind ?_
  refine wpAny_bind ?_
  unfold newExc newTuple
  refine wpAny_bind (wpAny_newObj_type ?_ (by size_fits))
  refine wpAny_bind (m := firstArgMember _ _) (wpAny_of_eq (a := Value.none) (by first | rfl | (simp only [firstArgMember]; rfl)) ?_)
  refine wpAny_newObj_type ?_ (by size_fits)
  unfold raiseNew
  refine wpAny_bind (wpAny_handled ?_)
  first | rw [show A.in1.handled = none from hh] | rw [hh]
  refine wpAny_bind (wpAny_pure (wpAny_throw ?_))
  refine wpAny_bind (wpAny_isInstance (T := "StopIteration") (b := true) ⟨_, Heap.get?_push_size _ rfl, rfl⟩ isSubtype_stop ?_)
  exact wpAny_pure (hQ _ ((k.push _).push _))
end
end Mine.Internal
set_option maxRecDepth 100000
set_option linter.unusedVariables false
namespace Mine.Internal
open PySem PySem.W PyProof.Rows PySem.SeqAt
theorem Inv.atX {B : BC} {R R0 X : Nat → Prop} {s : Shared} {H : Hp} (I : Inv B R s H) {h' : Heap} (tk : Nat) (hX : ∀ b, X b → R b) (h0 : ∀ b, R0 b → R b) (hex : ∀ b, R0 b → X b → ∃ o, h'.get? b = some o)
    (k : ∀ b o, s.heap.get? b = some o → ¬ X b → h'.get? b = some o) : Inv B R0 { s with heap := h', toks := tk } H := by
  refine ⟨fun a o e => (I.objs a o e).change (fun b o e q r => ⟨k b o e fun x => r (hX b x), q, fun x => r (h0 b x)⟩) (fun o' e' => k a o' e' fun x => ?_) (fun d c as x y n o e' => ⟨k d o e' fun z => ?_, n⟩),
    fun b o e => ⟨k b o (I.base b o e).1 fun x => (I.base b o e).2.2 (hX b x), (I.base b o e).2.1, fun x => (I.base b o e).2.2 (h0 b x)⟩, fun a r => ⟨(I.res a (h0 a r)).1, ?_⟩, I.lo, I.gens, I.os⟩
  · have := (I.res a (hX a x)).1.1; rw [e] at this; cases this
  · subst x y; exact (I.res d (hX d z)).1.2 _ _ e
  · by_cases h : X a
    · exact hex a r h
    · obtain ⟨o, e⟩ := (I.res a (h0 a r)).2; exact ⟨o, k a o e h⟩
theorem stepX_of {X : Nat → Prop} {h h' : Heap} {H : Hp} (k : ∀ b o, h.get? b = some o → ¬ X b → h'.get? b = some o) : StepX X h H h' H := fun b o e q n => ⟨k b o e n, q⟩
structure Goes (B : BC) (A : Around) (I J : Nat → Prop) (it : Nat) (v0 : Value) (V0 : V) (vs : List V) (G : Hp → Prop) (ok : PySem.Expr → Prop) (St : Nat → Heap → Prop) : Prop where
  keep : ∀ k h h', St k h → (∀ b o, I b ∨ J b → h.get? b = some o → h'.get? b = some o) → St k h'
  fix : ∀ h H R, Rel B h H R v0 V0 → ∀ b, J b → Out H b ∧ ¬ R b
  item : ∀ k V s H R target, vs[k]? = some V → ok target → St k s.heap → (∀ b, I b → R b) → Inv B R s H → Rel B s.heap H R v0 V0 → G H →
    wpAny (model B.prog B.w) A (pyNext (.ref it)) (fun r s₁ => ∃ v, r = some v ∧ wpAny (model B.prog B.w) A (letOwnedTupleGo target (.ref it) v)
      (fun z0 s₂ => Rel B s₂.heap H R v V ∧ Inv B R s₂ H ∧ StepX I s.heap H s₂.heap H ∧ St (k + 1) s₂.heap) noE s₁) noE s
  done : ∀ s H R R0, St vs.length s.heap → (∀ b, I b → R b) → Inv B R s H → Rel B s.heap H R v0 V0 → G H → (∀ b, R0 b → R b) → (∀ b, R0 b → ¬ I b) →
    wpAny (model B.prog B.w) A (pyNext (.ref it)) (fun r s₁ => r = none ∧ Inv B R0 s₁ H ∧ StepX I s.heap H s₁.heap H) noE s
  self : ∀ k s (Q : Value → Shared → Prop) E, St k s.heap → Q (.ref it) s → wpAny (model B.prog B.w) A (pyIter (.ref it)) Q E s
theorem letOwned_other {M : Model} {A : Around} {E : Value → Shared → Prop} {s : Shared} {target : PySem.Expr} {it : Nat} {o : Obj} {n : String} {v : Value} {Q : Unit → Shared → Prop} (ho : s.heap.get? it = some o) (hc : o.cls = .type n)
    (hn : ["enumerate", "zip", "dict_itemiterator", "dict_reverseitemiterator", "odict_iterator", "itertools.zip_longest", "itertools.pairwise"].contains n = false) (h : Q () s) : wpAny M A (letOwnedTupleGo target (.ref it) v) Q E s := by
  induction o with | mk oc od oda osl => ?_
  dsimp only at hc
  subst hc
  have go : wpAny M A (match (Value.ref it, v) with
    | (.ref r, .ref a) => do
      let o ← load r
      match o.cls, o.data with
      | .type n, .fields vs =>
        if ["enumerate", "zip", "dict_itemiterator", "dict_reverseitemiterator", "odict_iterator", "itertools.zip_longest", "itertools.pairwise"].contains n && vs[0]? == some (rawInt a) then
          rule "for.unpacks-the-owned-tuple"
          updateField r 0 .none
      | _, _ => pure ()
    | _ => pure ()) Q E s := by
    cases v <;> first | exact wpAny_pure h | skip
    refine wpAny_bind (wpAny_load ho ?_)
    cases oda <;> first | exact wpAny_pure h | skip
    show wpAny M A (if _ then _ else _) Q E s
    rw [hn, Bool.false_and, if_neg Bool.false_ne_true]
    exact wpAny_pure h
  cases target <;> first | exact wpAny_pure h | exact go
theorem goes_list {B : BC} {A : Around} (hh : A.handled = none) {it a : Nat} {V0 : V} {vs : List V} :
    Goes B A (fun b => b = it) (fun z0 => False) it (.ref a) V0 vs (fun H => lstOf H V0 = some vs) (fun z0 => True) (fun k h => h.IsListIter it a k) where
  keep := fun k h h' st hk => st.at fun o e => hk it o (.inl rfl) e
  fix := fun z0 z0 z0 z0 z0 f => f.elim
  item := fun k V s H R target hV z0 st hI I r0 g => by
    obtain ⟨a1, items, n, l1, r1, z1⟩ := lst_at I r0 g
    obtain ⟨x, hx⟩ : ∃ x, items.toList[k]? = some x := ⟨_, List.getElem?_eq_getElem (by rw [r1.1]; exact (List.getElem?_eq_some_iff.mp hV).1)⟩
    have rx := r1.2 k x V hx hV
    refine wpAny_pyNext_list_item st l1.isList (x := x) (by rw [← Array.getElem?_toList]; exact hx) fun h' st' k' => ⟨x, rfl, ?_⟩
    obtain ⟨o, ho, hc, hd⟩ := id st'
    refine letOwned_other ho hc (by decide) ?_
    have kk : ∀ b o, s.heap.get? b = some o → ¬ b = it → h'.get? b = some o := fun b o e n => (k'.2 b n).trans e
    exact ⟨rx.stepX (X := fun b => b = it) hI (stepX_of kk), I.atX (X := fun b => b = it) (R0 := R) s.toks hI (fun z0 x => x) (fun b z0 e => ⟨o, e ▸ ho⟩) kk, stepX_of kk, st'⟩
  done := fun s H R R0 st hI I r0 g h0 h1 => by
    obtain ⟨a1, items, n, l1, r1, z1⟩ := lst_at I r0 g
    refine wpAny_pyNext_list_end hh st l1.isList (by rw [← Array.getElem?_toList, ← r1.1]; exact List.getElem?_eq_none (Nat.le_refl _)) fun h' k' => ?_
    have kk : ∀ b o, s.heap.get? b = some o → ¬ b = it → h'.get? b = some o := fun b o e n => k' b o n e
    exact ⟨rfl, I.atX (X := fun b => b = it) s.toks hI h0 (fun b r e => (h1 b r e).elim) kk, stepX_of kk⟩
  self := fun k s Q E st h => wpAny_pyIter_listiter st h
theorem goes_tuple {B : BC} {A : Around} (hh : A.handled = none) {it a : Nat} {vs : List V} :
    Goes B A (fun b => b = it) (fun z0 => False) it (.ref a) (.tup vs) vs (fun z0 => True) (fun z0 => True) (fun k h => h.IsTupleIter it a k) where
  keep := fun k h h' st hk => st.at fun o e => hk it o (.inl rfl) e
  fix := fun z0 z0 z0 z0 z0 f => f.elim
  item := fun k V s H R target hV z0 st hI I r0 g => by
    obtain ⟨a1, items, n, l1, _, _, r1, hz⟩ := r0.inv_tup
    obtain ⟨x, hx⟩ : ∃ x, items.toList[k]? = some x := ⟨_, List.getElem?_eq_getElem (by rw [r1.1]; exact (List.getElem?_eq_some_iff.mp hV).1)⟩
    have rx := r1.2 k x V hx hV
    refine wpAny_pyNext_tuple_item st (show s.heap.IsTuple a items from ⟨_, l1, rfl, n, rfl⟩) (x := x) (by rw [← Array.getElem?_toList]; exact hx) fun h' st' k' => ⟨x, rfl, ?_⟩
    obtain ⟨o, ho, hc, hd⟩ := id st'
    refine letOwned_other ho hc (by decide) ?_
    have kk : ∀ b o, s.heap.get? b = some o → ¬ b = it → h'.get? b = some o := fun b o e n => (k'.2 b n).trans e
    exact ⟨rx.stepX (X := fun b => b = it) hI (stepX_of kk), I.atX (X := fun b => b = it) (R0 := R) s.toks hI (fun z0 x => x) (fun b z0 e => ⟨o, e ▸ ho⟩) kk, stepX_of kk, st'⟩
  done := fun s H R R0 st hI I r0 g h0 h1 => by
    obtain ⟨a1, items, n, l1, _, _, r1, hz⟩ := r0.inv_tup
    refine wpAny_pyNext_tuple_end hh st (show s.heap.IsTuple a items from ⟨_, l1, rfl, n, rfl⟩) (by rw [← Array.getElem?_toList, ← r1.1]; exact List.getElem?_eq_none (Nat.le_refl _)) fun h' k' => ?_
    have kk : ∀ b o, s.heap.get? b = some o → ¬ b = it → h'.get? b = some o := fun b o e n => k' b o n e
    exact ⟨rfl, I.atX (X := fun b => b = it) s.toks hI h0 (fun b r e => (h1 b r e).elim) kk, stepX_of kk⟩
  self := fun k s Q E st h => wpAny_pyIter_tupleiter st h
theorem goes_rev {B : BC} {A : Around} (hh : A.handled = none) {it a : Nat} {vs : List V} :
    Goes B A (fun b => b = it) (fun z0 => False) it (.ref a) (.tup vs) vs.reverse (fun z0 => True) (fun z0 => True) (fun k h => h.get? it = some (revT a ((vs.length : Int) - 1 - k))) where
  keep := fun k h h' st hk => hk it _ (.inl rfl) st
  fix := fun z0 z0 z0 z0 z0 f => f.elim
  item := fun k V s H R target hV z0 st hI I r0 g => by
    obtain ⟨a1, items, n, l1, _, _, r1, hz⟩ := r0.inv_tup
    have hk : k < vs.length := by have := (List.getElem?_eq_some_iff.mp hV).1; simpa using this
    have hsz := size_eq r1
    have hz : vs.length ≤ 16000000 := hz
    obtain ⟨x, hx⟩ : ∃ x, items.toList[vs.length - 1 - k]? = some x := ⟨_, List.getElem?_eq_getElem (by rw [r1.1]; exact li2 [_, _, _] ⟨0, .a (.v 0) (.n 1), .v 1⟩ ⟨0, .v 0, .v 2⟩ ⟨0, .a (.v 2) (.n 1), .v 1⟩ rfl (Nat.sub_le _ _) (sb3 (li1 [_, _] ⟨0, .n 1, .v 0⟩ ⟨0, .a (.v 1) (.n 1), .v 0⟩ rfl hk)))⟩
    rw [List.getElem?_reverse hk] at hV
    have rx := r1.2 _ x V hx hV
    have ei : ((vs.length : Int) - 1 - (k : Int)) = ((vs.length - 1 - k : Nat) : Int) := by omega
    rw [ei] at st
    refine wpAny_pyNext_revT_item st l1 (by exact Nat.le_trans (Nat.le_of_eq hsz) hz) (x := x) (by rw [← Array.getElem?_toList]; exact hx) fun h' tk st' k' => ⟨x, rfl, ?_⟩
    refine letOwned_other st' rfl (by decide) ?_
    have kk : ∀ b o, s.heap.get? b = some o → ¬ b = it → h'.get? b = some o := fun b o e n => (k'.2 b n).trans e
    refine ⟨rx.stepX (X := fun b => b = it) hI (stepX_of kk), I.atX (X := fun b => b = it) (R0 := R) tk hI (fun z0 x => x) (fun b z0 e => ⟨_, e ▸ st'⟩) kk, stepX_of kk, ?_⟩
    have e2 : ((vs.length - 1 - k : Nat) : Int) - 1 = (vs.length : Int) - 1 - ((k + 1 : Nat) : Int) := by omega
    rw [← e2]; exact st'
  done := fun s H R R0 st hI I r0 g h0 h1 => by
    rw [List.length_reverse] at st
    have e2 : (vs.length : Int) - 1 - (vs.length : Int) = -1 := by omega
    rw [e2] at st
    refine wpAny_pyNext_revT_end hh st fun h' k' => ?_
    have kk : ∀ b o, s.heap.get? b = some o → ¬ b = it → h'.get? b = some o := fun b o e n => k' b o n e
    exact ⟨rfl, I.atX (X := fun b => b = it) s.toks hI h0 (fun b r e => (h1 b r e).elim) kk, stepX_of kk⟩
  self := fun k s Q E st h => wpAny_pyIter_revT st h
theorem goes_range {B : BC} {A : Around} (hh : A.handled = none) {it n : Nat} {v0 : Value} {V0 : V} :
    Goes B A (fun b => b = it) (fun z0 => False) it v0 V0 ((List.range n).map fun (i : Nat) => .int (i : Int)) (fun z0 => True) (fun z0 => True) (fun k h => IsRangeIter h it (k : Int) ((n : Int) - k) 1) where
  keep := fun k h h' st hk => hk it _ (.inl rfl) st
  fix := fun z0 z0 z0 z0 z0 f => f.elim
  item := fun k V s H R target hV z0 st hI I r0 g => by
    have hk : k < n := by have := (List.getElem?_eq_some_iff.mp hV).1; simpa using this
    rw [List.getElem?_map, List.getElem?_range hk] at hV
    cases hV
    refine wpAny_pyNext_range_item st (by omega) fun h' st' k' => ⟨_, rfl, ?_⟩
    refine letOwned_other st' rfl (by decide) ?_
    have kk : ∀ b o, s.heap.get? b = some o → ¬ b = it → h'.get? b = some o := fun b o e n => (k'.2 b n).trans e
    refine ⟨.int _ _, I.atX (X := fun b => b = it) (R0 := R) _ hI (fun z0 x => x) (fun b z0 e => ⟨_, e ▸ st'⟩) kk, stepX_of kk, ?_⟩
    have e2 : (n : Int) - ((k + 1 : Nat) : Int) = (n : Int) - k - 1 := by omega
    rw [e2]; exact st'
  done := fun s H R R0 st hI I r0 g h0 h1 => by
    refine wpAny_pyNext_range_end hh st (by simp) fun h' k' => ?_
    have kk : ∀ b o, s.heap.get? b = some o → ¬ b = it → h'.get? b = some o := fun b o e n => k' b o n e
    exact ⟨rfl, I.atX (X := fun b => b = it) s.toks hI h0 (fun b r e => (h1 b r e).elim) kk, stepX_of kk⟩
  self := fun k s Q E st h => wpAny_pyIter_rangeiter st h
theorem goes_dict {B : BC} {A : Around} (hh : A.handled = none) {it a ep : Nat} {kvs : List (Int × Value)} {es : List (Int × V)} (hne : a ≠ it) (hk : kvs.map (·.1) = es.map (·.1)) :
    Goes B A (fun b => b = it) (fun b => b = a) it (.ref a) (.dcI es) (es.map fun e => .int e.1) (fun z0 => True) (fun z0 => True) (fun k h => h.IsKeyIter it a k kvs.length ep ∧ h.DictAt (intKeys B) a kvs ep) where
  keep := fun k h h' st hk => ⟨st.1.at fun o e => hk it o (.inl rfl) e, st.2.at' fun o e => hk a o (.inr rfl) e⟩
  fix := fun h H R r b e => by subst e; obtain ⟨a, kvs, _, _, o, n, _⟩ := r.inv_dcI; exact ⟨o, n⟩
  item := fun k V s H R target hV z0 st hI I r0 g => by
    have hl : kvs.length = es.length := by have := congrArg List.length hk; simpa using this
    rw [List.getElem?_map] at hV
    obtain ⟨e, he, rfl⟩ := Option.map_eq_some_iff.mp hV
    have h1 : (kvs.map (·.1))[k]? = some e.1 := by rw [hk, List.getElem?_map, he]; rfl
    rw [List.getElem?_map] at h1
    obtain ⟨x, hx, hx2⟩ := Option.map_eq_some_iff.mp h1
    refine wpAny_pyNext_dict_item st.1 st.2 (k := x.1) (v := x.2) hx fun key h' hkey st' k' => ⟨key, rfl, ?_⟩
    obtain ⟨t, rfl⟩ := Value.isInt_shape hkey
    obtain ⟨o, ho, hc, hd⟩ := id st'
    refine letOwned_other ho hc (by decide) ?_
    have kk : ∀ b o, s.heap.get? b = some o → ¬ b = it → h'.get? b = some o := fun b o e n => (k'.2 b n).trans e
    rw [hx2]
    exact ⟨.int _ _, I.atX (X := fun b => b = it) (R0 := R) s.toks hI (fun z0 x => x) (fun b z0 e => ⟨o, e ▸ ho⟩) kk, stepX_of kk, st', st.2.at' fun o e => kk a o e hne⟩
  done := fun s H R R0 st hI I r0 g h0 h1 => by
    have hl : kvs.length = es.length := by have := congrArg List.length hk; simpa using this
    refine wpAny_pyNext_dict_end hh st.1 st.2 (by rw [List.length_map, ← hl]; exact List.getElem?_eq_none (Nat.le_refl _)) fun h' k' => ?_
    have kk : ∀ b o, s.heap.get? b = some o → ¬ b = it → h'.get? b = some o := fun b o e n => k' b o n e
    exact ⟨rfl, I.atX (X := fun b => b = it) s.toks hI h0 (fun b r e => (h1 b r e).elim) kk, stepX_of kk⟩
  self := fun k s Q E st h => wpAny_pyIter_keyiter st.1 h
inductive isTupT : PySem.Expr → Prop
  | mk {es k p} : isTupT (.Tuple es k p)
theorem goes_enum {B : BC} {A : Around} (hh : A.handled = none) {e it a : Nat} {vs : List V} (hne : e ≠ it) :
    Goes B A (fun b => b = e ∨ b = it) (fun z0 => False) e (.ref a) (.lst vs) (enumFrom 0 vs) (fun z0 => True) isTupT (fun k h => (∃ old, IsEnum h e it k old) ∧ h.IsListIter it a k) where
  keep := fun k h h' st hk => ⟨let ⟨old, he⟩ := st.1; ⟨old, hk e _ (.inl (.inl rfl)) he⟩, st.2.at fun o x => hk it o (.inl (.inr rfl)) x⟩
  fix := fun z0 z0 z0 z0 z0 f => f.elim
  item := fun k V s H R target hV ht st hI I r0 g => by
    obtain ⟨a1, items, n, l1, r1, z1⟩ := lst_at I r0 rfl
    rw [enum_get] at hV
    obtain ⟨W, hW, rfl⟩ := Option.map_eq_some_iff.mp hV
    obtain ⟨x, hx⟩ : ∃ x, items.toList[k]? = some x := ⟨_, List.getElem?_eq_getElem (by rw [r1.1]; exact (List.getElem?_eq_some_iff.mp hW).1)⟩
    have rx := r1.2 k x W hx hW
    obtain ⟨⟨old, he⟩, hit⟩ := st
    have fr := I.fresh' (none_size s.heap)
    have hte : e ≠ s.heap.objs.size := Nat.ne_of_lt (ltS he)
    refine wpAny_pyNext_enum_item he hit l1.isList (x := x) (by rw [← Array.getElem?_toList]; exact hx) hne fun h' ho hit' hT hsz k' => ⟨_, rfl, ?_⟩
    cases ht
    refine wpAny_letOwnedTupleGo_enum ho fun h'' he' hs' => ?_
    have kk : ∀ b o, s.heap.get? b = some o → ¬ (b = e ∨ b = it) → h''.get? b = some o := fun b o e n => (hs'.2 b fun z => n (.inl z)).trans (k' b o (fun z => n (.inl z)) (fun z => n (.inr z)) e)
    have hit'' : h''.IsListIter it a (k + 1) := hit'.at fun o y => (hs'.2 it hne.symm).trans y
    have rr := rx.stepX (X := fun b => b = e ∨ b = it) hI (stepX_of kk)
    refine ⟨?_, I.atX (X := fun b => b = e ∨ b = it) (R0 := R) _ hI (fun z0 x => x) (fun b z0 z => ?_) kk, stepX_of kk, ⟨x, by simpa using he'⟩, hit''⟩
    · have hT' : IsT h'' s.heap.objs.size #[.int k s.toks, x] 0 := (hs'.2 _ hte.symm).trans hT
      exact .tup hT' fr.1 fr.2 rfl (Nat.le_of_ble_eq_true rfl) (RelL.cons (by rw [Nat.zero_add]; exact .int _ _) (RelL.one rr)).2
    · rcases z with rfl | rfl
      · exact ⟨_, he'⟩
      · obtain ⟨o, ho, _⟩ := hit''; exact ⟨o, ho⟩
  done := fun s H R R0 st hI I r0 g h0 h1 => by
    obtain ⟨a1, items, n, l1, r1, z1⟩ := lst_at I r0 rfl
    obtain ⟨⟨old, he⟩, hit⟩ := st
    rw [enum_len] at he hit
    refine wpAny_pyNext_enum_end hh he hit l1.isList (by rw [← Array.getElem?_toList, ← r1.1]; exact List.getElem?_eq_none (Nat.le_refl _)) fun h' k' => ?_
    have kk : ∀ b o, s.heap.get? b = some o → ¬ (b = e ∨ b = it) → h'.get? b = some o := fun b o e n => k' b o (fun z => n (.inr z)) e
    exact ⟨rfl, I.atX (X := fun b => b = e ∨ b = it) s.toks hI h0 (fun b r e => (h1 b r e).elim) kk, stepX_of kk⟩
  self := fun k s Q E st h => let ⟨old, he⟩ := st.1; wpAny_pyIter_enum he h
end Mine.Internal
set_option maxRecDepth 100000
set_option linter.unusedVariables false
namespace Mine.Internal
open PySem PySem.W PyProof.Rows PySem.SeqAt
theorem toS_some {s : Str} {n : String} (h : toS s = some n) : s = Str.ofString n := by
  unfold toS at h
  by_cases e : Str.ofString s.toString = s
  · rw [if_pos e] at h; exact Option.some.inj h ▸ e.symm
  · rw [if_neg e] at h; exact dead h
noncomputable def TOk (B : BC) (A : Around) (l : Lvl) (ls : List Lvl) (C : CallW) (env : Env) (e : PySem.Expr) (x : X) : Prop :=
  ∀ R H m s t f, wT C x m H t f → Inv B R s H → EnvOk B l ls env R s.heap H m →
    wpAny (model B.prog B.w) A (isTrue e env (eval e env)) (PostT B R t f H s) noE s
section
variable {B : BC} {A : Around} {l : Lvl} {ls : List Lvl} {C : CallW} {env : Env}
theorem eok_const {c : Const} {k : Nat} {p : Pos} {c' : Cst} (h : cCst c = some c') : EOk B A l ls C env (.Constant c k p) (.cst c') := by
  intro R H m s Q hq I K
  have hq : Q c'.v H := hq
  cases c with
  | none => cases h; exact wpAny_pure ⟨_, H, .none, I, Step.refl _ _, hq⟩
  | bool b => cases h; exact wpAny_pure ⟨_, H, .bool _, I, Step.refl _ _, hq⟩
  | int i => cases h; exact wpAny_mkInt ⟨_, H, .int _ _, I.toks _, Step.refl _ _, hq⟩
  | str x =>
    obtain ⟨n, e, rfl⟩ := Option.map_eq_some_iff.mp h
    rw [toS_some e]
    exact Calls.Constant_str ⟨_, H, .str _ _, I.toks _, Step.refl _ _, hq⟩
  | _ => exact dead h
theorem eok_loc {x : Str} {p : Pos} {i : Nat} (hs : slotIn (l :: ls) x = some i) (hd : (x == ("__debug__" : Str)) = false) (hc : (x == ("__classdict__" : Str)) = false) : EOk B A l ls C env (.Name x p) (.loc i) := by
  intro R H m s Q hq I K
  obtain ⟨V, hO⟩ := locW_iff.1 hq; have hv := hO.1; have q := hO.2; clear hO
  exact wpAny_Name (load_sound K hs hv hc fun v r => ⟨V, H, r, I, Step.refl _ _, q⟩) hd
theorem eok_glob (gl : GlobOk B) {x : Str} {p : Pos} {n : String} {c : Cst} (hg : isGlob (l :: ls) x = true) (hd : (x == ("__debug__" : Str)) = false) (hn : toS x = some n) (hc : cstTab.lookup n = some c) : EOk B A l ls C env (.Name x p) (.cst c) := by
  intro R H m s Q hq I K
  have hq : Q c.v H := hq
  induction gl with | mk mg mb n1 n2 _ _ _ _ h5 => ?_
  obtain ⟨v, hO⟩ := h5 n c hc; have e := hO.1; have r := hO.2; clear hO
  exact glob_load K I hg hd n1 (by rw [toS_some hn]; exact e) ⟨_, H, I.baseRel r, I, Step.refl _ _, hq⟩
theorem eok_bin {a b : PySem.Expr} {o : Operator} {p : Pos} {op : BOp} {x y : X} (hr : Room A 0) (ho : cBop o = some op) (ha : EOk B A l ls C env a x) (hb : EOk B A l ls C env b y) : EOk B A l ls C env (.BinOp a o b p) (.bin op x y) := by
  intro R H m s Q hq I K
  have hq : wE C x m H fun a H => wE C y m H fun b H => binV op a b H Q := hq
  rw [eval_BinOp]
  refine wpAny_bind (seqE (ha R H m s _ hq I K) fun v s₁ V H₁ rv I₁ st₁ q₁ => ?_)
  refine wpAny_bind (wpAny_holding (seqE (hb R H₁ m s₁ _ q₁ I₁ (K.step I st₁)) fun u s₂ W H₂ ru I₂ st₂ q₂ => ?_))
  refine wpAny_bind (wpAny_standAt (wpAny_operate' (onE (binV_sound ho q₂ I₂ (rv.step st₂) ru hr) (st₁.trans st₂))))
theorem unary_not {prog : Program} {w : World} {A : Around} {E : Value → Shared → Prop} {s : Shared} {b : Bool} {Q : Value → Shared → Prop} (h : Q (.bool !b) s) : wpAny (model prog w) A (unaryOp .Not (.bool b)) Q E s := by
  unfold unaryOp
  first
    | exact wpAny_bind (wpAny_truthy_bool (wpAny_pure h))
    | exact wpAny_holding (wpAny_bind (wpAny_truthy_bool (wpAny_pure h)))
theorem eok_not {a : PySem.Expr} {p : Pos} {x : X} (ha : EOk B A l ls C env a x) : EOk B A l ls C env (.UnaryOp .Not a p) (.not x) := by
  intro R H m s Q hq I K
  have hq : wE C x m H fun v H => ∃ b, v = .bool b ∧ Q (.bool (!b)) H := hq
  refine wpAny_UnaryOp (seqE (ha R H m s _ hq I K) fun v s₁ V H₁ rv I₁ st₁ q0 => ?_)
  obtain ⟨b, rfl, q₁⟩ := q0
  cases rv.inv_bool
  exact unary_not ⟨_, H₁, .bool _, I₁, st₁, q₁⟩
theorem eok_neg {i : Int} {k : Nat} {p p' : Pos} : EOk B A l ls C env (.UnaryOp .USub (.Constant (.int i) k p) p') (.cst (.int (-i))) := by
  intro R H m s Q hq I K
  have hq : Q (.int (-i)) H := hq
  refine wpAny_UnaryOp (wpAny_mkInt (P.neg_int ?_))
  exact ⟨_, H, .int _ _, I.toks _, Step.refl _ _, hq⟩
theorem eok_ite {a t e : PySem.Expr} {p : Pos} {x y z : X} (ha : TOk B A l ls C env a x) (ht : EOk B A l ls C env t y) (he : EOk B A l ls C env e z) : EOk B A l ls C env (.IfExp a t e p) (.ite x y z) := by
  intro R H m s Q hq I K
  have hq : wT C x m H (fun H => wE C y m H Q) (fun H => wE C z m H Q) := hq
  refine wpAny_IfExp (seqT (ha R H m s _ _ hq I K) fun b s₁ H₁ I₁ st₁ q₁ q₂ => ?_)
  cases b with
  | true => exact onE (ht R H₁ m s₁ _ (q₁ rfl) I₁ (K.step I st₁)) st₁
  | false => exact onE (he R H₁ m s₁ _ (q₂ rfl) I₁ (K.step I st₁)) st₁
theorem eok_tuple {es : List PySem.Expr} {k : Nat} {p : Pos} {xs : List X} {f : PySem.Expr → Option X} (hf : ∀ e x, f e = some x → EOk B A l ls C env e x) (hs : ∀ e, isStar e = true → f e = none) (hc : cEsWith f es = some xs) :
    EOk B A l ls C env (.Tuple es k p) (.tupD (mkXs xs)) := by
  intro R H m s Q hq I K
  have hq : wEs C (mkXs xs) m H fun vs H => vs.length ≤ big ∧ Q (.tup vs) H := hq
  refine wpAny_Tuple_spliced ?_
  rw [star_plain p env (cEs_star hs hc)]
  refine seqL (args_sound hf hc hq I K) fun vs s₁ Vs H₁ rs I₁ st₁ q0 => ?_
  have hO := q0; have hb := hO.1; have q₁ := hO.2; clear hO
  refine ⟨by rw [rs.1]; exact sizeLine_big hb, ?_⟩
  exact (postTup I₁ (items := vs.toArray) (by simpa using rs) hb q₁ s₁.toks (none_size _) (IsT.new _ _) (fun b o e => Heap.get?_push_of_some _ e)).on st₁
theorem eok_list {es : List PySem.Expr} {p : Pos} {xs : List X} {f : PySem.Expr → Option X} (hf : ∀ e x, f e = some x → EOk B A l ls C env e x) (hs : ∀ e, isStar e = true → f e = none) (hc : cEsWith f es = some xs) :
    EOk B A l ls C env (.List es p) (.lstD (mkXs xs)) := by
  intro R H m s Q hq I K
  have hq : wEs C (mkXs xs) m H fun vs H => mkList vs H Q := hq
  refine wpAny_List_spliced ?_
  rw [star_plain p env (cEs_star hs hc)]
  refine seqL (args_sound hf hc hq I K) fun vs s₁ Vs H₁ rs I₁ st₁ q₁ => ?_
  refine ⟨by rw [rs.1]; exact sizeLine_big q₁.1, ?_⟩
  exact (postMk I₁ (items := vs.toArray) (by simpa using rs) q₁ s₁.toks).on st₁
theorem not_sysModules {R s H} (I : Inv B R s H) : (s.heap.objs.size == sysModules) = false := by
  have := I.size
  have h2 : sysModules ≤ 10 := by decide
  rw [beq_eq_false_iff_ne]
  exact Nat.ne_of_gt (Nat.lt_of_le_of_lt h2 this)
theorem eok_dict {p : Pos} : EOk B A l ls C env (.Dict [] [] p) .dctD := by
  intro R H m s Q hq I K
  have hq : (∀ a, H a = none → Q (.ref a) (H.set a (.dcI []))) ∨ (∀ a, H a = none → Q (.ref a) (H.set a (.dcT []))) := hq
  rw [eval_Dict_empty]
  refine wpAny_bind (wpAny_standAt ?_)
  unfold newDict
  refine wpAny_newObj_type ?_
  have f := I.fresh' (none_size _)
  rcases hq with q | q
  · have J := I.new (a := s.heap.objs.size) (o' := .dcI []) (h' := s.heap.push { cls := .type "dict", data := .dict #[] }) s.toks (none_size _) (fun e => nomatch e) (fun b o e => Heap.get?_push_of_some _ e)
      fun rr => ⟨not_sysModules I, [], Heap.DictOf.new _, rfl, fun i x y h => dead h⟩
    exact ⟨_, _, .ref _, J.1, J.2, q _ f.1.1⟩
  · have J := I.new (a := s.heap.objs.size) (o' := .dcT []) (h' := s.heap.push { cls := .type "dict", data := .dict #[] }) s.toks (none_size _) (fun e => nomatch e) (fun b o e => Heap.get?_push_of_some _ e)
      fun rr => ⟨not_sysModules I, [], Heap.DictOfH.new _, fun x hx => absurd hx List.not_mem_nil, rfl, fun i x y h => dead h⟩
    exact ⟨_, _, .ref _, J.1, J.2, q _ f.1.1⟩
set_option tactic.hygienic true in
theorem behind_false {o : CmpOp} {e : PySem.Expr} (h : ∀ es k p, e ≠ .Set es k p) : behindInMarks o e = false := by
  cases e <;> first | rfl | (rename_i a b c; exact absurd rfl (h a b c))
inductive PostC (B : BC) (R : Nat → Prop) (t f : Hp → Prop) (H : Hp) (s : Shared) : Value → Shared → Prop
  | mk {r s'} (H') : Inv B R s' H' → Step s.heap H s'.heap H' → (r = true → t H') → (r = false → f H') → PostC B R t f H s (.bool r) s'
theorem cmp_eval {a b : PySem.Expr} {o : CmpOp} {op : COp} {x y : X} (hr : Room A 0) (ho : cCop o = some op) (ha : EOk B A l ls C env a x) (hb : EOk B A l ls C env b y) {R H m s} {T F : Hp → Prop}
    (hq : wE C x m H fun a H => wE C y m H fun b H => cmpW op a b H T F) (I : Inv B R s H) (K : EnvOk B l ls env R s.heap H m) :
    wpAny (model B.prog B.w) A (eval a env) (fun v s₁ => wpAny (model B.prog B.w) A (eval b env) (fun u s₂ => wpAny (model B.prog B.w) A (compareOp o v u)
      (PostC B R T F H s) noE s₂) noE s₁) noE s := by
  refine seqE (ha R H m s _ hq I K) fun v s₁ V H₁ rv I₁ st₁ q₁ => ?_
  refine seqE (hb R H₁ m s₁ _ q₁ I₁ (K.step I st₁)) fun u s₂ W H₂ ru I₂ st₂ q₂ => ?_
  refine wpAny_mono (cmpW_sound ho q₂ I₂ (rv.step st₂) ru hr) (fun c s₃ h₃ => ?_) fun z0 z0 x => x
  induction h₃ with | mk r tk t1 t2 => ?_
  exact .mk H₂ (I₂.toks tk) (st₁.trans st₂) t1 t2
set_option tactic.hygienic true in
theorem eok_cmp {a b : PySem.Expr} {o : CmpOp} {p : Pos} {op : COp} {x y : X} (hr : Room A 0) (ho : cCop o = some op) (hset : ∀ es k p, b ≠ .Set es k p) (ha : EOk B A l ls C env a x) (hb : EOk B A l ls C env b y) : EOk B A l ls C env (.Compare a [o] [b] p) (.cmp op x y) := by
  intro R H m s Q hq I K
  refine wpAny_Compare1 (wpAny_mono (cmp_eval hr ho ha hb hq I K) (fun v s₁ h₁ => wpAny_mono h₁ (fun u s₂ h₂ => wpAny_mono h₂ (fun c s₃ h₃ => ?_) fun z0 z0 x => x) fun z0 z0 x => x) fun z0 z0 x => x) (behind_false hset)
  obtain ⟨H', I', st, t1, t2⟩ := h₃
  rename_i r
  cases r with
  | true => exact ⟨_, H', .bool _, I', st, t1 rfl⟩
  | false => exact ⟨_, H', .bool _, I', st, t2 rfl⟩
theorem tok_cmp {a b : PySem.Expr} {o : CmpOp} {p : Pos} {op : COp} {x y : X} (hr : Room A 0) (ho : cCop o = some op) (hset : ∀ es k p, b ≠ .Set es k p) (ha : EOk B A l ls C env a x) (hb : EOk B A l ls C env b y) : TOk B A l ls C env (.Compare a [o] [b] p) (.cmp op x y) := by
  intro R H m s t f hq I K
  rw [arm_isTrue_Compare]
  refine wpAny_bind (wpAny_mono (cmp_eval hr ho ha hb hq I K) (fun v s₁ h₁ => ?_) fun z0 z0 x => x)
  show wpAny _ _ (testChain p v [o] [markedBehindIn o b (eval b env)]) _ _ _
  rw [show markedBehindIn o b (eval b env) = eval b env by unfold markedBehindIn; rw [behind_false hset]]
  show wpAny _ _ (holding [v] (eval b env) >>= _) _ _ _
  refine wpAny_bind (wpAny_holding (wpAny_mono h₁ (fun u s₂ h₂ => wpAny_bind (wpAny_standAt (wpAny_bind (wpAny_operate' (wpAny_mono h₂ (fun c s₃ h₃ => ?_) fun z0 z0 x => x))))) fun z0 z0 x => x))
  induction h₃ with | mk H' I' st t1 t2 => ?_
  exact wpAny_holding (wpAny_truthy_bool ⟨H', I', st, t1, t2⟩)
theorem tok_not {a : PySem.Expr} {p : Pos} {x : X} (ha : TOk B A l ls C env a x) : TOk B A l ls C env (.UnaryOp .Not a p) (.not x) := by
  intro R H m s t f hq I K
  have hq : wT C x m H f t := hq
  refine wpAny_isTrue_Not (seqT (ha R H m s _ _ hq I K) fun r s₁ H' I' st t1 t2 => ?_)
  exact ⟨H', I', st, fun e => t2 (not_tt e), fun e => t1 (nf e)⟩
theorem tok_value {e : PySem.Expr} {x : X} (hE : EOk B A l ls C env e x) (hi : ∀ whole, isTrue e env whole = (do let v ← whole; standAt e.pos; holding [v] (truthy v)))
    (hw : ∀ m H t f, wT C x m H t f → wE C x m H (boolQ t f)) : TOk B A l ls C env e x := by
  intro R H m s t f hq I K
  rw [hi]
  refine wpAny_bind (seqE (hE R H m s _ (hw m H t f hq) I K) fun v s₁ V H₁ rv I₁ st₁ q0 => ?_)
  obtain ⟨b, rfl, q1, q2⟩ := q0
  cases rv.inv_bool
  exact wpAny_bind (wpAny_standAt (wpAny_holding (wpAny_truthy_bool ⟨H₁, I₁, st₁, q1, q2⟩)))
end
end Mine.Internal
set_option maxRecDepth 100000
set_option linter.unusedVariables false
namespace Mine.Internal
open PySem PySem.W PyProof.Rows PySem.SeqAt
theorem base_eq {o : PySem.Expr} (h : baseOk o = true) (a : Str) (env : Env) (w : Sem Value) : attributeBase o a env w = w := by
  cases o with
  | Call g as ks p => cases g with
    | Name => cases as with
      | nil => cases ks with
        | nil => cases h
        | cons => rfl
      | cons => rfl
    | _ => rfl
  | _ => rfl
theorem callVal_sound {M : Model} {A : Around} {E : Value → Shared → Prop} {s : Shared} {v : Value} {es : List PySem.Expr} {env : Env} {pos : Pos} {Q : Value → Shared → Prop} (hv : (∃ i, v = .builtin i) ∨ ∃ T, v = .type T)
    (h : wpAny M A (spliced (plainArgs es env)) (fun vs s' => wpAny M A (call v vs []) Q E s') E s) : wpAny M A (callWith pos v [] (plainArgs es env) []) Q E s := by
  rcases hv with ⟨i, rfl⟩ | ⟨T, rfl⟩
  · exact Calls.callWith_builtin (plainArgs_plain es env) (evalArgs_all h)
  · exact PyProof.Rows.callWith_type (plainArgs_plain es env) (evalArgs_all h)
theorem meth_eval {prog : Program} {w : World} {A : Around} {E : Value → Shared → Prop} {s : Shared} {env : Env} {o : PySem.Expr} {name : Str} {apos pos : Pos} {args : List PySem.Expr} {Q : Value → Shared → Prop} (hb : baseOk o = true) (hl : (apos.endLine == pos.line) = true)
    (hn : args.length < 20) (hp : backTo pos (starEach args env) = plainArgs args env)
    (h : wpAny (model prog w) A (eval o env) (fun ov s₁ => ∀ pl, wpAny (model prog w) A (getMethod ov name pl) (fun fx s₂ => wpAny (model prog w) A (callWith pos fx.1 fx.2 (plainArgs args env) []) Q E s₂) E s₁) E s) :
    wpAny (model prog w) A (eval (.Call (.Attribute o name apos) args [] pos) env) Q E s := by
  rw [arm_eval_Call, base_eq hb, hp]
  refine wpAny_bind (wpAny_mono h (fun ov s₁ h₁ => ?_) fun z0 z0 e => e)
  refine wpAny_bind (wpAny_standAt ?_)
  have hform : methodCallForm (args.length + ([] : List Keyword).length) (plainArgs args env) (backToKw pos (keywordEach [] env)) = true := by
    unfold methodCallForm
    have : (plainArgs args env).all (fun x => !x.1) = true := by unfold plainArgs; simp
    rw [this]
    show (true && true && decide (args.length + 0 + 0 < 30)) = true
    simp; exact li1 [_] ⟨0, .a (.v 0) (.n 1), .n 30⟩ ⟨0, .a (.v 0) (.n 1), .n 20⟩ rfl hn
  have hpos : methodCallPos true o env apos pos = pure pos := by unfold methodCallPos; simp [hl]
  unfold methodCall
  rw [hform]
  refine wpAny_bind (wpAny_holding (wpAny_mono (h₁ _) (fun fx s₂ h₂ => ?_) fun z0 z0 e => e))
  exact wpAny_bind (wpAny_of_eq hpos h₂)
section
variable {B : BC} {A : Around} {l : Lvl} {ls : List Lvl} {C : CallW} {env : Env}
theorem eok_attr (b : BaseK B) {o : PySem.Expr} {a : Str} {p : Pos} {n : String} {x : X} (hb : baseOk o = true) (hn : toS a = some n) (ho : EOk B A l ls C env o x) : EOk B A l ls C env (.Attribute o a p) (.attr x n) := by
  intro R H m s Q hq I K
  have hq : wE C x m H fun v H => ∃ c as w, instOf H v = some (c, as) ∧ n ∈ c.attrs ∧ as.lookup n = some w ∧ Q w H := hq
  rw [arm_eval_Attribute, base_eq hb, toS_some hn]
  refine wpAny_bind (seqE (ho R H m s _ hq I K) fun v s₁ V H₁ rv I₁ st₁ q0 => ?_)
  obtain ⟨c, as, w, hO⟩ := q0; have e := hO.1; have hm := hO.2.1; have hl := hO.2.2.1; have q := hO.2.2.2; clear hO
  refine wpAny_bind (wpAny_standAt (wpAny_bind (wpAny_holding (wpAny_mono (attr_sound b I₁ rv e hm hl q) (fun r s₂ h₂ => ?_) fun z0 z0 x => x))))
  exact wpAny_bind (wpAny_letTemporaryGo (wpAny_pure (h₂.on st₁)))
theorem eok_sub {o i : PySem.Expr} {p : Pos} {x y : X} (hr : Room A 0) (ho : EOk B A l ls C env o x) (hi : EOk B A l ls C env i y) : EOk B A l ls C env (.Subscript o i p) (.sub x y) := by
  intro R H m s Q hq I K
  have hq : wE C x m H fun a H => wE C y m H fun k H => ∃ v, SubV H a k v ∧ Q v H := hq
  refine Subscript_ (seqE (ho R H m s _ hq I K) fun v s₁ V H₁ rv I₁ st₁ q₁ => ?_)
  refine seqE (hi R H₁ m s₁ _ q₁ I₁ (K.step I st₁)) fun u s₂ W H₂ ru I₂ st₂ q0 => ?_
  obtain ⟨z, hO⟩ := q0; have hz := hO.1; have q₂ := hO.2; clear hO
  exact onE (sub_sound hz q₂ I₂ (rv.step st₂) ru hr) (st₁.trans st₂)
theorem slice_eval {M : Model} {E : Value → Shared → Prop} {s : Shared} {lo up st : Option PySem.Expr} {p : Pos} {Q : Value → Shared → Prop}
    (h : wpAny M A (valueOrNone (evalOpt lo env)) (fun vl s₁ => wpAny M A (valueOrNone (evalOpt up env)) (fun vu s₂ => wpAny M A (valueOrNone (evalOpt st env)) (fun vk s₃ =>
      Q (.ref s₃.heap.objs.size) { s₃ with heap := s₃.heap.push { cls := .type "slice", data := .fields #[vl, vu, vk] } }) E s₂) E s₁) E s) : wpAny M A (eval (.Slice lo up st p) env) Q E s := by
  show wpAny M A (do
    let l ← valueOrNone (evalOpt lo env)
    let u ← holding [l] (valueOrNone (evalOpt up env))
    let s ← holding [l, u] (valueOrNone (evalOpt st env))
    newFields "slice" [l, u, s]) Q E s
  refine wpAny_bind (wpAny_mono h (fun vl s₁ h₁ => wpAny_bind (wpAny_holding (wpAny_mono h₁ (fun vu s₂ h₂ => wpAny_bind (wpAny_holding (wpAny_mono h₂ (fun vk s₃ h₃ => ?_) fun z0 z0 x => x))) fun z0 z0 x => x))) fun z0 z0 x => x)
  exact wpAny_newObj_type h₃
theorem eok_slcTo {o e : PySem.Expr} {p p' : Pos} {x y : X} (hr : Room A 0) (ho : EOk B A l ls C env o x) (he : EOk B A l ls C env e y) : EOk B A l ls C env (.Subscript o (.Slice none (some e) none p') p) (.slcTo x y) := by
  intro R H m s Q hq I K
  have hq : wE C x m H fun a H => wE C y m H fun k H => (∃ s, a = .str s ∧ s.length = 1 ∧ k = .int 1 ∧ Q (.str s) H) ∨ ∃ vs i, lstOf H a = some vs ∧ k = .int i ∧ mkList (vs.take (clampTo i vs.length)) H Q := hq
  refine Subscript_ (seqE (ho R H m s _ hq I K) fun v s₁ V H₁ rv I₁ st₁ q₁ => ?_)
  refine slice_eval (wpAny_pure (wpAny_mono (he R H₁ m s₁ _ q₁ I₁ (K.step I st₁)) (fun u s₂ h₂ => wpAny_pure ?_) fun z0 z0 x => x))
  induction h₂ with | mk W H₂ ru I₂ st₂ q₂ => ?_
  have J := I₂.push s₂.toks { cls := .type "slice", data := .fields #[.none, u, .none] }
  have rv' := (rv.step st₂).step J.2
  rcases q₂ with ⟨x, rfl, hx, rfl, q⟩ | ⟨vs, i, e1, rfl, q⟩
  · obtain ⟨t, rfl⟩ := ru.inv_int
    obtain ⟨t', rfl⟩ := rv'.inv_str
    exact tail_sound (typeIs_str _ _ _) F.slot_str_getitem.lookup (onE (strSlice1_sound J.1 (Heap.get?_push_size _ rfl) hx q) ((st₁.trans st₂).trans J.2))
  · obtain ⟨t, rfl⟩ := ru.inv_int
    have z := listSlice_sound (A := A) (Q := Q) J.1 rv' e1 (Heap.IsSliceOf.new _ _ _ _) .none (.int i t) .none (by simp) (ws := vs.take (clampTo i vs.length)) (fun items r => by
      rw [kms_pick_eq, List.toList_toArray, kms_to, r.1]
      exact r.take _) q
    exact tail_sound z.1 list_getitem_lookup (wpAny_mono z.2 (fun r s₃ h₃ => h₃.on ((st₁.trans st₂).trans J.2)) fun z0 z0 x => x)
theorem eok_slcFrom {o e : PySem.Expr} {p p' : Pos} {x y : X} (hr : Room A 0) (ho : EOk B A l ls C env o x) (he : EOk B A l ls C env e y) : EOk B A l ls C env (.Subscript o (.Slice (some e) none none p') p) (.slcFrom x y) := by
  intro R H m s Q hq I K
  have hq : wE C x m H fun a H => wE C y m H fun k H => ∃ vs i, lstOf H a = some vs ∧ k = .int i ∧ mkList (vs.drop (clampTo i vs.length)) H Q := hq
  refine Subscript_ (seqE (ho R H m s _ hq I K) fun v s₁ V H₁ rv I₁ st₁ q₁ => ?_)
  refine slice_eval (wpAny_mono (he R H₁ m s₁ _ q₁ I₁ (K.step I st₁)) (fun u s₂ h₂ => wpAny_pure (wpAny_pure ?_)) fun z0 z0 x => x)
  obtain ⟨W, H₂, ru, I₂, st₂, vs, i, e1, rfl, q⟩ := h₂
  have J := I₂.push s₂.toks { cls := .type "slice", data := .fields #[u, .none, .none] }
  have rv' := (rv.step st₂).step J.2
  obtain ⟨t, rfl⟩ := ru.inv_int
  have z := listSlice_sound (A := A) (Q := Q) J.1 rv' e1 (Heap.IsSliceOf.new _ _ _ _) (.int i t) .none .none (by simp) (ws := vs.drop (clampTo i vs.length)) (fun items r => by
    rw [kms_pick_eq, List.toList_toArray, kms_from, r.1]
    exact r.drop _) q
  exact tail_sound z.1 list_getitem_lookup (wpAny_mono z.2 (fun r s₃ h₃ => h₃.on ((st₁.trans st₂).trans J.2)) fun z0 z0 x => x)
theorem eok_rev {o : PySem.Expr} {k : Nat} {p p' p2 p3 : Pos} {x : X} (hr : Room A 0) (ho : EOk B A l ls C env o x) : EOk B A l ls C env (.Subscript o (.Slice none none (some (.UnaryOp .USub (.Constant (.int 1) k p2) p3)) p') p) (.rev x) := by
  intro R H m s Q hq I K
  have hq : wE C x m H fun a H => (∃ vs, a = .tup vs ∧ Q (.tup vs.reverse) H) ∨ (∃ vs, lstOf H a = some vs ∧ mkList vs.reverse H Q) := hq
  refine Subscript_ (seqE (ho R H m s _ hq I K) fun v s₁ V H₁ rv I₁ st₁ q₁ => ?_)
  refine slice_eval (wpAny_pure (wpAny_pure (wpAny_UnaryOp (wpAny_mkInt (P.neg_int ?_)))))
  generalize s₁.toks + 1 = tk
  have J := I₁.push (tk + 1) { cls := .type "slice", data := .fields #[.none, .none, .int (-1) tk] }
  have rv' := rv.step J.2
  rcases q₁ with ⟨vs, rfl, q⟩ | ⟨vs, e1, q⟩
  · induction rv'.inv_tup with | mk a items n l1 _ _ r1 hz => ?_
    refine tail_sound (T := "tuple") ⟨_, l1, rfl⟩ F.slot_tuple_getitem.lookup (getItem_tuple_rev l1 (Heap.IsSliceOf.new _ _ _ _) ?_ (by rw [size_eq r1]; exact sizeLine_big hz))
    exact (postTup J.1 (items := items.toList.reverse.toArray) (by simpa using r1.reverse) (by rw [List.length_reverse]; exact hz) q _ (none_size _) (IsT.new _ _) (fun b o e => Heap.get?_push_of_some _ e)).on (st₁.trans J.2)
  · have z := listSlice_sound (A := A) (Q := Q) J.1 rv' e1 (Heap.IsSliceOf.new _ _ _ _) .none .none (.int (-1) tk) (by simp) (ws := vs.reverse) (fun items r => by
      rw [krv_pick, List.toList_toArray]; exact r.reverse) q
    exact tail_sound z.1 list_getitem_lookup (wpAny_mono z.2 (fun r s₃ h₃ => h₃.on (st₁.trans J.2)) fun z0 z0 x => x)
theorem callC {d : Nat} (hC : CallOk B d C) (hr : Room A d) {f : Fid} {vs : List Value} {Vs : List V} {R H s Q} (hq : C f Vs H Q) (I : Inv B R s H) (rs : RelL B s.heap H R vs Vs) : wpAny (model B.prog B.w) A (call (.ref (B.fa f)) vs) (PostE B R Q H s) noE s :=
  wpAny_call (codeAny_mono (hC f vs Vs R H s A Q hq I rs hr) fun r s' z => by
    rcases r with e | (v | _ | _ | _) <;> first | exact z | exact z.elim)
theorem eok_meth (b : BaseK B) {d : Nat} (hC : CallOk B d C) (hr : Room A d) (hr0 : Room A 0) {o : PySem.Expr} {a : Str} {ap p : Pos} {n : String} {args : List PySem.Expr} {x : X} {xs : List X} {f : PySem.Expr → Option X} (hb : baseOk o = true) (hl : (ap.endLine == p.line) = true) (hlen : args.length < 20)
    (hn : toS a = some n) (ho : EOk B A l ls C env o x) (hf : ∀ e x, f e = some x → EOk B A l ls C env e x) (hs : ∀ e, isStar e = true → f e = none) (hc : cEsWith f args = some xs) :
    EOk B A l ls C env (.Call (.Attribute o a ap) args [] p) (.meth x n (mkXs xs)) := by
  intro R H m s Q hq I K
  have hq : wE C x m H fun a H => (∃ c as f, instOf H a = some (c, as) ∧ c.meth n = some f ∧ as.lookup n = none ∧ wEs C (mkXs xs) m H fun vs H => C f (a :: vs) H Q) ∨
      (HasMeth H a n ∧ wEs C (mkXs xs) m H fun vs H => methW a n vs H Q) := hq
  refine meth_eval hb hl hlen (star_plain p env (cEs_star hs hc)) (seqE (ho R H m s _ hq I K) fun v s₁ V H₁ rv I₁ st₁ q₁ => ?_)
  intro pl
  rw [toS_some hn]
  rcases q₁ with ⟨c, as, g, e, hm, hnone, q₁⟩ | ⟨hm, q₁⟩
  · refine getMethI_sound b I₁ rv e hm hnone (callRef_sound b (b.cls.keepf g) (seqL (args_sound hf hc q₁ I₁ (K.step I st₁)) fun vs s₂ Vs H₂ rs I₂ st₂ q₂ => ?_))
    exact ⟨I₂.kin b, onE (callC hC hr q₂ I₂ (RelL.cons (rv.step st₂) rs)) (st₁.trans st₂)⟩
  · refine getMeth_sound hm I₁ rv ?_
    refine Calls.callWith_builtin (plainArgs_plain args env) (evalArgs_all (seqL (args_sound hf hc q₁ I₁ (K.step I st₁)) fun vs s₂ Vs H₂ rs I₂ st₂ q₂ => ?_))
    exact onE (methW_sound q₂ I₂ (rv.step st₂) rs hr0) (st₁.trans st₂)
theorem eok_call (b : BaseK B) (gl : GlobOk B) {d : Nat} (hC : CallOk B d C) (hr : Room A d) {x : Str} {np p : Pos} {n : String} {g : Fid} {args : List PySem.Expr} {xs : List X} {f : PySem.Expr → Option X} (hg : isGlob (l :: ls) x = true) (hd : (x == ("__debug__" : Str)) = false) (hn : toS x = some n) (hg' : fidTab.lookup n = some g)
    (hf : ∀ e x, f e = some x → EOk B A l ls C env e x) (hs : ∀ e, isStar e = true → f e = none) (hc : cEsWith f args = some xs) : EOk B A l ls C env (.Call (.Name x np) args [] p) (.call g (mkXs xs)) := by
  intro R H m s Q hq I K
  have hq : wEs C (mkXs xs) m H fun vs H => C g vs H Q := hq
  induction gl with | mk mg mb n1 n2 h1 _ => ?_
  refine Call_Name (star_plain p env (cEs_star hs hc)) (glob_load K I hg hd n1 (by rw [toS_some hn]; exact h1 n g hg') ?_)
  refine callRef_sound b (b.cls.keepf g) (seqL (args_sound hf hc hq I K) fun vs s₂ Vs H₂ rs I₂ st₂ q₂ => ?_)
  exact ⟨I₂.kin b, onE (callC hC hr q₂ I₂ rs) st₂⟩
theorem eok_new (b : BaseK B) (gl : GlobOk B) {d : Nat} (hC : CallOk B d C) (hr : Room A (d + 1)) {x : Str} {np p : Pos} {n : String} {c : Cid} {args : List PySem.Expr} {xs : List X} {f : PySem.Expr → Option X} (hg : isGlob (l :: ls) x = true) (hd : (x == ("__debug__" : Str)) = false) (hn : toS x = some n) (hg' : cidTab.lookup n = some c)
    (hf : ∀ e x, f e = some x → EOk B A l ls C env e x) (hs : ∀ e, isStar e = true → f e = none) (hc : cEsWith f args = some xs) : EOk B A l ls C env (.Call (.Name x np) args [] p) (.new c (mkXs xs)) := by
  intro R H m s Q hq I K
  have hq : wEs C (mkXs xs) m H fun vs H => ∀ a, H a = none →
      C c.init (.ref a :: vs) (H.set a (.inst c [])) fun u H' => u = .none ∧ ∃ v K, Sub K H' ∧ VV H' K (.ref a) v ∧ Q v K := hq
  induction gl with | mk mg mb n1 n2 _ h2 _ => ?_
  refine Call_Name (star_plain p env (cEs_star hs hc)) (glob_load K I hg hd n1 (by rw [toS_some hn]; exact h2 n c hg') ?_)
  refine callRef_sound b (b.cls.keep c) (seqL (args_sound hf hc hq I K) fun vs s₂ Vs H₂ rs I₂ st₂ q₂ => ?_)
  exact ⟨I₂.kin b, onE (new_sound b hC q₂ I₂ rs hr) st₂⟩
theorem eok_prim (gl : GlobOk B) (hr : Room A 0) {x : Str} {np p : Pos} {n : String} {g : Prim} {args : List PySem.Expr} {xs : List X} {f : PySem.Expr → Option X} (hg : isGlob (l :: ls) x = true) (hd : (x == ("__debug__" : Str)) = false) (hn : toS x = some n) (hg' : primTab.lookup n = some g)
    (hf : ∀ e x, f e = some x → EOk B A l ls C env e x) (hs : ∀ e, isStar e = true → f e = none) (hc : cEsWith f args = some xs) : EOk B A l ls C env (.Call (.Name x np) args [] p) (.prim g (mkXs xs)) := by
  intro R H m s Q hq I K
  have hq : wEs C (mkXs xs) m H fun vs H => primW g vs H Q := hq
  induction gl with | mk mg mb n1 n2 _ _ h3 _ => ?_
  have h3 := h3 n g hg'
  refine Call_Name (star_plain p env (cEs_star hs hc)) (glob_builtin K I hg hd n1 (by rw [toS_some hn]; exact h3.1) n2 (by rw [toS_some hn]; exact h3.2) ?_)
  refine callVal_sound (by cases g <;> first | exact .inl ⟨_, rfl⟩ | exact .inr ⟨_, rfl⟩) (seqL (args_sound hf hc hq I K) fun vs s₂ Vs H₂ rs I₂ st₂ q₂ => ?_)
  exact onE (prim_sound q₂ I₂ rs hr) st₂
inductive OrC (op : BoolOp) (x : X) : List X → X → Prop
  | one : OrC op x [] x
  | more {y ys z} : orAll op (y :: ys) = some z → OrC op x (y :: ys) (orX op x z)
theorem orAll_inv {op : BoolOp} {x y : X} {xs : List X} (h : orAll op (x :: xs) = some y) : OrC op x xs y := by
  cases xs with
  | nil => exact Option.some.inj h ▸ .one
  | cons z zs => exact map1_inv (P := OrC op x (z :: zs)) h fun a h1 => .more h1
theorem cEs_one {f : PySem.Expr → Option X} {r : List PySem.Expr} (h : cEsWith f r = some []) : r = [] := by
  cases r with
  | nil => rfl
  | cons e r => exact map2_inv (P := fun l => l = [] → e :: r = []) h (fun z0 z0 z0 z0 z => nomatch z) rfl
theorem cEs_more {f : PySem.Expr → Option X} {r : List PySem.Expr} {y ys} (h : cEsWith f r = some (y :: ys)) : ∃ e r', r = e :: r' := by
  cases r with
  | nil => cases h
  | cons e r => exact ⟨_, _, rfl⟩
theorem bool_step {op : BoolOp} {p : Pos} {e : PySem.Expr} {x z : X} {rest : Sem Value} (he : EOk B A l ls C env e x)
    (ih : ∀ R H m s Q, wE C z m H Q → Inv B R s H → EnvOk B l ls env R s.heap H m → wpAny (model B.prog B.w) A rest (PostE B R Q H s) noE s) {R H m s Q} (hq : wE C (orX op x z) m H Q) (I : Inv B R s H) (K : EnvOk B l ls env R s.heap H m) :
    wpAny (model B.prog B.w) A (do
      let v ← eval e env
      standAt p
      let t ← holding [v] (truthy v)
      match op, t with
      | .And, false | .Or, true => pure v
      | _, _ => rest) (PostE B R Q H s) noE s := by
  induction op with
  | And =>
    have hq : wE C x m H fun v H => ∃ b, v = .bool b ∧ (b = true → wE C z m H Q) ∧ (b = false → Q (.bool false) H) := hq
    refine wpAny_bind (seqE (he R H m s _ hq I K) fun v s₁ V H₁ rv I₁ st₁ q => ?_)
    obtain ⟨b, rfl, q1, q2⟩ := q
    cases rv.inv_bool
    refine wpAny_bind (wpAny_standAt (wpAny_bind (wpAny_holding (wpAny_truthy_bool ?_))))
    cases b with
    | false => exact wpAny_pure ⟨_, H₁, .bool _, I₁, st₁, q2 rfl⟩
    | true => exact onE (ih R H₁ m s₁ Q (q1 rfl) I₁ (K.step I st₁)) st₁
  | Or =>
    have hq : wE C x m H fun v H => ∃ b, v = .bool b ∧ (b = true → Q (.bool true) H) ∧ (b = false → wE C z m H Q) := hq
    refine wpAny_bind (seqE (he R H m s _ hq I K) fun v s₁ V H₁ rv I₁ st₁ q => ?_)
    obtain ⟨b, rfl, q1, q2⟩ := q
    cases rv.inv_bool
    refine wpAny_bind (wpAny_standAt (wpAny_bind (wpAny_holding (wpAny_truthy_bool ?_))))
    cases b with
    | true => exact wpAny_pure ⟨_, H₁, .bool _, I₁, st₁, q1 rfl⟩
    | false => exact onE (ih R H₁ m s₁ Q (q2 rfl) I₁ (K.step I st₁)) st₁
theorem eok_bool {op : BoolOp} {p : Pos} {f : PySem.Expr → Option X} (hf : ∀ e x, f e = some x → EOk B A l ls C env e x) {es : List PySem.Expr} {xs : List X} {y : X} (hc : cEsWith f es = some xs) (ho : orAll op xs = some y) : EOk B A l ls C env (.BoolOp op es p) y := by
  induction es generalizing xs y with
  | nil => cases hc; exact dead ho
  | cons e r ih =>
    refine map2_inv (P := fun xs => orAll op xs = some y → _) hc (fun x ys h1 h2 ho => ?_) ho
    cases orAll_inv ho with
    | one => cases cEs_one h2; exact fun R H m s Q hq I K => hf e _ h1 R H m s Q hq I K
    | more h3 =>
      have ih := ih h2 h3
      obtain ⟨e2, r, rfl⟩ := cEs_more h2
      exact fun R H m s Q hq I K => bool_step (rest := boolOp p op (evalEach (e2 :: r) env)) (hf e x h1) ih hq I K
theorem test_step {op : BoolOp} {e : PySem.Expr} {x z : X} {rest : Sem Bool} (he : TOk B A l ls C env e x)
    (ih : ∀ R H m s t f, wT C z m H t f → Inv B R s H → EnvOk B l ls env R s.heap H m → wpAny (model B.prog B.w) A rest (PostT B R t f H s) noE s) {R H m s t f} (hq : wT C (orX op x z) m H t f) (I : Inv B R s H) (K : EnvOk B l ls env R s.heap H m) :
    wpAny (model B.prog B.w) A (do
      match op, ← isTrue e env (eval e env) with
      | .And, false => pure false
      | .Or, true => pure true
      | _, _ => rest) (PostT B R t f H s) noE s := by
  induction op with
  | And =>
    have hq : wT C x m H (fun H => wT C z m H t f) f := hq
    refine wpAny_bind (seqT (he R H m s _ _ hq I K) fun b s₁ H₁ I₁ st₁ q1 q2 => ?_)
    cases b with
    | false => exact wpAny_pure ⟨H₁, I₁, st₁, (fun e => nomatch e), fun z0 => q2 rfl⟩
    | true => exact onT (ih R H₁ m s₁ t f (q1 rfl) I₁ (K.step I st₁)) st₁
  | Or =>
    have hq : wT C x m H t (fun H => wT C z m H t f) := hq
    refine wpAny_bind (seqT (he R H m s _ _ hq I K) fun b s₁ H₁ I₁ st₁ q1 q2 => ?_)
    cases b with
    | true => exact wpAny_pure ⟨H₁, I₁, st₁, (fun z0 => q1 rfl), fun e => nomatch e⟩
    | false => exact onT (ih R H₁ m s₁ t f (q2 rfl) I₁ (K.step I st₁)) st₁
theorem all_one {op : BoolOp} {e : PySem.Expr} {x : X} (he : TOk B A l ls C env e x) {R H m s t f} (hq : wT C x m H t f) (I : Inv B R s H) (K : EnvOk B l ls env R s.heap H m) : wpAny (model B.prog B.w) A (allTrue op [e] env) (PostT B R t f H s) noE s := by
  show wpAny _ _ (isTrue e env (eval e env) >>= _) _ _ _
  refine wpAny_bind (wpAny_mono (he R H m s t f hq I K) (fun b s₁ h₁ => ?_) fun z0 z0 x => x)
  cases op <;> cases b <;> exact wpAny_pure h₁
theorem tok_bool {op : BoolOp} {p : Pos} {f : PySem.Expr → Option X} (hf : ∀ e x, f e = some x → TOk B A l ls C env e x) {es : List PySem.Expr} {xs : List X} {y : X} (hc : cEsWith f es = some xs) (ho : orAll op xs = some y) : TOk B A l ls C env (.BoolOp op es p) y := by
  intro R H m s t g hq I K
  rw [arm_isTrue_BoolOp]
  induction es generalizing xs y R H m s t g with
  | nil => cases hc; exact dead ho
  | cons e r ih =>
    refine map2_inv (P := fun xs => orAll op xs = some y → _) hc (fun x ys h1 h2 ho => ?_) ho
    cases orAll_inv ho with
    | one => cases cEs_one h2; exact all_one (hf e _ h1) hq I K
    | more h3 => exact test_step (rest := allTrue op r env) (hf e x h1) (fun R H m s t f q I K => ih h2 h3 R H m s t f q I K) hq I K
end
end Mine.Internal
set_option maxRecDepth 100000
set_option linter.unusedVariables false
namespace Mine.Internal
open PySem PySem.W PyProof.Rows PySem.SeqAt
noncomputable def Frm (l : Lvl) (env : Env) (b : Nat) : Prop := b = env.locals ∨ ∃ x p, posIn x l.names 0 = some (p, .cell) ∧ env.cells.lookup x = some b
theorem Frm.res {B : BC} {l ls env R h H m} (K : EnvOk B l ls env R h H m) {b : Nat} (f : Frm l env b) : R b := by
  rcases f with rfl | ⟨x, p, e, e2⟩
  · exact K.res
  · obtain ⟨c, hO⟩ := K.cell x p e; have e3 := hO.1; have r := hO.2.1; clear hO
    rw [e2] at e3; cases e3; exact r
theorem EnvOk.grown {B : BC} {l ls env R m} {s : Shared} {H : Hp} (K : EnvOk B l ls env R s.heap H m) (I : Inv B R s H) {h' : Heap} (k : ∀ b o, s.heap.get? b = some o → h'.get? b = some o) : EnvOk B l ls env R h' H m :=
  K.step I (I.grown s.toks k).2
inductive PostG (B : BC) (l : Lvl) (ls : List Lvl) (env : Env) (R : Nat → Prop) (H : Hp) (m' : Loc) (s s' : Shared) : Prop
  | mk : Inv B R s' H → EnvOk B l ls env R s'.heap H m' → StepX (Frm l env) s.heap H s'.heap H → PostG B l ls env R H m' s s'
theorem bindT_two {a b : Tgt} {W : V} {m m' : Loc} {P : V → Prop} (h : bindT (.two a b) W m = some m') (k : ∀ v w m1, bindT a v m = some m1 → bindT b w m1 = some m' → P (.tup [v, w])) : P W :=
  bind_inv h fun p h1 h => bind_inv h fun m1 h2 h3 => tup2_inv h1 ▸ k p.1 p.2 m1 h2 h3
theorem cTgt_each {ls : List Lvl} {n : Nat} {a : PySem.Expr} {T : Tgt} (h : cTgt ls n a = some T) (r : List PySem.Expr) (env : Env) : assignEach (a :: r) env = (false, assign a env) :: assignEach r env := by
  cases n with
  | zero => exact dead h
  | succ n => cases cTgt_inv h <;> rfl
theorem tgt_sound {B : BC} {A : Around} {l ls env R} (hh : A.handled = none) (hb : Below' l ls) (n : Nat) {t : PySem.Expr} {T : Tgt} {V : V} {v : Value} {m m' : Loc} {s : Shared} {H : Hp} (hc : cTgt (l :: ls) n t = some T) (hm : bindT T V m = some m')
    (I : Inv B R s H) (K : EnvOk B l ls env R s.heap H m) (rv : Rel B s.heap H R v V) : wpAny (model B.prog B.w) A (assign t env v) (fun z0 s' => PostG B l ls env R H m' s s') noE s := by
  induction n generalizing t T V v m m' s with
  | zero => exact dead hc
  | succ n ih => cases cTgt_inv hc with
    | name hi =>
      cases hm
      exact wpAny_assign_Name (store_sound K I hb hi rv fun c h' tk hc k I' K' => ⟨I', K', StepX.of_same (L := c) (hc.imp id fun ⟨p, e⟩ => ⟨_, p, e⟩) k⟩)
    | two ha hb' =>
      refine bindT_two (P := fun V => Rel B s.heap H R v V → _) hm (fun Va Vb m1 hm1 hm2 rv => ?_) rv
      induction rv.inv_tup with | mk a0 items c l1 _ _ r1 _ => ?_
      have hs := size_eq r1
      refine wpAny_assign_Tuple hh (show s.heap.IsTuple a0 items from ⟨_, l1, rfl, c, rfl⟩) (by rw [cTgt_each ha, cTgt_each hb', hs]; rfl) (by rw [cTgt_each ha, cTgt_each hb']; rfl) fun h' k => ?_
      have kk : ∀ b o, s.heap.get? b = some o → h'.get? b = some o := fun b o e => k b o (Nat.ne_of_lt (ltS e)) e
      have J := I.grown s.toks kk
      rw [cTgt_each ha, cTgt_each hb']
      clear hs l1 rv
      generalize items.toList = vs at r1
      induction r1.inv_two with
      | mk ra rb =>
        refine assignInOrder_cons (wpAny_mono (ih ha hm1 J.1 (K.grown I kk) (ra.step J.2)) (fun z0 s1 h1 => ?_) fun z0 z0 x => x)
        induction h1 with | mk I1 K1 st1 => ?_
        refine assignInOrder_cons (wpAny_mono (ih hb' hm2 I1 K1 ((rb.step J.2).stepX (fun b f => Frm.res K f) st1)) (fun z0 s2 h2 => ?_) fun z0 z0 x => x)
        induction h2 with | mk I2 K2 st2 => ?_
        exact assignInOrder_nil ⟨I2, K2, (J.2.x.trans st1).trans st2⟩
theorem bindT_low {l : Lvl} {ls : List Lvl} (n : Nat) {t : PySem.Expr} {T : Tgt} {V : V} {m m' : Loc} (hc : cTgt (l :: ls) n t = some T) (hm : bindT T V m = some m') (j) (hj : j < l.base) : getL m' j = getL m j := by
  induction n generalizing t T V m m' with
  | zero => exact dead hc
  | succ n ih => cases cTgt_inv hc with
    | name hi =>
      cases hm
      cases slot_inv hi with
      | loc e => exact getL_set_ne (Nat.ne_of_lt (Nat.lt_of_lt_of_le hj (Nat.le_add_right _ _)))
      | cell e => exact getL_set_ne (Nat.ne_of_lt (Nat.lt_of_lt_of_le hj (Nat.le_add_right _ _)))
      | free _ h => exact dead h
    | two ha hb' => exact bindT_two (P := fun z0 => _) hm fun Va Vb m1 hm1 hm2 => (ih hb' hm2).trans (ih ha hm1)
theorem EnvOk.forget {B : BC} {l ls env R h H m m'} (K : EnvOk B l ls env R h H m') (hb : Below' l ls) (h1 : ∀ j, j < l.base → getL m' j = getL m j) (h2 : ∀ j, l.base ≤ j → getL m j = none) : EnvOk B l ls env R h H m :=
  { K with
    ns := let ⟨mm, hn, _⟩ := K.ns; ⟨mm, hn, fun x i V a b => by rw [h2 _ (Nat.le_add_right _ _)] at b; cases b⟩
    cell := fun x i a => by
      obtain ⟨c, hO⟩ := K.cell x i a; have e := hO.1; have r := hO.2.1; have q := hO.2.2; clear hO
      refine ⟨c, e, r, ?_⟩
      rw [h2 _ (Nat.le_add_right _ _)]
      exact q.is
    free := fun x i j a b => by
      obtain ⟨c, hO⟩ := K.free x i j a b; have e := hO.1; have r := hO.2.1; have q := hO.2.2; clear hO
      rw [h1 j (hb x j b)] at q
      exact ⟨c, e, r, q⟩
    top := fun j hj => h2 j (Nat.le_trans (Nat.le_add_right _ _) hj) }
noncomputable def Taken (env : Env) (S : Str → Prop) (cl : List (Str × Nat)) : Prop := ∀ x, (S x → cl.lookup x = env.cells.lookup x) ∧ (¬ S x → cl.lookup x = none)
theorem closure_go {env : Env} (f : Str × NameKind → List (Str × Nat) → Sem (ForInStep (List (Str × Nat))))
    (hf : ∀ n k cs, f (n, k) cs = if k == .free then (do let a ← cellOf env n; pure (.yield ((n, a) :: cs))) else pure (.yield cs))
    (names : List (Str × NameKind)) (S : Str → Prop) (acc : List (Str × Nat)) (hn : ∀ y ∈ names, y.2 = .free → ∃ c, env.cells.lookup y.1 = some c) (ha : Taken env S acc) :
      ∃ cl, forIn names acc f = pure cl ∧ Taken env (fun x => S x ∨ ∃ y ∈ names, y.1 = x ∧ y.2 = .free) cl := by
  induction names generalizing S acc with
  | nil => exact ⟨acc, List.forIn_nil, fun x => ⟨fun h => (ha x).1 (h.elim id fun ⟨_, h, _⟩ => nomatch h), fun h => (ha x).2 fun z => h (.inl z)⟩⟩
  | cons y r ih =>
    induction y with | mk n k => ?_
    rw [List.forIn_cons, hf]
    have hr : ∀ y ∈ r, y.2 = .free → ∃ c, env.cells.lookup y.1 = some c := fun y hy => hn y (List.mem_cons_of_mem _ hy)
    by_cases hk : k = .free
    · subst hk
      obtain ⟨c, hc⟩ := hn (n, .free) List.mem_cons_self rfl
      have hl : ∀ x, ((n, c) :: acc).lookup x = if x = n then some c else acc.lookup x := fun x => by
        rw [List.lookup_cons]
        by_cases hx : x = n
        · rw [if_pos hx, show (x == n) = true from beq_iff_eq.mpr hx]
        · rw [if_neg hx, show (x == n) = false from beq_eq_false_iff_ne.mpr hx]
      obtain ⟨cl, e, q⟩ := ih (fun x => S x ∨ x = n) ((n, c) :: acc) hr fun x => by
        rw [hl]
        by_cases hx : x = n
        · rw [if_pos hx, hx, hc]; exact ⟨fun z0 => rfl, fun z => absurd (.inr rfl) z⟩
        · rw [if_neg hx]; exact ⟨fun z => (ha x).1 (z.resolve_right hx), fun z => (ha x).2 fun w => z (.inl w)⟩
      have : cellOf env n = pure c := by unfold cellOf; rw [hc]
      refine ⟨cl, by rw [if_pos (by rfl), this, pure_bind, pure_bind]; exact e, fun x => ⟨fun h => (q x).1 ?_, fun h => (q x).2 fun z => h ?_⟩⟩
      · rcases h with h | ⟨y, hy, e1, e2⟩
        · exact .inl (.inl h)
        · exact (List.mem_cons.mp hy).elim (fun z => .inl (.inr (by rw [← e1, z]))) fun z => .inr ⟨y, z, e1, e2⟩
      · rcases z with (z | z) | ⟨y, hy, e⟩
        · exact .inl z
        · exact .inr ⟨_, List.mem_cons_self, z.symm, rfl⟩
        · exact .inr ⟨y, List.mem_cons_of_mem _ hy, e⟩
    · obtain ⟨cl, hO⟩ := ih S acc hr ha; have e := hO.1; have q := hO.2; clear hO
      refine ⟨cl, by rw [if_neg (fun h => hk (beq_iff_eq.mp h)), pure_bind]; exact e, fun x => ⟨fun h => (q x).1 ?_, fun h => (q x).2 fun z => h (z.imp id fun ⟨y, hy, e⟩ => ⟨y, List.mem_cons_of_mem _ hy, e⟩)⟩⟩
      exact h.imp id fun ⟨y, hy, e1, e2⟩ => ⟨y, (List.mem_cons.mp hy).resolve_left (fun z => hk (by rw [z] at e2; exact e2)), e1, e2⟩
theorem closure_sound {env : Env} {scope : Scope} (hn : ∀ y ∈ scope.names, y.2 = .free → ∃ c, env.cells.lookup y.1 = some c) :
    ∃ cl : List (Str × Nat), closureFor scope env = pure cl ∧ (∀ x c, cl.lookup x = some c → env.cells.lookup x = some c ∧ ∃ y ∈ scope.names, y.1 = x ∧ y.2 = .free) ∧ ∀ y ∈ scope.names, y.2 = .free → cl.lookup y.1 = env.cells.lookup y.1 := by
  obtain ⟨cl, e, q⟩ := closure_go (env := env) (fun y cs => if y.2 == .free then (do let a ← cellOf env y.1; pure (.yield ((y.1, a) :: cs))) else pure (.yield cs)) (fun z0 z0 z0 => rfl) scope.names (fun z0 => False) [] hn (fun x => ⟨False.elim, fun z0 => rfl⟩)
  refine ⟨cl, ?_, fun x c h => ?_, fun y hy h => (q y.1).1 (.inr ⟨y, hy, rfl, h⟩)⟩
  · have e2 : (forIn scope.names ([] : List (Str × Nat)) (fun y cs => if y.2 == .free then (do let a ← cellOf env y.1; pure (.yield ((y.1, a) :: cs))) else pure (.yield cs)) >>= fun cs => (pure cs : Sem (List (Str × Nat)))) = pure cl := by rw [e, pure_bind]
    exact e2
  · by_cases z : False ∨ ∃ y ∈ scope.names, y.1 = x ∧ y.2 = .free
    · exact ⟨((q x).1 z).symm.trans h, z.resolve_left id⟩
    · exact dead (((q x).2 z).symm.trans h)
theorem lookup_mapK {α β κ : Type} [BEq κ] [LawfulBEq κ] (g : κ → α → β) (l : List (κ × α)) (x : κ) : (l.map fun y => (y.1, g y.1 y.2)).lookup x = (l.lookup x).map (g x) := by
  induction l with
  | nil => rfl
  | cons y l ih =>
    rw [List.map_cons, List.lookup_cons, List.lookup_cons]
    cases h : x == y.1 with
    | true => rw [eq_of_beq h]; rfl
    | false => exact ih
theorem lookup_relabel {env : Env} {names : List (Str × NameKind)} {x : Str} {k : NameKind} (h : names.lookup x = some k) :
    (names.map fun (n, k) => if (k == NameKind.free && env.scope.kind == .function && env.kindOf n == some .cell) then (n, NameKind.cell) else (n, k)).lookup x = some k ∨
      (k = .free ∧ (names.map fun (n, k) => if (k == NameKind.free && env.scope.kind == .function && env.kindOf n == some .cell) then (n, NameKind.cell) else (n, k)).lookup x = some .cell) := by
  have e : ∀ y ∈ names, (match y with | (n, k) => if (k == NameKind.free && env.scope.kind == .function && env.kindOf n == some .cell) then (n, NameKind.cell) else (n, k)) = (y.1, if (y.2 == NameKind.free && env.scope.kind == .function && env.kindOf y.1 == some .cell) then .cell else y.2) := fun y z0 => by
    induction y with | mk n k => ?_
    show ite _ _ _ = (_, ite _ _ _)
    split <;> rfl
  rw [List.map_congr_left e, lookup_mapK (fun n k => if (k == NameKind.free && env.scope.kind == .function && env.kindOf n == some .cell) then .cell else k), h]
  by_cases hc : (k == NameKind.free && env.scope.kind == .function && env.kindOf x == some .cell) = true
  · exact .inr ⟨eq_of_beq (and_tt (and_tt hc).1).1, congrArg some (if_pos hc)⟩
  · exact .inl (congrArg some (if_neg hc))
end Mine.Internal
set_option maxRecDepth 100000
set_option linter.unusedVariables false
namespace Mine.Internal
open PySem PySem.W PyProof.Rows PySem.SeqAt
theorem Inv.reserve' {B : BC} {R R' : Nat → Prop} {s : Shared} {H : Hp} (I : Inv B R s H) {h' : Heap} (tk : Nat) (k : ∀ b o, s.heap.get? b = some o → h'.get? b = some o) (hR : ∀ a, R a → R' a)
    (z : ∀ a, R' a → R a ∨ (s.heap.get? a = none ∧ ∃ o, h'.get? a = some o)) : Inv B R' { s with heap := h', toks := tk } H := by
  have nR : ∀ b o, s.heap.get? b = some o → ¬ R b → ¬ R' b := fun b o e r r' => (z b r').elim r fun q => by rw [q.1] at e; cases e
  refine ⟨fun a o e => (I.objs a o e).change (fun b o e q r => ⟨k b o e, q, nR b o e r⟩) (fun o e => k a o e) (fun d z0 z0 z0 z0 n o e => ⟨k d o e, n⟩),
    fun b o e => ⟨k b o (I.base b o e).1, (I.base b o e).2.1, nR b o (I.base b o e).1 (I.base b o e).2.2⟩, fun a r => ?_, I.lo, I.gens, I.os⟩
  rcases z a r with q | ⟨q, q'⟩
  · exact ⟨(I.res a q).1, let ⟨o, e⟩ := (I.res a q).2; ⟨o, k a o e⟩⟩
  · exact ⟨(I.fresh' q).1, q'⟩
structure Start (B : BC) (R I : Nat → Prop) (s : Shared) (H : Hp) (s' : Shared) (H' : Hp) : Prop where
  inv : Inv B (fun b => R b ∨ I b) s' H'
  lift : ∀ v V, Rel B s.heap H R v V → Rel B s'.heap H' (fun b => R b ∨ I b) v V
  apart : ∀ b, I b → ¬ R b
  fresh : ∀ b o, I b → s.heap.get? b = some o → Out H b → False
  step : Step s.heap H s'.heap H'
theorem start {B : BC} {R I : Nat → Prop} {s s₁ : Shared} {H H₁ : Hp} {h' : Heap} (tk : Nat) (I₁ : Inv B R s₁ H₁) (st : Step s.heap H s₁.heap H₁) (k : ∀ b o, s₁.heap.get? b = some o → h'.get? b = some o) (f : ∀ b, I b → s₁.heap.get? b = none ∧ ∃ o, h'.get? b = some o) :
    Start B R I s H { s₁ with heap := h', toks := tk } H₁ ∧ ∀ v V, Rel B s₁.heap H₁ R v V → Rel B h' H₁ (fun b => R b ∨ I b) v V := by
  have l1 : ∀ v V, Rel B s₁.heap H₁ R v V → Rel B h' H₁ (fun b => R b ∨ I b) v V := fun v V r => r.reserve (fun a z => z.imp id fun i => (f a i).1) k
  refine ⟨⟨I₁.reserve' tk k (fun a r => .inl r) (fun a z => z.imp id (f a)), fun v V r => l1 v V (r.step st), fun b i r => ?_, fun b o i e q => ?_, st.trans ⟨fun b o e q => ⟨k b o e, q⟩⟩⟩, l1⟩
  · obtain ⟨o, e⟩ := (I₁.res b r).2; rw [(f b i).1] at e; cases e
  · have := (st.keep b o e q).1; rw [(f b i).1] at this; cases this
theorem Start.env {B : BC} {R I : Nat → Prop} {s s' : Shared} {H H' : Hp} {l ls env m} (S : Start B R I s H s' H') (J : Inv B R s H) (K : EnvOk B l ls env R s.heap H m) : EnvOk B l ls env (fun b => R b ∨ I b) s'.heap H' m :=
  K.change (fun b o r z0 e => (S.step.keep b o e (J.res b r).1).1) (fun r => S.lift _ _ r) fun b r => .inl r
inductive PostI (B : BC) (A : Around) (R : Nat → Prop) (s : Shared) (H : Hp) (i : It) (Q : List V → (Hp → Prop) → Hp → Prop) : Value → Shared → Prop
  | mk {s' : Shared} {I J : Nat → Prop} {it : Nat} {v0 : Value} {V0 : V} {vs : List V} {G G0 : Hp → Prop} {ok : PySem.Expr → Prop} {St : Nat → Heap → Prop} {H' : Hp} :
    Goes B A I J it v0 V0 vs G0 ok St → (∀ H, G H → G0 H) → St 0 s'.heap → Start B R I s H s' H' → Rel B s'.heap H' (fun b => R b ∨ I b) v0 V0 → vs.length ≤ big →
      Q vs G H' → (∀ n ls t T, cTgt ls n t = some T → enumOk i T = true → ok t) → PostI B A R s H i Q (.ref it) s'
noncomputable def IOk (B : BC) (A : Around) (l : Lvl) (ls : List Lvl) (C : CallW) (env : Env) (e : PySem.Expr) (i : It) : Prop :=
  (∀ x, foldedSetIterable e env x = pure x) ∧ ∀ R H m s Q, wI C i m H Q → Inv B R s H → EnvOk B l ls env R s.heap H m →
    wpAny (model B.prog B.w) A (eval e env) (fun x s₁ => wpAny (model B.prog B.w) A (pyIter x) (PostI B A R s H i Q) noE s₁) noE s
set_option tactic.hygienic true in
theorem folded_pure {e : PySem.Expr} (h : ∀ es k p, e ≠ .Set es k p) (env : Env) (x : Value) : foldedSetIterable e env x = pure x := by
  cases e <;> first | rfl | (rename_i a b c; exact absurd rfl (h a b c))
section
variable {B : BC} {A : Around} {l : Lvl} {ls : List Lvl} {C : CallW} {env : Env}
theorem push_new {h : Heap} {o : Obj} (hf : o.isFreed = false) : ∀ b, b = h.objs.size → h.get? b = none ∧ ∃ o', (h.push o).get? b = some o' := fun b e => by
  subst e; exact ⟨none_size _, o, Heap.get?_push_size _ hf⟩
theorem seq_cases {V : V} {vs : List Mine.Internal.V} {H : Hp} (e : seqOf H V = some vs) : V = .tup vs ∨ (∀ H, seqOf H V = some vs → lstOf H V = some vs) ∧ lstOf H V = some vs := by
  cases V with
  | tup ws => exact .inl (Option.some.inj e ▸ rfl)
  | _ => exact .inr ⟨fun z0 h => h, e⟩
theorem iok_val (hh : A.handled = none) {e : PySem.Expr} {x : X} (hs : ∀ es k p, e ≠ .Set es k p) (he : EOk B A l ls C env e x) : IOk B A l ls C env e (.val x) := by
  refine ⟨folded_pure hs env, fun R H m s Q hq I K => ?_⟩
  have hq : wE C x m H fun v H => (∃ vs, seqOf H v = some vs ∧ Q vs (fun H => seqOf H v = some vs) H) ∨ (∃ es, v = .dcI es ∧ es.length ≤ big ∧ Q (es.map fun e => .int e.1) (fun z0 => True) H) := hq
  refine seqE (he R H m s _ hq I K) fun v s₁ V H₁ rv I₁ st₁ q => ?_
  have kp : ∀ (o : Obj) b o', s₁.heap.get? b = some o' → (s₁.heap.push o).get? b = some o' := fun o b o' e => Heap.get?_push_of_some _ e
  rcases q with ⟨vs, e, q⟩ | ⟨es, rfl, hb, q⟩
  · rcases seq_cases e with rfl | ⟨hl, e⟩
    · induction rv.inv_tup with | mk a items n l1 _ _ r1 hz => ?_
      have S := start (I := fun b => b = s₁.heap.objs.size) s₁.toks I₁ st₁ (kp { cls := .type "tuple_iterator", data := .fields #[.ref a, .int 0 0] }) (push_new rfl)
      exact wpAny_pyIter_tuple (show s₁.heap.IsTuple a items from ⟨_, l1, rfl, n, rfl⟩) (.mk (goes_tuple hh) (fun z0 z0 => trivial) ⟨_, Heap.get?_push_size _ rfl, rfl, rfl⟩ S.1 (S.2 _ _ rv) hz q fun z0 z0 z0 z0 z0 z0 => trivial)
    · induction (lst_at I₁ rv e) with | mk a items n l1 r1 z1 => ?_
      have S := start (I := fun b => b = s₁.heap.objs.size) s₁.toks I₁ st₁ (kp { cls := .type "list_iterator", data := .fields #[.ref a, .int 0 0] }) (push_new rfl)
      exact wpAny_pyIter_list l1.isList (.mk (goes_list hh) hl ⟨_, Heap.get?_push_size _ rfl, rfl, rfl⟩ S.1 (S.2 _ _ rv) z1 q fun z0 z0 z0 z0 z0 z0 => trivial)
  · induction (dcI_at I₁ rv rfl) with | mk a kvs n1 d e1 r1 => ?_
    obtain ⟨ep, d2⟩ := d.dictAt
    have S := start (I := fun b => b = s₁.heap.objs.size) s₁.toks I₁ st₁ (kp { cls := .type "dict_keyiterator", data := .fields #[.ref a, .int 0 0, .int kvs.length 0, .int ep 0] }) (push_new rfl)
    exact wpAny_pyIter_dict n1 d2 (.mk (goes_dict hh (Nat.ne_of_lt d2.lt_size) e1) (fun z0 z0 => trivial) ⟨⟨_, Heap.get?_push_size _ rfl, rfl, rfl⟩, d2.push _⟩ S.1 (S.2 _ _ rv) (by rw [List.length_map]; exact hb) q fun z0 z0 z0 z0 z0 z0 => trivial)
theorem one_arg (gl : GlobOk B) {f : Str} {np p : Pos} {a : PySem.Expr} {n : String} {x : X} {R H m s} {Q : V → Hp → Prop} {P : Value → Shared → Prop} (hg : isGlob (l :: ls) f = true) (hn : f = Str.ofString n) (hm : n ∈ ["range", "reversed", "enumerate"]) (ha : EOk B A l ls C env a x) (hs : isStar a = false)
    (hq : wE C x m H Q) (I : Inv B R s H) (K : EnvOk B l ls env R s.heap H m) (h : ∀ v s₁, PostE B R Q H s v s₁ → wpAny (model B.prog B.w) A (call (.type n) [v]) P noE s₁) :
    wpAny (model B.prog B.w) A (eval (.Call (.Name f np) [a] [] p) env) P noE s := by
  induction gl with | mk mg mb n1 n2 _ _ _ h4 _ => ?_
  have h4 := h4 n hm
  have hd : (f == ("__debug__" : Str)) = false := by
    rw [hn, beq_eq_false_iff_ne]
    intro e
    have e : Str.ofString n = Str.ofString "__debug__" := e
    rw [ofString_inj e] at hm
    exact absurd hm (by decide)
  refine Call_Name (star_plain p env (es := [a]) fun e he => by rw [List.mem_singleton.mp he]; exact hs) (glob_builtin K I hg hd n1 (by rw [hn]; exact h4.1) n2 (by rw [hn]; exact h4.2) ?_)
  refine callVal_sound (.inr ⟨_, rfl⟩) (Calls.spliced_cons (wpAny_mono (ha R H m s Q hq I K) (fun v s₁ h₁ => Calls.spliced_nil (h v s₁ h₁)) fun z0 z0 x => x))
theorem iok_range (hh : A.handled = none) (gl : GlobOk B) {f : Str} {np p : Pos} {a : PySem.Expr} {x : X} (hg : isGlob (l :: ls) f = true) (hf : f = Str.ofString "range") (hs : isStar a = false) (ha : EOk B A l ls C env a x) : IOk B A l ls C env (.Call (.Name f np) [a] [] p) (.range x) := by
  refine ⟨fun z0 => rfl, fun R H m s Q hq I K => ?_⟩
  have hq : wE C x m H fun v H => ∃ n : Nat, v = .int n ∧ n ≤ big ∧ Q ((List.range n).map fun (i : Nat) => .int (i : Int)) (fun z0 => True) H := hq
  refine one_arg gl hg hf (by decide) ha hs hq I K fun v s₁ h₁ => ?_
  obtain ⟨V, H₁, rv, I₁, st₁, n, rfl, hb, q⟩ := h₁
  obtain ⟨t, rfl⟩ := rv.inv_int
  have hb : n ≤ 16000000 := hb
  refine call_range_1 ?_
  have J := I₁.push (s₁.toks + 1 + 1) { cls := .type "range", data := .fields #[.int 0 s₁.toks, .int n t, .int 1 (s₁.toks + 1)] }
  refine wpAny_pyIter_range (IsRange.new _ _ _ _ _ _ _) (small_one (by omega) (by omega) (by omega) (by omega)) ?_
  rw [rangeSize_nat]
  have e1 : (((n : Int) - 0).toNat : Int) = (n : Int) - (0 : Nat) := by omega
  rw [e1]
  have S := start (s := s) (H := H) (I := fun b => b = (s₁.heap.push { cls := .type "range", data := .fields #[.int 0 s₁.toks, .int n t, .int 1 (s₁.toks + 1)] }).objs.size)
    (h' := (s₁.heap.push { cls := .type "range", data := .fields #[.int 0 s₁.toks, .int n t, .int 1 (s₁.toks + 1)] }).push { cls := .type "range_iterator", data := .fields #[rawInt 0, rawInt ((n : Int) - (0 : Nat)), rawInt 1] }) (s₁.toks + 1 + 1) J.1 (st₁.trans J.2) (fun b o e => Heap.get?_push_of_some _ e) (push_new rfl)
  exact .mk (v0 := .none) (V0 := .none) (goes_range hh) (fun z0 z0 => trivial) (Heap.get?_push_size _ rfl) S.1 .none (by rw [List.length_map, List.length_range]; exact hb) q fun z0 z0 z0 z0 z0 z0 => trivial
theorem iok_rev (hh : A.handled = none) (gl : GlobOk B) {f : Str} {np p : Pos} {a : PySem.Expr} {x : X} (hg : isGlob (l :: ls) f = true) (hf : f = Str.ofString "reversed") (hs : isStar a = false) (ha : EOk B A l ls C env a x) : IOk B A l ls C env (.Call (.Name f np) [a] [] p) (.revd x) := by
  refine ⟨fun z0 => rfl, fun R H m s Q hq I K => ?_⟩
  have hq : wE C x m H fun v H => ∃ vs, v = .tup vs ∧ Q vs.reverse (fun z0 => True) H := hq
  refine one_arg gl hg hf (by decide) ha hs hq I K fun v s₁ h₁ => ?_
  obtain ⟨V, H₁, rv, I₁, st₁, vs, rfl, q⟩ := h₁
  induction rv.inv_tup with | mk a0 items n l1 _ _ r1 hz => ?_
  have hz : vs.length ≤ 16000000 := hz
  have hsz := size_eq r1
  refine call_reversed_tuple l1 (by exact Nat.le_trans (Nat.le_of_eq hsz) hz) ?_
  have S := start (s := s) (H := H) (I := fun b => b = s₁.heap.objs.size) (h' := s₁.heap.push (revT a0 ((items.size : Int) - 1))) (s₁.toks + 1 + 1) I₁ st₁ (fun b o e => Heap.get?_push_of_some _ e) (push_new rfl)
  have e1 : (s₁.heap.push (revT a0 ((items.size : Int) - 1))).get? s₁.heap.objs.size = some (revT a0 ((items.size : Int) - 1)) := Heap.get?_push_size _ rfl
  refine wpAny_pyIter_revT e1 ?_
  exact .mk (goes_rev hh) (fun z0 z0 => trivial) (by rw [Int.natCast_zero, Int.sub_zero, ← hsz]; exact e1) S.1 (S.2 _ _ rv) (by rw [List.length_reverse]; exact hz) q fun z0 z0 z0 z0 z0 z0 => trivial
theorem two_tup {n ls t T} (hc : cTgt ls n t = some T) (ht : isTwo T = true) : isTupT t := by
  cases n with
  | zero => exact dead hc
  | succ n => cases cTgt_inv hc with
    | name => cases ht
    | two => exact .mk
theorem iok_enum (hh : A.handled = none) (gl : GlobOk B) {f : Str} {np p : Pos} {a : PySem.Expr} {x : X} (hg : isGlob (l :: ls) f = true) (hf : f = Str.ofString "enumerate") (hs : isStar a = false) (ha : EOk B A l ls C env a x) : IOk B A l ls C env (.Call (.Name f np) [a] [] p) (.enum x) := by
  refine ⟨fun z0 => rfl, fun R H m s Q hq I K => ?_⟩
  have hq : wE C x m H fun v H => ∃ vs, v = .lst vs ∧ Q (enumFrom 0 vs) (fun z0 => True) H := hq
  refine one_arg gl hg hf (by decide) ha hs hq I K fun v s₁ h₁ => ?_
  obtain ⟨V, H₁, rv, I₁, st₁, vs, rfl, q⟩ := h₁
  induction (lst_at I₁ rv rfl) with | mk a items n l1 r1 z1 => ?_
  refine call_enumerate_list l1.isList fun h' he hit hsz k => ?_
  have S := start (s := s) (H := H) (I := fun b => b = s₁.heap.objs.size + 1 ∨ b = s₁.heap.objs.size) (h' := h') s₁.toks I₁ st₁ k (fun b e => by
    rcases e with rfl | rfl
    · exact ⟨Heap.get?_none_of_le (Nat.le_succ _), _, he⟩
    · obtain ⟨o, ho, _⟩ := hit; exact ⟨none_size _, o, ho⟩)
  refine wpAny_pyIter_enum he ?_
  exact .mk (goes_enum hh (Nat.succ_ne_self _)) (fun z0 z0 => trivial) ⟨⟨_, he⟩, hit⟩ S.1 (S.2 _ _ rv) (by rw [enum_len]; exact z1) q fun n ls t T hc ht => two_tup hc ht
end
end Mine.Internal
set_option maxRecDepth 100000
set_option linter.unusedVariables false
namespace Mine.Internal
open PySem PySem.W PyProof.Rows PySem.SeqAt
noncomputable def TurnP (prog : Program) (w : World) (A : Around) (elt target : PySem.Expr) (ifs : List PySem.Expr) (it acc : Value) (env : Env) (R : Result → Shared → Prop) (J : Shared → Prop) : Option Value → Shared → Prop
  | none, s₁ => R (.ok .next) s₁
  | some v, s₁ => wpAny (model prog w) A (letOwnedTupleGo target it v) (fun z0 s₀ => wpAny (model prog w) A (assign target env v) (fun z0 s₂ =>
          wpAny (model prog w) A (forIn ifs true fun c r => if r = true then do let ok ← isTrue c env (eval c env); pure (ForInStep.yield ok) else pure (ForInStep.yield r)) (fun ok s₃ =>
            if ok = true then wpAny (model prog w) A (eval elt env) (fun x s₄ =>
              wpAny (model prog w) A (call (.builtin "list.append") [acc, x]) (fun z0 s₅ => J s₅) noE s₄) noE s₃
            else J s₃) noE s₂) noE s₀) noE s₁
theorem comp_loop {prog : Program} {w : World} {A : Around} {elt target iter : PySem.Expr} {ifs : List PySem.Expr} {scope : Scope} {pos : Pos} {it acc : Value} {env : Env} {R : Result → Shared → Prop} {s : Shared} (I : Nat → Shared → Prop)
    (turn : ∀ n s, I n s → wpAny (model prog w) A (pyNext it) (TurnP prog w A elt target ifs it acc env R fun s => ∃ m, m < n ∧ I m s) noE s)
    (n : Nat) (h : I n s) : codeAny (model prog w) A (.compLoop (.ListComp elt [⟨target, iter, ifs, 0⟩] scope pos) 0 it acc env) R s := by
  refine codeAny_loop rfl I (fun n s hI => ?_) n h
  refine wpAny_noted ?_
  rw [compTurn_list]
  refine wpAny_bind (wpAny_standAt (wpAny_bind (wpAny_mono (turn n s hI) (fun r s₁ h₁ => ?_) fun z0 z0 h' => h'.elim)))
  cases r with
  | none => exact wpAny_pure h₁
  | some v =>
    refine wpAny_bind (wpAny_mono h₁ (fun z0 s₀ h₀' => ?_) fun z0 z0 h' => h'.elim)
    refine wpAny_bind (wpAny_mono h₀' (fun z0 s₂ h₂ => wpAny_bind (wpAny_mono h₂ (fun ok s₃ h₃ => ?_) fun z0 z0 h' => h'.elim)) fun z0 z0 h' => h'.elim)
    cases ok with
    | false => exact wpAny_pure ⟨rfl, h₃⟩
    | true =>
      exact wpAny_bind (wpAny_bind (wpAny_mono h₃ (fun x s₄ h₄ => wpAny_bind (wpAny_mono h₄ (fun z0 s₅ h₅ => wpAny_pure (wpAny_pure ⟨rfl, h₅⟩)) fun z0 z0 h' => h'.elim)) fun z0 z0 h' => h'.elim))
theorem St_keep {B A I J it v0 V0 vs G ok St} (W : Goes B A I J it v0 V0 vs G ok St) {k : Nat} {s : Shared} {H : Hp} {R Y : Nat → Prop} {h' : Heap} {H' : Hp} (st : St k s.heap) (Iv : Inv B R s H) (hI : ∀ b, I b → R b) (hY : ∀ b, Y b → R b) (nY : ∀ b, I b → ¬ Y b) (r0 : Rel B s.heap H R v0 V0)
    (x : StepX Y s.heap H h' H') : St k h' :=
  W.keep k _ _ st fun b o z e => by
    rcases z with z | z
    · exact (x b o e (Iv.res b (hI b z)).1 (nY b z)).1
    · have := W.fix _ _ _ r0 b z
      exact (x b o e this.1 fun y => this.2 (hY b y)).1
noncomputable abbrev R2 (R : Nat → Prop) (C D : Nat) : Nat → Prop := fun b => R b ∨ b = C ∨ b = D
inductive CompEnd (B : BC) (R : Nat → Prop) (s : Shared) (H : Hp) (Q : V → Hp → Prop) (D C : Nat) (s' : Shared) : Prop
  | mk (acc : List V) (H' : Hp) (items : Array Value) (c : Nat) : Inv B (R2 R C D) s' H' → IsL s'.heap D items c → RelL B s'.heap H' (R2 R C D) items.toList acc → (∃ mm, s'.heap.Ns C mm) →
    Step s.heap H s'.heap H' → C ≠ D → ¬ R C → ¬ R D → (∀ o, s.heap.get? C = some o → Out H C → False) → (∀ o, s.heap.get? D = some o → Out H D → False) → acc.length ≤ big → (Q (.lst acc) H' ∨ ∀ a, H' a = none → Q (.ref a) (H'.set a (.list acc))) → CompEnd B R s H Q D C s'
theorem Inv.adopt {B : BC} {R R1 : Nat → Prop} {s : Shared} {H : Hp} (I : Inv B R1 s H) (hR : ∀ b, R b → R1 b) {D : Nat} (hD : R1 D) (nD : ¬ R D) {items : Array Value} {c : Nat} {acc : List V} (l : IsL s.heap D items c) (r : RelL B s.heap H R1 items.toList acc) (hz : acc.length ≤ big) :
    Inv B R s (H.set D (.list acc)) ∧ ∀ b, Out H b → b ≠ D → Out (H.set D (.list acc)) b := by
  have out : ∀ b, Out H b → b ≠ D → Out (H.set D (.list acc)) b := fun b q hb => by
    refine ⟨by rw [Hp.set_ne _ _ hb]; exact q.1, fun c as e => ?_⟩
    by_cases h1 : b + 1 = D
    · rw [h1, Hp.set_same] at e; cases e
    · rw [Hp.set_ne _ _ h1] at e; exact q.2 c as e
  have nb : ∀ b, ¬ R1 b → b ≠ D := fun b n e => n (e ▸ hD)
  have rr : ∀ {v V}, Rel B s.heap H R1 v V → Rel B s.heap (H.set D (.list acc)) R v V := fun x => x.mono fun b o e q n => ⟨e, out b q (nb b n), fun z => n (hR b z)⟩
  refine ⟨⟨fun a o e => ?_, fun b o e => ⟨(I.base b o e).1, out b (I.base b o e).2.1 (nb b (I.base b o e).2.2), fun z => (I.base b o e).2.2 (hR b z)⟩, fun a r => ⟨out a (I.res a (hR a r)).1 (fun e => nD (e ▸ r)), (I.res a (hR a r)).2⟩, I.lo, I.gens, I.os⟩, out⟩
  by_cases h1 : a = D
  · subst h1; rw [Hp.set_same] at e; cases e; exact ⟨items, c, l, ⟨r.1, fun i v V p q => rr (r.2 i v V p q)⟩, hz⟩
  · rw [Hp.set_ne _ _ h1] at e
    refine (I.objs a o e).change (fun b o e q n => ⟨e, out b q (nb b n), fun z => n (hR b z)⟩) (fun o e => e) (fun d c as x y n o e' => ⟨e', ?_⟩)
    have hd : d ≠ D := fun z => by subst x y z; exact (I.res _ hD).1.2 _ _ e
    rw [Hp.set_ne _ _ hd]; exact n
theorem CompEnd.post {B : BC} {R : Nat → Prop} {s : Shared} {H : Hp} {Q : V → Hp → Prop} {D C : Nat} {s' : Shared} (x : CompEnd B R s H Q D C s') {h' : Heap} (k : Heap.SameBut C s'.heap h') : PostE B R Q H s (.ref D) { s' with heap := h' } := by
  obtain ⟨acc, H', items, c, I, l, r, ⟨mm, hn⟩, st, hne, nC, nD, fC, fD, hz, q⟩ := x
  have kk : ∀ b o, s'.heap.get? b = some o → ¬ b = C → h'.get? b = some o := fun b o e n => (k.2 b n).trans e
  have I1 : Inv B (fun b => R b ∨ b = D) { s' with heap := h' } H' := I.atX (X := fun b => b = C) s'.toks (fun b e => .inr (.inl e)) (fun b z => z.elim .inl fun e => .inr (.inr e)) (fun b z e => by
    rcases z with z | z
    · exact absurd (e ▸ z) nC
    · exact absurd (e.symm.trans z) hne) kk
  have l1 : IsL h' D items c := kk D _ l hne.symm
  have r1 : RelL B h' H' (fun b => R b ∨ b = D) items.toList acc := ⟨r.1, fun i v V p q => ((r.2 i v V p q).stepX (X := fun b => b = C) (fun b e => .inr (.inl e)) (stepX_of kk)).release fun b z => z.elim .inl fun e => .inr (.inr e)⟩
  have st1 : Step s.heap H h' H' := ⟨fun b o e o1 => ⟨kk b o (st.keep b o e o1).1 fun z => fC o (z ▸ e) (z ▸ o1), (st.keep b o e o1).2⟩⟩
  rcases q with q | q
  · refine ⟨_, H', .lst l1 (I1.res D (.inr rfl)).1 nD r1.1 hz fun i v V p q => (r1.2 i v V p q).release fun b z => .inl z, I1.release fun b z => .inl z, st1, q⟩
  · have J := I1.adopt (R := R) (fun b z => .inl z) (.inr rfl) nD l1 r1 hz
    refine ⟨_, _, .ref _, J.1, ⟨fun b o e o1 => ⟨(st1.keep b o e o1).1, J.2 b (st1.keep b o e o1).2 fun z => fD o (z ▸ e) (z ▸ o1)⟩⟩, q D (I1.res D (.inr rfl)).1.1⟩
end Mine.Internal
set_option maxRecDepth 100000
set_option linter.unusedVariables false
namespace Mine.Internal
open PySem PySem.W PyProof.Rows PySem.SeqAt
noncomputable abbrev inLvl (l : Lvl) (sc : Scope) : Lvl := ⟨sc.names, l.base + l.names.length⟩
theorem below_in {l : Lvl} {ls : List Lvl} (hb : Below' l ls) (sc : Scope) : Below' (inLvl l sc) (l :: ls) := by
  intro x j h
  cases slot_inv h with
  | loc e => exact slot_lt e
  | cell e => exact slot_lt e
  | free _ h => exact Nat.lt_of_lt_of_le (hb x _ h) (Nat.le_add_right _ _)
structure CompOk (l : Lvl) (ls : List Lvl) (sc : Scope) : Prop where
  kind : sc.kind = .function
  nocell : ∀ y ∈ sc.names, y.2 ≠ .cell
  locs : ∀ y ∈ sc.names, y.2 = .local → sc.names.lookup y.1 = some .local
  free : ∀ y ∈ sc.names, y.2 = .free → ∃ p, posIn y.1 l.names 0 = some (p, .cell)
theorem compOk_of {l : Lvl} {ls : List Lvl} {sc : Scope} (h : compOk (l :: ls) sc = true) : CompOk l ls sc := by
  have h2 : ∀ y ∈ sc.names, compK (l :: ls) sc.names y.1 y.2 = true := List.all_eq_true.mp (and_tt h).2
  refine ⟨isFun_inv (and_tt h).1, fun y hy e => ?_, fun y hy e => ?_, fun y hy e => ?_⟩
  · have := h2 y hy; rw [e] at this; cases this
  · have := h2 y hy; rw [e] at this; exact isLoc_inv this
  · have := h2 y hy
    rw [e] at this
    obtain ⟨⟨p, k⟩, e, h⟩ := kind_inv this
    cases kC_inv h
    exact ⟨p, e⟩
structure ClOk (env : Env) (sc : Scope) (cl : List (Str × Nat)) : Prop where
  back : ∀ x c, cl.lookup x = some c → env.cells.lookup x = some c ∧ ∃ y ∈ sc.names, y.1 = x ∧ y.2 = .free
  to : ∀ y ∈ sc.names, y.2 = .free → cl.lookup y.1 = env.cells.lookup y.1
theorem comp_env {B : BC} {l ls env R h H m sc} {cl : List (Str × Nat)} (K : EnvOk B l ls env R h H m) (hb : Below' l ls) (hco : CompOk l ls sc) (hcl : ClOk env sc cl) {Ca : Nat} {mm} (hC : R Ca) (hn : h.Ns Ca mm) (hf : ∀ x p c, posIn x l.names 0 = some (p, .cell) → env.cells.lookup x = some c → c ≠ Ca) :
    EnvOk B (inLvl l sc) (l :: ls) (compEnvC sc cl Ca env) R h H m where
  kind := hco.kind
  glob := K.glob
  blt := K.blt
  kl := fun x i e => (lookup_relabel (env := env) (posIn_lookup e).1).elim id fun z => nomatch z.1
  kc := fun x i e => absurd rfl (hco.nocell _ (mem_of_lookup (posIn_lookup e).1))
  kf := fun x i e => (lookup_relabel (env := env) (posIn_lookup e).1).elim .inr fun z => .inl z.2
  kg := fun x i e => (lookup_relabel (env := env) (posIn_lookup e).1).elim id fun z => nomatch z.1
  ns := ⟨mm, hn, fun x i V a b => by rw [K.top _ (Nat.le_add_right _ _)] at b; cases b⟩
  cell := fun x i e => absurd rfl (hco.nocell _ (mem_of_lookup (posIn_lookup e).1))
  free := fun x i j e hs => by
    obtain ⟨p, hp⟩ := hco.free _ (mem_of_lookup (posIn_lookup e).1) rfl
    obtain ⟨c, hO⟩ := K.cell x p hp; have e1 := hO.1; have r := hO.2.1; have q := hO.2.2; clear hO
    have hs : (posIn x l.names 0).bind (slotK l.base (slotIn ls x)) = some j := hs
    rw [hp] at hs
    cases hs
    exact ⟨c, by have := hcl.to _ (mem_of_lookup (posIn_lookup e).1) rfl; exact this.trans e1, r, q⟩
  res := hC
  apart := fun x c e => by
    obtain ⟨e1, y, hy, rfl, e2⟩ := hcl.back x c e
    obtain ⟨p, hp⟩ := hco.free y hy e2
    exact hf _ p c hp e1
  apart2 := fun x y c e e' => K.apart2 x y c (hcl.back x c e).1 (hcl.back y c e').1
  top := fun j hj => K.top j (Nat.le_trans (Nat.le_add_right _ _) hj)
  cres := fun x c e => K.cres x c (hcl.back x c e).1
theorem frm_in {l : Lvl} {ls : List Lvl} {sc : Scope} {cl : List (Str × Nat)} {Ca : Nat} {env : Env} (hco : CompOk l ls sc) {b : Nat} (f : Frm (inLvl l sc) (compEnvC sc cl Ca env) b) : b = Ca := by
  rcases f with e | ⟨x, p, e, _⟩
  · exact e
  · exact absurd rfl (hco.nocell _ (mem_of_lookup (posIn_lookup e).1))
inductive PostN (B : BC) (R : Nat → Prop) (N : Hp → Prop) (H : Hp) (s s' : Shared) : Prop
  | mk (H') : Inv B R s' H' → Step s.heap H s'.heap H' → N H' → PostN B R N H s s'
noncomputable def TurnOk (B : BC) (A : Around) (l' : Lvl) (ls : List Lvl) (env' : Env) (elt : PySem.Expr) (ifs : List PySem.Expr) (TW : Loc → Hp → (V → Hp → Prop) → (Hp → Prop) → Prop) : Prop :=
  ∀ R H m' s Y N, TW m' H Y N → Inv B R s H → EnvOk B l' ls env' R s.heap H m' →
    wpAny (model B.prog B.w) A (forIn ifs true fun c r => if r = true then do let ok ← isTrue c env' (eval c env'); pure (ForInStep.yield ok) else pure (ForInStep.yield r))
      (fun ok s₃ => if ok = true then wpAny (model B.prog B.w) A (eval elt env') (PostE B R Y H s) noE s₃ else PostN B R N H s s₃) noE s
inductive CInv (B : BC) (X Y : Nat → Prop) (l : Lvl) (ls : List Lvl) (env : Env) (m : Loc) (D : Nat) (vs : List V) (St : Nat → Heap → Prop) (v0 : Value) (V0 : V) (II : Nat → List V → Hp → Prop) (h₀ : Heap) (H₀ : Hp) (n : Nat) (s : Shared) : Prop
  | mk (k acc H items c) : k ≤ vs.length → n = vs.length - k → acc.length ≤ k → Inv B X s H → EnvOk B l ls env X s.heap H m → IsL s.heap D items c → RelL B s.heap H X items.toList acc → St k s.heap →
      Rel B s.heap H X v0 V0 → StepX Y h₀ H₀ s.heap H → II k acc H → CInv B X Y l ls env m D vs St v0 V0 II h₀ H₀ n s
theorem RelL.stepX {B : BC} {h h' : Heap} {H H' : Hp} {R X : Nat → Prop} {v : List Value} {V : List V} (x : RelL B h H R v V) (hX : ∀ b, X b → R b) (k : StepX X h H h' H') : RelL B h' H' R v V := ⟨x.1, fun i v V p q => (x.2 i v V p q).stepX hX k⟩
theorem sub_lt {k n : Nat} (h : k < n) : n - (k + 1) < n - k := Nat.sub_lt_sub_left h (Nat.lt_succ_self k)
section
variable {B : BC} {A : Around} {X Y I J : Nat → Prop} {l : Lvl} {ls : List Lvl} {env : Env} {m : Loc} {C D it : Nat} {vs : List V} {St : Nat → Heap → Prop} {v0 : Value} {V0 : V} {II : Nat → List V → Hp → Prop} {h₀ : Heap} {H₀ : Hp} {G G0 : Hp → Prop} {ok : PySem.Expr → Prop}
  {elt target : PySem.Expr} {ifs : List PySem.Expr} {T : Tgt} {TW : Loc → Hp → (V → Hp → Prop) → (Hp → Prop) → Prop} {RR : Result → Shared → Prop}
theorem comp_turn (hh : A.handled = none) (W : Goes B A I J it v0 V0 vs G0 ok St) (hG : ∀ H, G H → G0 H) (hok : ok target) (hb : Below' l ls) (hT : cTgt (l :: ls) 3 target = some T) (hfr : ∀ b, Frm l env b → b = C) (hturn : TurnOk B A l ls env elt ifs TW)
    (hIX : ∀ b, I b → X b) (hCX : X C) (hDX : X D) (hIY : ∀ b, I b → Y b) (hCY : Y C) (hDY : Y D) (nIC : ¬ I C) (nID : ¬ I D) (hDC : D ≠ C) (pl : ∀ b, Pl env b → ¬ I b ∧ b ≠ D) (top : ∀ j, l.base ≤ j → getL m j = none) (hvb : vs.length ≤ big)
    (istep : ∀ k v acc H, vs[k]? = some v → II k acc H → G H ∧ ∃ m', bindT T v m = some m' ∧ TW m' H (fun w H => II (k + 1) (acc ++ [w]) H) (fun H => II (k + 1) acc H))
    {k : Nat} {acc : List V} {H : Hp} {items : Array Value} {c : Nat} {s : Shared} (hk : k < vs.length) (hacc : acc.length ≤ k) (Iv : Inv B X s H) (K : EnvOk B l ls env X s.heap H m) (L : IsL s.heap D items c) (rl : RelL B s.heap H X items.toList acc) (st : St k s.heap)
    (r0 : Rel B s.heap H X v0 V0) (sx : StepX Y h₀ H₀ s.heap H) (ii : II k acc H) :
    wpAny (model B.prog B.w) A (pyNext (.ref it)) (TurnP B.prog B.w A elt target ifs (.ref it) (.ref D) env RR fun s => ∃ m', m' < vs.length - k ∧ CInv B X Y l ls env m D vs St v0 V0 II h₀ H₀ m' s) noE s := by
  obtain ⟨V, hV⟩ : ∃ V, vs[k]? = some V := ⟨_, List.getElem?_eq_getElem hk⟩
  obtain ⟨g, m', hO⟩ := istep k V acc H hV ii; have hm' := hO.1; have tw := hO.2; clear hO
  refine wpAny_mono (W.item k V s H _ target hV hok st hIX Iv r0 (hG _ g)) (fun r s₁ h₁ => ?_) fun z0 z0 x => x
  obtain ⟨v, rfl, h₁⟩ := h₁
  refine wpAny_mono h₁ (fun z0 sa ha => ?_) fun z0 z0 x => x
  have hO := ha; have rva := hO.1; have Ia := hO.2.1; have xa := hO.2.2.1; have sta := hO.2.2.2; clear hO
  have hCR : ∀ b, b = C → X b := fun b e => e ▸ hCX
  have hDR : ∀ b, b = D → X b := fun b e => e ▸ hDX
  have oD : ∀ {s' H'}, Inv B X s' H' → Out H' D := fun i => (i.res D hDX).1
  refine wpAny_mono (tgt_sound hh hb 3 hT hm' Ia (K.change (fun b o r z e => (xa b o e (Iv.res b r).1 (pl b z).1).1) (fun r => r.stepX hIX xa) (fun b r => r)) rva) (fun z0 sb hb' => ?_) fun z0 z0 x => x
  induction hb' with | mk Ib Kb xb => ?_
  have xb : StepX (fun b => b = C) sa.heap H sb.heap H := xb.mono hfr
  have lb : IsL sb.heap D items c := (xb D _ (xa D _ L (oD Iv) nID).1 (oD Ia) hDC).1
  have rlb := (rl.stepX hIX xa).stepX hCR xb
  have r0a := r0.stepX hIX xa
  have stb : St (k + 1) sb.heap := St_keep W sta Ia hIX hCR (fun b i e => nIC (e ▸ i)) r0a xb
  have r0b := r0a.stepX hCR xb
  have xab := (sx.trans (xa.mono hIY)).trans (xb.mono fun b e => e ▸ hCY)
  refine wpAny_mono (hturn _ H m' sb _ _ tw Ib Kb) (fun b sc hc => ?_) fun z0 z0 x => x
  have stc : ∀ {sc : Shared} {H'}, Step sb.heap H sc.heap H' → St (k + 1) sc.heap := fun x => St_keep W stb Ib hIX (Y := fun z0 => False) (fun b f => f.elim) (fun b i f => f) r0b x.x
  cases b with
  | false =>
    induction hc with | mk H' Ic x ii' => ?_
    exact ⟨_, sub_lt hk, k + 1, acc, H', items, c, hk, rfl, Nat.le_succ_of_le hacc, Ic, (Kb.step Ib x).forget hb (fun j hj => bindT_low 3 hT hm' j hj) top, (x.keep D _ lb (oD Ib)).1, rlb.step x, stc x, r0b.step x, xab.trans x.x, ii'⟩
  | true =>
    refine seqE hc fun w sc W' H' rw' Ic x ii' => ?_
    have lc : IsL sc.heap D items c := (x.keep D _ lb (oD Ib)).1
    have rlc := rlb.step x
    refine call_meets F.slot_list_append ⟨_, lc, rfl⟩ F.entry_list_append (F.args_list_append_2 _ _) (list_append D items c w (by rw [size_eq rlc]; exact sizeLine_big (Nat.le_trans (Nat.le_trans hacc (Nat.le_of_lt hk)) hvb))) ⟨lc, ?_⟩
    have ld := lc.update (fun xs => xs.push w)
    have kk : ∀ b o, sc.heap.get? b = some o → ¬ b = D → (sc.heap.update D (Obj.mapSeq fun xs => xs.push w)).get? b = some o := fun b o e n => ((Heap.SameBut.update ..).2 b n).trans e
    have xd : StepX (fun b => b = D) sc.heap H' (sc.heap.update D (Obj.mapSeq fun xs => xs.push w)) H' := stepX_of kk
    have Id := Ic.atX (X := fun b => b = D) (R0 := X) sc.toks hDR (fun z0 r => r) (fun b z0 e => ⟨_, (congrArg _ e).trans ld⟩) kk
    exact ⟨_, sub_lt hk, k + 1, acc ++ [W'], H', _, _, hk, rfl, by rw [List.length_append]; exact Nat.succ_le_succ hacc, Id,
      ((Kb.step Ib x).change (fun b o r z e => kk b o e (pl b z).2) (fun r => r.stepX hDR xd) (fun b r => r)).forget hb (fun j hj => bindT_low 3 hT hm' j hj) top, ld,
      by rw [Array.toList_push]; exact RelL.append (rlc.stepX hDR xd) (RelL.one (rw'.stepX hDR xd)),
      St_keep W (stc x) Ic hIX hDR (fun b i e => nID (e ▸ i)) (r0b.step x) xd, (r0b.step x).stepX hDR xd, (xab.trans x.x).trans (xd.mono fun b e => e ▸ hDY), ii'⟩
end
theorem ne_of_none {h : Heap} {a b : Nat} {o : Obj} (e : h.get? a = some o) (n : h.get? b = none) : a ≠ b := fun z => dead (n.symm.trans (z ▸ e))
set_option tactic.hygienic true in
theorem comp_core {B : BC} {A : Around} (hh : A.handled = none) {l : Lvl} {ls : List Lvl} (hb : Below' l ls) {env : Env} {sc : Scope} {elt target iter : PySem.Expr} {ifs : List PySem.Expr} {pos : Pos} (hco : CompOk l ls sc) {T : Tgt} (hT : cTgt (inLvl l sc :: l :: ls) 3 target = some T)
    {i : It} (hen : enumOk i T = true) {TW : Loc → Hp → (V → Hp → Prop) → (Hp → Prop) → Prop} (hturn : ∀ Ca cl, TurnOk B A (inLvl l sc) (l :: ls) (compEnvC sc cl Ca env) elt ifs TW)
    {R s H m Q} (I0 : Inv B R s H) (K : EnvOk B l ls env R s.heap H m) {iv : Value} {s₂ : Shared}
    (hp : PostI B A R s H i (fun vs G H => CompR vs G H (fun v H Y N => ∃ m', bindT T v m = some m' ∧ TW m' H Y N) Q) iv s₂)
    {RR : Value → Nat → Result → Shared → Prop} (hRR : ∀ D Ca s', CompEnd B R s H Q D Ca s' → RR (.ref D) Ca (.ok .next) s') {cl : List (Str × Nat)} (hcl : ClOk env sc cl) {E : Value → Shared → Prop} :
    wpAny (model B.prog B.w) A (newList []) (fun acc s₃ => wpAny (model B.prog B.w) A (newFunctionEnv sc env.globals cl [] env.qual none .none (some env)) (fun cenv s₄ =>
      codeAny (model B.prog B.w) A (.compStart (.ListComp elt [⟨target, iter, ifs, 0⟩] sc pos) 0 iv acc { cenv with scope := relabel sc env }) (RR acc cenv.locals) s₄) E s₃) E s₂ := by
  obtain ⟨W, hG, st0, S, r0, hvb, ⟨II, ii0, istep, ifin⟩, hok⟩ := hp
  rename_i I J it v0 V0 vs G G0 ok St H₂
  refine wpAny_newObj_type (wpAny_newFunctionEnv hco.nocell (fun y hy => absurd hy List.not_mem_nil) (fun h₁ hns hsb => ?_) hco.kind)
  dsimp only at hns hsb ⊢
  generalize hH2 : s₂.heap.push { cls := .type "list", dict := none, data := .seq ([] : List Value).toArray } = H2 at hns hsb ⊢
  have hC : H2.objs.size = s₂.heap.objs.size + 1 := by rw [← hH2, Heap.size_push]
  have hCn : s₂.heap.get? H2.objs.size = none := Heap.get?_none_of_le (by rw [hC]; exact Nat.le_succ _)
  have hDC : s₂.heap.objs.size ≠ H2.objs.size := by rw [hC]; exact Nat.ne_of_lt (Nat.lt_succ_self _)
  have old : ∀ b o, s₂.heap.get? b = some o → h₁.get? b = some o := fun b o e => hsb.extBut b o (ne_of_none e hCn) (Heap.get?_push_of_some _ (hH2 ▸ Heap.get?_push_of_some _ e))
  have hD : IsL h₁ s₂.heap.objs.size #[] 0 := hsb.extBut _ _ hDC (Heap.get?_push_of_some _ (hH2 ▸ Heap.get?_push_size _ rfl))
  have hDn : s₂.heap.get? s₂.heap.objs.size = none := none_size _
  clear hsb hC hH2
  generalize H2.objs.size = C at hns hDC hCn ⊢
  generalize s₂.heap.objs.size = D at hD hDC hDn ⊢
  have no : ∀ b, b = C ∨ b = D → s₂.heap.get? b = none := fun b z => z.elim (fun e => e ▸ hCn) fun e => e ▸ hDn
  have exC : ∃ o, h₁.get? C = some o := let ⟨o, _, _, e, _⟩ := hns; ⟨o, e⟩
  have nR : ∀ b, (R b ∨ I b) → b ≠ C ∧ b ≠ D := fun b i => let ⟨o, e⟩ := (S.inv.res b i).2; ⟨ne_of_none e hCn, ne_of_none e hDn⟩
  have I4 : Inv B (R2 (fun b => R b ∨ I b) C D) { s₂ with heap := h₁, toks := s₂.toks + ([] : List (Str × Value)).length } H₂ :=
    S.inv.reserve' _ old (fun a r => .inl r) fun a z => z.imp id fun z => ⟨no a z, z.elim (fun e => e ▸ exC) fun e => e ▸ ⟨_, hD⟩⟩
  have lift4 : ∀ {v V}, Rel B s₂.heap H₂ (fun b => R b ∨ I b) v V → Rel B h₁ H₂ (R2 (fun b => R b ∨ I b) C D) v V := fun r => r.reserve (fun a z => z.imp id (no a)) old
  have K4 := (S.env I0 K).change (fun b o z0 z0 e => old b o e) lift4 (fun b r => .inl r)
  have Kin : EnvOk B (inLvl l sc) (l :: ls) (compEnvC sc cl C env) (R2 (fun b => R b ∨ I b) C D) h₁ H₂ m := comp_env K4 hb hco hcl (.inr (.inl rfl)) hns fun x p c hp e => by
    obtain ⟨c', hO⟩ := (S.env I0 K).cell x p hp; have e' := hO.1; have r := hO.2.1; clear hO
    rw [e] at e'; cases e'
    exact (nR c r).1
  have hst4 : St 0 h₁ := W.keep 0 _ _ st0 fun b o z0 e => old b o e
  have hIX : ∀ b, I b → R2 (fun b => R b ∨ I b) C D b := fun b i => .inl (.inr i)
  have nIC : ¬ I C := fun i => (nR C (.inr i)).1 rfl
  have nID : ¬ I D := fun i => (nR D (.inr i)).2 rfl
  have loop : codeAny (model B.prog B.w) A (.compLoop (.ListComp elt [⟨target, iter, ifs, 0⟩] sc pos) 0 (.ref it) (.ref D) (compEnvC sc cl C env)) (RR (.ref D) C) { s₂ with heap := h₁, toks := s₂.toks + ([] : List (Str × Value)).length } := by
    refine comp_loop (CInv B (R2 (fun b => R b ∨ I b) C D) (R2 I C D) (inLvl l sc) (l :: ls) (compEnvC sc cl C env) m D vs St v0 V0 II s₂.heap H₂) (fun n s' hi => ?_) vs.length
      ⟨0, [], H₂, #[], 0, Nat.zero_le _, rfl, Nat.le_refl _, I4, Kin, hD, RelL.nil, hst4, lift4 r0, fun b o e q z0 => ⟨old b o e, q⟩, ii0⟩
    obtain ⟨k, acc, H', items, c, hk, rfl, hacc, I', K', l', rl', hst, rv0, sx, ii⟩ := hi
    by_cases hlt : k < vs.length
    · refine comp_turn hh W hG (hok _ _ _ _ hT hen) (below_in hb sc) hT (fun b f => frm_in hco f) (hturn C cl) hIX (.inr (.inl rfl)) (.inr (.inr rfl)) (fun b i => .inl i) (.inr (.inl rfl)) (.inr (.inr rfl)) nIC nID hDC (fun b z => ?_) (fun j hj => K4.top j hj) hvb istep hlt hacc I' K' l' rl' hst rv0 sx ii
      rcases z with rfl | ⟨x, e⟩
      · exact ⟨nIC, hDC.symm⟩
      · obtain ⟨e1, y, hy, rfl, e2⟩ := hcl.back x b e
        exact ⟨fun i => S.apart b i (K.cres _ b e1), (nR b (.inl (K.cres _ b e1))).2⟩
    · cases Nat.le_antisymm hk (Nat.le_of_not_lt hlt)
      have hO := ifin acc H' ii; have g := hO.1; have hbig := hO.2.1; have q := hO.2.2; clear hO
      refine wpAny_mono (W.done s' H' _ (R2 R C D) hst hIX I' rv0 (hG _ g) (fun b r => r.imp .inl id) (fun b r i => ?_)) (fun r s₁ h₁ => ?_) fun z0 z0 x => x
      · exact r.elim (S.apart b i) fun e => e.elim (nR b (.inr i)).1 (nR b (.inr i)).2
      · obtain ⟨rfl, Ie, xe⟩ := h₁
        obtain ⟨mm, hO⟩ := K'.ns; have hn := hO.1; clear hO
        have fr : ∀ b, b = C ∨ b = D → ∀ o, s.heap.get? b = some o → Out H b → False := fun b z o e o1 => dead ((no b z).symm.trans (S.step.keep _ o e o1).1)
        exact hRR D C s₁ ⟨acc, H', items, c, Ie, (xe D _ l' (I'.res D (.inr (.inr rfl))).1 nID).1, ⟨rl'.1, fun i v V p q => ((rl'.2 i v V p q).stepX hIX xe).release fun b r => r.imp .inl id⟩, ⟨mm, hn.at' fun o e => (xe C o e (I'.res C (.inr (.inl rfl))).1 nIC).1⟩,
          ⟨fun b o e o1 => have e2 := S.step.keep b o e o1; (sx.trans (xe.mono fun b i => .inl i)) b o e2.1 e2.2 fun z => z.elim (fun i => S.fresh b o i e o1) fun z => fr b z o e o1⟩,
          hDC.symm, fun r => (nR C (.inl r)).1 rfl, fun r => (nR D (.inl r)).2 rfl, fr C (.inl rfl), fr D (.inr rfl), Nat.le_trans hacc hbig, q⟩
  exact codeAny_compStart_list loop (W.self 0 _ _ _ hst4 loop)
end Mine.Internal
set_option maxRecDepth 100000
set_option linter.unusedVariables false
namespace Mine.Internal
open PySem PySem.W PyProof.Rows PySem.SeqAt
inductive FlowRel (B : BC) (h : Heap) (H : Hp) (R : Nat → Prop) : PySem.Flow → Mine.Internal.Flow → Prop
  | next : FlowRel B h H R .next .next
  | cont : FlowRel B h H R .cont .cont
  | ret {v V} : Rel B h H R v V → FlowRel B h H R (.ret v) (.ret V)
inductive PostS (B : BC) (l : Lvl) (ls : List Lvl) (env : Env) (R : Nat → Prop) (Q : Mine.Internal.Flow → Loc → Hp → Prop) (H : Hp) (s : Shared) (fl : PySem.Flow) (s' : Shared) : Prop
  | mk (fl' m' H') : FlowRel B s'.heap H' R fl fl' → Inv B R s' H' → EnvOk B l ls env R s'.heap H' m' → StepX (Frm l env) s.heap H s'.heap H' → Q fl' m' H' → PostS B l ls env R Q H s fl s'
theorem PostS.on {B l ls env R Q H s H₁ s₁ fl s'} (x : PostS B l ls env R Q H₁ s₁ fl s') (k : StepX (Frm l env) s.heap H s₁.heap H₁) : PostS B l ls env R Q H s fl s' :=
  let ⟨fl', m', H', a, b, c, d, e⟩ := x; ⟨fl', m', H', a, b, c, k.trans d, e⟩
inductive Adopted (B : BC) (R : Nat → Prop) (s : Shared) (H : Hp) (Q : V → Hp → Prop) (D C : Nat) (s' : Shared) : Prop
  | mk (W H'') : Rel B s'.heap H'' (fun b => R b ∨ b = C) (.ref D) W → Inv B (fun b => R b ∨ b = C) s' H'' → Step s.heap H s'.heap H'' → Q W H'' → (∃ mm, s'.heap.Ns C mm) → ¬ R C → (∀ o, s.heap.get? C = some o → Out H C → False) → Adopted B R s H Q D C s'
theorem CompEnd.adopted {B : BC} {R : Nat → Prop} {s : Shared} {H : Hp} {Q : V → Hp → Prop} {D C : Nat} {s' : Shared} (x : CompEnd B R s H Q D C s') : Adopted B R s H Q D C s' := by
  induction x with | mk acc H' items c I l r hn st hne nC nD fC fD hz q => ?_
  have hR : ∀ b, (R b ∨ b = C) → R2 R C D b := fun b z => z.imp id .inl
  have nD' : ¬ (R D ∨ D = C) := fun z => z.elim nD fun e => hne e.symm
  rcases q with q | q
  · exact ⟨_, H', .lst l (I.res D (.inr (.inr rfl))).1 nD' r.1 hz fun i v V p q => (r.2 i v V p q).release hR, I.release hR, st, q, hn, nC, fC⟩
  · have J := I.adopt (R := fun b => R b ∨ b = C) hR (.inr (.inr rfl)) nD' l r hz
    exact ⟨_, _, .ref _, J.1, ⟨fun b o e o1 => ⟨(st.keep b o e o1).1, J.2 b (st.keep b o e o1).2 fun z => fD o (z ▸ e) (z ▸ o1)⟩⟩, q D (I.res D (.inr (.inr rfl))).1.1, hn, nC, fC⟩
section
variable {B : BC} {A : Around} {l : Lvl} {ls : List Lvl} {C : CallW} {env : Env}
noncomputable def CompW (C : CallW) (T : Tgt) (i : It) (TW : Loc → Hp → (V → Hp → Prop) → (Hp → Prop) → Prop) (m : Loc) (H : Hp) (Q : V → Hp → Prop) : Prop :=
  wI C i m H fun vs G H => CompR vs G H (fun v H Y N => ∃ m', bindT T v m = some m' ∧ TW m' H Y N) Q
theorem cl_of {R h H m sc} (K : EnvOk B l ls env R h H m) (hco : CompOk l ls sc) : ∃ cl : List (Str × Nat), closureFor sc env = pure cl ∧ ClOk env sc cl := by
  obtain ⟨cl, e, p1, p2⟩ := closure_sound (env := env) (scope := sc) fun y hy e => by
    obtain ⟨p, hp⟩ := hco.free y hy e
    obtain ⟨c, hO⟩ := K.cell y.1 p hp; have e1 := hO.1; clear hO
    exact ⟨c, e1⟩
  exact ⟨cl, e, ⟨p1, p2⟩⟩
theorem eok_comp (hh : A.handled = none) (hb : Below' l ls) {sc : Scope} {elt target iter : PySem.Expr} {ifs : List PySem.Expr} {pos : Pos} (hco : CompOk l ls sc) {T : Tgt} (hT : cTgt (inLvl l sc :: l :: ls) 3 target = some T)
    {i : It} (hen : enumOk i T = true) {TW : Loc → Hp → (V → Hp → Prop) → (Hp → Prop) → Prop} (hturn : ∀ Ca cl, TurnOk B A (inLvl l sc) (l :: ls) (compEnvC sc cl Ca env) elt ifs TW) (hit : IOk B A l ls C env iter i) {x : X}
    (hx : ∀ m H Q, wE C x m H Q → CompW C T i TW m H Q) : EOk B A l ls C env (.ListComp elt [⟨target, iter, ifs, 0⟩] sc pos) x := by
  intro R H m s Q hq I K
  have hq := hx m H Q hq
  obtain ⟨cl, hO⟩ := cl_of K hco; have e := hO.1; have hcl := hO.2; clear hO
  rw [eval_ListComp]
  refine wpAny_comprehension_free (use := none) rfl hit.1 e hco.kind hco.locs (wpAny_mono (hit.2 R H m s _ hq I K) (fun xv s₁ h₁ => wpAny_mono h₁ (fun iv s₂ h₂ => ?_) fun z0 z0 e => e) fun z0 z0 e => e)
  exact comp_core hh hb hco hT hen hturn I K h₂ (RR := fun acc Ca => compPost (model B.prog B.w) A noE none (PostE B R Q H s) acc Ca) (fun D Ca s' x => by
    induction (id x) with | mk _ _ _ _ _ _ _ hn _ => ?_
    obtain ⟨mm, hn⟩ := hn
    exact ⟨mm, hn, fun h' k => x.post k⟩) hcl
theorem comp_used (hh : A.handled = none) (hb : Below' l ls) {sc : Scope} {elt target iter : PySem.Expr} {ifs : List PySem.Expr} {pos pos' : Pos} (hco : CompOk l ls sc) {T : Tgt} (hT : cTgt (inLvl l sc :: l :: ls) 3 target = some T)
    {i : It} (hen : enumOk i T = true) {TW : Loc → Hp → (V → Hp → Prop) → (Hp → Prop) → Prop} (hturn : ∀ Ca cl, TurnOk B A (inLvl l sc) (l :: ls) (compEnvC sc cl Ca env) elt ifs TW) (hit : IOk B A l ls C env iter i) {y : Str} {py : Pos} {j : Nat} (hy : slotTop (l :: ls) y = some j)
    {R H m s} {Q : Mine.Internal.Flow → Loc → Hp → Prop} (hq : CompW C T i TW m H fun v H => Q .next (m.set j (some v)) H) (I : Inv B R s H) (K : EnvOk B l ls env R s.heap H m) :
    wpAny (model B.prog B.w) A (comprehension (.ListComp elt [⟨target, iter, ifs, 0⟩] sc pos) sc env pos' (newList []) false (eval iter env) (some (assign (.Name y py) env))) (fun z0 s' => PostS B l ls env R Q H s .next s') noE s := by
  obtain ⟨cl, hO⟩ := cl_of K hco; have e := hO.1; have hcl := hO.2; clear hO
  refine wpAny_comprehension_free (use := some (assign (.Name y py) env)) (Q := fun z0 s' => PostS B l ls env R Q H s .next s') rfl hit.1 e hco.kind hco.locs (wpAny_mono (hit.2 R H m s _ hq I K) (fun xv s₁ h₁ => wpAny_mono h₁ (fun iv s₂ h₂ => ?_) fun z0 z0 e => e) fun z0 z0 e => e)
  refine comp_core (Q := fun v H => Q .next (m.set j (some v)) H) hh hb hco hT hen hturn I K h₂ (RR := fun acc Ca => compPost (model B.prog B.w) A noE (some (assign (.Name y py) env)) (fun z0 s' => PostS B l ls env R Q H s .next s') acc Ca) (fun D Ca s' x => ?_) hcl
  obtain ⟨W, H'', rW, I'', st, q, ⟨mm, hn⟩, nC, fC⟩ := x.adopted
  have K'' : EnvOk B l ls env (fun b => R b ∨ b = Ca) s'.heap H'' m := K.change (fun b o r z0 e => (st.keep b o e (I.res b r).1).1) (fun r => r.mono fun b o e q n => ⟨(st.keep b o e q).1, (st.keep b o e q).2, fun z => z.elim n fun e' => fC o (e' ▸ e) (e' ▸ q)⟩) fun b r => .inl r
  show wpAny _ _ (assign (.Name y py) env (.ref D)) _ _ _
  refine wpAny_assign_Name (store_sound K'' I'' hb hy rW fun c h' tk hc k I3 K3 => ?_)
  have fc : Frm l env c := hc.imp id fun ⟨p, e⟩ => ⟨y, p, e⟩
  have rc : R c := by
    exact Frm.res K fc
  have hcC : Ca ≠ c := fun z => nC (z ▸ rc)
  refine ⟨mm, hn.sameBut k hcC, fun h'' k2 => ?_⟩
  have kk : ∀ b o, h'.get? b = some o → ¬ b = Ca → h''.get? b = some o := fun b o e n => (k2.2 b n).trans e
  have I4 : Inv B R { s' with heap := h'', toks := tk } H'' := I3.atX (X := fun b => b = Ca) tk (fun b e => .inr e) (fun b r => .inl r) (fun b r e => absurd (e ▸ r) nC) kk
  have K4 : EnvOk B l ls env R h'' H'' (m.set j (some W)) := by
    have K5 : EnvOk B l ls env (fun b => R b ∨ b = Ca) h'' H'' (m.set j (some W)) := K3.change (fun b o z0 z e => kk b o e fun z' => nC (z' ▸ (show R b by
      rcases z with rfl | ⟨x, e⟩
      · exact K.res
      · exact K.cres x b e))) (fun {v V} r => r.stepX (X := fun b => b = Ca) (fun b e => .inr e) (stepX_of kk)) (fun b r => r)
    exact K5.release (fun b r => .inl r) K.res fun y c e z0 => K.cres y c e
  exact ⟨.next, _, H'', .next, I4, K4, fun b o e o1 nf => ⟨kk b o ((k.2 b fun z => nf (z ▸ fc)).trans (st.keep b o e o1).1) fun z => fC o (z ▸ e) (z ▸ o1), (st.keep b o e o1).2⟩, q⟩
end
end Mine.Internal
set_option maxRecDepth 100000
set_option linter.unusedVariables false
namespace Mine.Internal
open PySem PySem.W PyProof.Rows PySem.SeqAt
theorem cE_star {n : Nat} {ls : List Lvl} {e : PySem.Expr} (h : isStar e = true) : cE n ls e = none := by
  cases n with
  | zero => rfl
  | succ n => cases e with
    | Starred => rfl
    | _ => exact deadB h
theorem cE_set {n : Nat} {ls : List Lvl} {es : List PySem.Expr} {k : Nat} {p : Pos} : cE n ls (.Set es k p) = none := by cases n <;> rfl
theorem cE_noset {n : Nat} {ls : List Lvl} {e : PySem.Expr} {x : X} (h : cE n ls e = some x) (es k p) (z : e = .Set es k p) : False := dead (cE_set.symm.trans (z ▸ h))
theorem cE_notStar {n : Nat} {ls : List Lvl} {e : PySem.Expr} {x : X} (h : cE n ls e = some x) : isStar e = false :=
  Bool.eq_false_iff.mpr fun hs => dead ((cE_star hs).symm.trans h)
section
variable {B : BC} {A : Around} {C : CallW} {d : Nat}
noncomputable def IHE (B : BC) (A : Around) (C : CallW) (n : Nat) : Prop := ∀ l ls e x, cE n (l :: ls) e = some x → Below' l ls → ∀ env, EOk B A l ls C env e x
noncomputable def IHT (B : BC) (A : Around) (C : CallW) (n : Nat) : Prop := ∀ l ls e x, cE n (l :: ls) e = some x → Below' l ls → ∀ env, TOk B A l ls C env e x
noncomputable def IHI (B : BC) (A : Around) (C : CallW) (n : Nat) : Prop := ∀ l ls e i, cIt n (l :: ls) e = some i → Below' l ls → ∀ env, IOk B A l ls C env e i
theorem turn_nil {l : Lvl} {ls : List Lvl} {env : Env} {elt : PySem.Expr} {y : X} (he : EOk B A l ls C env elt y) : TurnOk B A l ls env elt [] fun m' H Y N => wE C y m' H Y :=
  fun R H m' s Y N tw I K => wpAny_tests_nil (he R H m' s Y tw I K)
theorem turn_one {l : Lvl} {ls : List Lvl} {env : Env} {elt c : PySem.Expr} {y z : X} (he : EOk B A l ls C env elt y) (hc : TOk B A l ls C env c z) : TurnOk B A l ls env elt [c] fun m' H Y N => wT C z m' H (fun H => wE C y m' H Y) N :=
  fun R H m' s Y N tw I K => wpAny_tests_one (seqT (hc R H m' s _ _ tw I K) fun ok s₃ H' I' st q1 q2 => by
    cases ok with
    | true => exact onE (he R H' m' s₃ Y (q1 rfl) I' (K.step I st)) st
    | false => exact ⟨H', I', st, q2 rfl⟩)
inductive CompP (B : BC) (A : Around) (C : CallW) (l : Lvl) (ls : List Lvl) (sc : Scope) (elt : PySem.Expr) (x : X) : List Comprehension → Prop
  | mk {target iter ifs T i} (TW : Loc → Hp → (V → Hp → Prop) → (Hp → Prop) → Prop) : CompOk l ls sc → cTgt (inLvl l sc :: l :: ls) 3 target = some T → enumOk i T = true →
      (∀ env Ca cl, TurnOk B A (inLvl l sc) (l :: ls) (compEnvC sc cl Ca env) elt ifs TW) → (∀ env, IOk B A l ls C env iter i) → (∀ m H Q, wE C x m H Q → CompW C T i TW m H Q) → CompP B A C l ls sc elt x [⟨target, iter, ifs, 0⟩]
theorem comp_parts {n : Nat} (ihE : IHE B A C n) (ihT : IHT B A C n) (ihI : IHI B A C n) {l : Lvl} {ls : List Lvl} {elt : PySem.Expr} {gens : List Comprehension} {sc : Scope} {pos : Pos} {x : X} (h : CE1 (cE n) (cIt n) (l :: ls) (.ListComp elt gens sc pos) x) (hb : Below' l ls) :
    CompP B A C l ls sc elt x gens := by
  cases h with
  | comp h0 h1 h2 h3 h4 => exact .mk _ (compOk_of h0) h3 h1 (fun env Ca cl => turn_nil (ihE _ _ _ _ h4 (below_in hb _) _)) (fun env => ihI l ls _ _ h2 hb env) fun m H Q q => q
  | compIf h0 h1 h2 h3 h4 h5 => exact .mk _ (compOk_of h0) h3 h1 (fun env Ca cl => turn_one (ihE _ _ _ _ h4 (below_in hb _) _) (ihT _ _ _ _ h5 (below_in hb _) _)) (fun env => ihI l ls _ _ h2 hb env) fun m H Q q => q
theorem eok_listcomp (hh : A.handled = none) {l : Lvl} {ls : List Lvl} {env : Env} {sc : Scope} {elt : PySem.Expr} {gens : List Comprehension} {pos : Pos} {x : X} (hb : Below' l ls) (h : CompP B A C l ls sc elt x gens) : EOk B A l ls C env (.ListComp elt gens sc pos) x := by
  induction h with | mk TW hco hT hen hturn hit hx => ?_
  exact eok_comp hh hb hco hT hen (hturn env) (hit env) hx
theorem noT {l : Lvl} {ls : List Lvl} {env : Env} {e : PySem.Expr} {x : X} (h : ∀ m H t f, wT C x m H t f → False) : TOk B A l ls C env e x := fun R H m s t f hq => (h m H t f hq).elim
theorem soundET_step (b : BaseK B) (gl : GlobOk B) (hC : CallOk B d C) (hr : Room A (d + 1)) {n : Nat} (ihE : IHE B A C n) (ihT : IHT B A C n) (ihI : IHI B A C n) {l ls e x} (h : cE (n + 1) (l :: ls) e = some x) (hb : Below' l ls) (env : Env) : EOk B A l ls C env e x ∧ TOk B A l ls C env e x := by
  have hr0 : Room A 0 := hr.le (Nat.zero_le _)
  have hrd : Room A d := hr.le (Nat.le_succ _)
  have E : ∀ {e x}, cE n (l :: ls) e = some x → EOk B A l ls C env e x := fun h => ihE l ls _ _ h hb env
  have T : ∀ {e x}, cE n (l :: ls) e = some x → TOk B A l ls C env e x := fun h => ihT l ls _ _ h hb env
  have st : ∀ e, isStar e = true → cE n (l :: ls) e = none := fun e => cE_star
  have v : ∀ {e x}, EOk B A l ls C env e x → (∀ whole, isTrue e env whole = (do let v ← whole; standAt e.pos; holding [v] (truthy v))) → (∀ m H t f, wT C x m H t f → wE C x m H (boolQ t f)) → EOk B A l ls C env e x ∧ TOk B A l ls C env e x := fun h i w => ⟨h, tok_value h i w⟩
  have o : ∀ {e x}, EOk B A l ls C env e x → (∀ m H t f, wT C x m H t f → False) → EOk B A l ls C env e x ∧ TOk B A l ls C env e x := fun h z => ⟨h, noT z⟩
  have h' := cE_inv h
  clear h
  induction h' with
  | const h1 => exact o (eok_const h1) fun z0 z0 z0 z0 h => h
  | loc h1 h2 h3 => exact v (eok_loc h3 h1 h2) (fun z0 => rfl) fun z0 z0 z0 z0 q => q
  | glob h1 h2 h3 h4 => exact o (eok_glob gl h2 h1 h3 h4) fun z0 z0 z0 z0 h => h
  | bool h1 h2 => exact ⟨eok_bool (fun e x h => E h) h1 h2, tok_bool (fun e x h => T h) h1 h2⟩
  | not h1 => exact ⟨eok_not (E h1), tok_not (T h1)⟩
  | neg => exact o eok_neg fun z0 z0 z0 z0 h => h
  | bin h1 h2 h3 => exact o (eok_bin hr0 h1 (E h2) (E h3)) fun z0 z0 z0 z0 h => h
  | ite h1 h2 h3 => exact o (eok_ite (T h1) (E h2) (E h3)) fun z0 z0 z0 z0 h => h
  | tup h1 => exact o (eok_tuple (fun e x h => E h) st h1) fun z0 z0 z0 z0 h => h
  | lst h1 => exact o (eok_list (fun e x h => E h) st h1) fun z0 z0 z0 z0 h => h
  | dct => exact o eok_dict fun z0 z0 z0 z0 h => h
  | cmp h1 h2 h3 => exact ⟨eok_cmp hr0 h1 (cE_noset h3) (E h2) (E h3), tok_cmp hr0 h1 (cE_noset h3) (E h2) (E h3)⟩
  | attr h1 h2 h3 => exact o (eok_attr b h1 h3 (E h2)) fun z0 z0 z0 z0 h => h
  | slcTo h1 h2 => exact o (eok_slcTo hr0 (E h1) (E h2)) fun z0 z0 z0 z0 h => h
  | slcFrom h1 h2 => exact o (eok_slcFrom hr0 (E h1) (E h2)) fun z0 z0 z0 z0 h => h
  | rev h1 => exact o (eok_rev hr0 (E h1)) fun z0 z0 z0 z0 h => h
  | sub h1 h2 => exact v (eok_sub hr0 (E h1) (E h2)) (fun z0 => rfl) fun z0 z0 z0 z0 q => q
  | meth h1 h2 h3 h4 h5 h6 => exact v (eok_meth b hC hrd hr0 h1 h2 h3 h5 (E h4) (fun e x h => E h) st h6) (fun z0 => rfl) fun z0 z0 z0 z0 q => q
  | call h1 h2 h3 h4 h5 => exact v (eok_call b gl hC hrd h1 h2 h3 h5 (fun e x h => E h) st h4) (fun z0 => rfl) fun z0 z0 z0 z0 q => q
  | new h1 h2 h3 h4 h5 => exact o (eok_new b gl hC hr h1 h2 h3 h5 (fun e x h => E h) st h4) fun z0 z0 z0 z0 h => h
  | prim h1 h2 h3 h4 h5 => exact o (eok_prim gl hr0 h1 h2 h3 h5 (fun e x h => E h) st h4) fun z0 z0 z0 z0 h => h
  | @comp _ _ _ _ p _ _ _ h0 h1 h2 h3 h4 => exact o (eok_listcomp hr0.handled hb (comp_parts (pos := p) ihE ihT ihI (.comp h0 h1 h2 h3 h4) hb)) fun z0 z0 z0 z0 h => h
  | @compIf _ _ _ _ p _ _ _ _ _ h0 h1 h2 h3 h4 h5 => exact o (eok_listcomp hr0.handled hb (comp_parts (pos := p) ihE ihT ihI (.compIf h0 h1 h2 h3 h4 h5) hb)) fun z0 z0 z0 z0 h => h
theorem soundI_step (b : BaseK B) (gl : GlobOk B) (hr : Room A (d + 1)) {n : Nat} (ihE : IHE B A C n) : IHI B A C (n + 1) := by
  intro l ls e i h hb env
  have hh : A.handled = none := hr.handled
  refine or_inv h (fun g0 => bind_inv g0 fun p h1 g1 => iff_inv g1 fun hg g2 => bind_inv g2 fun x hx g3 => ?_) fun h => map1_inv h fun x hx => iok_val hh (cE_noset hx) (ihE l ls e x hx hb env)
  obtain ⟨q1, q2, rfl⟩ := callOne_eq h1
  have E := ihE l ls _ _ hx hb env
  exact or_inv g3 (fun h => iff_inv h fun hf h => Option.some.inj h ▸ iok_range hh gl hg (eq_of_beq hf) (cE_notStar hx) E)
    fun h => or_inv h (fun h => iff_inv h fun hf h => Option.some.inj h ▸ iok_rev hh gl hg (eq_of_beq hf) (cE_notStar hx) E)
    fun h => iff_inv h fun hf h => Option.some.inj h ▸ iok_enum hh gl hg (eq_of_beq hf) (cE_notStar hx) E
theorem soundE (b : BaseK B) (gl : GlobOk B) (hC : CallOk B d C) (hr : Room A (d + 1)) (n : Nat) : IHE B A C n ∧ IHT B A C n ∧ IHI B A C n := by
  induction n with
  | zero => exact ⟨fun z0 z0 z0 z0 h => dead h, fun z0 z0 z0 z0 h => dead h, fun z0 z0 z0 z0 h => dead h⟩
  | succ n ih => exact ⟨fun z0 z0 z0 z0 h hb env => (soundET_step b gl hC hr ih.1 ih.2.1 ih.2.2 h hb env).1, fun z0 z0 z0 z0 h hb env => (soundET_step b gl hC hr ih.1 ih.2.1 ih.2.2 h hb env).2, soundI_step b gl hr ih.1⟩
end
end Mine.Internal
set_option maxRecDepth 100000
set_option linter.unusedVariables false
namespace Mine.Internal
open PySem PySem.W PyProof.Rows PySem.SeqAt
noncomputable def SOk (B : BC) (A : Around) (l : Lvl) (ls : List Lvl) (C : CallW) (env : Env) (st : PySem.Stmt) (x : S) : Prop :=
  ∀ R H m s Q, wS C x m H Q → Inv B R s H → EnvOk B l ls env R s.heap H m → wpAny (model B.prog B.w) A (exec st env) (PostS B l ls env R Q H s) noE s
section
variable {B : BC} {A : Around} {l : Lvl} {ls : List Lvl} {C : CallW} {env : Env}
theorem seqS {M : Model} {p : Sem PySem.Flow} {R H s s₁} {Q : Mine.Internal.Flow → Loc → Hp → Prop} {Q' : PySem.Flow → Shared → Prop} {E : Value → Shared → Prop} (h : wpAny M A p (PostS B l ls env R Q H s) noE s₁)
    (k : ∀ fl s' fl' m' H', FlowRel B s'.heap H' R fl fl' → Inv B R s' H' → EnvOk B l ls env R s'.heap H' m' → StepX (Frm l env) s.heap H s'.heap H' → Q fl' m' H' → Q' fl s') : wpAny M A p Q' E s₁ :=
  wpAny_mono h (fun fl s' ⟨fl', m', H', a, b, c, d, e⟩ => k fl s' fl' m' H' a b c d e) fun z0 z0 x => x.elim
theorem onS {M : Model} {p : Sem PySem.Flow} {R H H₀} {s s₀ s₁ : Shared} {Q : Mine.Internal.Flow → Loc → Hp → Prop} (h : wpAny M A p (PostS B l ls env R Q H s) noE s₁) (k : StepX (Frm l env) s₀.heap H₀ s.heap H) : wpAny M A p (PostS B l ls env R Q H₀ s₀) noE s₁ :=
  wpAny_mono h (fun z0 z0 x => x.on k) fun z0 z0 x => x
theorem block_sound {f : PySem.Stmt → Option S} (hf : ∀ e x, f e = some x → SOk B A l ls C env e x) {sts : List PySem.Stmt} {xs : List S} {R H m s} {Q : Mine.Internal.Flow → Loc → Hp → Prop} (hc : cSsWith f sts = some xs) (hq : wSs C (mkSs xs) m H Q) (I : Inv B R s H) (K : EnvOk B l ls env R s.heap H m) :
    wpAny (model B.prog B.w) A (execs sts env) (PostS B l ls env R Q H s) noE s := by
  induction sts generalizing xs H m s with
  | nil => cases hc; exact wpAny_execs_nil ⟨.next, m, H, .next, I, K, StepX.refl, hq⟩
  | cons e r ih =>
    refine map2_inv (P := fun xs => wSs C (mkSs xs) m H Q → _) hc (fun x ys h1 h2 hq => ?_) hq
    have hq : wS C x m H fun fl m H => match fl with | .next => wSs C (mkSs ys) m H Q | fl => Q fl m H := hq
    refine wpAny_execs_cons (seqS (hf e x h1 R H m s _ hq I K) fun fl s₁ fl' m₁ H₁ fr I₁ K₁ st₁ q₁ => ?_)
    induction fr with
    | next => exact onS (ih h2 q₁ I₁ K₁) st₁
    | cont => exact ⟨.cont, m₁, H₁, .cont, I₁, K₁, st₁, q₁⟩
    | ret r => exact ⟨_, m₁, H₁, .ret r, I₁, K₁, st₁, q₁⟩
theorem sok_if {t : PySem.Expr} {a b : List PySem.Stmt} {p : Pos} {x : X} {xa xb : List S} {f : PySem.Stmt → Option S} (ht : TOk B A l ls C env t x) (hf : ∀ e x, f e = some x → SOk B A l ls C env e x) (ha : cSsWith f a = some xa) (hb : cSsWith f b = some xb) :
    SOk B A l ls C env (.If t a b p) (.ifS x (mkSs xa) (mkSs xb)) := by
  intro R H m s Q hq I K
  have hq : wT C x m H (fun H => wSs C (mkSs xa) m H Q) (fun H => wSs C (mkSs xb) m H Q) := hq
  show wpAny _ _ (do standAt p; if ← isTrue t env (eval t env) then execs a env else execs b env) _ _ _
  refine wpAny_bind (wpAny_standAt (wpAny_bind (seqT (ht R H m s _ _ hq I K) fun r s₁ H₁ I₁ st₁ q1 q2 => ?_)))
  cases r with
  | true => exact onS (block_sound hf ha (q1 rfl) I₁ (K.step I st₁)) st₁.x
  | false => exact onS (block_sound hf hb (q2 rfl) I₁ (K.step I st₁)) st₁.x
inductive WInv (B : BC) (l : Lvl) (ls : List Lvl) (env : Env) (R : Nat → Prop) (II : Nat → Loc → Hp → Prop) (h₀ : Heap) (H₀ : Hp) (n : Nat) (s : Shared) : Prop
  | mk (m H) : II n m H → Inv B R s H → EnvOk B l ls env R s.heap H m → StepX (Frm l env) h₀ H₀ s.heap H → WInv B l ls env R II h₀ H₀ n s
theorem sok_while {t : PySem.Expr} {a : List PySem.Stmt} {p : Pos} {x : X} {xa : List S} {f : PySem.Stmt → Option S} (ht : TOk B A l ls C env t x) (hf : ∀ e x, f e = some x → SOk B A l ls C env e x) (ha : cSsWith f a = some xa) :
    SOk B A l ls C env (.While t a [] p) (.whileS x (mkSs xa)) := by
  intro R H m s Q hq I K
  have hq : WhileR m H fun m H J => wT C x m H (fun H => wSs C (mkSs xa) m H (lp Q J)) (fun H => Q .next m H) := hq
  induction hq with | mk II n0 i0 istep => ?_
  refine wpAny_While (codeAny_whileLoop (WInv B l ls env R II s.heap H) (fun n s' h => ?_) n0 ⟨m, H, i0, I, K, StepX.refl⟩)
  induction h with | mk m' H' i' I' K' st' => ?_
  refine seqT (ht R H' m' s' _ _ (istep n m' H' i') I' K') fun r s₁ H₁ I₁ st₁ q1 q2 => ?_
  have K₁ := K'.step I' st₁
  cases r with
  | true =>
    refine seqS (block_sound hf ha (q1 rfl) I₁ K₁) fun fl s₂ fl' m₂ H₂ fr I₂ K₂ st₂ q => ?_
    have st3 := (st'.trans st₁.x).trans st₂
    induction fr with
    | next => obtain ⟨n', hn, i2⟩ := q; exact ⟨n', hn, m₂, H₂, i2, I₂, K₂, st3⟩
    | cont => obtain ⟨n', hn, i2⟩ := q; exact ⟨n', hn, m₂, H₂, i2, I₂, K₂, st3⟩
    | ret r => exact ⟨_, m₂, H₂, .ret r, I₂, K₂, st3, q⟩
  | false => exact wpAny_execs_nil ⟨.next, m', H₁, .next, I₁, K₁, st'.trans st₁.x, q2 rfl⟩
inductive FInv (B : BC) (l : Lvl) (ls : List Lvl) (env : Env) (X Y : Nat → Prop) (vs : List V) (St : Nat → Heap → Prop) (v0 : Value) (V0 : V) (II : Nat → Loc → Hp → Prop) (h₀ : Heap) (H₀ : Hp) (n : Nat) (s : Shared) : Prop
  | mk (k m H) : k ≤ vs.length → n = vs.length - k → II k m H → Inv B X s H → EnvOk B l ls env X s.heap H m → St k s.heap → Rel B s.heap H X v0 V0 → StepX Y h₀ H₀ s.heap H → FInv B l ls env X Y vs St v0 V0 II h₀ H₀ n s
noncomputable abbrev RJ (R I : Nat → Prop) : Nat → Prop := fun b => R b ∨ I b
set_option tactic.hygienic true in
theorem sok_for (hh : A.handled = none) (hb : Below' l ls) {t it : PySem.Expr} {a : List PySem.Stmt} {p : Pos} {T : Tgt} {i : It} {xa : List S} {f : PySem.Stmt → Option S} (hT : cTgt (l :: ls) 3 t = some T) (hen : enumOk i T = true) (hit : IOk B A l ls C env it i) (hf : ∀ e x, f e = some x → SOk B A l ls C env e x) (ha : cSsWith f a = some xa) :
    SOk B A l ls C env (.For t it a [] p) (.forS T i (mkSs xa)) := by
  intro R H m s Q hq I0 K
  have hq : wI C i m H fun vs G H => ForR vs G m H (fun v m H J => ∃ m', bindT T v m = some m' ∧ wSs C (mkSs xa) m' H (lp Q J)) (Q .next) := hq
  refine wpAny_For (wpAny_mono (hit.2 R H m s _ hq I0 K) (fun x s₁ h₁ => wpAny_mono h₁ (fun iv s₂ hp => ?_) fun z0 z0 x => x) fun z0 z0 x => x) hit.1
  obtain ⟨W, hG, st0, S, r0, hvb, ⟨II, ii0, istep, ifin⟩, hok⟩ := hp
  rename_i I J itn v0 V0 vs G G0 ok St H₂
  have hIR : ∀ b, I b → RJ R I b := fun b i => .inr i
  have plR : ∀ b, Pl env b → R b := fun b z => z.elim (fun e => e ▸ K.res) fun ⟨x, e⟩ => K.cres x b e
  have frR : ∀ b, Frm l env b → R b := fun b z => Frm.res K z
  have hFR : ∀ b, Frm l env b → RJ R I b := fun b z => .inl (frR b z)
  have nIF : ∀ b, I b → ¬ Frm l env b := fun b i z => S.apart b i (frR b z)
  have fin : ∀ {s' : Shared} {H'}, StepX (RJ I (Frm l env)) s₂.heap H₂ s'.heap H' → StepX (Frm l env) s.heap H s'.heap H' := fun {s' H'} x b o e o1 nf =>
    have e2 := S.step.keep b o e o1; x b o e2.1 e2.2 fun z => z.elim (fun i => S.fresh b o i e o1) nf
  have chg : ∀ {h' : Heap} {s' : Shared} {H' m'}, Inv B (RJ R I) s' H' → EnvOk B l ls env (RJ R I) s'.heap H' m' → StepX I s'.heap H' h' H' → EnvOk B l ls env (RJ R I) h' H' m' := fun I' K' xa =>
    K'.change (fun b o r z e => (xa b o e (I'.res b r).1 fun i => S.apart b i (plR b z)).1) (fun r => r.stepX hIR xa) (fun b r => r)
  refine codeAny_forLoop_any (FInv B l ls env (RJ R I) (RJ I (Frm l env)) vs St v0 V0 II s₂.heap H₂) (fun n s' h => ?_) vs.length ⟨0, m, H₂, Nat.zero_le _, rfl, ii0, S.inv, S.env I0 K, st0, r0, StepX.refl⟩
  obtain ⟨k, m', H', hk, rfl, ii, I', K', hst, rv0, sx⟩ := h
  by_cases hlt : k < vs.length
  · obtain ⟨V, hV⟩ : ∃ V, vs[k]? = some V := ⟨_, List.getElem?_eq_getElem hlt⟩
    obtain ⟨g, m₁, hO⟩ := istep k V m' H' hV ii; have hm₁ := hO.1; have q := hO.2; clear hO
    refine wpAny_mono (W.item k V s' H' _ t hV (hok _ _ _ _ hT hen) hst hIR I' rv0 (hG _ g)) (fun r sa h₁ => ?_) fun z0 z0 x => x.elim
    obtain ⟨v, rfl, h₁⟩ := h₁
    refine wpAny_mono h₁ (fun z0 sa ha' => ?_) fun z0 z0 x => x.elim
    have hO := ha'; have rva := hO.1; have Ia := hO.2.1; have xa := hO.2.2.1; have sta := hO.2.2.2; clear hO
    refine wpAny_mono (tgt_sound hh hb 3 hT hm₁ Ia (chg I' K' xa) rva) (fun z0 sb hb' => ?_) fun z0 z0 x => x.elim
    induction hb' with | mk Ib Kb xb => ?_
    have rv0a := rv0.stepX hIR xa
    have stb := St_keep W sta Ia hIR hFR nIF rv0a xb
    have rv0b := rv0a.stepX hFR xb
    refine seqS (block_sound hf ha q Ib Kb) fun fl sc fl' m₂ H₂' fr Ic Kc xc q => ?_
    have xabc := ((sx.trans (xa.mono fun b i => .inl i)).trans (xb.mono fun b i => .inr i)).trans (xc.mono fun b i => .inr i)
    have next : II (k + 1) m₂ H₂' → ∃ n', n' < vs.length - k ∧ FInv B l ls env (RJ R I) (RJ I (Frm l env)) vs St v0 V0 II s₂.heap H₂ n' sc := fun ii =>
      ⟨_, sub_lt hlt, k + 1, m₂, H₂', hlt, rfl, ii, Ic, Kc, St_keep W stb Ib hIR hFR nIF rv0b xc, rv0b.stepX hFR xc, xabc⟩
    induction fr with
    | next => exact next q
    | cont => exact next q
    | ret r => exact ⟨_, m₂, H₂', .ret (r.release fun b r => .inl r), Ic.release fun b r => .inl r, Kc.release (fun b r => .inl r) K.res (fun y c e z0 => K.cres y c e), fin xabc, q⟩
  · cases Nat.le_antisymm hk (Nat.le_of_not_lt hlt)
    have hO := ifin m' H' ii; have g := hO.1; have q := hO.2; clear hO
    refine wpAny_mono (W.done s' H' _ R hst hIR I' rv0 (hG _ g) (fun b r => .inl r) (fun b r i => S.apart b i r)) (fun r s₁ h₁ => ?_) fun z0 z0 x => x.elim
    obtain ⟨rfl, Ie, xe⟩ := h₁
    exact wpAny_execs_nil ⟨.next, m', H', .next, Ie, (chg I' K' xe).release (fun b r => .inl r) K.res (fun y c e z0 => K.cres y c e), fin (sx.trans (xe.mono fun b i => .inl i)), q⟩
theorem sok_ret {e : PySem.Expr} {p : Pos} {x : X} (he : EOk B A l ls C env e x) : SOk B A l ls C env (.Return (some e) p) (.ret x) := by
  intro R H m s Q hq I K
  have hq : wE C x m H fun v H => Q (.ret v) m H := hq
  refine wpAny_Return_some (seqE (he R H m s _ hq I K) fun v s₁ V H₁ rv I₁ st₁ q => ?_)
  exact ⟨.ret V, m, H₁, .ret rv, I₁, K.step I st₁, st₁.x, q⟩
theorem interactive_false {R h H m} (K : EnvOk B l ls env R h H m) : interactive env = false := by
  unfold interactive; rw [K.kind]; rfl
theorem call_of {e : PySem.Expr} (hc : exprOk e = true) (line : Nat) : swapsWith e none line env = pure false := by
  cases e with
  | Call => rfl
  | _ => exact deadB hc
theorem sok_expr {e : PySem.Expr} {p : Pos} {x : X} (hc : exprOk e = true) (he : EOk B A l ls C env e x) : SOk B A l ls C env (.Expr e p) (.exprS x) := by
  intro R H m s Q hq I K
  have hq : wE C x m H fun z0 H => Q .next m H := hq
  refine wpAny_Expr_any (seqE (he R H m s _ hq I K) fun v s₁ V H₁ rv I₁ st₁ q => ?_) (interactive_false K) (call_of hc _)
  exact ⟨.next, m, H₁, .next, I₁, K.step I st₁, st₁.x, q⟩
theorem sok_cont {p : Pos} : SOk B A l ls C env (.Continue p) .cont := by
  intro R H m s Q hq I K
  have hq : Q .cont m H := hq
  exact wpAny_Continue ⟨.cont, m, H, .cont, I, K, StepX.refl, hq⟩
theorem frm_of {y : Str} {c : Nat} (h : c = env.locals ∨ ∃ p, posIn y l.names 0 = some (p, .cell) ∧ env.cells.lookup y = some c) : Frm l env c := h.imp id fun ⟨p, a, b⟩ => ⟨y, p, a, b⟩
theorem sok_asg (hb : Below' l ls) {y : Str} {py p : Pos} {e : PySem.Expr} {j : Nat} {x : X} (hy : slotTop (l :: ls) y = some j) (he : EOk B A l ls C env e x) (hs : swapsWith e (some (.Name y py)) p.line env = pure false) : SOk B A l ls C env (.Assign [.Name y py] e p) (.asg j x) := by
  intro R H m s Q hq I K
  have hq : wE C x m H fun v H => Q .next (m.set j (some v)) H := hq
  refine wpAny_Assign_Name (seqE (he R H m s _ hq I K) fun v s₁ V H₁ rv I₁ st₁ q => ?_) hs
  refine store_sound (K.step I st₁) I₁ hb hy rv fun c h' tk hc k I2 K2 => ?_
  exact ⟨.next, _, H₁, .next, I2, K2, st₁.x.trans (StepX.of_same (frm_of hc) k), q⟩
theorem sok_setA (b : BaseK B) {o e : PySem.Expr} {a : Str} {pa p : Pos} {n : String} {xo x : X} (hn : toS a = some n) (ho : EOk B A l ls C env o xo) (he : EOk B A l ls C env e x) : SOk B A l ls C env (.Assign [.Attribute o a pa] e p) (.setA xo n x) := by
  intro R H m s Q hq I K
  have hq : wE C x m H fun v H => wE C xo m H fun a H => setAttrW a n v H fun H => Q .next m H := hq
  rw [exec_Assign]
  refine wpAny_bind (wpAny_standAt ?_)
  have h1 : swapsWithSole [.Attribute o a pa] e p.line env = pure false := by show swapsWith e (some (.Attribute o a pa)) p.line env = pure false; cases e <;> rfl
  rw [h1]
  refine wpAny_bind (wpAny_pure ?_)
  rw [if_neg (by decide)]
  refine wpAny_bind (seqE (he R H m s _ hq I K) fun v s₁ V H₁ rv I₁ st₁ q₁ => ?_)
  refine wpAny_bind (wpAny_of_eq (a := none) (by cases e <;> rfl) ?_)
  refine wpAny_bind ?_
  show wpAny _ _ (do
    let ov ← holding [v] (eval o env)
    standAt pa.atName
    holding [v, ov] (setAttr ov a v)
    release [v, ov] []) _ _ _
  refine wpAny_bind (wpAny_holding (seqE (ho R H₁ m s₁ _ q₁ I₁ (K.step I st₁)) fun u s₂ W H₂ ru I₂ st₂ q₂ => ?_))
  rw [toS_some hn]
  refine wpAny_bind (wpAny_standAt (wpAny_bind (wpAny_holding (wpAny_mono (setAttr_sound b q₂ I₂ ru (rv.step st₂)) (fun z0 s₃ h₃ => wpAny_release' (wpAny_pure ?_)) fun z0 z0 x => x))))
  induction h₃ with | mk H₃ I₃ st₃ q₃ => ?_
  have st := (st₁.trans st₂).trans st₃
  exact ⟨.next, m, H₃, .next, I₃, K.step I st, st.x, q₃⟩
theorem sok_setI {o i e : PySem.Expr} {pa p : Pos} {xo xi x : X} (hr : Room A 0) (ho : EOk B A l ls C env o xo) (hi : EOk B A l ls C env i xi) (he : EOk B A l ls C env e x) : SOk B A l ls C env (.Assign [.Subscript o i pa] e p) (.setI xo xi x) := by
  intro R H m s Q hq I K
  have hq : wE C x m H fun v H => wE C xo m H fun a H => wE C xi m H fun k H => setItemW a k v H fun H => Q .next m H := hq
  refine wpAny_Assign_Subscript (seqE (he R H m s _ hq I K) fun v s₁ V H₁ rv I₁ st₁ q₁ => ?_) (by cases e <;> rfl)
  refine seqE (ho R H₁ m s₁ _ q₁ I₁ (K.step I st₁)) fun u s₂ W H₂ ru I₂ st₂ q₂ => ?_
  refine seqE (hi R H₂ m s₂ _ q₂ I₂ (K.step I (st₁.trans st₂))) fun z s₃ Z H₃ rz I₃ st₃ q₃ => ?_
  refine wpAny_mono (setItemW_sound q₃ I₃ ((ru.step st₃)) rz ((rv.step st₂).step st₃) hr) (fun z0 s₄ h₄ => ?_) fun z0 z0 x => x
  induction h₄ with | mk H₄ I₄ st₄ q₄ => ?_
  have st := ((st₁.trans st₂).trans st₃).trans st₄
  exact ⟨.next, m, H₄, .next, I₄, K.step I st, st.x, q₄⟩
end
end Mine.Internal
set_option maxRecDepth 100000
set_option linter.unusedVariables false
namespace Mine.Internal
open PySem PySem.W PyProof.Rows PySem.SeqAt
theorem dups_le {α : Type} [BEq α] [LawfulBEq α] (n : Nat) (l : List α) (h : l.length ≤ n) : l.eraseDups.length ≤ l.length := by
  induction n generalizing l with
  | zero => rw [List.length_eq_zero_iff.mp (Nat.le_zero.mp h)]; exact Nat.le_refl _
  | succ n ih => cases l with
    | nil => exact Nat.le_refl _
    | cons a l =>
      rw [List.eraseDups_cons]
      have h1 : (l.filter fun b => !b == a).length ≤ l.length := List.length_filter_le _ _
      exact Nat.succ_le_succ (Nat.le_trans (ih _ (Nat.le_trans h1 (Nat.le_of_succ_le_succ h))) h1)
theorem nodup_of_dups {α : Type} [BEq α] [LawfulBEq α] (l : List α) (h : l.eraseDups.length = l.length) : l.Nodup := by
  induction l with
  | nil => exact List.nodup_nil
  | cons a l ih =>
    rw [List.eraseDups_cons] at h
    have h := Nat.succ.inj h
    have h1 : (l.filter fun b => !b == a).length ≤ l.length := List.length_filter_le _ _
    have h3 : (l.filter fun b => !b == a) = l := List.filter_eq_self.mpr (List.length_filter_eq_length_iff.mp (Nat.le_antisymm h1 (h ▸ dups_le _ _ (Nat.le_refl _))))
    rw [h3] at h
    exact List.nodup_cons.mpr ⟨fun hm => absurd (beq_self_eq_true a) (Bool.eq_false_iff.mp (not_tt (List.filter_eq_self.mp h3 a hm))), ih h⟩
theorem bindL_len {is : List Nat} {vs : List V} {m m' : Loc} (h : bindL is vs m = some m') : is.length = vs.length := by
  induction is generalizing vs m with
  | nil => cases vs with
    | nil => rfl
    | cons => exact dead h
  | cons i is ih => cases vs with
    | nil => exact dead h
    | cons v vs => exact congrArg Nat.succ (ih (m := m.set i (some v)) h)
theorem bindL_snoc {is : List Nat} {vs : List V} {i : Nat} {v : V} {m : Loc} (h : is.length = vs.length) : bindL (is ++ [i]) (vs ++ [v]) m = (bindL is vs m).map fun m => m.set i (some v) := by
  induction is generalizing vs m with
  | nil => rw [List.length_eq_zero_iff.mp h.symm]; rfl
  | cons j is ih => cases vs with
    | nil => cases h
    | cons w vs => exact ih (m := m.set j (some w)) (Nat.succ.inj h)
theorem bindL_set {is : List Nat} {vs : List V} {i : Nat} {v : V} {m : Loc} (h : i ∉ is) : bindL is vs (m.set i (some v)) = (bindL is vs m).map fun m => m.set i (some v) := by
  induction is generalizing vs m with
  | nil => cases vs <;> rfl
  | cons j is ih => cases vs with
    | nil => rfl
    | cons w vs =>
      show bindL is vs ((m.set i (some v)).set j (some w)) = (bindL is vs (m.set j (some w))).map _
      rw [List.set_comm _ _ (List.ne_of_not_mem_cons h)]
      exact ih (List.not_mem_of_not_mem_cons h)
theorem bindL_rev {is : List Nat} {vs : List V} {m m' : Loc} (hn : is.Nodup) (h : bindL is vs m = some m') : bindL is.reverse vs.reverse m = some m' := by
  induction is generalizing vs m m' with
  | nil => cases vs with
    | nil => exact h
    | cons => exact dead h
  | cons i is ih => cases vs with
    | nil => exact dead h
    | cons v vs =>
      have hO := List.nodup_cons.mp hn; have h1 := hO.1; have h2 := hO.2; clear hO
      have h : bindL is vs (m.set i (some v)) = some m' := h
      rw [bindL_set h1] at h
      obtain ⟨m1, hO⟩ := Option.map_eq_some_iff.mp h; have e1 := hO.1; have e2 := hO.2; clear hO
      rw [List.reverse_cons, List.reverse_cons, bindL_snoc (by rw [List.length_reverse, List.length_reverse]; exact bindL_len e1), ih h2 e1]
      exact congrArg some e2
section
variable {B : BC} {A : Around} {l : Lvl} {ls : List Lvl} {C : CallW} {env : Env}
inductive Sl (l : Lvl) (ls : List Lvl) : List Str → List Nat → Prop
  | nil : Sl l ls [] []
  | cons {x i xs is} : slotTop (l :: ls) x = some i → Sl l ls xs is → Sl l ls (x :: xs) (i :: is)
theorem Sl.snoc {xs is} (h : Sl l ls xs is) {x i} (h2 : slotTop (l :: ls) x = some i) : Sl l ls (xs ++ [x]) (is ++ [i]) := by
  induction h with
  | nil => exact .cons h2 .nil
  | cons a _ ih => exact .cons a ih
theorem Sl.rev {xs is} (h : Sl l ls xs is) : Sl l ls xs.reverse is.reverse := by
  induction h with
  | nil => exact .nil
  | cons a _ ih => rw [List.reverse_cons, List.reverse_cons]; exact ih.snoc a
theorem slotTop_pos {x : Str} {i : Nat} (h : slotTop (l :: ls) x = some i) : ∃ p k, posIn x l.names 0 = some (p, k) ∧ l.base + p = i := by
  cases slot_inv h with
  | loc e => exact ⟨_, _, e, rfl⟩
  | cell e => exact ⟨_, _, e, rfl⟩
  | free _ h => exact dead h
theorem slotTop_inj {x y : Str} {i : Nat} (h : slotTop (l :: ls) x = some i) (h' : slotTop (l :: ls) y = some i) : x = y := by
  obtain ⟨p, k, hO⟩ := slotTop_pos h; have e := hO.1; have e1 := hO.2; clear hO
  obtain ⟨q, k', hO⟩ := slotTop_pos h'; have e' := hO.1; have e2 := hO.2; clear hO
  cases Nat.add_left_cancel (e1.trans e2.symm)
  exact posIn_inj e e'
theorem Sl.mem {xs is} (h : Sl l ls xs is) {i : Nat} (hi : i ∈ is) : ∃ x ∈ xs, slotTop (l :: ls) x = some i := by
  induction h with
  | nil => cases hi
  | cons a _ ih =>
    rcases List.mem_cons.mp hi with rfl | hi
    · exact ⟨_, List.mem_cons_self, a⟩
    · obtain ⟨x, hx, e⟩ := ih hi; exact ⟨x, List.mem_cons_of_mem _ hx, e⟩
theorem Sl.nodup {xs is} (h : Sl l ls xs is) (hn : xs.Nodup) : is.Nodup := by
  induction h with
  | nil => exact List.nodup_nil
  | cons a b ih =>
    have hO := List.nodup_cons.mp hn; have h1 := hO.1; have h2 := hO.2; clear hO
    refine List.nodup_cons.mpr ⟨fun hi => ?_, ih h2⟩
    obtain ⟨y, hO⟩ := b.mem hi; have hy := hO.1; have e := hO.2; clear hO
    exact h1 (slotTop_inj e a ▸ hy)
theorem inorder (hb : Below' l ls) {fs : List (Value → Sem Unit)} {xs : List Str} {is : List Nat} {vs : List V} {items : List Value} {R m m' s H} (hf : ∀ (i : Nat) f x, fs[i]? = some f → xs[i]? = some x → ∀ v s Q, wpAny (model B.prog B.w) A (storeName env x v) Q noE s → wpAny (model B.prog B.w) A (f v) Q noE s) (hl : fs.length = xs.length)
    (sl : Sl l ls xs is) (hm : bindL is vs m = some m') (r : RelL B s.heap H R items vs) (I : Inv B R s H) (K : EnvOk B l ls env R s.heap H m) : wpAny (model B.prog B.w) A (assignInOrder fs items) (fun z0 s' => PostG B l ls env R H m' s s') noE s := by
  induction sl generalizing fs vs items m s with
  | nil =>
    rw [List.length_eq_zero_iff.mp hl]
    cases vs with
    | nil => cases hm; exact assignInOrder_nil ⟨I, K, StepX.refl⟩
    | cons _ _ => exact dead hm
  | cons a b ih =>
    cases fs with
    | nil => cases hl
    | cons f fs => cases vs with
      | nil => exact dead hm
      | cons V vs => induction r.inv_cons with
        | mk rv rw' =>
          refine assignInOrder_cons (hf 0 f _ rfl rfl _ s _ (store_sound K I hb a rv fun c h' tk hc k I' K' => ?_))
          have st : StepX (Frm l env) s.heap H h' H := StepX.of_same (frm_of hc) k
          refine wpAny_mono (ih (fun i => hf (i + 1)) (Nat.succ.inj hl) hm (rw'.stepX (fun b z => Frm.res K z) st) I' K') (fun z0 s2 h2 => ?_) fun z0 z0 x => x
          induction h2 with | mk I2 K2 st2 => ?_
          exact ⟨I2, K2, st.trans st2⟩
inductive SlN (l : Lvl) (ls : List Lvl) : List PySem.Expr → List Str → List Nat → Prop
  | nil : SlN l ls [] [] []
  | cons {x p i ts xs is} : slotTop (l :: ls) x = some i → SlN l ls ts xs is → SlN l ls (.Name x p :: ts) (x :: xs) (i :: is)
theorem slotsIn_sl {ts : List PySem.Expr} {is : List Nat} (h : slotsIn (l :: ls) ts = some is) : ∃ xs, SlN l ls ts xs is := by
  induction ts generalizing is with
  | nil => cases h; exact ⟨[], .nil⟩
  | cons t ts ih =>
    refine map2_inv (P := fun is => ∃ xs, SlN l ls (t :: ts) xs is) h fun i js h1 h2 => bind_inv h1 fun x h3 h4 => ?_
    obtain ⟨p, rfl⟩ := nameOf_eq h3
    obtain ⟨xs, a⟩ := ih h2
    exact ⟨x :: xs, .cons h4 a⟩
theorem SlN.sl {ts xs is} (h : SlN l ls ts xs is) : Sl l ls xs is ∧ ts.length = xs.length := by
  induction h with
  | nil => exact ⟨.nil, rfl⟩
  | cons a _ ih => exact ⟨.cons a ih.1, congrArg Nat.succ ih.2⟩
theorem SlN.at {ts xs is} (h : SlN l ls ts xs is) (i : Nat) (x : Str) (e : xs[i]? = some x) : ∃ p, ts[i]? = some (PySem.Expr.Name x p) := by
  induction h generalizing i with
  | nil => exact dead e
  | cons a _ ih => cases i with
    | zero => cases e; exact ⟨_, rfl⟩
    | succ i => exact ih i e
theorem SlN.each {ts xs is} (h : SlN l ls ts xs is) : assignEach ts env = ts.map fun t => (false, assign t env) := by
  induction h with
  | nil => rfl
  | cons a _ ih => exact congrArg (List.cons _) ih
noncomputable def swF (env : Env) (line : Nat) : PySem.Expr → Option Str
  | .Name id pos => if env.kindOf id == some .local && pos.line == line then some id else none
  | _ => none
theorem Sl.len {xs is} (h : Sl l ls xs is) : xs.length = is.length := by
  induction h with
  | nil => rfl
  | cons _ _ ih => exact congrArg Nat.succ ih
theorem swapped_cases {ts : List PySem.Expr} {k : Nat} {p : Pos} {v : PySem.Expr} (ht : tupOk v = true) :
    swappedStores [.Tuple ts k p] v env = pure none ∨ ∃ names : List Str, swappedStores [.Tuple ts k p] v env = pure (some names) ∧ names.length = ts.length ∧ names.Nodup ∧ ∃ line, names = ts.filterMap (swF env line) := by
  have go : ∀ {vs k2 p2}, tupOk (.Tuple vs k2 p2) = true → (swappedStores [.Tuple ts k p] (.Tuple vs k2 p2) env = pure none ∨ ∃ names : List Str, swappedStores [.Tuple ts k p] (.Tuple vs k2 p2) env = pure (some names) ∧ names.length = ts.length ∧ names.Nodup ∧ ∃ line, names = ts.filterMap (swF env line)) := fun {vs k2 p2} ht => by
    have e : swappedStores [.Tuple ts k p] (.Tuple vs k2 p2) env = (if (!(ts.length == 2 || ts.length == 3) || vs.length != ts.length || env.blockKind != .function) = true then pure none else
        if (vs.any fun | .Starred .. => true | _ => false) = true then pure none else
        if ((ts.filterMap (swF env ((ts.head?.map (·.pos.line)).getD 0))).length != ts.length || (ts.filterMap (swF env ((ts.head?.map (·.pos.line)).getD 0))).eraseDups.length != (ts.filterMap (swF env ((ts.head?.map (·.pos.line)).getD 0))).length) = true then pure none else
        if vs.all (foldedForSure 8) = true then pure none else if vs.all (constantsAlone 8) = true then unsupported "assign.tuple-of-constant-expressions:order-of-the-stores" else pure (some (ts.filterMap (swF env ((ts.head?.map (·.pos.line)).getD 0))))) := rfl
    rw [e]
    generalize (ts.head?.map (·.pos.line)).getD 0 = line
    split
    · exact .inl rfl
    split
    · exact .inl rfl
    split
    · exact .inl rfl
    rename_i h3
    split
    · exact .inl rfl
    have hc : vs.all (constantsAlone 8) = false := not_tt ht
    rw [hc]
    have h4 := Bool.or_eq_false_iff.mp (Bool.eq_false_iff.mpr h3)
    exact .inr ⟨_, rfl, bne_eq_false_iff_eq.mp h4.1, nodup_of_dups _ (bne_eq_false_iff_eq.mp h4.2), line, rfl⟩
  cases v with
  | Tuple vs k2 p2 => exact go ht
  | _ => exact .inl rfl
theorem sl_names {line : Nat} {ts : List PySem.Expr} {xs is} (h : SlN l ls ts xs is) (hl : (ts.filterMap (swF env line)).length = ts.length) : ts.filterMap (swF env line) = xs := by
  induction h with
  | nil => rfl
  | @cons x p i ts xs is a _ ih =>
    have h1 := List.length_filterMap_le (swF env line) ts
    cases hx : swF env line (.Name x p) with
    | none => rw [List.filterMap_cons_none hx] at hl; exact absurd h1 (Nat.not_le_of_gt (Nat.lt_of_lt_of_eq (Nat.lt_succ_self _) hl.symm))
    | some b =>
      rw [List.filterMap_cons_some hx] at hl ⊢
      rw [ih (Nat.succ.inj hl)]
      have hx : (if env.kindOf x == some .local && p.line == line then some x else none) = some b := hx
      by_cases hc : (env.kindOf x == some .local && p.line == line) = true
      · rw [if_pos hc] at hx; rw [Option.some.inj hx]
      · rw [if_neg hc] at hx; exact dead hx
theorem sok_asgT (hh : A.handled = none) (hb : Below' l ls) {ts : List PySem.Expr} {k : Nat} {tp p : Pos} {e : PySem.Expr} {is : List Nat} {x : X} (ht : tupOk e = true) (hs : slotsIn (l :: ls) ts = some is) (he : EOk B A l ls C env e x) : SOk B A l ls C env (.Assign [.Tuple ts k tp] e p) (.asgT is x) := by
  intro R H m s Q hq I K
  have hq : wE C x m H fun v H => ∃ vs m', v = .tup vs ∧ bindL is vs m = some m' ∧ Q .next m' H := hq
  have h1 : swapsWithSole [.Tuple ts k tp] e p.line env = pure false := by show swapsWith e (some (.Tuple ts k tp)) p.line env = pure false; cases e <;> rfl
  have fin : ∀ {s₁ : Shared} {H₁ m' s'}, Step s.heap H s₁.heap H₁ → Q .next m' H₁ → PostG B l ls env R H₁ m' s₁ s' → PostS B l ls env R Q H s .next s' := fun st q ⟨a, b, c⟩ => ⟨.next, _, _, .next, a, b, st.x.trans c, q⟩
  obtain ⟨xs, sn⟩ := slotsIn_sl hs
  have sl := sn.sl
  rcases swapped_cases (env := env) (ts := ts) (k := k) (p := tp) ht with hw | ⟨names, hw, hl, hnd, line, rfl⟩
  · refine Assign_Tuple (seqE (he R H m s _ hq I K) fun v s₁ V H₁ rv I₁ st₁ q => ?_) h1 hw
    obtain ⟨vs, m', rfl, hm, q⟩ := q
    induction rv.inv_tup with | mk a items c l1 _ _ r1 _ => ?_
    have hlen : ts.length = items.size := by rw [size_eq r1, ← bindL_len hm, sl.2]; exact sl.1.len
    refine wpAny_assign_Tuple hh (show s₁.heap.IsTuple a items from ⟨_, l1, rfl, c, rfl⟩) (by rw [sn.each, List.length_map]; exact hlen) (by rw [sn.each]; exact List.findIdx?_eq_none_iff.mpr fun x hx => by obtain ⟨y, _, rfl⟩ := List.mem_map.mp hx; rfl) fun h' kx => ?_
    have kk : ∀ b o, s₁.heap.get? b = some o → h'.get? b = some o := fun b o e => kx b o (Nat.ne_of_lt (ltS e)) e
    have J := I₁.grown s₁.toks kk
    rw [sn.each, List.map_map]
    refine wpAny_mono (inorder hb (fun i f y p q v s Q h => ?_) (by rw [List.length_map]; exact sl.2) sl.1 hm (r1.step J.2) J.1 ((K.step I st₁).grown I₁ kk)) (fun z0 s2 h2 => fin (st₁.trans J.2) q h2) fun z0 z0 x => x
    obtain ⟨py, e3⟩ := sn.at i y q
    rw [List.getElem?_map, e3] at p
    cases p
    exact wpAny_assign_Name h
  · refine Assign_Tuple_swapped (seqE (he R H m s _ hq I K) fun v s₁ V H₁ rv I₁ st₁ q => ?_) h1 hw
    obtain ⟨vs, m', rfl, hm, q⟩ := q
    induction rv.inv_tup with | mk a items c l1 _ _ r1 _ => ?_
    rw [sl_names sn hl] at hnd ⊢
    have hlen : xs.length = items.size := by rw [size_eq r1, ← bindL_len hm]; exact sl.1.len
    rw [hlen]
    refine wpAny_unpackItems_tuple hh (show s₁.heap.IsTuple a items from ⟨_, l1, rfl, c, rfl⟩) fun h' kx => ?_
    have kk : ∀ b o, s₁.heap.get? b = some o → h'.get? b = some o := fun b o e => kx b o (Nat.ne_of_lt (ltS e)) e
    have J := I₁.grown s₁.toks kk
    refine wpAny_mono (inorder hb (fun i f y p q v s Q h => ?_) (by rw [List.length_map]) sl.1.rev (bindL_rev (sl.1.nodup hnd) hm) (r1.reverse.step J.2) J.1 ((K.step I st₁).grown I₁ kk)) (fun z0 s2 h2 => fin (st₁.trans J.2) q h2) fun z0 z0 x => x
    rw [List.getElem?_map, q] at p
    cases p
    exact wpAny_bindName h
end
end Mine.Internal
set_option maxRecDepth 100000
set_option linter.unusedVariables false
namespace Mine.Internal
open PySem PySem.W PyProof.Rows PySem.SeqAt
section
variable {B : BC} {A : Around} {C : CallW} {d : Nat}
set_option tactic.hygienic true in
theorem sok_comp (hh : A.handled = none) {l : Lvl} {ls : List Lvl} {env : Env} {elt : PySem.Expr} {gens : List Comprehension} {sc : Scope} {pos p py : Pos} {y : Str} {j : Nat} {x : X}
    (h : CompP B A C l ls sc elt x gens) (hb : Below' l ls) (hy : slotTop (l :: ls) y = some j) (he : EOk B A l ls C env (.ListComp elt gens sc pos) x) : SOk B A l ls C env (.Assign [.Name y py] (.ListComp elt gens sc pos) p) (.asg j x) := by
  induction h with | mk TW hco hT hen hturn hit hx => ?_
  rename_i target iter ifs T i
  have hs : swapsWith (.ListComp elt [⟨target, iter, ifs, 0⟩] sc pos) (some (.Name y py)) p.line env = pure (env.blockKind == .function && env.kindOf y == some .local && py.line == pos.line && !(sc.names.any fun (n, k) => n == y && (k == .local || k == .cell))) := rfl
  cases hc : (env.blockKind == .function && env.kindOf y == some .local && py.line == pos.line && !(sc.names.any fun (n, k) => n == y && (k == .local || k == .cell))) with
  | false => rw [hc] at hs; exact sok_asg hb hy he hs
  | true =>
    rw [hc] at hs
    intro R H m s Q hq I K
    have hq : wE C x m H fun v H => Q .next (m.set j (some v)) H := hq
    rw [exec_Assign_Name_used _ _ _ _ hs]
    refine wpAny_bind (wpAny_standAt (wpAny_bind ?_))
    show wpAny _ A (do let _ ← comprehension (.ListComp elt [⟨target, iter, ifs, 0⟩] sc pos) sc env _ (newList []) false (eval iter env) (some (assign (.Name y py) env))) _ _ s
    refine wpAny_bind (wpAny_mono (comp_used hh hb hco hT hen (hturn env) (hit env) hy (hx m H _ hq) I K) (fun z0 s' h' => wpAny_pure (wpAny_pure h')) fun z0 z0 x => x)
noncomputable def IHS (B : BC) (A : Around) (C : CallW) (n : Nat) : Prop := ∀ l ls st x, cS n (l :: ls) st = some x → Below' l ls → ∀ env, SOk B A l ls C env st x
theorem swap_no {e : PySem.Expr} {y : Str} {py : Pos} {line n : Nat} {ls : List Lvl} {x : X} {env : Env} (hx : cE n ls e = some x) (hc : ¬ ∃ elt gens sc pos, e = .ListComp elt gens sc pos) : swapsWith e (some (.Name y py)) line env = pure false := by
  cases n with
  | zero => exact dead hx
  | succ n => cases e with
    | ListComp a b c d => exact absurd ⟨a, b, c, d, rfl⟩ hc
    | _ => first | rfl | exact dead hx
theorem soundS_step (b : BaseK B) (gl : GlobOk B) (hC : CallOk B d C) (hr : Room A (d + 1)) {n : Nat} (ih : IHS B A C n) : IHS B A C (n + 1) := by
  intro l ls st x h hb env
  have hr0 : Room A 0 := hr.le (Nat.zero_le _)
  have hh := hr0.handled
  have hE := soundE (A := A) b gl hC hr 30
  have hf : ∀ e x, cS n (l :: ls) e = some x → SOk B A l ls C env e x := fun e x h => ih l ls e x h hb env
  have E : ∀ {e x}, cE 30 (l :: ls) e = some x → EOk B A l ls C env e x := fun h => hE.1 l ls _ _ h hb env
  have T : ∀ {e x}, cE 30 (l :: ls) e = some x → TOk B A l ls C env e x := fun h => hE.2.1 l ls _ _ h hb env
  cases st with
  | Assign ts v p =>
    refine bind_inv h fun t h1 h => ?_
    rw [oneOf_eq h1]
    cases t with
    | Name y py =>
      refine map2_inv (P := fun x => SOk B A l ls C env (.Assign [.Name y py] v p) x) h fun j x hy hx => ?_
      by_cases hc : ∃ elt gens sc pos, v = .ListComp elt gens sc pos
      · obtain ⟨elt, gens, sc, pos, rfl⟩ := hc
        have h29 := soundE (A := A) b gl hC hr 29
        exact sok_comp hh (comp_parts (pos := pos) h29.1 h29.2.1 h29.2.2 (cE_inv hx) hb) hb hy (E hx)
      · exact sok_asg hb hy (E hx) (swap_no hx hc)
    | Tuple ts k tp => exact iff_inv h fun ht h => map2_inv h fun is x h1 h2 => sok_asgT hh hb ht h1 (E h2)
    | Attribute o a pa => exact map3_inv h fun xo n x h1 h2 h3 => sok_setA b h2 (E h1) (E h3)
    | Subscript o i pa => exact map3_inv h fun xo xi x h1 h2 h3 => sok_setI hr0 (E h1) (E h2) (E h3)
    | _ => exact dead h
  | If t x y p => exact map3_inv h fun t xa xb h1 h2 h3 => sok_if (T h1) hf h2 h3
  | While t a e p => exact iff_inv h fun he h => isEmpty_eq he ▸ map2_inv h fun t xa h1 h2 => sok_while (T h1) hf h2
  | For t it a e p => exact iff_inv h fun he h => isEmpty_eq he ▸ bind_inv h fun Tg h1 h => bind_inv h fun i h2 h => iff_inv h fun hen h => map1_inv h fun xa h3 => sok_for hh hb h1 hen (hE.2.2 l ls _ _ h2 hb env) hf h3
  | Return v p => cases v with
    | none => exact dead h
    | some e => exact map1_inv (x := cE 30 (l :: ls) e) h fun x h1 => sok_ret (E h1)
  | Expr e p => exact iff_inv h fun he h => map1_inv h fun x h1 => sok_expr he (E h1)
  | Continue p => exact Option.some.inj h ▸ sok_cont
  | Raise a c p => exact Option.some.inj h ▸ fun z0 z0 z0 z0 z0 hq => (hq : False).elim
  | _ => exact dead h
theorem soundS (b : BaseK B) (gl : GlobOk B) (hC : CallOk B d C) (hr : Room A (d + 1)) (n : Nat) : IHS B A C n := by
  induction n with
  | zero => exact fun z0 z0 z0 z0 h => dead h
  | succ n ih => exact soundS_step b gl hC hr ih
end
end Mine.Internal
set_option maxRecDepth 100000
set_option linter.unusedVariables false
namespace Mine.Internal
open PySem PySem.W PyProof.Rows PySem.SeqAt
structure FnOk (B : BC) (f : Fid) (fn : Fn) (fd : FuncData) (body : List PySem.Stmt) (ps : List Str) (dv : List Value) : Prop where
  at_ : ∃ o, B.base.get? (B.fa f) = some o ∧ o.data = .func fd
  bod : fd.body = .stmts body
  code : B.base.CodeRec fd.code fd.qualname
  kind : fd.scope.kind = .function
  co : fd.scope.isCoroutine = false
  gen : fd.scope.isGenerator = false
  clo : fd.closure = []
  glob : fd.globals = mainGlobals
  blt : fd.builtins = builtinsNs
  cmp : cBody fd.scope body = some fn.body
  nofree : ∀ y ∈ fd.scope.names, y.2 ≠ .free
  len : ps.length = fn.nargs
  par : ∀ (i : Nat) (x : Str), ps[i]? = some x → posIn x fd.scope.names 0 = some (i, .local) ∨ posIn x fd.scope.names 0 = some (i, .cell)
  bind : ∀ (s : Shared) (vs : List Value), (∀ b o, B.base.get? b = some o → s.heap.get? b = some o) → vs.length + dv.length = fn.nargs → BindsTo s fd ⟨vs, []⟩ (ps.zip (vs ++ dv))
  dlen : dv.length = fn.dflts.length
  dfl : ∀ (i : Nat) v V, dv[i]? = some v → fn.dflts[i]? = some V → Rel B B.base (fun z0 => none) (fun z0 => False) v V
theorem bindL_out {kk : Str → Option NameKind} {l : List (Str × Value)} {m : Str → Option Value} {n : Str} (h : n ∉ l.map (·.1)) : PySem.bindL kk l m n = m n := by
  induction l generalizing m with
  | nil => rfl
  | cons x r ih =>
    refine (ih (m := if kk x.1 = some .local then _ else m) (List.not_mem_of_not_mem_cons h)).trans ?_
    by_cases hk : kk x.1 = some .local
    · rw [if_pos hk]; exact if_neg (List.ne_of_not_mem_cons h)
    · rw [if_neg hk]
theorem bindC_out {kk : Str → Option NameKind} {l : List (Str × Value)} {m : Str → Option Value} {n : Str} (h : n ∉ l.map (·.1)) : PySem.bindC kk l m n = m n := by
  induction l generalizing m with
  | nil => rfl
  | cons x r ih =>
    refine (ih (m := if kk x.1 = some .local then m else _) (List.not_mem_of_not_mem_cons h)).trans ?_
    by_cases hk : kk x.1 = some .local
    · rw [if_pos hk]
    · rw [if_neg hk]; exact if_neg (List.ne_of_not_mem_cons h)
theorem bind_in {kk : Str → Option NameKind} {l : List (Str × Value)} {m : Str → Option Value} {i : Nat} {n : Str} {v : Value} (hn : (l.map (·.1)).Nodup) (h : l[i]? = some (n, v)) :
    (kk n = some .local → PySem.bindL kk l m n = some v) ∧ (kk n ≠ some .local → PySem.bindC kk l m n = some v) := by
  induction l generalizing m i with
  | nil => exact dead h
  | cons x r ih => cases i with
    | zero =>
      cases h
      have no := (List.nodup_cons.mp hn).1
      exact ⟨fun hk => (bindL_out (m := if kk n = some .local then _ else m) no).trans (by rw [if_pos hk]; exact if_pos rfl), fun hk => (bindC_out (m := if kk n = some .local then m else _) no).trans (by rw [if_neg hk]; exact if_pos rfl)⟩
    | succ i => exact ⟨(ih (List.nodup_cons.mp hn).2 h).1, (ih (List.nodup_cons.mp hn).2 h).2⟩
theorem cellsFrom_has {names : List (Str × NameKind)} {n : Nat} {acc : List (Str × Nat)} {x : Str} (h : (x, NameKind.cell) ∈ names ∨ (List.lookup x acc).isSome = true) : (List.lookup x (cellsFrom n names acc)).isSome = true := by
  induction names generalizing n acc with
  | nil => exact h.elim (fun h => nomatch h) id
  | cons y r ih =>
    induction y with | mk y k => ?_
    unfold cellsFrom
    by_cases hk : k = .cell
    · rw [if_pos (beq_iff_eq.mpr hk)]
      refine ih ?_
      rw [List.lookup_cons]
      by_cases hx : x = y
      · rw [show (x == y) = true from beq_iff_eq.mpr hx]; exact .inr rfl
      · rw [show (x == y) = false from beq_eq_false_iff_ne.mpr hx]; exact h.imp (fun h => (List.mem_cons.mp h).resolve_left fun e => hx (congrArg Prod.fst e)) id
    · rw [if_neg (fun q => hk (beq_iff_eq.mp q))]
      exact ih (h.imp (fun h => (List.mem_cons.mp h).resolve_left fun e => hk (congrArg Prod.snd e).symm) id)
theorem deeper_room {A : Around} {d : Nat} (r : Room A (d + 2)) (env : Env) : Room (A.deeper env) (d + 1) := by
  refine ⟨?_, ?_, r.handled⟩
  · show A.depth + 1 + (d + 1) ≤ 640; have := r.depth; exact li1 [_, _] ⟨0, .a (.a (.v 0) (.n 1)) (.a (.v 1) (.n 1)), .n 640⟩ ⟨0, .a (.v 0) (.a (.v 1) (.n 2)), .n 640⟩ rfl this
  · show A.units + 3 + 20 * (d + 1) ≤ 9000; have := r.units; exact li1 [_, _] ⟨0, .a (.a (.v 0) (.n 3)) (.l 20 (.a (.v 1) (.n 1))), .n 9000⟩ ⟨0, .a (.v 0) (.l 20 (.a (.v 1) (.n 2))), .n 9000⟩ rfl this
theorem start_inv {fn : Fn} {as : List V} {m : Loc} (h : fn.start as = some m) : as.length + fn.dflts.length = fn.nargs ∧
    ∀ i V, getL m i = some V → i < fn.nargs ∧ (as ++ fn.dflts)[i]? = some V := by
  unfold Fn.start at h
  split at h
  · rename_i hc
    cases h
    refine ⟨hc, fun i V hV => ?_⟩
    have hl : (as ++ fn.dflts).length = fn.nargs := by simp; exact hc
    unfold getL at hV
    by_cases hi : i < fn.nargs
    · rw [List.getElem?_append_left (by rw [List.length_map, hl]; exact hi), List.getElem?_map] at hV
      refine ⟨hi, ?_⟩
      cases hx : (as ++ fn.dflts)[i]? with
      | none => rw [hx] at hV; cases hV
      | some W => rw [hx] at hV; simp at hV; rw [hV]
    · rw [List.getElem?_append_right (by rw [List.length_map, hl]; exact (Nat.le_of_not_lt hi)), List.getElem?_replicate] at hV
      split at hV <;> cases hV
  · cases h
theorem call_sound {B : BC} (b : BaseK B) (gl : GlobOk B) (lim : B.base.NoLimit) {d : Nat} {C : CallW} (hC : CallOk B d C) {f : Fid} {fn : Fn} {fd body ps dv} (F : FnOk B f fn fd body ps dv) {A : Around} (hr : Room A (d + 2)) {as : List V} {vs : List Value} {R H s m Q} (hm : fn.start as = some m)
    (hq : wSs C fn.body m H fun fl z0 H' => ∃ v K, Sub K H' ∧ VV H' K fl.val v ∧ Q v K) (I : Inv B R s H) (rs : RelL B s.heap H R vs as) :
    codeAny (model B.prog B.w) A (.call (.ref (B.fa f)) ⟨vs, []⟩) (fun r s' => match r with | .ok (.ret v) => PostE B R Q H s v s' | _ => False) s := by
  obtain ⟨o, hO⟩ := F.at_; have ho := hO.1; have hdat := hO.2; clear hO
  have hO := start_inv hm; have h1 := hO.1; have h3 := hO.2; clear hO
  have keepB : ∀ b o, B.base.get? b = some o → s.heap.get? b = some o := fun b o e => (I.base b o e).1
  generalize hus : vs ++ dv = us
  have husl : us.length = fn.nargs := by
    rw [← hus]; simp; have := rs.1; have := F.dlen; omega
  have rus : ∀ (i : Nat) u V, us[i]? = some u → (as ++ fn.dflts)[i]? = some V → Rel B s.heap H R u V := by
    have : RelL B s.heap H R us (as ++ fn.dflts) := by
      rw [← hus]
      exact rs.append ⟨F.dlen, fun i v V p q => I.baseRel (F.dfl i v V p q)⟩
    exact this.2
  have psn : (ps.zip us).map (·.1) = ps := by
    rw [List.map_fst_zip]; rw [F.len, husl]; exact Nat.le_refl _
  have psnd : ps.Nodup := by
    refine List.pairwise_iff_getElem.mpr fun i j hi hj hij e => ?_
    have e1 : ps[i]? = some ps[i] := List.getElem?_eq_getElem hi
    have e2 : ps[j]? = some ps[i] := by rw [e]; exact List.getElem?_eq_getElem hj
    have p1 := F.par i _ e1
    have p2 := F.par j _ e2
    rcases p1 with p1 | p1 <;> rcases p2 with p2 | p2 <;> rw [p1] at p2 <;> cases p2 <;> omega
  have zipAt : ∀ (i : Nat) x, ps[i]? = some x → ∃ u, us[i]? = some u ∧ (ps.zip us)[i]? = some (x, u) := fun i x e => by
    have hi : i < us.length := by rw [husl, ← F.len]; exact (List.getElem?_eq_some_iff.mp e).1
    exact ⟨us[i], List.getElem?_eq_getElem hi, by rw [List.getElem?_zip_eq_some]; exact ⟨e, List.getElem?_eq_getElem hi⟩⟩
  refine codeAny_call_function (fd := fd) (by have h := hr.depth; show A.depth < 1000; exact li1 [_, _] ⟨0, .a (.v 0) (.n 1), .n 1000⟩ ⟨0, .a (.v 0) (.a (.v 1) (.n 2)), .n 640⟩ rfl h) (keepB _ _ ho) hdat F.co F.gen F.bod (F.code.keeps keepB) ?_
  refine F.bind s vs keepB (by have := rs.1; have := F.dlen; omega) _ _ _ _ ?_
  rw [hus, F.clo]
  refine wpAny_newFunctionEnv_cells F.kind (fun x hx => ?_) fun env he s' x => ?_
  · obtain ⟨i, hi⟩ := List.mem_iff_getElem?.mp hx
    have hO := List.getElem?_zip_eq_some.mp hi; have e1 := hO.1; have e2 := hO.2; clear hO
    rcases F.par i x.1 e1 with p | p
    · exact .inl (posIn_lookup p).1
    · exact .inr ⟨(posIn_lookup p).1, cellsFrom_has (.inl (mem_of_lookup (posIn_lookup p).1))⟩
  refine ⟨lim.keeps fun b o e => x.toInCall.keep b o (keepB b o e), codeAny_func ?_⟩
  obtain ⟨h', tk, rfl⟩ := x.toInCall.same
  have hkind : ∀ y, env.kindOf y = fd.scope.names.lookup y := fun y => by rw [he]; rfl
  have fresh : ∀ b, (b = env.locals ∨ ∃ y, env.cells.lookup y = some b) → s.heap.get? b = none ∧ ∃ o, h'.get? b = some o := fun b z => by
    rcases z with rfl | ⟨y, e⟩
    · exact ⟨Heap.get?_none_of_le x.toInCall.fresh, let ⟨o, _, _, e, _⟩ := x.toInCall.ns; ⟨o, e⟩⟩
    · refine ⟨Heap.get?_none_of_le (Nat.le_trans x.toInCall.fresh (Nat.le_of_lt (x.above y b (mem_of_lookup e)))), let ⟨o, e, _⟩ := x.cell y b e; ⟨o, e⟩⟩
  have S := start (I := fun b => b = env.locals ∨ ∃ y, env.cells.lookup y = some b) (s := s) (H := H) (h' := h') tk I (Step.refl _ _) x.toInCall.keep fresh
  have lift := S.2
  have S := S.1
  have K : EnvOk B ⟨fd.scope.names, 0⟩ [] env (fun b => R b ∨ (b = env.locals ∨ ∃ y, env.cells.lookup y = some b)) h' H m := {
    kind := by rw [he]; exact F.kind
    glob := by rw [he]; exact F.glob
    blt := by rw [he]; exact F.blt
    kl := fun y i e => by rw [hkind]; exact (posIn_lookup e).1
    kc := fun y i e => by rw [hkind]; exact (posIn_lookup e).1
    kf := fun y i e => absurd rfl (F.nofree _ (mem_of_lookup (posIn_lookup e).1))
    kg := fun y i e => by rw [hkind]; exact (posIn_lookup e).1
    ns := ⟨_, x.toInCall.ns, fun y i V e hV => by
      rw [Nat.zero_add] at hV
      have hO := h3 i V hV; have hi := hO.1; have hV := hO.2; clear hO
      obtain ⟨z, hz⟩ : ∃ z, ps[i]? = some z := ⟨_, List.getElem?_eq_getElem (by rw [F.len]; exact hi)⟩
      obtain ⟨u, hO⟩ := zipAt i z hz; have hu := hO.1; have hzu := hO.2; clear hO
      have hyz : y = z := by rcases F.par i z hz with p | p <;> exact posIn_inj e p
      subst hyz
      exact ⟨u, (bind_in (by rw [psn]; exact psnd) hzu).1 (by rw [hkind]; exact (posIn_lookup e).1), lift _ _ (rus i u V hu hV)⟩⟩
    cell := fun y i e => by
      have hs : (env.cells.lookup y).isSome = true := by
        rw [he]; exact cellsFrom_has (.inl (mem_of_lookup (posIn_lookup e).1))
      obtain ⟨c, hc⟩ := Option.isSome_iff_exists.mp hs
      refine ⟨c, hc, .inr (.inr ⟨y, hc⟩), ?_⟩
      have hcell := x.cell y c hc
      rw [Nat.zero_add]
      cases hV : getL m i with
      | none => exact ⟨_, hcell⟩
      | some V =>
        have hO := h3 i V hV; have hi := hO.1; have hV := hO.2; clear hO
        obtain ⟨z, hz⟩ : ∃ z, ps[i]? = some z := ⟨_, List.getElem?_eq_getElem (by rw [F.len]; exact hi)⟩
        obtain ⟨u, hO⟩ := zipAt i z hz; have hu := hO.1; have hzu := hO.2; clear hO
        have hyz : y = z := by rcases F.par i z hz with p | p <;> exact posIn_inj e p
        subst hyz
        have hb : PySem.bindC env.kindOf (ps.zip us) (fun z0 => none) y = some u := (bind_in (by rw [psn]; exact psnd) hzu).2 (by rw [hkind, (posIn_lookup e).1]; exact fun z => nomatch z)
        rw [hb] at hcell
        exact ⟨u, hcell, lift _ _ (rus i u V hu hV)⟩
    free := fun y i j e z0 => absurd rfl (F.nofree _ (mem_of_lookup (posIn_lookup e).1))
    res := .inr (.inl rfl)
    apart := fun y c e => Nat.ne_of_gt (x.above y c (mem_of_lookup e))
    apart2 := fun y z c e e' => name_of_addr x.apart (mem_of_lookup e) (mem_of_lookup e')
    top := fun j hj => by
      cases hV : getL m j with
      | none => rfl
      | some V =>
        have hO := h3 j V hV; have hi := hO.1; clear hO
        obtain ⟨z, hz⟩ : ∃ z, ps[j]? = some z := ⟨_, List.getElem?_eq_getElem (by rw [F.len]; exact hi)⟩
        have hb : j < 0 + fd.scope.names.length := by rcases F.par j z hz with p | p <;> exact (posIn_lookup p).2.2
        have hj : 0 + fd.scope.names.length ≤ j := hj
        omega
    cres := fun y c e => .inr (.inr ⟨y, e⟩) }
  obtain ⟨xs, hO⟩ := Option.map_eq_some_iff.mp F.cmp; have hxs := hO.1; have hfb := hO.2; clear hO
  rw [← hfb] at hq
  have hsnd := soundS (A := A.deeper env) b gl hC (deeper_room hr env) 20
  refine seqS (block_sound (A := A.deeper env) (fun e y h => hsnd ⟨fd.scope.names, 0⟩ [] e y h (fun x j h => dead h) env) hxs hq S.inv K) fun fl s'' fl' m' H' fr I' K' st q => ?_
  obtain ⟨w, K2, hO⟩ := q; have sub := hO.1; have vv := hO.2.1; have q := hO.2.2; clear hO
  have fr' : Rel B s''.heap H' R (match (generalizing := false) fl with | .ret v => v | _ => .none) fl'.val := by
    induction fr with
    | ret r => exact r.release fun b r => .inl r
    | _ => exact .none
  have st' : Step s.heap H s''.heap H' := ⟨fun b o e o1 => by
    have e2 := S.step.keep b o e o1
    refine st b o e2.1 e2.2 fun z => ?_
    have : b = env.locals ∨ ∃ y, env.cells.lookup y = some b := z.imp id fun ⟨y, _, _, e⟩ => ⟨y, e⟩
    exact S.fresh b o this e o1⟩
  exact (freeze (I'.release fun b r => .inl r) fr' sub vv q).on st'
theorem wF_sound {B : BC} (b : BaseK B) (gl : GlobOk B) (lim : B.base.NoLimit) {P : Fid → Option Fn} (hP : ∀ f fn, P f = some fn → ∃ fd body ps dv, FnOk B f fn fd body ps dv) : ∀ k, CallOk B (2 * k) (wF P k)
  | 0 => fun f vs Vs R H s A Q hq => hq.elim
  | k + 1 => fun f vs Vs R H s A Q hq I rs hr => by
    obtain ⟨fn, m, hO⟩ := hq; have h1 := hO.1; have h2 := hO.2.1; have hq := hO.2.2; clear hO
    obtain ⟨fd, body, ps, dv, F⟩ := hP f fn h1
    exact call_sound b gl lim (wF_sound b gl lim hP k) F hr h2 hq I rs
noncomputable def ir_bits : Fn where
  nargs := 1
  dflts := []
  nloc := 4
  body :=
    (.cons (.asg 1 (.lstD .nil))
    (.cons (.asg 2 (.cst (.int 0)))
    (.cons (.asg 3 (.loc 0))
    (.cons (.whileS (.cmp .gt (.loc 3) (.cst (.int 0)))
      (.cons (.ifS (.cmp .eq (.bin .band (.loc 3) (.cst (.int 1))) (.cst (.int 1)))
        (.cons (.exprS (.meth (.loc 1) "append" (.cons (.loc 2) .nil)))
        .nil)
        .nil)
      (.cons (.asg 3 (.bin .shr (.loc 3) (.cst (.int 1))))
      (.cons (.asg 2 (.bin .add (.loc 2) (.cst (.int 1))))
      .nil))))
    (.cons (.ret (.loc 1))
    .nil)))))
noncomputable def ir_last_terminal : Fn where
  nargs := 2
  dflts := []
  nloc := 4
  body :=
    (.cons (.asg 2 (.cst (.int (-1))))
    (.cons (.forS (.one 3) (.val (.loc 0))
      (.cons (.ifS (.cmp .lt (.loc 3) (.loc 1))
        (.cons (.asg 2 (.loc 3))
        .nil)
        .nil)
      .nil))
    (.cons (.ret (.loc 2))
    .nil)))
noncomputable def ir_plain_grammar : Fn where
  nargs := 2
  dflts := [.none]
  nloc := 22
  body :=
    (.cons (.asg 2 (.lstD .nil))
    (.cons (.forS (.two (.one 3) (.one 4)) (.val (.loc 0))
      (.cons (.ifS (.or (.cmp .eq (.loc 3) (.cst (.str "error"))) (.cmp .isIn (.slcTo (.loc 3) (.cst (.int 1))) (.tupD (.cons (.cst (.str "")) (.cons (.cst (.str "$")) (.cons (.cst (.str "'")) .nil))))))
        (.cons .raise
        .nil)
        .nil)
      (.cons (.ifS (.cmp .notIn (.loc 3) (.loc 2))
        (.cons (.exprS (.meth (.loc 2) "append" (.cons (.loc 3) .nil)))
        .nil)
        .nil)
      .nil)))
    (.cons (.asg 5 (.ite (.or (.cmp .isNot (.loc 1) (.cst .none)) (.cmp .eq (.loc 2) (.lstD .nil))) (.loc 1) (.sub (.loc 2) (.cst (.int 0)))))
    (.cons (.ifS (.cmp .notIn (.loc 5) (.loc 2))
      (.cons .raise
      .nil)
      .nil)
    (.cons (.asg 6 (.prim .list (.cons (.cst (.txts ["$end", "error", "$undefined"])) .nil)))
    (.cons (.forS (.two (.one 3) (.one 4)) (.val (.loc 0))
      (.cons (.forS (.one 7) (.val (.loc 4))
        (.cons (.ifS (.and (.cmp .notIn (.loc 7) (.loc 2)) (.cmp .notIn (.loc 7) (.loc 6)))
          (.cons (.exprS (.meth (.loc 6) "append" (.cons (.loc 7) .nil)))
          .nil)
          .nil)
        .nil))
      .nil))
    (.cons (.asg 8 (.prim .len (.cons (.loc 6) .nil)))
    (.cons (.asg 6 (.bin .add (.bin .add (.loc 6) (.lstD (.cons (.cst (.str "$accept")) .nil))) (.loc 2)))
    (.cons (.asg 9 (.lstD (.cons (.new .Rule (.cons (.cst (.int 0)) (.cons (.loc 8) (.cons (.tupD (.cons (.meth (.loc 6) "index" (.cons (.loc 5) .nil)) (.cons (.cst (.int 0)) .nil))) (.cons (.cst (.int 0)) .nil))))) .nil)))
    (.cons (.forS (.two (.one 3) (.one 4)) (.val (.loc 0))
      (.cons (.asg 10 (.prim .tuple (.cons (.comp (.meth (.loc 6) "index" (.cons (.loc 21) .nil)) (.one 21) (.val (.loc 4))) .nil)))
      (.cons (.exprS (.meth (.loc 9) "append" (.cons (.new .Rule (.cons (.prim .len (.cons (.loc 9) .nil)) (.cons (.meth (.loc 6) "index" (.cons (.loc 3) .nil)) (.cons (.loc 10) (.cons (.call .last_terminal (.cons (.loc 10) (.cons (.loc 8) .nil))) .nil))))) .nil)))
      .nil)))
    (.cons (.ret (.new .Grammar (.cons (.loc 6) (.cons (.loc 8) (.cons (.loc 9) (.cons .dctD (.cons (.cst .none) (.cons (.meth (.loc 6) "index" (.cons (.loc 5) .nil)) .nil))))))))
    .nil)))))))))))
noncomputable def ir_spread : Fn where
  nargs := 2
  dflts := []
  nloc := 16
  body :=
    (.cons (.asg 2 (.prim .list (.cons (.loc 1) .nil)))
    (.cons (.asg 3 (.lstD .nil))
    (.cons (.asg 5 (.comp (.lstD .nil) (.one 15) (.val (.loc 2))))
    (.cons (.asg 6 (.lstD .nil))
    (.cons (.forS (.one 7) (.val (.attr (.loc 0) "rules"))
      (.cons (.asg 8 (.cst (.int 0)))
      (.cons (.forS (.one 4) (.val (.attr (.loc 7) "right"))
        (.cons (.ifS (.not (.sub (.loc 2) (.loc 4)))
          (.cons (.asg 8 (.bin .add (.loc 8) (.cst (.int 1))))
          (.cons (.exprS (.meth (.sub (.loc 5) (.loc 4)) "append" (.cons (.attr (.loc 7) "number") .nil)))
          .nil))
          .nil)
        .nil))
      (.cons (.exprS (.meth (.loc 3) "append" (.cons (.loc 8) .nil)))
      .nil))))
    (.cons (.forS (.one 7) (.val (.attr (.loc 0) "rules"))
      (.cons (.ifS (.and (.cmp .eq (.sub (.loc 3) (.attr (.loc 7) "number")) (.cst (.int 0))) (.not (.sub (.loc 2) (.attr (.loc 7) "left"))))
        (.cons (.setI (.loc 2) (.attr (.loc 7) "left") (.cst (.bool true)))
        (.cons (.exprS (.meth (.loc 6) "append" (.cons (.attr (.loc 7) "left") .nil)))
        .nil))
        .nil)
      .nil))
    (.cons (.asg 9 (.cst (.int 0)))
    (.cons (.whileS (.cmp .lt (.loc 9) (.prim .len (.cons (.loc 6) .nil)))
      (.cons (.forS (.one 10) (.val (.sub (.loc 5) (.sub (.loc 6) (.loc 9))))
        (.cons (.setI (.loc 3) (.loc 10) (.bin .sub (.sub (.loc 3) (.loc 10)) (.cst (.int 1))))
        (.cons (.asg 11 (.attr (.sub (.attr (.loc 0) "rules") (.loc 10)) "left"))
        (.cons (.ifS (.and (.cmp .eq (.sub (.loc 3) (.loc 10)) (.cst (.int 0))) (.not (.sub (.loc 2) (.loc 11))))
          (.cons (.setI (.loc 2) (.loc 11) (.cst (.bool true)))
          (.cons (.exprS (.meth (.loc 6) "append" (.cons (.loc 11) .nil)))
          .nil))
          .nil)
        .nil))))
      (.cons (.asg 9 (.bin .add (.loc 9) (.cst (.int 1))))
      .nil)))
    (.cons (.ret (.loc 2))
    .nil)))))))))
noncomputable def ir_nullable : Fn where
  nargs := 1
  dflts := []
  nloc := 1
  body :=
    (.cons (.ret (.call .spread (.cons (.loc 0) (.cons (.bin .mul (.lstD (.cons (.cst (.bool false)) .nil)) (.meth (.loc 0) "symbol_count" .nil)) .nil))))
    .nil)
noncomputable def ir_first_of : Fn where
  nargs := 3
  dflts := []
  nloc := 5
  body :=
    (.cons (.asg 3 (.cst (.int 0)))
    (.cons (.forS (.one 4) (.val (.loc 0))
      (.cons (.asg 3 (.bin .bor (.loc 3) (.sub (.loc 2) (.loc 4))))
      (.cons (.ifS (.not (.sub (.loc 1) (.loc 4)))
        (.cons (.ret (.tupD (.cons (.loc 3) (.cons (.cst (.bool false)) .nil))))
        .nil)
        .nil)
      .nil)))
    (.cons (.ret (.tupD (.cons (.loc 3) (.cons (.cst (.bool true)) .nil))))
    .nil)))
noncomputable def ir_first_masks : Fn where
  nargs := 1
  dflts := []
  nloc := 7
  body :=
    (.cons (.asg 1 (.call .nullable (.cons (.loc 0) .nil)))
    (.cons (.asg 2 (.lstD .nil))
    (.cons (.forS (.one 3) (.range (.meth (.loc 0) "symbol_count" .nil))
      (.cons (.exprS (.meth (.loc 2) "append" (.cons (.ite (.meth (.loc 0) "is_terminal" (.cons (.loc 3) .nil)) (.bin .shl (.cst (.int 1)) (.loc 3)) (.cst (.int 0))) .nil)))
      .nil))
    (.cons (.asg 4 (.cst (.bool true)))
    (.cons (.whileS (.loc 4)
      (.cons (.asg 4 (.cst (.bool false)))
      (.cons (.forS (.one 5) (.val (.attr (.loc 0) "rules"))
        (.cons (.asg 6 (.bin .bor (.sub (.loc 2) (.attr (.loc 5) "left")) (.sub (.call .first_of (.cons (.attr (.loc 5) "right") (.cons (.loc 1) (.cons (.loc 2) .nil)))) (.cst (.int 0)))))
        (.cons (.ifS (.cmp .ne (.loc 6) (.sub (.loc 2) (.attr (.loc 5) "left")))
          (.cons (.setI (.loc 2) (.attr (.loc 5) "left") (.loc 6))
          (.cons (.asg 4 (.cst (.bool true)))
          .nil))
          .nil)
        .nil)))
      .nil)))
    (.cons (.ret (.loc 2))
    .nil))))))
noncomputable def ir_follow_masks : Fn where
  nargs := 1
  dflts := []
  nloc := 8
  body :=
    (.cons (.asg 1 (.call .nullable (.cons (.loc 0) .nil)))
    (.cons (.asg 2 (.call .first_masks (.cons (.loc 0) .nil)))
    (.cons (.asg 3 (.bin .mul (.lstD (.cons (.cst (.int 0)) .nil)) (.meth (.loc 0) "symbol_count" .nil)))
    (.cons (.asg 4 (.cst (.bool true)))
    (.cons (.whileS (.loc 4)
      (.cons (.asg 4 (.cst (.bool false)))
      (.cons (.forS (.one 5) (.val (.attr (.loc 0) "rules"))
        (.cons (.asg 6 (.sub (.loc 3) (.attr (.loc 5) "left")))
        (.cons (.forS (.one 7) (.revd (.attr (.loc 5) "right"))
          (.cons (.ifS (.meth (.loc 0) "is_terminal" (.cons (.loc 7) .nil))
            (.cons (.asg 6 (.sub (.loc 2) (.loc 7)))
            (.cons .cont
            .nil))
            .nil)
          (.cons (.ifS (.cmp .ne (.bin .bor (.sub (.loc 3) (.loc 7)) (.loc 6)) (.sub (.loc 3) (.loc 7)))
            (.cons (.setI (.loc 3) (.loc 7) (.bin .bor (.sub (.loc 3) (.loc 7)) (.loc 6)))
            (.cons (.asg 4 (.cst (.bool true)))
            .nil))
            .nil)
          (.cons (.asg 6 (.ite (.sub (.loc 1) (.loc 7)) (.bin .bor (.loc 6) (.sub (.loc 2) (.loc 7))) (.sub (.loc 2) (.loc 7))))
          .nil))))
        .nil)))
      .nil)))
    (.cons (.ret (.loc 3))
    .nil))))))
noncomputable def ir_transitive : Fn where
  nargs := 1
  dflts := []
  nloc := 4
  body :=
    (.cons (.asg 1 (.prim .list (.cons (.loc 0) .nil)))
    (.cons (.forS (.one 2) (.range (.prim .len (.cons (.loc 1) .nil)))
      (.cons (.forS (.one 3) (.range (.prim .len (.cons (.loc 1) .nil)))
        (.cons (.ifS (.cmp .eq (.bin .band (.bin .shr (.sub (.loc 1) (.loc 3)) (.loc 2)) (.cst (.int 1))) (.cst (.int 1)))
          (.cons (.setI (.loc 1) (.loc 3) (.bin .bor (.sub (.loc 1) (.loc 3)) (.sub (.loc 1) (.loc 2))))
          .nil)
          .nil)
        .nil))
      .nil))
    (.cons (.ret (.loc 1))
    .nil)))
noncomputable def ir_predict : Fn where
  nargs := 1
  dflts := []
  nloc := 9
  body :=
    (.cons (.asg 1 (.call .nullable (.cons (.loc 0) .nil)))
    (.cons (.asg 2 (.call .first_masks (.cons (.loc 0) .nil)))
    (.cons (.asg 3 (.call .follow_masks (.cons (.loc 0) .nil)))
    (.cons (.asg 4 .dctD)
    (.cons (.forS (.one 5) (.val (.attr (.loc 0) "rules"))
      (.cons (.asgT [6, 7] (.call .first_of (.cons (.attr (.loc 5) "right") (.cons (.loc 1) (.cons (.loc 2) .nil)))))
      (.cons (.ifS (.loc 7)
        (.cons (.asg 6 (.bin .bor (.loc 6) (.sub (.loc 3) (.attr (.loc 5) "left"))))
        .nil)
        .nil)
      (.cons (.forS (.one 8) (.val (.call .bits (.cons (.loc 6) .nil)))
        (.cons (.ifS (.cmp .notIn (.tupD (.cons (.attr (.loc 5) "left") (.cons (.loc 8) .nil))) (.loc 4))
          (.cons (.setI (.loc 4) (.tupD (.cons (.attr (.loc 5) "left") (.cons (.loc 8) .nil))) (.lstD .nil))
          .nil)
          .nil)
        (.cons (.exprS (.meth (.sub (.loc 4) (.tupD (.cons (.attr (.loc 5) "left") (.cons (.loc 8) .nil)))) "append" (.cons (.attr (.loc 5) "number") .nil)))
        .nil)))
      .nil))))
    (.cons (.ret (.loc 4))
    .nil))))))
noncomputable def ir_choices_of : Fn where
  nargs := 1
  dflts := []
  nloc := 4
  body :=
    (.cons (.ret (.compIf (.tupD (.cons (.sub (.loc 3) (.cst (.int 0))) (.cons (.sub (.loc 3) (.cst (.int 1))) (.cons (.sub (.loc 0) (.loc 3)) .nil)))) (.one 3) (.val (.prim .sorted (.cons (.loc 0) .nil))) (.cmp .gt (.prim .len (.cons (.sub (.loc 0) (.loc 3)) .nil)) (.cst (.int 1)))))
    .nil)
noncomputable def ir_ll_clashes : Fn where
  nargs := 1
  dflts := []
  nloc := 1
  body :=
    (.cons (.ret (.call .choices_of (.cons (.call .predict (.cons (.loc 0) .nil)) .nil)))
    .nil)
noncomputable def ir_is_ll_one : Fn where
  nargs := 1
  dflts := []
  nloc := 1
  body :=
    (.cons (.ret (.cmp .eq (.call .ll_clashes (.cons (.loc 0) .nil)) (.lstD .nil)))
    .nil)
noncomputable def ir_led_by : Fn where
  nargs := 3
  dflts := []
  nloc := 10
  body :=
    (.cons (.asg 3 (.bin .add (.prim .list (.cons (.loc 2) .nil)) (.lstD (.cons (.cst (.int 0)) .nil))))
    (.cons (.asg 4 (.lstD (.cons (.attr (.loc 0) "terminal_count") .nil)))
    (.cons (.asg 5 (.lstD .nil))
    (.cons (.asg 6 (.cst (.int 0)))
    (.cons (.whileS (.cmp .ne (.loc 4) (.lstD .nil))
      (.cons (.asg 7 (.meth (.loc 4) "pop" .nil))
      (.cons (.ifS (.meth (.loc 0) "is_terminal" (.cons (.loc 7) .nil))
        (.cons (.ifS (.cmp .ne (.loc 7) (.sub (.loc 3) (.loc 6)))
          (.cons (.ret (.tupD (.cons (.cst (.bool false)) (.cons (.loc 6) .nil))))
          .nil)
          .nil)
        (.cons (.asg 6 (.bin .add (.loc 6) (.cst (.int 1))))
        (.cons .cont
        .nil)))
        .nil)
      (.cons (.asg 8 (.meth (.loc 1) "get" (.cons (.tupD (.cons (.loc 7) (.cons (.sub (.loc 3) (.loc 6)) .nil))) (.cons (.lstD .nil) .nil))))
      (.cons (.ifS (.cmp .eq (.loc 8) (.lstD .nil))
        (.cons (.ret (.tupD (.cons (.cst (.bool false)) (.cons (.loc 6) .nil))))
        .nil)
        .nil)
      (.cons (.exprS (.meth (.loc 5) "append" (.cons (.sub (.loc 8) (.cst (.int 0))) .nil)))
      (.cons (.forS (.one 9) (.revd (.attr (.sub (.attr (.loc 0) "rules") (.sub (.loc 8) (.cst (.int 0)))) "right"))
        (.cons (.exprS (.meth (.loc 4) "append" (.cons (.loc 9) .nil)))
        .nil))
      .nil)))))))
    (.cons (.ret (.tupD (.cons (.cst (.bool true)) (.cons (.loc 5) .nil))))
    .nil))))))
noncomputable def ir_advanced : Fn where
  nargs := 2
  dflts := []
  nloc := 2
  body :=
    (.cons (.ret (.meth (.loc 0) "item" (.cons (.meth (.loc 0) "rule_of" (.cons (.loc 1) .nil)) (.cons (.bin .add (.meth (.loc 0) "dot_of" (.cons (.loc 1) .nil)) (.cst (.int 1))) .nil))))
    .nil)
noncomputable def ir_kernels_behind : Fn where
  nargs := 2
  dflts := []
  nloc := 6
  body :=
    (.cons (.asg 2 .dctD)
    (.cons (.forS (.one 3) (.val (.loc 1))
      (.cons (.asg 4 (.meth (.loc 0) "after" (.cons (.loc 3) .nil)))
      (.cons (.ifS (.cmp .ge (.loc 4) (.cst (.int 0)))
        (.cons (.ifS (.cmp .notIn (.loc 4) (.loc 2))
          (.cons (.setI (.loc 2) (.loc 4) (.lstD .nil))
          .nil)
          .nil)
        (.cons (.exprS (.meth (.sub (.loc 2) (.loc 4)) "append" (.cons (.call .advanced (.cons (.loc 0) (.cons (.loc 3) .nil))) .nil)))
        .nil))
        .nil)
      .nil)))
    (.cons (.asg 5 .dctD)
    (.cons (.forS (.one 4) (.val (.prim .sorted (.cons (.loc 2) .nil)))
      (.cons (.setI (.loc 5) (.loc 4) (.prim .tuple (.cons (.prim .sorted (.cons (.sub (.loc 2) (.loc 4)) .nil)) .nil)))
      .nil))
    (.cons (.ret (.loc 5))
    .nil)))))
noncomputable def ir_complete_rules : Fn where
  nargs := 2
  dflts := []
  nloc := 4
  body :=
    (.cons (.asg 2 (.lstD .nil))
    (.cons (.forS (.one 3) (.val (.loc 1))
      (.cons (.ifS (.and (.cmp .lt (.meth (.loc 0) "after" (.cons (.loc 3) .nil)) (.cst (.int 0))) (.cmp .ne (.meth (.loc 0) "rule_of" (.cons (.loc 3) .nil)) (.cst (.int 0))))
        (.cons (.exprS (.meth (.loc 2) "append" (.cons (.meth (.loc 0) "rule_of" (.cons (.loc 3) .nil)) .nil)))
        .nil)
        .nil)
      .nil))
    (.cons (.ret (.prim .sorted (.cons (.loc 2) .nil)))
    .nil)))
noncomputable def ir_build : Fn where
  nargs := 1
  dflts := []
  nloc := 1
  body :=
    (.cons (.ret (.meth (.new .Builder (.cons (.loc 0) .nil)) "built" .nil))
    .nil)
noncomputable def ir_inadequate_states : Fn where
  nargs := 1
  dflts := []
  nloc := 3
  body :=
    (.cons (.ret (.compIf (.attr (.loc 2) "number") (.one 2) (.val (.attr (.loc 0) "states")) (.not (.meth (.loc 2) "is_consistent" .nil))))
    .nil)
noncomputable def ir_is_lr_zero : Fn where
  nargs := 1
  dflts := []
  nloc := 1
  body :=
    (.cons (.ret (.cmp .eq (.call .inadequate_states (.cons (.loc 0) .nil)) (.lstD .nil)))
    .nil)
noncomputable def ir_law_pen : Fn where
  nargs := 1
  dflts := []
  nloc := 3
  body :=
    (.cons (.asg 1 (.cst (.int 1)))
    (.cons (.forS (.one 2) (.val (.slcTo (.loc 0) (.cst (.int 63))))
      (.cons (.asg 1 (.bin .add (.bin .add (.bin .mul (.loc 1) (.cst (.int 1000003))) (.bin .mul (.cst (.int 2)) (.prim .abs (.cons (.prim .int (.cons (.loc 2) .nil)) .nil)))) (.ite (.cmp .lt (.loc 2) (.cst (.int 0))) (.cst (.int 1)) (.cst (.int 0)))))
      .nil))
    (.cons (.ret (.lstD (.cons (.loc 1) (.cons (.cst (.int 0)) .nil))))
    .nil)))
noncomputable def ir_law_draw : Fn where
  nargs := 2
  dflts := []
  nloc := 3
  body :=
    (.cons (.ifS (.cmp .lt (.sub (.loc 0) (.cst (.int 0))) (.loc 1))
      (.cons (.setI (.loc 0) (.cst (.int 1)) (.bin .add (.sub (.loc 0) (.cst (.int 1))) (.cst (.int 1))))
      (.cons (.setI (.loc 0) (.cst (.int 0)) (.bin .add (.bin .add (.sub (.loc 0) (.cst (.int 0))) (.cst (.int 104729))) (.bin .mul (.cst (.int 7919)) (.bin .pow (.sub (.loc 0) (.cst (.int 1))) (.cst (.int 5))))))
      .nil))
      .nil)
    (.cons (.asg 2 (.bin .mod (.sub (.loc 0) (.cst (.int 0))) (.loc 1)))
    (.cons (.setI (.loc 0) (.cst (.int 0)) (.bin .fdiv (.sub (.loc 0) (.cst (.int 0))) (.loc 1)))
    (.cons (.ret (.loc 2))
    .nil))))
noncomputable def ir_law_rules : Fn where
  nargs := 1
  dflts := []
  nloc := 15
  body :=
    (.cons (.asg 1 (.slcTo (.lstD (.cons (.cst (.str "S")) (.cons (.cst (.str "T")) (.cons (.cst (.str "U")) .nil)))) (.bin .add (.cst (.int 1)) (.call .law_draw (.cons (.loc 0) (.cons (.cst (.int 3)) .nil))))))
    (.cons (.asg 2 (.cmp .gt (.call .law_draw (.cons (.loc 0) (.cons (.cst (.int 4)) .nil))) (.cst (.int 0))))
    (.cons (.asg 3 (.lstD .nil))
    (.cons (.forS (.one 4) (.val (.loc 1))
      (.cons (.forS (.one 5) (.range (.bin .add (.cst (.int 1)) (.call .law_draw (.cons (.loc 0) (.cons (.prim .max (.cons (.cst (.int 2)) (.cons (.bin .sub (.cst (.int 4)) (.prim .len (.cons (.loc 1) .nil))) .nil))) .nil)))))
        (.cons (.asg 6 (.ite (.and (.cmp .eq (.loc 5) (.cst (.int 0))) (.loc 2)) (.lstD (.cons (.cst (.str "a")) (.cons (.cst (.str "b")) .nil))) (.bin .add (.lstD (.cons (.cst (.str "a")) (.cons (.cst (.str "b")) .nil))) (.loc 1))))
        (.cons (.asg 7 (.call .law_draw (.cons (.loc 0) (.cons (.ite (.cmp .gt (.loc 5) (.cst (.int 0))) (.cst (.int 4)) (.cst (.int 3))) .nil))))
        (.cons (.exprS (.meth (.loc 3) "append" (.cons (.tupD (.cons (.loc 4) (.cons (.prim .tuple (.cons (.comp (.sub (.loc 6) (.call .law_draw (.cons (.loc 0) (.cons (.prim .len (.cons (.loc 6) .nil)) .nil)))) (.one 14) (.range (.loc 7))) .nil)) .nil))) .nil)))
        .nil))))
      .nil))
    (.cons (.ret (.loc 3))
    .nil)))))
noncomputable def ir_law_row : Fn where
  nargs := 2
  dflts := []
  nloc := 17
  body :=
    (.cons (.asgT [2, 3] (.tupD (.cons (.lstD (.cons (.cst (.str "S")) .nil)) (.cons (.lstD .nil) .nil))))
    (.cons (.forS (.one 4) (.range (.cst (.int 30)))
      (.cons (.ifS (.cmp .eq (.loc 2) (.lstD .nil))
        (.cons (.ret (.loc 3))
        .nil)
        .nil)
      (.cons (.asg 5 (.meth (.loc 2) "pop" .nil))
      (.cons (.ifS (.cmp .isIn (.loc 5) (.tupD (.cons (.cst (.str "a")) (.cons (.cst (.str "b")) .nil))))
        (.cons (.asg 3 (.bin .add (.lstD (.cons (.loc 5) .nil)) (.loc 3)))
        (.cons .cont
        .nil))
        .nil)
      (.cons (.asg 7 (.compIf (.loc 15) (.two (.one 15) (.one 16)) (.enum (.loc 1)) (.cmp .eq (.sub (.loc 16) (.cst (.int 0))) (.loc 5))))
      (.cons (.asg 6 (.ite (.cmp .lt (.loc 4) (.cst (.int 9))) (.sub (.loc 7) (.call .law_draw (.cons (.loc 0) (.cons (.prim .len (.cons (.loc 7) .nil)) .nil)))) (.sub (.loc 7) (.cst (.int 0)))))
      (.cons (.asg 3 (.bin .add (.lstD (.cons (.bin .add (.cst (.str "M")) (.prim .str (.cons (.bin .add (.loc 6) (.cst (.int 1))) .nil))) .nil)) (.loc 3)))
      (.cons (.asg 2 (.bin .add (.loc 2) (.prim .list (.cons (.sub (.sub (.loc 1) (.loc 6)) (.cst (.int 1))) .nil))))
      .nil))))))))
    (.cons (.ret (.loc 3))
    .nil)))
noncomputable def ir_law_bent : Fn where
  nargs := 3
  dflts := []
  nloc := 12
  body :=
    (.cons (.asg 3 (.bin .add (.lstD (.cons (.cst (.str "a")) (.cons (.cst (.str "b")) .nil))) (.comp (.bin .add (.cst (.str "M")) (.prim .str (.cons (.bin .add (.loc 11) (.cst (.int 1))) .nil))) (.one 11) (.range (.prim .len (.cons (.loc 1) .nil))))))
    (.cons (.asgT [4, 5, 6] (.tupD (.cons (.call .law_draw (.cons (.loc 0) (.cons (.prim .len (.cons (.loc 2) .nil)) .nil))) (.cons (.call .law_draw (.cons (.loc 0) (.cons (.cst (.int 3)) .nil))) (.cons (.sub (.loc 3) (.call .law_draw (.cons (.loc 0) (.cons (.prim .len (.cons (.loc 3) .nil)) .nil)))) .nil)))))
    (.cons (.ret (.bin .add (.bin .add (.slcTo (.loc 2) (.loc 4)) (.ite (.cmp .eq (.loc 5) (.cst (.int 1))) (.lstD .nil) (.lstD (.cons (.loc 6) .nil)))) (.slcFrom (.loc 2) (.bin .add (.loc 4) (.ite (.cmp .eq (.loc 5) (.cst (.int 2))) (.cst (.int 0)) (.cst (.int 1)))))))
    .nil)))
noncomputable def ir_law_from_right : Fn where
  nargs := 2
  dflts := []
  nloc := 15
  body :=
    (.cons (.asgT [2, 3] (.tupD (.cons (.lstD (.cons (.cst (.str "S")) .nil)) (.cons (.lstD .nil) .nil))))
    (.cons (.forS (.one 4) (.range (.prim .len (.cons (.loc 1) .nil)))
      (.cons (.asg 5 (.sub (.loc 1) (.bin .sub (.bin .sub (.prim .len (.cons (.loc 1) .nil)) (.cst (.int 1))) (.loc 4))))
      (.cons (.ifS (.cmp .eq (.loc 2) (.lstD .nil))
        (.cons (.ret (.tupD (.cons (.cst (.bool false)) (.cons (.loc 4) .nil))))
        .nil)
        .nil)
      (.cons (.asg 6 (.meth (.loc 2) "pop" .nil))
      (.cons (.asg 7 (.compIf (.loc 13) (.two (.one 13) (.one 14)) (.enum (.loc 0)) (.and (.cmp .eq (.sub (.loc 14) (.cst (.int 0))) (.loc 6)) (.cmp .eq (.loc 5) (.bin .add (.cst (.str "M")) (.prim .str (.cons (.bin .add (.loc 13) (.cst (.int 1))) .nil)))))))
      (.cons (.ifS (.cmp .ne (.loc 7) (.lstD .nil))
        (.cons (.exprS (.meth (.loc 3) "append" (.cons (.bin .add (.sub (.loc 7) (.cst (.int 0))) (.cst (.int 1))) .nil)))
        (.cons (.asg 2 (.bin .add (.loc 2) (.prim .list (.cons (.sub (.sub (.loc 0) (.sub (.loc 7) (.cst (.int 0)))) (.cst (.int 1))) .nil))))
        .nil))
        (.cons (.ifS (.cmp .ne (.loc 5) (.loc 6))
          (.cons (.ret (.tupD (.cons (.cst (.bool false)) (.cons (.loc 4) .nil))))
          .nil)
          .nil)
        .nil))
      .nil))))))
    (.cons (.ret (.ite (.cmp .eq (.loc 2) (.lstD .nil)) (.tupD (.cons (.cst (.bool true)) (.cons (.loc 3) .nil))) (.tupD (.cons (.cst (.bool false)) (.cons (.prim .len (.cons (.loc 1) .nil)) .nil)))))
    .nil)))
noncomputable def ir_law_from_left : Fn where
  nargs := 2
  dflts := []
  nloc := 9
  body :=
    (.cons (.asgT [2, 3, 4] (.tupD (.cons (.lstD (.cons (.cst (.int 0)) .nil)) (.cons (.lstD .nil) (.cons (.cst (.int 0)) .nil)))))
    (.cons (.forS (.one 5) (.range (.bin .mul (.cst (.int 2)) (.prim .len (.cons (.loc 1) .nil))))
      (.cons (.asg 6 (.sub (.attr (.loc 0) "states") (.sub (.loc 2) (.cst (.int (-1))))))
      (.cons (.ifS (.cmp .ne (.attr (.loc 6) "reductions") (.lstD .nil))
        (.cons (.asg 7 (.sub (.attr (.attr (.loc 0) "grammar") "rules") (.sub (.attr (.loc 6) "reductions") (.cst (.int 0)))))
        (.cons (.asg 2 (.slcTo (.loc 2) (.bin .sub (.prim .len (.cons (.loc 2) .nil)) (.prim .len (.cons (.attr (.loc 7) "right") .nil)))))
        (.cons (.asgT [2, 3] (.tupD (.cons (.bin .add (.loc 2) (.lstD (.cons (.meth (.loc 0) "goto" (.cons (.sub (.loc 2) (.cst (.int (-1)))) (.cons (.attr (.loc 7) "left") .nil))) .nil))) (.cons (.bin .add (.loc 3) (.lstD (.cons (.attr (.loc 7) "number") .nil))) .nil))))
        (.cons .cont
        .nil))))
        .nil)
      (.cons (.asg 8 (.meth (.loc 0) "goto" (.cons (.sub (.loc 2) (.cst (.int (-1)))) (.cons (.sub (.loc 1) (.loc 4)) .nil))))
      (.cons (.ifS (.cmp .lt (.loc 8) (.cst (.int 0)))
        (.cons (.ret (.cst .none))
        .nil)
        .nil)
      (.cons (.asgT [2, 4] (.tupD (.cons (.bin .add (.loc 2) (.lstD (.cons (.loc 8) .nil))) (.cons (.bin .add (.loc 4) (.cst (.int 1))) .nil))))
      (.cons (.ifS (.cmp .eq (.loc 4) (.prim .len (.cons (.loc 1) .nil)))
        (.cons (.ret (.loc 3))
        .nil)
        .nil)
      .nil)))))))
    (.cons (.ret (.cst .none))
    .nil)))
noncomputable def ir_law_is_right : Fn where
  nargs := 5
  dflts := []
  nloc := 13
  body :=
    (.cons (.asgT [5, 6] (.call .law_from_right (.cons (.loc 3) (.cons (.loc 4) .nil))))
    (.cons (.ifS (.cmp .ne (.call .led_by (.cons (.loc 1) (.cons (.loc 2) (.cons (.comp (.meth (.loc 1) "number" (.cons (.loc 12) .nil)) (.one 12) (.val (.rev (.loc 4)))) .nil)))) (.tupD (.cons (.loc 5) (.cons (.ite (.loc 5) (.bin .add (.lstD (.cons (.cst (.int 0)) .nil)) (.loc 6)) (.loc 6)) .nil))))
      (.cons (.ret (.cst (.bool false)))
      .nil)
      .nil)
    (.cons (.asg 7 (.comp (.meth (.attr (.loc 0) "grammar") "number" (.cons (.loc 12) .nil)) (.one 12) (.val (.loc 4))))
    (.cons (.ret (.cmp .eq (.call .law_from_left (.cons (.loc 0) (.cons (.bin .add (.loc 7) (.lstD (.cons (.cst (.int 0)) .nil))) .nil))) (.ite (.loc 5) (.rev (.loc 6)) (.cst .none))))
    .nil))))
noncomputable def ir_law : Fn where
  nargs := 1
  dflts := []
  nloc := 25
  body :=
    (.cons (.asg 1 (.call .law_pen (.cons (.loc 0) .nil)))
    (.cons (.asg 2 (.call .law_rules (.cons (.loc 1) .nil)))
    (.cons (.asg 3 (.call .plain_grammar (.cons (.comp (.tupD (.cons (.loc 23) (.cons (.bin .add (.prim .list (.cons (.loc 24) .nil)) (.lstD (.cons (.bin .add (.cst (.str "M")) (.prim .str (.cons (.bin .add (.loc 22) (.cst (.int 1))) .nil))) .nil))) .nil))) (.two (.one 22) (.two (.one 23) (.one 24))) (.enum (.loc 2))) .nil)))
    (.cons (.asg 4 (.call .plain_grammar (.cons (.comp (.tupD (.cons (.loc 23) (.cons (.bin .add (.lstD (.cons (.bin .add (.cst (.str "M")) (.prim .str (.cons (.bin .add (.loc 22) (.cst (.int 1))) .nil))) .nil)) (.prim .list (.cons (.rev (.loc 24)) .nil))) .nil))) (.two (.one 22) (.two (.one 23) (.one 24))) (.enum (.loc 2))) .nil)))
    (.cons (.asgT [5, 6] (.tupD (.cons (.call .build (.cons (.loc 3) .nil)) (.cons (.call .predict (.cons (.loc 4) .nil)) .nil))))
    (.cons (.ifS (.or (.not (.call .is_lr_zero (.cons (.loc 5) .nil))) (.or (.cmp .ne (.call .choices_of (.cons (.loc 6) .nil)) (.lstD .nil)) (.not (.call .is_ll_one (.cons (.loc 4) .nil)))))
      (.cons (.ret (.cst (.bool false)))
      .nil)
      .nil)
    (.cons (.asg 7 (.call .law_row (.cons (.loc 1) (.cons (.loc 2) .nil))))
    (.cons (.asg 8 (.call .law_bent (.cons (.loc 1) (.cons (.loc 2) (.cons (.loc 7) .nil)))))
    (.cons (.ret (.prim .all (.cons (.comp (.call .law_is_right (.cons (.loc 5) (.cons (.loc 4) (.cons (.loc 6) (.cons (.loc 2) (.cons (.loc 22) .nil)))))) (.one 22) (.val (.tupD (.cons (.loc 7) (.cons (.loc 8) .nil))))) .nil)))
    .nil)))))))))
noncomputable def ir_Rule_init : Fn where
  nargs := 8
  dflts := [.none, .int 0, .int 0]
  nloc := 8
  body :=
    (.cons (.setA (.loc 0) "number" (.loc 1))
    (.cons (.setA (.loc 0) "left" (.loc 2))
    (.cons (.setA (.loc 0) "right" (.loc 3))
    (.cons (.setA (.loc 0) "level_of" (.loc 4))
    (.cons (.setA (.loc 0) "action" (.loc 5))
    (.cons (.setA (.loc 0) "line" (.loc 6))
    (.cons (.setA (.loc 0) "before" (.loc 7))
    .nil)))))))
noncomputable def ir_Grammar_init : Fn where
  nargs := 7
  dflts := []
  nloc := 11
  body :=
    (.cons (.setA (.loc 0) "names" (.loc 1))
    (.cons (.setA (.loc 0) "terminal_count" (.loc 2))
    (.cons (.setA (.loc 0) "rules" (.loc 3))
    (.cons (.setA (.loc 0) "levels" (.loc 4))
    (.cons (.setA (.loc 0) "expect" (.loc 5))
    (.cons (.setA (.loc 0) "start" (.loc 6))
    (.cons (.setA (.loc 0) "by_left" (.comp (.lstD .nil) (.one 10) (.val (.attr (.loc 0) "names"))))
    (.cons (.setA (.loc 0) "offsets" (.lstD .nil))
    (.cons (.setA (.loc 0) "owners" (.lstD .nil))
    (.cons (.forS (.one 7) (.val (.attr (.loc 0) "rules"))
      (.cons (.exprS (.meth (.sub (.attr (.loc 0) "by_left") (.attr (.loc 7) "left")) "append" (.cons (.attr (.loc 7) "number") .nil)))
      (.cons (.exprS (.meth (.attr (.loc 0) "offsets") "append" (.cons (.prim .len (.cons (.attr (.loc 0) "owners") .nil)) .nil)))
      (.cons (.exprS (.meth (.attr (.loc 0) "owners") "extend" (.cons (.bin .mul (.lstD (.cons (.attr (.loc 7) "number") .nil)) (.bin .add (.prim .len (.cons (.attr (.loc 7) "right") .nil)) (.cst (.int 1)))) .nil)))
      .nil))))
    (.cons (.setA (.loc 0) "item_count" (.prim .len (.cons (.attr (.loc 0) "owners") .nil)))
    .nil)))))))))))
noncomputable def ir_Grammar_symbol_count : Fn where
  nargs := 1
  dflts := []
  nloc := 1
  body :=
    (.cons (.ret (.prim .len (.cons (.attr (.loc 0) "names") .nil)))
    .nil)
noncomputable def ir_Grammar_is_terminal : Fn where
  nargs := 2
  dflts := []
  nloc := 2
  body :=
    (.cons (.ret (.cmp .lt (.loc 1) (.attr (.loc 0) "terminal_count")))
    .nil)
noncomputable def ir_Grammar_number : Fn where
  nargs := 2
  dflts := []
  nloc := 2
  body :=
    (.cons (.ret (.ite (.cmp .isIn (.loc 1) (.attr (.loc 0) "names")) (.meth (.attr (.loc 0) "names") "index" (.cons (.loc 1) .nil)) (.cst (.int (-1)))))
    .nil)
noncomputable def ir_Grammar_rules_of : Fn where
  nargs := 2
  dflts := []
  nloc := 2
  body :=
    (.cons (.ret (.prim .list (.cons (.sub (.attr (.loc 0) "by_left") (.loc 1)) .nil)))
    .nil)
noncomputable def ir_Grammar_item : Fn where
  nargs := 3
  dflts := []
  nloc := 3
  body :=
    (.cons (.ret (.bin .add (.sub (.attr (.loc 0) "offsets") (.loc 1)) (.loc 2)))
    .nil)
noncomputable def ir_Grammar_rule_of : Fn where
  nargs := 2
  dflts := []
  nloc := 2
  body :=
    (.cons (.ret (.sub (.attr (.loc 0) "owners") (.loc 1)))
    .nil)
noncomputable def ir_Grammar_dot_of : Fn where
  nargs := 2
  dflts := []
  nloc := 2
  body :=
    (.cons (.ret (.bin .sub (.loc 1) (.sub (.attr (.loc 0) "offsets") (.sub (.attr (.loc 0) "owners") (.loc 1)))))
    .nil)
noncomputable def ir_Grammar_after : Fn where
  nargs := 2
  dflts := []
  nloc := 4
  body :=
    (.cons (.asg 2 (.attr (.sub (.attr (.loc 0) "rules") (.sub (.attr (.loc 0) "owners") (.loc 1))) "right"))
    (.cons (.asg 3 (.bin .sub (.loc 1) (.sub (.attr (.loc 0) "offsets") (.sub (.attr (.loc 0) "owners") (.loc 1)))))
    (.cons (.ret (.ite (.cmp .lt (.loc 3) (.prim .len (.cons (.loc 2) .nil))) (.sub (.loc 2) (.loc 3)) (.cst (.int (-1)))))
    .nil)))
noncomputable def ir_LrState_init : Fn where
  nargs := 4
  dflts := []
  nloc := 4
  body :=
    (.cons (.setA (.loc 0) "number" (.loc 1))
    (.cons (.setA (.loc 0) "kernel" (.loc 2))
    (.cons (.setA (.loc 0) "symbol" (.loc 3))
    (.cons (.setA (.loc 0) "items" (.lstD .nil))
    (.cons (.setA (.loc 0) "moves" .dctD)
    (.cons (.setA (.loc 0) "reductions" (.lstD .nil))
    .nil))))))
noncomputable def ir_LrState_goto : Fn where
  nargs := 2
  dflts := []
  nloc := 2
  body :=
    (.cons (.ret (.meth (.attr (.loc 0) "moves") "get" (.cons (.loc 1) (.cons (.cst (.int (-1))) .nil))))
    .nil)
noncomputable def ir_LrState_is_consistent : Fn where
  nargs := 1
  dflts := []
  nloc := 1
  body :=
    (.cons (.ifS (.cmp .eq (.attr (.loc 0) "reductions") (.lstD .nil))
      (.cons (.ret (.cst (.bool true)))
      .nil)
      .nil)
    (.cons (.ret (.and (.cmp .eq (.prim .len (.cons (.attr (.loc 0) "reductions") .nil)) (.cst (.int 1))) (.cmp .eq (.attr (.loc 0) "moves") .dctD)))
    .nil))
noncomputable def ir_Closer_init : Fn where
  nargs := 2
  dflts := []
  nloc := 4
  body :=
    (.cons (.setA (.loc 0) "grammar" (.loc 1))
    (.cons (.asg 2 (.bin .mul (.lstD (.cons (.cst (.int 0)) .nil)) (.meth (.loc 1) "symbol_count" .nil)))
    (.cons (.forS (.one 3) (.val (.attr (.loc 1) "rules"))
      (.cons (.ifS (.cmp .gt (.prim .len (.cons (.attr (.loc 3) "right") .nil)) (.cst (.int 0)))
        (.cons (.setI (.loc 2) (.attr (.loc 3) "left") (.bin .bor (.sub (.loc 2) (.attr (.loc 3) "left")) (.bin .shl (.cst (.int 1)) (.sub (.attr (.loc 3) "right") (.cst (.int 0))))))
        .nil)
        .nil)
      .nil))
    (.cons (.setA (.loc 0) "firsts" (.call .transitive (.cons (.loc 2) .nil)))
    .nil))))
noncomputable def ir_Closer_wanted : Fn where
  nargs := 2
  dflts := []
  nloc := 5
  body :=
    (.cons (.asg 2 (.cst (.int 0)))
    (.cons (.forS (.one 3) (.val (.loc 1))
      (.cons (.asg 4 (.meth (.attr (.loc 0) "grammar") "after" (.cons (.loc 3) .nil)))
      (.cons (.ifS (.cmp .ge (.loc 4) (.cst (.int 0)))
        (.cons (.asg 2 (.bin .bor (.bin .bor (.loc 2) (.bin .shl (.cst (.int 1)) (.loc 4))) (.sub (.attr (.loc 0) "firsts") (.loc 4))))
        .nil)
        .nil)
      .nil)))
    (.cons (.ret (.loc 2))
    .nil)))
noncomputable def ir_Closer_added : Fn where
  nargs := 2
  dflts := []
  nloc := 6
  body :=
    (.cons (.asg 2 (.lstD .nil))
    (.cons (.forS (.one 3) (.val (.call .bits (.cons (.meth (.loc 0) "wanted" (.cons (.loc 1) .nil)) .nil)))
      (.cons (.forS (.one 4) (.val (.meth (.attr (.loc 0) "grammar") "rules_of" (.cons (.loc 3) .nil)))
        (.cons (.asg 5 (.meth (.attr (.loc 0) "grammar") "item" (.cons (.loc 4) (.cons (.cst (.int 0)) .nil))))
        (.cons (.ifS (.cmp .notIn (.loc 5) (.loc 1))
          (.cons (.exprS (.meth (.loc 2) "append" (.cons (.loc 5) .nil)))
          .nil)
          .nil)
        .nil)))
      .nil))
    (.cons (.ret (.prim .sorted (.cons (.loc 2) .nil)))
    .nil)))
noncomputable def ir_Closer_close : Fn where
  nargs := 2
  dflts := []
  nloc := 2
  body :=
    (.cons (.ret (.bin .add (.prim .sorted (.cons (.loc 1) .nil)) (.meth (.loc 0) "added" (.cons (.loc 1) .nil))))
    .nil)
noncomputable def ir_Automaton_init : Fn where
  nargs := 3
  dflts := []
  nloc := 3
  body :=
    (.cons (.setA (.loc 0) "grammar" (.loc 1))
    (.cons (.setA (.loc 0) "states" (.loc 2))
    .nil))
noncomputable def ir_Automaton_goto : Fn where
  nargs := 3
  dflts := []
  nloc := 3
  body :=
    (.cons (.ret (.meth (.sub (.attr (.loc 0) "states") (.loc 1)) "goto" (.cons (.loc 2) .nil)))
    .nil)
noncomputable def ir_Builder_init : Fn where
  nargs := 2
  dflts := []
  nloc := 2
  body :=
    (.cons (.setA (.loc 0) "grammar" (.loc 1))
    (.cons (.setA (.loc 0) "closer" (.new .Closer (.cons (.loc 1) .nil)))
    (.cons (.setA (.loc 0) "states" (.lstD .nil))
    (.cons (.setA (.loc 0) "numbers" .dctD)
    .nil))))
noncomputable def ir_Builder_number_of : Fn where
  nargs := 3
  dflts := []
  nloc := 3
  body :=
    (.cons (.ifS (.cmp .notIn (.loc 1) (.attr (.loc 0) "numbers"))
      (.cons (.setI (.attr (.loc 0) "numbers") (.loc 1) (.prim .len (.cons (.attr (.loc 0) "states") .nil)))
      (.cons (.exprS (.meth (.attr (.loc 0) "states") "append" (.cons (.new .LrState (.cons (.prim .len (.cons (.attr (.loc 0) "states") .nil)) (.cons (.loc 1) (.cons (.loc 2) .nil)))) .nil)))
      .nil))
      .nil)
    (.cons (.ret (.sub (.attr (.loc 0) "numbers") (.loc 1)))
    .nil))
noncomputable def ir_Builder_expand : Fn where
  nargs := 2
  dflts := []
  nloc := 4
  body :=
    (.cons (.setA (.loc 1) "items" (.meth (.attr (.loc 0) "closer") "close" (.cons (.attr (.loc 1) "kernel") .nil)))
    (.cons (.setA (.loc 1) "reductions" (.call .complete_rules (.cons (.attr (.loc 0) "grammar") (.cons (.attr (.loc 1) "items") .nil))))
    (.cons (.asg 2 (.call .kernels_behind (.cons (.attr (.loc 0) "grammar") (.cons (.attr (.loc 1) "items") .nil))))
    (.cons (.forS (.one 3) (.val (.loc 2))
      (.cons (.setI (.attr (.loc 1) "moves") (.loc 3) (.meth (.loc 0) "number_of" (.cons (.sub (.loc 2) (.loc 3)) (.cons (.loc 3) .nil))))
      .nil))
    .nil))))
noncomputable def ir_Builder_built : Fn where
  nargs := 1
  dflts := []
  nloc := 2
  body :=
    (.cons (.exprS (.meth (.loc 0) "number_of" (.cons (.tupD (.cons (.meth (.attr (.loc 0) "grammar") "item" (.cons (.cst (.int 0)) (.cons (.cst (.int 0)) .nil))) .nil)) (.cons (.cst (.int (-1))) .nil))))
    (.cons (.asg 1 (.cst (.int 0)))
    (.cons (.whileS (.cmp .lt (.loc 1) (.prim .len (.cons (.attr (.loc 0) "states") .nil)))
      (.cons (.exprS (.meth (.loc 0) "expand" (.cons (.sub (.attr (.loc 0) "states") (.loc 1)) .nil)))
      (.cons (.asg 1 (.bin .add (.loc 1) (.cst (.int 1))))
      .nil)))
    (.cons (.ret (.new .Automaton (.cons (.attr (.loc 0) "grammar") (.cons (.attr (.loc 0) "states") .nil))))
    .nil))))
noncomputable def prog : Fid → Option Fn
  | .bits => some ir_bits
  | .last_terminal => some ir_last_terminal
  | .plain_grammar => some ir_plain_grammar
  | .spread => some ir_spread
  | .nullable => some ir_nullable
  | .first_of => some ir_first_of
  | .first_masks => some ir_first_masks
  | .follow_masks => some ir_follow_masks
  | .transitive => some ir_transitive
  | .predict => some ir_predict
  | .choices_of => some ir_choices_of
  | .ll_clashes => some ir_ll_clashes
  | .is_ll_one => some ir_is_ll_one
  | .led_by => some ir_led_by
  | .advanced => some ir_advanced
  | .kernels_behind => some ir_kernels_behind
  | .complete_rules => some ir_complete_rules
  | .build => some ir_build
  | .inadequate_states => some ir_inadequate_states
  | .is_lr_zero => some ir_is_lr_zero
  | .law_pen => some ir_law_pen
  | .law_draw => some ir_law_draw
  | .law_rules => some ir_law_rules
  | .law_row => some ir_law_row
  | .law_bent => some ir_law_bent
  | .law_from_right => some ir_law_from_right
  | .law_from_left => some ir_law_from_left
  | .law_is_right => some ir_law_is_right
  | .law => some ir_law
  | .Rule_init => some ir_Rule_init
  | .Grammar_init => some ir_Grammar_init
  | .Grammar_symbol_count => some ir_Grammar_symbol_count
  | .Grammar_is_terminal => some ir_Grammar_is_terminal
  | .Grammar_number => some ir_Grammar_number
  | .Grammar_rules_of => some ir_Grammar_rules_of
  | .Grammar_item => some ir_Grammar_item
  | .Grammar_rule_of => some ir_Grammar_rule_of
  | .Grammar_dot_of => some ir_Grammar_dot_of
  | .Grammar_after => some ir_Grammar_after
  | .LrState_init => some ir_LrState_init
  | .LrState_goto => some ir_LrState_goto
  | .LrState_is_consistent => some ir_LrState_is_consistent
  | .Closer_init => some ir_Closer_init
  | .Closer_wanted => some ir_Closer_wanted
  | .Closer_added => some ir_Closer_added
  | .Closer_close => some ir_Closer_close
  | .Automaton_init => some ir_Automaton_init
  | .Automaton_goto => some ir_Automaton_goto
  | .Builder_init => some ir_Builder_init
  | .Builder_number_of => some ir_Builder_number_of
  | .Builder_expand => some ir_Builder_expand
  | .Builder_built => some ir_Builder_built
theorem Sub.rfl' {H : Hp} : Sub H H := fun z0 z0 h => h
theorem Sub.trans {H K L : Hp} (h : Sub H K) (g : Sub K L) : Sub H L := fun a o e => g a o (h a o e)
theorem Sub.set {H K : Hp} (h : Sub H K) {a} (e : H a = Option.none) (o : O) : Sub H (K.set a o) := by
  intro b p hb
  unfold Hp.set
  split
  · next hh => subst hh; rw [e] at hb; cases hb
  · exact h b p hb
theorem Sub.new {H : Hp} {a} (e : H a = Option.none) (o : O) : Sub H (H.set a o) := Sub.rfl'.set e o
theorem Hp.set_ne' {H : Hp} {a b o} {p : O} (h : b ≠ a) (e : H b = some p) : H.set a o b = some p := (Hp.set_ne H o h).trans e
theorem Hp.set_set (H : Hp) (a o o') : (H.set a o).set a o' = H.set a o' := by
  funext b; simp only [Hp.set]; split <;> rfl
theorem Hp.ne_of {H : Hp} {a b o} (ha : H a = Option.none) (hb : H b = some o) : b ≠ a := by
  intro h; subst h; rw [ha] at hb; cases hb
theorem Hp.set_swap (H : Hp) (a d : Nat) (x y z : O) : ((H.set a x).set d y).set a z = (H.set d y).set a z := by
  funext b; simp only [Hp.set]; split <;> rfl
theorem VVs.of_rfl {H K : Hp} : ∀ vs, VVs H K vs vs
  | [] => .nil
  | _ :: vs => .cons .rfl (VVs.of_rfl vs)
theorem VVk.of_rfl {κ : Type} {H K : Hp} : ∀ vs : List (κ × V), VVk H K vs vs
  | [] => .nil
  | _ :: vs => .cons .rfl (VVk.of_rfl vs)
theorem VV.fl {H K : Hp} {a vs} (h : H a = some (.list vs)) (k : K a = Option.none) : VV H K (.ref a) (.lst vs) := .lst h k (VVs.of_rfl _)
noncomputable abbrev nats (l : List Nat) : List V := l.map fun (n : Nat) => V.int (n : Int)
noncomputable abbrev txV (l : List String) : List V := l.map V.str
abbrev VK := V → Hp → Prop
abbrev HK := Hp → Prop
abbrev LK := List V → Hp → Prop
abbrev SK := Flow → Loc → Hp → Prop
abbrev IK := List V → (Hp → Prop) → Hp → Prop
noncomputable def rv (Q : VK) : VK := fun v H => ∃ w K, Sub K H ∧ VV H K v w ∧ Q w K
noncomputable def rt (Q : VK) : SK := fun fl z0 H => rv Q fl.val H
noncomputable def sq (C : CallW) (ss : Ss) (Q : SK) : SK := fun fl m H => match fl with | .next => wSs C ss m H Q | fl => Q fl m H
noncomputable abbrev ifK (C : CallW) (ss : Ss) (m : Loc) (Q : SK) : HK := fun H => wSs C ss m H Q
noncomputable abbrev asK (C : CallW) (i : Nat) (ss : Ss) (m : Loc) (Q : SK) : VK := fun v H => wSs C ss (m.set i (some v)) H Q
noncomputable def atK (C : CallW) (is : List Nat) (ss : Ss) (m : Loc) (Q : SK) : VK := fun v H => ∃ vs m', v = .tup vs ∧ bindL is vs m = some m' ∧ wSs C ss m' H Q
noncomputable abbrev exK (C : CallW) (ss : Ss) (m : Loc) (Q : SK) : VK := fun z0 H => wSs C ss m H Q
noncomputable def saK2 (C : CallW) (n : String) (v : V) (ss : Ss) (m : Loc) (Q : SK) : VK := fun a H => setAttrW a n v H (ifK C ss m Q)
noncomputable abbrev saK1 (C : CallW) (o : X) (n : String) (ss : Ss) (m : Loc) (Q : SK) : VK := fun v H => wE C o m H (saK2 C n v ss m Q)
noncomputable def siK3 (C : CallW) (a v : V) (ss : Ss) (m : Loc) (Q : SK) : VK := fun k H => setItemW a k v H (ifK C ss m Q)
noncomputable abbrev siK2 (C : CallW) (i : X) (v : V) (ss : Ss) (m : Loc) (Q : SK) : VK := fun a H => wE C i m H (siK3 C a v ss m Q)
noncomputable abbrev siK1 (C : CallW) (o i : X) (ss : Ss) (m : Loc) (Q : SK) : VK := fun v H => wE C o m H (siK2 C i v ss m Q)
noncomputable def foK (C : CallW) (t : Tgt) (a ss : Ss) (m : Loc) (Q : SK) : IK := fun vs G H => ForR vs G m H (fun v m H J => ∃ m', bindT t v m = some m' ∧ wSs C a m' H (lp Q J)) fun m H => wSs C ss m H Q
noncomputable def viK (K : IK) : VK := fun v H => (∃ vs, seqOf H v = some vs ∧ K vs (fun H => seqOf H v = some vs) H) ∨ (∃ es, v = .dcI es ∧ es.length ≤ big ∧ K (es.map fun e => .int e.1) (fun z0 => True) H)
noncomputable def raK (K : IK) : VK := fun v H => ∃ n : Nat, v = .int n ∧ n ≤ big ∧ K ((List.range n).map fun (i : Nat) => .int (i : Int)) (fun z0 => True) H
noncomputable def reK (K : IK) : VK := fun v H => ∃ vs, v = .tup vs ∧ K vs.reverse (fun z0 => True) H
noncomputable def enK (K : IK) : VK := fun v H => ∃ vs, v = .lst vs ∧ K (enumFrom 0 vs) (fun z0 => True) H
noncomputable def bK2 (op : BOp) (a : V) (Q : VK) : VK := fun b H => binV op a b H Q
noncomputable abbrev bK1 (C : CallW) (op : BOp) (r : X) (m : Loc) (Q : VK) : VK := fun a H => wE C r m H (bK2 op a Q)
noncomputable def cK2 (op : COp) (a : V) (t f : HK) : VK := fun b H => cmpW op a b H t f
noncomputable abbrev cK1 (C : CallW) (op : COp) (r : X) (m : Loc) (t f : HK) : VK := fun a H => wE C r m H (cK2 op a t f)
noncomputable abbrev qB (b : Bool) (Q : VK) : HK := fun H => Q (.bool b) H
noncomputable abbrev eK (C : CallW) (x : X) (m : Loc) (Q : VK) : HK := fun H => wE C x m H Q
noncomputable abbrev tK (C : CallW) (x : X) (m : Loc) (t f : HK) : HK := fun H => wT C x m H t f
noncomputable def aK (n : String) (Q : VK) : VK := fun v H => ∃ c as w, instOf H v = some (c, as) ∧ n ∈ c.attrs ∧ as.lookup n = some w ∧ Q w H
noncomputable def sbK2 (a : V) (Q : VK) : VK := fun k H => ∃ v, SubV H a k v ∧ Q v H
noncomputable abbrev sbK1 (C : CallW) (i : X) (m : Loc) (Q : VK) : VK := fun a H => wE C i m H (sbK2 a Q)
noncomputable abbrev csK (v : V) (K : LK) : LK := fun vs H => K (v :: vs) H
noncomputable abbrev agK (C : CallW) (xs : Xs) (m : Loc) (K : LK) : VK := fun v H => wEs C xs m H (csK v K)
noncomputable def tpK (Q : VK) : LK := fun vs H => vs.length ≤ big ∧ Q (.tup vs) H
noncomputable def lsK (Q : VK) : LK := fun vs H => mkList vs H Q
noncomputable abbrev clK (C : CallW) (f : Fid) (Q : VK) : LK := fun vs H => C f vs H Q
noncomputable def nqK (a : Nat) (Q : VK) : VK := fun u H' => u = .none ∧ ∃ v K, Sub K H' ∧ VV H' K (.ref a) v ∧ Q v K
noncomputable def nwK (C : CallW) (c : Cid) (Q : VK) : LK := fun vs H => ∀ a, H a = none → C c.init (.ref a :: vs) (H.set a (.inst c [])) (nqK a Q)
noncomputable abbrev mfK (C : CallW) (f : Fid) (a : V) (Q : VK) : LK := fun vs H => C f (a :: vs) H Q
noncomputable def mbK (a : V) (n : String) (Q : VK) : LK := fun vs H => methW a n vs H Q
noncomputable def mtK (C : CallW) (n : String) (args : Xs) (m : Loc) (Q : VK) : VK := fun a H =>
  (∃ c as f, instOf H a = some (c, as) ∧ c.meth n = some f ∧ as.lookup n = none ∧ wEs C args m H (mfK C f a Q)) ∨ (HasMeth H a n ∧ wEs C args m H (mbK a n Q))
noncomputable def prK (p : Prim) (Q : VK) : LK := fun vs H => primW p vs H Q
noncomputable def coK (C : CallW) (elt : X) (t : Tgt) (m : Loc) (Q : VK) : IK := fun vs G H => CompR vs G H (fun v H K z0 => ∃ m', bindT t v m = some m' ∧ wE C elt m' H K) Q
noncomputable def ciK (C : CallW) (elt : X) (t : Tgt) (c : X) (m : Loc) (Q : VK) : IK := fun vs G H => CompR vs G H (fun v H K S => ∃ m', bindT t v m = some m' ∧ wT C c m' H (fun H => wE C elt m' H K) S) Q
noncomputable abbrev caK (I : List V → Hp → Prop) (acc : List V) : VK := fun w H => I (acc ++ [w]) H
noncomputable abbrev skK (I : List V → Hp → Prop) (acc : List V) : HK := fun H => I acc H
noncomputable def s1K2 (a : V) (Q : VK) : VK := fun k H =>
  (∃ s, a = .str s ∧ s.length = 1 ∧ k = .int 1 ∧ Q (.str s) H) ∨ ∃ vs i, lstOf H a = some vs ∧ k = .int i ∧ mkList (vs.take (clampTo i vs.length)) H Q
noncomputable abbrev s1K (C : CallW) (e : X) (m : Loc) (Q : VK) : VK := fun a H => wE C e m H (s1K2 a Q)
noncomputable def s2K2 (a : V) (Q : VK) : VK := fun k H => ∃ vs i, lstOf H a = some vs ∧ k = .int i ∧ mkList (vs.drop (clampTo i vs.length)) H Q
noncomputable abbrev s2K (C : CallW) (e : X) (m : Loc) (Q : VK) : VK := fun a H => wE C e m H (s2K2 a Q)
noncomputable def rvK (Q : VK) : VK := fun a H => (∃ vs, a = .tup vs ∧ Q (.tup vs.reverse) H) ∨ (∃ vs, lstOf H a = some vs ∧ mkList vs.reverse H Q)
noncomputable def ntK (Q : VK) : VK := fun v H => ∃ b, v = .bool b ∧ Q (.bool (!b)) H
noncomputable def anK (C : CallW) (r : X) (m : Loc) (Q : VK) : VK := fun v H => ∃ b, v = .bool b ∧ (b = true → wE C r m H Q) ∧ (b = false → Q (.bool false) H)
noncomputable def orK (C : CallW) (r : X) (m : Loc) (Q : VK) : VK := fun v H => ∃ b, v = .bool b ∧ (b = true → Q (.bool true) H) ∧ (b = false → wE C r m H Q)
noncomputable def attrOf (v : V) (n : String) : Option V := match v with
  | .obj c as => cond (c.attrs.elem n) (as.lookup n) Option.none
  | _ => Option.none
noncomputable def methOf (v : V) (n : String) : Option Fid := match v with
  | .obj c as => cond (as.lookup n).isNone (c.meth n) Option.none
  | _ => Option.none
noncomputable def whI (I : Nat → Loc → Hp → Prop) (n : Nat) : Loc → Hp → Prop := fun m H => ∃ n', n' < n ∧ I n' m H
section
variable {C : CallW} {m : Loc} {H : Hp} {Q : VK} {K : LK} {S : SK} {t f : HK} {ss sa sb : Ss} {x y z : X} {xs : Xs} {I : Loc → Hp → Prop} {KI : IK} {v a : V} {vs : List V} {i : Nat} {n : String} {g : Fid} {tg : Tgt} {it : It} {is : List Nat}
theorem q_bool {b} : wE C (.cst (.bool b)) m H Q = Q (.bool b) H := rfl
theorem q_int {b} : wE C (.cst (.int b)) m H Q = Q (.int b) H := rfl
theorem q_str {b} : wE C (.cst (.str b)) m H Q = Q (.str b) H := rfl
theorem q_loc : wE C (.loc i) m H Q = locW m i fun v => Q v H := rfl
theorem q_lt : wT C (.loc i) m H t f = locW m i fun v => boolQ t f v H := rfl
theorem q_l0 {P : V → Prop} : locW (some v :: m) 0 P = P v := rfl
theorem q_lS {P : V → Prop} {o} : locW (o :: m) (i + 1) P = locW m i P := rfl
theorem q_bin {op} : wE C (.bin op x y) m H Q = wE C x m H (bK1 C op y m Q) := rfl
theorem q_cmp {op} : wE C (.cmp op x y) m H Q = wE C x m H (cK1 C op y m (qB true Q) (qB false Q)) := rfl
theorem q_ite : wE C (.ite x y z) m H Q = wT C x m H (eK C y m Q) (eK C z m Q) := rfl
theorem q_and : wE C (.and x y) m H Q = wE C x m H (anK C y m Q) := rfl
theorem q_attr : wE C (.attr x n) m H Q = wE C x m H (aK n Q) := rfl
theorem q_sub : wE C (.sub x y) m H Q = wE C x m H (sbK1 C y m Q) := rfl
theorem q_tup : wE C (.tupD xs) m H Q = wEs C xs m H (tpK Q) := rfl
theorem q_lst : wE C (.lstD xs) m H Q = wEs C xs m H (lsK Q) := rfl
theorem q_esn : wEs C .nil m H K = K [] H := rfl
theorem q_esc : wEs C (.cons x xs) m H K = wE C x m H (agK C xs m K) := rfl
theorem q_call : wE C (.call g xs) m H Q = wEs C xs m H (clK C g Q) := rfl
theorem q_new {c} : wE C (.new c xs) m H Q = wEs C xs m H (nwK C c Q) := rfl
theorem q_meth : wE C (.meth x n xs) m H Q = wE C x m H (mtK C n xs m Q) := rfl
theorem q_prim {p} : wE C (.prim p xs) m H Q = wEs C xs m H (prK p Q) := rfl
theorem q_comp : wE C (.comp x tg it) m H Q = wI C it m H (coK C x tg m Q) := rfl
theorem q_compIf : wE C (.compIf x tg it y) m H Q = wI C it m H (ciK C x tg y m Q) := rfl
theorem q_slcTo : wE C (.slcTo x y) m H Q = wE C x m H (s1K C y m Q) := rfl
theorem q_slcFrom : wE C (.slcFrom x y) m H Q = wE C x m H (s2K C y m Q) := rfl
theorem q_val : wI C (.val x) m H KI = wE C x m H (viK KI) := rfl
theorem q_range : wI C (.range x) m H KI = wE C x m H (raK KI) := rfl
theorem q_revd : wI C (.revd x) m H KI = wE C x m H (reK KI) := rfl
theorem q_tand : wT C (.and x y) m H t f = wT C x m H (tK C y m t f) f := rfl
theorem q_tor : wT C (.or x y) m H t f = wT C x m H t (tK C y m t f) := rfl
theorem q_tcmp {op} : wT C (.cmp op x y) m H t f = wE C x m H (cK1 C op y m t f) := rfl
theorem q_nsq : wSs C .nil m H (sq C ss S) = wSs C ss m H S := rfl
theorem q_rsq : wSs C (.cons (.ret x) ss) m H (sq C sa S) = wSs C (.cons (.ret x) .nil) m H S := rfl
theorem q_rlp : wSs C (.cons (.ret x) ss) m H (lp S I) = wSs C (.cons (.ret x) .nil) m H S := rfl
theorem q_rrt : wSs C (.cons (.ret x) ss) m H (rt Q) = wE C x m H (rv Q) := rfl
theorem q_asg : wSs C (.cons (.asg i x) ss) m H S = wE C x m H (asK C i ss m S) := rfl
theorem q_asgT : wSs C (.cons (.asgT is x) ss) m H S = wE C x m H (atK C is ss m S) := rfl
theorem q_expr : wSs C (.cons (.exprS x) ss) m H S = wE C x m H (exK C ss m S) := rfl
theorem q_setA : wSs C (.cons (.setA y n x) ss) m H S = wE C x m H (saK1 C y n ss m S) := rfl
theorem q_setI : wSs C (.cons (.setI y z x) ss) m H S = wE C x m H (siK1 C y z ss m S) := rfl
theorem q_if : wSs C (.cons (.ifS x sa sb) ss) m H S = wT C x m H (ifK C sa m (sq C ss S)) (ifK C sb m (sq C ss S)) := rfl
theorem q_for : wSs C (.cons (.forS tg it sa) ss) m H S = wI C it m H (foK C tg sa ss m S) := rfl
theorem q_badd {i j} : bK2 .add (.int i) Q (.int j) H = Q (.int (i + j)) H := rfl
theorem q_bsub {i j} : bK2 .sub (.int i) Q (.int j) H = Q (.int (i - j)) H := rfl
theorem tp1 (h : Nat.ble vs.length big = true) (q : Q (.tup vs) H) : tpK Q vs H := ⟨Nat.le_of_ble_eq_true h, q⟩
theorem an_t (q : wE C y m H Q) : anK C y m Q (.bool true) H := ⟨_, rfl, fun z0 => q, nofun⟩
theorem a_obj {c as w} (h : n ∈ c.attrs) (e : as.lookup n = some w) (q : Q w H) : aK n Q (.obj c as) H := ⟨c, as, w, rfl, h, e, q⟩
theorem a_any {v u} (e : attrOf v n = some u) (q : Q u H) : aK n Q v H := by
  cases v with
  | obj c as =>
    simp only [attrOf] at e
    cases hb : c.attrs.elem n with
    | true => rw [hb] at e; exact a_obj (List.mem_of_elem_eq_true hb) e q
    | false => rw [hb] at e; cases e
  | _ => cases e
theorem a_ref {c as w} {r : Nat} (hr : H r = some (.inst c as)) (h : n ∈ c.attrs) (e : as.lookup n = some w) (q : Q w H) : aK n Q (.ref r) H := ⟨c, as, w, i_ref hr, h, e, q⟩
theorem bq {b} (h : b = true → t H) (g : b = false → f H) : boolQ t f (.bool b) H := ⟨b, rfl, h, g⟩
theorem bq_t (h : t H) : boolQ t f (.bool true) H := ⟨_, rfl, fun z0 => h, nofun⟩
theorem bq_f (h : f H) : boolQ t f (.bool false) H := ⟨_, rfl, nofun, fun z0 => h⟩
theorem bq_d {p : Prop} [Decidable p] (h : p → t H) (g : ¬ p → f H) : boolQ t f (.bool (decide p)) H := ⟨_, rfl, fun e => h (of_decide_eq_true e), fun e => g (of_decide_eq_false e)⟩
theorem at1 {m'} (h : bindL is vs m = some m') (q : wSs C ss m' H S) : atK C is ss m S (.tup vs) H := ⟨vs, m', rfl, h, q⟩
theorem sa2 {c as} {a : Nat} (h : H a = some (.inst c as)) (hn : n ∈ c.attrs) (hl : Nat.ble (as.length + 1) 100 = true) (q : wSs C ss m (H.set a (.inst c (putK n v as))) S) : saK2 C n v ss m S (.ref a) H := .mk h hn (Nat.le_of_ble_eq_true hl) q
theorem sa_new {c as} {a : Nat} (hn : n ∈ c.attrs) (hl : Nat.ble (as.length + 1) 100 = true) (q : wSs C ss m (H.set a (.inst c (putK n v as))) S) : saK2 C n v ss m S (.ref a) (H.set a (.inst c as)) :=
  sa2 (Hp.set_same _ _ _) hn hl (by rw [Hp.set_set]; exact q)
theorem s_while (I : Nat → Loc → Hp → Prop) {n : Nat} (h0 : I n m H)
    (h : ∀ n m H, I n m H → wT C x m H (ifK C sa m (lp S (whI I n))) (ifK C ss m S)) : wSs C (.cons (.whileS x sa) ss) m H S := WhileR.mk I n h0 h
theorem wh {I : Nat → Loc → Hp → Prop} {n n' : Nat} (h : n' < n) (i : I n' m H) : whI I n m H := ⟨n', h, i⟩
theorem keep (h : Q v H) : rv Q v H := ⟨v, H, Sub.rfl', .rfl, h⟩
theorem drop {G : Hp} {w} (s : Sub G H) (vv : VV H G v w) (h : Q w G) : rv Q v H := ⟨w, G, s, vv, h⟩
end
theorem wF_mk {f : Fid} {fn : Fn} {k : Nat} {as : List V} {H : Hp} {Q : VK} {m : Loc} (hf : prog f = some fn) (hs : fn.start as = some m) (h : wSs (wF prog k) fn.body m H (rt Q)) : wF prog (k + 1) f as H Q :=
  ⟨fn, m, hf, hs, h⟩
section
variable {C : CallW} {m : Loc} {H : Hp} {Q : VK} {t f : HK} {i j : Int}
theorem b_adds {s t} (h : s.length + t.length ≤ 1000) (q : Q (.str (s ++ t)) H) : bK2 .add (.str s) Q (.str t) H := AddR.str h q
theorem b_addl {a b : V} {vs ws} (ha : lstOf H a = some vs) (hb : lstOf H b = some ws) (q : mkList (vs ++ ws) H Q) : bK2 .add a Q b H := by
  cases a <;> first | exact AddR.lst ha hb q | cases ha
theorem b_mul (h : i.natAbs < 1000000000 ∨ j.natAbs < 1000000000) (q : Q (.int (i * j)) H) : bK2 .mul (.int i) Q (.int j) H := MulR.int h q
theorem b_rep {x : V} {n : Nat} (q : mkList (List.replicate n x) H Q) : bK2 .mul (.lst [x]) Q (.int (n : Int)) H := MulR.rep rfl (Int.natCast_nonneg n) q
theorem b_mod (h : 0 < j) (q : Q (.int (i % j)) H) : bK2 .mod (.int i) Q (.int j) H := ⟨h, q⟩
theorem b_div (h : 0 < j) (g : j < 1000000) (q : Q (.int (i / j)) H) : bK2 .fdiv (.int i) Q (.int j) H := ⟨h, g, q⟩
theorem b_pow (h : 0 ≤ i) (g : i < 1000000) (q : Q (.int (i ^ 5)) H) : bK2 .pow (.int i) Q (.int 5) H := ⟨⟨h, g, rfl⟩, q⟩
theorem b_shl {n : Nat} (h : n < 1000) (q : Q (.int ((2 ^ n : Nat) : Int)) H) : bK2 .shl (.int 1) Q (.int (n : Int)) H := by
  refine ⟨⟨rfl, Int.natCast_nonneg n, Int.ofNat_lt.2 h⟩, ?_⟩
  rw [Nat.one_shiftLeft]; exact q
theorem b_shr {a b : Nat} (h : b < 1000) (q : Q (.int ((a >>> b : Nat) : Int)) H) : bK2 .shr (.int (a : Int)) Q (.int (b : Int)) H :=
  ⟨⟨Int.natCast_nonneg a, Int.natCast_nonneg b, Int.ofNat_lt.2 h⟩, q⟩
theorem b_or {a b : Nat} (q : Q (.int ((a ||| b : Nat) : Int)) H) : bK2 .bor (.int (a : Int)) Q (.int (b : Int)) H := ⟨⟨Int.natCast_nonneg a, Int.natCast_nonneg b⟩, q⟩
theorem b_and1 {a : Nat} (q : Q (.int ((a &&& 1 : Nat) : Int)) H) : bK2 .band (.int (a : Int)) Q (.int 1) H := ⟨⟨Int.natCast_nonneg a, by decide⟩, q⟩
theorem b_shr1 {a : Nat} (q : Q (.int ((a >>> 1 : Nat) : Int)) H) : bK2 .shr (.int (a : Int)) Q (.int 1) H := ⟨⟨Int.natCast_nonneg a, by decide, by decide⟩, q⟩
theorem b_or0 {b : Nat} (q : Q (.int (b : Int)) H) : bK2 .bor (.int 0) Q (.int (b : Int)) H := by
  refine ⟨⟨by decide, Int.natCast_nonneg b⟩, ?_⟩
  have : ((0 : Int).toNat ||| (b : Int).toNat) = b := by simp
  rw [this]; exact q
theorem c_lt (h : i < j → t H) (g : ¬ i < j → f H) : cK2 .lt (.int i) t f (.int j) H := ⟨h, g⟩
theorem c_gt (h : j < i → t H) (g : ¬ j < i → f H) : cK2 .gt (.int i) t f (.int j) H := ⟨h, g⟩
theorem c_ge (h : j ≤ i → t H) (g : ¬ j ≤ i → f H) : cK2 .ge (.int i) t f (.int j) H := ⟨h, g⟩
theorem c_eq (h : i = j → t H) (g : i ≠ j → f H) : cK2 .eq (.int i) t f (.int j) H := ⟨_, .int i j, fun e => h (of_decide_eq_true e), fun e => g (of_decide_eq_false e)⟩
theorem c_ne (h : i ≠ j → t H) (g : i = j → f H) : cK2 .ne (.int i) t f (.int j) H := ⟨_, .int i j, fun e => h (of_decide_eq_false e), fun e => g (of_decide_eq_true e)⟩
theorem c_eqs {a b} (h : a = b → t H) (g : a ≠ b → f H) : cK2 .eq (.str a) t f (.str b) H := ⟨_, .str a b, fun e => h (of_decide_eq_true e), fun e => g (of_decide_eq_false e)⟩
theorem c_nes {a b} (h : a ≠ b → t H) (g : a = b → f H) : cK2 .ne (.str a) t f (.str b) H := ⟨_, .str a b, fun e => h (of_decide_eq_false e), fun e => g (of_decide_eq_true e)⟩
theorem c_eq0 {a b vs} (ha : lstOf H a = some vs) (hb : lstOf H b = some []) (h : vs = [] → t H) (g : vs ≠ [] → f H) : cK2 .eq a t f b H := by
  cases vs with
  | nil => exact ⟨_, .nil ha hb, fun z0 => h rfl, nofun⟩
  | cons v vs => exact ⟨_, .len ha hb (by simp), nofun, fun z0 => g nofun⟩
theorem c_ne0 {a b vs} (ha : lstOf H a = some vs) (hb : lstOf H b = some []) (h : vs ≠ [] → t H) (g : vs = [] → f H) : cK2 .ne a t f b H := by
  cases vs with
  | nil => exact ⟨_, .nil ha hb, nofun, fun z0 => g rfl⟩
  | cons v vs => exact ⟨_, .len ha hb (by simp), fun z0 => h nofun, nofun⟩
theorem c_in {a c P} (h : InV H a c P) (hp : P → t H) (hn : ¬ P → f H) : cK2 .isIn a t f c H := ⟨P, h, hp, hn⟩
theorem c_notIn {a c P} (h : InV H a c P) (hn : ¬ P → t H) (hp : P → f H) : cK2 .notIn a t f c H := ⟨P, h, hn, hp⟩
theorem frz {vs : List V} (h : vs.length ≤ big) (q : Q (.lst vs) H) : mkList vs H Q := ⟨h, .inl q⟩
theorem new {vs : List V} (h : vs.length ≤ big) (q : ∀ a, H a = Option.none → Q (.ref a) (H.set a (.list vs))) : mkList vs H Q := ⟨h, .inr q⟩
theorem ls_frz {vs : List V} (h : Nat.ble vs.length big = true) (q : Q (.lst vs) H) : lsK Q vs H := ⟨Nat.le_of_ble_eq_true h, .inl q⟩
theorem ls_new {vs : List V} (h : Nat.ble vs.length big = true) (q : ∀ a, H a = Option.none → Q (.ref a) (H.set a (.list vs))) : lsK Q vs H := ⟨Nat.le_of_ble_eq_true h, .inr q⟩
theorem dc_i (q : ∀ a, H a = Option.none → Q (.ref a) (H.set a (.dcI []))) : wE C .dctD m H Q := .inl q
theorem dc_t (q : ∀ a, H a = Option.none → Q (.ref a) (H.set a (.dcT []))) : wE C .dctD m H Q := .inr q
theorem idx_nat {n : Nat} {α} {vs : List α} {v} (h : vs[n]? = some v) : idxOf (n : Int) vs.length = some n := by
  have := (List.getElem?_eq_some_iff.1 h).1
  simp [idxOf, this]
theorem sb_s {a vs v} {n : Nat} (h : seqOf H a = some vs) (hv : vs[n]? = some v) (q : Q v H) : sbK2 a Q (.int (n : Int)) H := ⟨v, .seq h (idx_nat hv) hv, q⟩
theorem sb_l {vs v} {n : Nat} (hv : vs[n]? = some v) (q : Q v H) : sbK2 (.lst vs) Q (.int (n : Int)) H := sb_s rfl hv q
theorem sb_t {vs v} {n : Nat} (hv : vs[n]? = some v) (q : Q v H) : sbK2 (.tup vs) Q (.int (n : Int)) H := sb_s rfl hv q
theorem sb_r {r : Nat} {vs v} {n : Nat} (h : H r = some (.list vs)) (hv : vs[n]? = some v) (q : Q v H) : sbK2 (.ref r) Q (.int (n : Int)) H := sb_s (s_ref h) hv q
theorem sb_l0 {vs v} (q : Q v H) : sbK2 (.lst (v :: vs)) Q (.int 0) H := sb_l (n := 0) rfl q
theorem sb_t0 {vs v} (q : Q v H) : sbK2 (.tup (v :: vs)) Q (.int 0) H := sb_t (n := 0) rfl q
theorem sb_t1 {vs v w} (q : Q w H) : sbK2 (.tup (v :: w :: vs)) Q (.int 1) H := sb_t (n := 1) rfl q
theorem sb_last {a vs v} (h : seqOf H a = some (vs ++ [v])) (q : Q v H) : sbK2 a Q (.int (-1)) H :=
  ⟨v, .seq h (k := vs.length) (by simp [idxOf]) (by simp), q⟩
theorem si_list {ss S a} {k : Nat} {vs v} (h : H a = some (.list vs)) (hk : k < vs.length) (q : wSs C ss m (H.set a (.list (vs.set k v))) S) : siK3 C (.ref a) v ss m S (.int (k : Int)) H := SetI.list h hk q
theorem si_dcI {ss S a} {k : Int} {es v} (h : H a = some (.dcI es)) (hk : es.length < big) (q : wSs C ss m (H.set a (.dcI (putK k v es))) S) : siK3 C (.ref a) v ss m S (.int k) H := SetI.dcI h hk q
theorem si_dcT {ss S a} {k : List Int} {es v} (h : H a = some (.dcT es)) (hk : es.length < big) (q : wSs C ss m (H.set a (.dcT (putK k v es))) S) : siK3 C (.ref a) v ss m S (.tup (k.map V.int)) H := SetI.dcT h hk q
theorem mt_app {xs} {r : Nat} {vs} (h : H r = some (.list vs)) (q : wEs C xs m H (mbK (.ref r) "append" Q)) : mtK C "append" xs m Q (.ref r) H := .inr ⟨.lst (by decide) (l_ref h), q⟩
theorem mb_app {r : Nat} {vs v} (h : H r = some (.list vs)) (l : vs.length < big) (q : Q .none (H.set r (.list (vs ++ [v])))) : mbK (.ref r) "append" Q [v] H := MethW.append h l q
theorem mt_pop {r : Nat} {vs v} (h : H r = some (.list (vs ++ [v]))) (q : Q v (H.set r (.list vs))) : mtK C "pop" .nil m Q (.ref r) H := .inr ⟨.lst (by decide) (l_ref h), MethW.pop h q⟩
theorem mt_obj {xs n c as g} (h1 : c.meth n = some g) (h2 : as.lookup n = none) (q : wEs C xs m H (mfK C g (.obj c as) Q)) : mtK C n xs m Q (.obj c as) H := .inl ⟨c, as, g, rfl, h1, h2, q⟩
theorem m_any {xs n v g} (e : methOf v n = some g) (q : wEs C xs m H (mfK C g v Q)) : mtK C n xs m Q v H := by
  cases v with
  | obj c as =>
    simp only [methOf] at e
    cases hb : as.lookup n with
    | none => rw [hb] at e; exact mt_obj e hb q
    | some u => rw [hb] at e; cases e
  | _ => cases e
theorem mt_ref {xs n c as g} {r : Nat} (h : H r = some (.inst c as)) (h1 : c.meth n = some g) (h2 : as.lookup n = none) (q : wEs C xs m H (mfK C g (.ref r) Q)) : mtK C n xs m Q (.ref r) H :=
  .inl ⟨c, as, g, i_ref h, h1, h2, q⟩
theorem p_len {a vs} (h : seqOf H a = some vs) (q : Q (.int (vs.length : Nat)) H) : prK .len Q [a] H := PrimW.len h q
theorem p_list {a vs} (h : seqOf H a = some vs) (q : mkList vs H Q) : prK .list Q [a] H := PrimW.list h q
theorem p_tuple {a vs} (h : lstOf H a = some vs) (q : Q (.tup vs) H) : prK .tuple Q [a] H := PrimW.tuple h q
theorem p_str (h : 0 ≤ i) (g : i < 1000000) (q : Q (.str (toString i)) H) : prK .str Q [.int i] H := PrimW.str h g q
theorem p_ints {a} {l : List Int} (h : seqOf H a = some (l.map .int)) (hl : l.length < 64) (q : ∀ l' : List Int, l'.Perm l → l'.Pairwise (· ≤ ·) → mkList (l'.map .int) H Q) : prK .sorted Q [a] H :=
  PrimW.sorted (.ints h hl) fun _ ⟨l', e, h1, h2⟩ => e ▸ q l' h1 h2
theorem for_of {tg v vs} {sa ss : Ss} {S : SK} (I : Nat → Loc → Hp → Prop) (h : seqOf H v = some vs) (h0 : I 0 m H)
    (hs : ∀ k u m H, vs[k]? = some u → I k m H → seqOf H v = some vs ∧ ∃ m', bindT tg u m = some m' ∧ wSs C sa m' H (lp S (I (k + 1))))
    (he : ∀ m H, I vs.length m H → seqOf H v = some vs ∧ wSs C ss m H S) : viK (foK C tg sa ss m S) v H := .inl ⟨vs, h, .mk I h0 hs he⟩
theorem for_l {i vs} {sa ss : Ss} {S : SK} (I : Nat → Loc → Hp → Prop) (h0 : I 0 m H)
    (hs : ∀ k u m H, vs[k]? = some u → I k m H → wSs C sa (m.set i (some u)) H (lp S (I (k + 1)))) (he : ∀ m H, I vs.length m H → wSs C ss m H S) : viK (foK C (.one i) sa ss m S) (.lst vs) H :=
  .inl ⟨vs, rfl, .mk I h0 (fun k u m H e i => ⟨rfl, _, rfl, hs k u m H e i⟩) fun m H i => ⟨rfl, he m H i⟩⟩
theorem for_t {i vs} {sa ss : Ss} {S : SK} (I : Nat → Loc → Hp → Prop) (h0 : I 0 m H)
    (hs : ∀ k u m H, vs[k]? = some u → I k m H → wSs C sa (m.set i (some u)) H (lp S (I (k + 1)))) (he : ∀ m H, I vs.length m H → wSs C ss m H S) : viK (foK C (.one i) sa ss m S) (.tup vs) H :=
  .inl ⟨vs, rfl, .mk I h0 (fun k u m H e i => ⟨rfl, _, rfl, hs k u m H e i⟩) fun m H i => ⟨rfl, he m H i⟩⟩
theorem range_of {n i : Nat} {v : V} (h : ((List.range n).map fun (i : Nat) => V.int (i : Int))[i]? = some v) : i < n ∧ v = .int i := by
  simp only [List.getElem?_map, Option.map_eq_some_iff] at h
  obtain ⟨s, hs, rfl⟩ := h
  have := List.getElem?_eq_some_iff.1 hs
  obtain ⟨h1, h2⟩ := this
  simp at h1 h2
  exact ⟨h1, by rw [h2]⟩
theorem for_r {i} {n : Nat} {sa ss : Ss} {S : SK} (I : Nat → Loc → Hp → Prop) (hn : n ≤ big) (h0 : I 0 m H)
    (hs : ∀ k m H, k < n → I k m H → wSs C sa (m.set i (some (.int (k : Int)))) H (lp S (I (k + 1)))) (he : ∀ m H, I n m H → wSs C ss m H S) : raK (foK C (.one i) sa ss m S) (.int (n : Int)) H :=
  ⟨n, rfl, hn, I, h0, fun k u m H e i => by
    obtain ⟨h1, rfl⟩ := range_of e
    exact ⟨True.intro, _, rfl, hs k m H h1 i⟩, fun m H i => ⟨True.intro, he m H (by simpa using i)⟩⟩
theorem for_rev {i vs} {sa ss : Ss} {S : SK} (I : Nat → Loc → Hp → Prop) (h0 : I 0 m H)
    (hs : ∀ k u m H, vs.reverse[k]? = some u → I k m H → wSs C sa (m.set i (some u)) H (lp S (I (k + 1)))) (he : ∀ m H, I vs.length m H → wSs C ss m H S) : reK (foK C (.one i) sa ss m S) (.tup vs) H :=
  ⟨vs, rfl, I, h0, fun k u m H e i => ⟨True.intro, _, rfl, hs k u m H e i⟩, fun m H i => ⟨True.intro, he m H (by simpa using i)⟩⟩
theorem co_l {i vs elt} (I : Nat → List V → Hp → Prop) (h0 : I 0 [] H)
    (hs : ∀ k u acc H, vs[k]? = some u → I k acc H → wE C elt (m.set i (some u)) H (caK (I (k + 1)) acc))
    (hb : vs.length ≤ big) (he : ∀ acc H, I vs.length acc H → Q (.lst acc) H) : viK (coK C elt (.one i) m Q) (.lst vs) H :=
  .inl ⟨vs, rfl, I, h0, fun k u acc H e i => ⟨rfl, _, rfl, hs k u acc H e i⟩, fun acc H i => ⟨rfl, hb, .inl (he acc H i)⟩⟩
theorem co_t {i vs elt} (I : Nat → List V → Hp → Prop) (h0 : I 0 [] H)
    (hs : ∀ k u acc H, vs[k]? = some u → I k acc H → wE C elt (m.set i (some u)) H (caK (I (k + 1)) acc))
    (hb : vs.length ≤ big) (he : ∀ acc H, I vs.length acc H → Q (.lst acc) H) : viK (coK C elt (.one i) m Q) (.tup vs) H :=
  .inl ⟨vs, rfl, I, h0, fun k u acc H e i => ⟨rfl, _, rfl, hs k u acc H e i⟩, fun acc H i => ⟨rfl, hb, .inl (he acc H i)⟩⟩
theorem co_r {i elt} {n : Nat} (I : Nat → List V → Hp → Prop) (h0 : I 0 [] H)
    (hs : ∀ k acc H, k < n → I k acc H → wE C elt (m.set i (some (.int (k : Int)))) H (caK (I (k + 1)) acc))
    (hb : n ≤ big) (he : ∀ acc H, I n acc H → Q (.lst acc) H) : raK (coK C elt (.one i) m Q) (.int (n : Int)) H :=
  ⟨n, rfl, hb, I, h0, fun k u acc H e i => by
    obtain ⟨h1, rfl⟩ := range_of e
    exact ⟨True.intro, _, rfl, hs k acc H h1 i⟩, fun acc H i => by simp only [List.length_map, List.length_range] at i ⊢; exact ⟨True.intro, hb, .inl (he acc H i)⟩⟩
theorem ci_l {i vs elt c} (I : Nat → List V → Hp → Prop) (h0 : I 0 [] H)
    (hs : ∀ k u acc H, vs[k]? = some u → I k acc H → wT C c (m.set i (some u)) H (eK C elt (m.set i (some u)) (caK (I (k + 1)) acc)) (skK (I (k + 1)) acc))
    (hb : vs.length ≤ big) (he : ∀ acc H, I vs.length acc H → Q (.lst acc) H) : viK (ciK C elt (.one i) c m Q) (.lst vs) H :=
  .inl ⟨vs, rfl, I, h0, fun k u acc H e i => ⟨rfl, _, rfl, hs k u acc H e i⟩, fun acc H i => ⟨rfl, hb, .inl (he acc H i)⟩⟩
theorem enum_of {vs : List V} {k : Nat} {u : V} (h : (enumFrom 0 vs)[k]? = some u) : ∃ v, vs[k]? = some v ∧ u = .tup [.int (k : Int), v] := by
  rw [enum_get] at h
  obtain ⟨v, hO⟩ := Option.map_eq_some_iff.1 h; have h1 := hO.1; have h2 := hO.2; clear hO
  rw [Nat.zero_add] at h2
  exact ⟨v, h1, h2.symm⟩
theorem ci_e {tg vs elt c} (mm : Nat → V → Loc) (ht : ∀ (k : Nat) u, vs[k]? = some u → bindT tg (.tup [.int (k : Int), u]) m = some (mm k u)) (I : Nat → List V → Hp → Prop) (h0 : I 0 [] H)
    (hs : ∀ (k : Nat) u acc H, vs[k]? = some u → I k acc H → wT C c (mm k u) H (eK C elt (mm k u) (caK (I (k + 1)) acc)) (skK (I (k + 1)) acc))
    (hb : vs.length ≤ big) (he : ∀ acc H, I vs.length acc H → Q (.lst acc) H) : enK (ciK C elt tg c m Q) (.lst vs) H :=
  ⟨vs, rfl, I, h0, fun k u acc H e i => let ⟨v, e1, e2⟩ := enum_of e; ⟨True.intro, _, e2 ▸ ht k v e1, hs k v acc H e1 i⟩, fun acc H i => by rw [enum_len] at i ⊢; exact ⟨True.intro, hb, .inl (he acc H i)⟩⟩
theorem co_e {tg vs elt} (mm : Nat → V → Loc) (ht : ∀ (k : Nat) u, vs[k]? = some u → bindT tg (.tup [.int (k : Int), u]) m = some (mm k u)) (I : Nat → List V → Hp → Prop) (h0 : I 0 [] H)
    (hs : ∀ k u acc H, vs[k]? = some u → I k acc H → wE C elt (mm k u) H (caK (I (k + 1)) acc))
    (hb : vs.length ≤ big) (he : ∀ acc H, I vs.length acc H → Q (.lst acc) H) : enK (coK C elt tg m Q) (.lst vs) H :=
  ⟨vs, rfl, I, h0, fun k u acc H e i => let ⟨v, e1, e2⟩ := enum_of e; ⟨True.intro, _, e2 ▸ ht k v e1, hs k v acc H e1 i⟩, fun acc H i => by rw [enum_len] at i ⊢; exact ⟨True.intro, hb, .inl (he acc H i)⟩⟩
theorem p_dcT {a es} (h : dcTOf H a = some es) (hl : es.length < 64) (h2 : ∀ e ∈ es, e.1.length = 2) (q : ∀ l' : List (List Int), l'.length = es.length → (∀ k ∈ l', k ∈ es.map (·.1)) → mkList (l'.map fun k => V.tup (k.map V.int)) H Q) : prK .sorted Q [a] H :=
  PrimW.sorted (.dcT h hl h2) fun _ ⟨l', e, h1, h3⟩ => e ▸ q l' h1 h3
theorem p_dcI {a es} (h : dcIOf H a = some es) (hl : es.length < 64) (q : ∀ l' : List Int, l'.Perm (es.map (·.1)) → l'.Pairwise (· ≤ ·) → mkList (l'.map .int) H Q) : prK .sorted Q [a] H :=
  PrimW.sorted (.dcI h hl) fun _ ⟨l', e, h1, h2⟩ => e ▸ q l' h1 h2
end
theorem nats_set (l : List Nat) (k v : Nat) : (nats l).set k (.int v) = nats (l.set k v) := by simp [nats, List.map_set]
theorem nats_of {l : List Nat} {i : Nat} {v : V} (h : (nats l)[i]? = some v) : ∃ s : Nat, l[i]? = some s ∧ v = .int s := by
  simp only [nats, List.getElem?_map, Option.map_eq_some_iff] at h
  obtain ⟨s, hs, rfl⟩ := h
  exact ⟨s, hs, rfl⟩
theorem nats_get {l : List Nat} {i s : Nat} (h : l[i]? = some s) : (nats l)[i]? = some (.int s) := by simp [nats, h]
theorem rep_get {n x : Nat} {v : V} (h : x < n) : (List.replicate n v)[x]? = some v := by simp [h]
set_option hygiene false in
local macro_rules | `(tactic| trivial) => `(tactic| repeat (first | dsimp only [q_bool, q_int, q_str, q_loc, q_lt, q_l0, q_lS, q_bin, q_cmp, q_ite, q_and, q_attr, q_sub, q_tup, q_lst, q_esn, q_esc, q_call, q_new, q_meth, q_prim, q_comp, q_compIf, q_slcTo, q_val, q_range, q_revd, q_tand, q_tor, q_tcmp, q_nsq, q_rsq, q_rlp, q_rrt, q_asg, q_asgT, q_expr, q_setA, q_setI, q_if, q_for, q_badd, q_bsub, List.set_cons_zero, List.set_cons_succ] | with_reducible (first | refine b_and1 ?_ | refine b_shr1 ?_ | refine b_or ?_ | refine sb_l0 ?_ | refine sb_t0 ?_ | refine sb_t1 ?_ | refine bq_t ?_ | refine bq_f ?_) | refine a_any rfl ?_ | refine m_any rfl ?_ | ((with_reducible refine tp1 ?_ ?_); focus (exact rfl))))
inductive IBits (H0 : Hp) (a mask N : Nat) (n : Nat) : Loc → Hp → Prop
  | mk {H} (l : List Nat) (i : Nat) (hi : i ≤ N) (hn : n = N - i) (hl : H a = some (.list (nats l))) (hs : Sub H0 H) (hx : ∀ x, x ∈ l ↔ x < i ∧ mask.testBit x = true) (hp : l.Pairwise (· < ·)) (hk : l.length ≤ i) :
    IBits H0 a mask N n [some (.int mask), some (.ref a), some (.int (i : Int)), some (.int ((mask >>> i : Nat) : Int))] H
theorem shr_next (m i : Nat) : m >>> i >>> 1 = m >>> (i + 1) := by rw [← Nat.shiftRight_add]
theorem bit_and (m i : Nat) : (m >>> i) &&& 1 = 1 ↔ m.testBit i = true := by
  rw [Nat.testBit, Nat.and_comm (m >>> i) 1, bne_iff_ne]
  have := Nat.and_one_is_mod (m >>> i)
  rw [Nat.and_comm] at this
  omega
theorem shr_zero {m N i : Nat} (hm : m < 2 ^ N) (h : N ≤ i) : m >>> i = 0 := by
  rw [Nat.shiftRight_eq_div_pow]
  exact Nat.div_eq_of_lt (Nat.lt_of_lt_of_le hm (Nat.pow_le_pow_right (by exact li0 [] ⟨0, .n 1, .n 2⟩ rfl) h))
theorem bits_end {m i x : Nat} (h : m >>> i = 0) (hx : m.testBit x = true) : x < i := by
  apply Nat.lt_of_not_le; intro hge
  have : m.testBit x = (m >>> i).testBit (x - i) := by rw [Nat.testBit_shiftRight]; congr 1; exact Nat.le_antisymm (li1 [_, _, _] ⟨0, .v 0, .a (.v 1) (.v 2)⟩ ⟨0, .v 0, .a (.v 2) (.v 1)⟩ rfl (sb1 _ _)) (li1 [_, _, _] ⟨0, .a (.v 0) (.v 1), .v 2⟩ ⟨0, .a (.v 1) (.v 0), .v 2⟩ rfl (sb3 (hge)))
  rw [this, h] at hx; simp at hx
theorem bits_in {m i : Nat} {l : List Nat} (hx : ∀ x, x ∈ l ↔ x < i ∧ m.testBit x = true) (h : m.testBit i = true) : ∀ x, x ∈ l ++ [i] ↔ x < i + 1 ∧ m.testBit x = true := by
  intro x; rw [List.mem_append, hx, List.mem_singleton]
  constructor
  · rintro (h | rfl)
    · exact ⟨by exact li1 [_, _] ⟨0, .a (.v 0) (.n 1), .a (.v 1) (.n 1)⟩ ⟨0, .a (.v 0) (.n 1), .v 1⟩ rfl h.1, h.2⟩
    · exact ⟨by exact li0 [_] ⟨0, .a (.v 0) (.n 1), .a (.v 0) (.n 1)⟩ rfl, h⟩
  · rintro ⟨h1, h2⟩
    rcases Nat.lt_succ_iff_lt_or_eq.1 h1 with h | rfl
    · exact .inl ⟨h, h2⟩
    · exact .inr rfl
theorem bits_out {m i : Nat} {l : List Nat} (hx : ∀ x, x ∈ l ↔ x < i ∧ m.testBit x = true) (h : ¬ m.testBit i = true) : ∀ x, x ∈ l ↔ x < i + 1 ∧ m.testBit x = true := by
  intro x; rw [hx]
  constructor
  · rintro ⟨h1, h2⟩; exact ⟨by exact li1 [_, _] ⟨0, .a (.v 0) (.n 1), .a (.v 1) (.n 1)⟩ ⟨0, .a (.v 0) (.n 1), .v 1⟩ rfl h1, h2⟩
  · rintro ⟨h1, h2⟩
    rcases Nat.lt_succ_iff_lt_or_eq.1 h1 with h | rfl
    · exact ⟨h, h2⟩
    · exact absurd h2 h
theorem bits_spec {k : Nat} {H0 : Hp} (mask N : Nat) {Q : VK} (hm : mask < 2 ^ N) (hN : N ≤ 900)
    (q : ∀ l : List Nat, (∀ x, x ∈ l ↔ mask.testBit x = true) → l.Pairwise (· < ·) → l.length ≤ N → Q (.lst (nats l)) H0) :
    wF prog (k + 1) .bits [.int mask] H0 Q := by
  refine wF_mk (m := [some (.int mask), none, none, none]) rfl rfl ?_
  unfold ir_bits
  trivial
  refine ls_new rfl fun a ha => ?_
  trivial
  refine s_while (IBits H0 a mask N) (n := N) (.mk [] 0 (Nat.zero_le _) rfl (Hp.set_same _ _ _) (.new ha _) (by simp) .nil (Nat.le_refl _)) ?_
  rintro n _ H ⟨l, i, hi, rfl, hl, hs, hx, hp, hk⟩
  trivial
  refine c_gt (fun h => ?_) fun h => ?_
  · have hi2 : i < N := Nat.lt_of_not_le fun h' => by rw [shr_zero hm h'] at h; exact Int.lt_irrefl _ h
    trivial
    refine c_eq (fun e => ?_) fun e => ?_
    · trivial
      refine mt_app hl ?_
      trivial
      refine mb_app hl (by simp [big]; exact li3 [_, _, _] ⟨0, .a (.v 0) (.n 1), .n 16000000⟩ ⟨0, .v 1, .n 900⟩ ⟨0, .v 2, .v 1⟩ ⟨0, .v 0, .v 2⟩ rfl hN hi hk) ?_
      trivial
      rw [shr_next]
      exact wh (by exact li2 [_, _, _, _] ⟨0, .a (.v 0) (.n 1), .v 1⟩ ⟨0, .a (.v 0) (.a (.v 2) (.n 1)), .v 3⟩ ⟨0, .v 3, .a (.v 1) (.v 2)⟩ rfl (sb3 (hi2)) (sb1 _ _)) (.mk (l ++ [i]) (i + 1) hi2 rfl ((Hp.set_same _ _ _).trans (by simp [nats])) (hs.set ha _) (bits_in hx ((bit_and _ _).1 (Int.ofNat.inj e))) (List.pairwise_append.2 ⟨hp, List.pairwise_singleton _ _, fun x hx' y hy => List.mem_singleton.1 hy ▸ ((hx x).1 hx').1⟩) (by simp; exact hk))
    · trivial
      rw [shr_next]
      exact wh (by exact li2 [_, _, _, _] ⟨0, .a (.v 0) (.n 1), .v 1⟩ ⟨0, .a (.v 0) (.a (.v 2) (.n 1)), .v 3⟩ ⟨0, .v 3, .a (.v 1) (.v 2)⟩ rfl (sb3 (hi2)) (sb1 _ _)) (.mk l (i + 1) hi2 rfl hl hs (bits_out hx fun h => e (congrArg Int.ofNat ((bit_and _ _).2 h))) hp (by exact li1 [_, _] ⟨0, .v 0, .a (.v 1) (.n 1)⟩ ⟨0, .v 0, .v 1⟩ rfl hk))
  · trivial
    have h0 : mask >>> i = 0 := Nat.eq_zero_of_not_pos fun hp' => h (Int.ofNat_lt.2 hp')
    exact drop hs (.fl hl ha) (q l (fun x => (hx x).trans ⟨fun h => h.2, fun h => ⟨bits_end h0 h, h⟩⟩) hp (Nat.le_trans hk hi))
structure Gr where
  names : List String
  tc : Nat
  rules : List (Nat × List Nat)
  start : Nat
noncomputable def lastT (tc : Nat) (r : List Nat) : Int := r.foldl (fun acc s => if s < tc then (s : Int) else acc) (-1)
noncomputable def ruleV (tc i : Nat) (r : Nat × List Nat) : V :=
  .obj .Rule [("number", .int i), ("left", .int r.1), ("right", .tup (nats r.2)), ("level_of", .int (lastT tc r.2)), ("action", .none), ("line", .int 0), ("before", .int 0)]
noncomputable def its (rs : List (Nat × List Nat)) : List (Nat × Nat) := (rs.zipIdx.map fun p => (List.range (p.1.2.length + 1)).map fun d => (p.2, d)).flatten
noncomputable def offs (rs : List (Nat × List Nat)) (i : Nat) : Nat := (its (rs.take i)).length
noncomputable def byLeft (rs : List (Nat × List Nat)) (x : Nat) : List Nat := (rs.zipIdx.filter fun p => p.1.1 == x).map (·.2)
noncomputable def rulesV (tc : Nat) (rs : List (Nat × List Nat)) : List V := rs.zipIdx.map fun p => ruleV tc p.2 p.1
noncomputable def Gr.nsym (g : Gr) : Nat := g.names.length
noncomputable def Gr.its (g : Gr) : List (Nat × Nat) := Mine.Internal.its g.rules
noncomputable def Gr.off (g : Gr) (i : Nat) : Nat := offs g.rules i
noncomputable def gV (g : Gr) : V :=
  .obj .Grammar [("names", .lst (txV g.names)), ("terminal_count", .int g.tc), ("rules", .lst (rulesV g.tc g.rules)), ("levels", .dcI []), ("expect", .none),
    ("start", .int g.start), ("by_left", .lst ((List.range g.nsym).map fun x => .lst (nats (byLeft g.rules x)))), ("offsets", .lst (nats ((List.range g.rules.length).map g.off))),
    ("owners", .lst (nats (g.its.map (·.1)))), ("item_count", .int g.its.length)]
theorem its_snoc (rs : List (Nat × List Nat)) (r) : its (rs ++ [r]) = its rs ++ (List.range (r.2.length + 1)).map fun d => (rs.length, d) := by
  simp [its, List.zipIdx_append]
theorem byLeft_snoc (rs : List (Nat × List Nat)) (r x) : byLeft (rs ++ [r]) x = byLeft rs x ++ (if r.1 = x then [rs.length] else []) := by
  simp only [byLeft, List.zipIdx_append, List.filter_append, List.map_append]
  congr 1
  by_cases h : r.1 = x
  · simp [h]
  · simp [h]
theorem rulesV_snoc (tc) (rs : List (Nat × List Nat)) (r) : rulesV tc (rs ++ [r]) = rulesV tc rs ++ [ruleV tc rs.length r] := by
  simp [rulesV, List.zipIdx_append]
theorem rulesV_get {tc} {rs : List (Nat × List Nat)} {i r} (h : rs[i]? = some r) : (rulesV tc rs)[i]? = some (ruleV tc i r) := by
  simp [rulesV, h]
theorem mem_byLeft {rs : List (Nat × List Nat)} {x i} : i ∈ byLeft rs x ↔ ∃ w, rs[i]? = some (x, w) := by
  simp only [byLeft, List.mem_map, List.mem_filter, beq_iff_eq]
  constructor
  · rintro ⟨⟨⟨a, w⟩, j⟩, ⟨h1, h2⟩, rfl⟩
    have := List.mem_zipIdx_iff_getElem?.1 h1
    cases h2; exact ⟨w, this⟩
  · rintro ⟨w, h⟩
    exact ⟨((x, w), i), ⟨List.mem_zipIdx_iff_getElem?.2 h, rfl⟩, rfl⟩
theorem byLeft_nodup (rs : List (Nat × List Nat)) (x) : (byLeft rs x).Nodup := by
  have : ((rs.zipIdx).map (·.2)).Nodup := by
    rw [List.zipIdx_map_snd]; exact List.nodup_range'
  exact List.Nodup.sublist (List.Sublist.map _ (List.filter_sublist)) this
theorem its_app (rs ss : List (Nat × List Nat)) : ∃ t, its (rs ++ ss) = its rs ++ t := by
  simp [its, List.zipIdx_append]
theorem its_get {rs : List (Nat × List Nat)} {i d : Nat} {l w} (h : rs[i]? = some (l, w)) (hd : d ≤ w.length) : (its rs)[offs rs i + d]? = some (i, d) := by
  have hi := (List.getElem?_eq_some_iff.1 h).1
  have e : rs = (rs.take i ++ [(l, w)]) ++ rs.drop (i + 1) := by
    have : rs.drop i = (l, w) :: rs.drop (i + 1) := by
      rw [List.drop_eq_getElem_cons hi]; congr 1; exact (List.getElem?_eq_some_iff.1 h).2
    rw [List.append_assoc, List.singleton_append, ← this, List.take_append_drop]
  obtain ⟨t, ht⟩ := its_app (rs.take i ++ [(l, w)]) (rs.drop (i + 1))
  rw [← e, its_snoc] at ht
  rw [ht, List.append_assoc, offs, List.getElem?_append_right (by exact li0 [_, _] ⟨0, .v 0, .a (.v 0) (.v 1)⟩ rfl), List.getElem?_append_left (by simp; exact li1 [_, _] ⟨0, .a (.v 0) (.n 1), .a (.v 1) (.n 1)⟩ ⟨0, .v 0, .v 1⟩ rfl hd)]
  have hm : min i rs.length = i := by exact Nat.min_eq_left (li1 [_, _] ⟨0, .v 0, .v 1⟩ ⟨0, .a (.v 0) (.n 1), .v 1⟩ rfl hi)
  simp [List.getElem?_range (show d < w.length + 1 by exact li1 [_, _] ⟨0, .a (.v 0) (.n 1), .a (.v 1) (.n 1)⟩ ⟨0, .v 0, .v 1⟩ rfl hd), hm]
theorem snoc_ind {α} {P : List α → Prop} (h0 : P []) (hs : ∀ l a, P l → P (l ++ [a])) (l : List α) : P l := by
  rw [← List.reverse_reverse l]
  induction l.reverse with
  | nil => exact h0
  | cons a t ih => rw [List.reverse_cons]; exact hs _ _ ih
theorem its_of {rs : List (Nat × List Nat)} : ∀ {x i d : Nat}, (its rs)[x]? = some (i, d) → ∃ l w, rs[i]? = some (l, w) ∧ d ≤ w.length ∧ x = offs rs i + d := by
  induction rs using snoc_ind with
  | h0 => intro x i d h; simp [its] at h
  | hs rs r ih =>
    intro x i d h
    rw [its_snoc] at h
    by_cases hx : x < (its rs).length
    · rw [List.getElem?_append_left hx] at h
      obtain ⟨l, w, hO⟩ := ih h; have h1 := hO.1; have h2 := hO.2.1; have h3 := hO.2.2; clear hO
      have hi := (List.getElem?_eq_some_iff.1 h1).1
      refine ⟨l, w, by rw [List.getElem?_append_left hi]; exact h1, h2, ?_⟩
      rw [h3, offs, offs, List.take_append_of_le_length (by exact li1 [_, _] ⟨0, .v 0, .v 1⟩ ⟨0, .a (.v 0) (.n 1), .v 1⟩ rfl hi)]
    · rw [List.getElem?_append_right (by exact (Nat.le_of_not_lt hx))] at h
      simp only [List.getElem?_map, Option.map_eq_some_iff] at h
      obtain ⟨a, hO⟩ := h; have ha := hO.1; have he := hO.2; clear hO
      have := (List.getElem?_eq_some_iff.1 ha)
      obtain ⟨h1, h2⟩ := this
      simp only [List.length_range, List.getElem_range] at h1 h2
      cases he
      refine ⟨r.1, r.2, by simp, by exact li2 [_, _, _] ⟨0, .v 0, .v 1⟩ ⟨0, .a (.v 2) (.n 1), .a (.v 1) (.n 1)⟩ ⟨0, .v 0, .v 2⟩ rfl h1 (Nat.le_of_eq h2.symm), ?_⟩
      rw [offs, List.take_append_of_le_length (by exact li0 [_] ⟨0, .v 0, .v 0⟩ rfl), List.take_length]
      exact Nat.le_antisymm (li2 [_, _, _, _] ⟨0, .v 0, .a (.v 1) (.v 2)⟩ ⟨0, .v 3, .v 2⟩ ⟨0, .v 0, .a (.v 3) (.v 1)⟩ rfl (Nat.le_of_eq h2) (sb1 _ _)) (li2 [_, _, _, _] ⟨0, .a (.v 0) (.v 1), .v 2⟩ ⟨0, .v 1, .v 3⟩ ⟨0, .a (.v 3) (.v 0), .v 2⟩ rfl (Nat.le_of_eq h2.symm) (sb3 ((Nat.le_of_not_lt hx))))
section
variable {C : CallW} {m : Loc} {H : Hp} {Q : VK} {xs : Xs} {g : Gr} {tc i : Nat} {r : Nat × List Nat}
end
section
variable {k : Nat} {H : Hp} {Q : VK} (g : Gr)
theorem symbol_count_spec (q : Q (.int g.nsym) H) : wF prog (k + 1) .Grammar_symbol_count [gV g] H Q := by
  refine wF_mk (m := [some (gV g)]) rfl rfl ?_
  unfold ir_Grammar_symbol_count
  trivial
  refine p_len rfl (keep ?_)
  simpa [Gr.nsym] using q
theorem is_terminal_spec {x : Nat} (q : Q (.bool (decide (x < g.tc))) H) : wF prog (k + 1) .Grammar_is_terminal [gV g, .int x] H Q := by
  refine wF_mk (m := [some (gV g), some (.int x)]) rfl rfl ?_
  unfold ir_Grammar_is_terminal
  trivial
  refine c_lt (fun h => keep ?_) fun h => keep ?_
  · rwa [decide_eq_true (Int.ofNat_lt.1 h)] at q
  · rwa [decide_eq_false fun e => h (Int.ofNat_lt.2 e)] at q
theorem number_spec {s : String} (hl : g.names.length ≤ 1000) (q : s ∈ g.names → Q (.int (g.names.idxOf s : Nat)) H) (q' : s ∉ g.names → Q (.int (-1)) H) :
    wF prog (k + 1) .Grammar_number [gV g, .str s] H Q := by
  refine wF_mk (m := [some (gV g), some (.str s)]) rfl rfl ?_
  unfold ir_Grammar_number
  trivial
  refine c_in (.memS (l := g.names) rfl) (fun h => ?_) fun h => keep (q' h)
  trivial
  exact .inr ⟨.lst (by decide) rfl, MethW.index rfl h hl (keep (q h))⟩
theorem by_get {x : Nat} (hx : x < g.nsym) : ((List.range g.nsym).map fun x => V.lst (nats (byLeft g.rules x)))[x]? = some (V.lst (nats (byLeft g.rules x))) := by
  simp [List.getElem?_range hx]
theorem own_get {x i d : Nat} (hx : g.its[x]? = some (i, d)) : (nats (g.its.map (·.1)))[x]? = some (.int i) := by
  simp [nats, hx]
theorem off_get' {i : Nat} (hi : i < g.rules.length) : (nats ((List.range g.rules.length).map g.off))[i]? = some (.int (g.off i)) := by
  simp [nats, List.getElem?_range hi]
theorem rules_of_spec {x : Nat} (hx : x < g.nsym) (hb : (byLeft g.rules x).length ≤ big) (q : Q (.lst (nats (byLeft g.rules x))) H) :
    wF prog (k + 1) .Grammar_rules_of [gV g, .int x] H Q := by
  refine wF_mk (m := [some (gV g), some (.int x)]) rfl rfl ?_
  unfold ir_Grammar_rules_of
  trivial
  refine sb_l (by_get g hx) ?_
  trivial
  exact p_list rfl (frz (by simpa using hb) (keep q))
theorem item_spec {i d : Nat} (hi : i < g.rules.length) (q : Q (.int (g.off i + d : Nat)) H) :
    wF prog (k + 1) .Grammar_item [gV g, .int i, .int d] H Q := by
  refine wF_mk (m := [some (gV g), some (.int i), some (.int d)]) rfl rfl ?_
  unfold ir_Grammar_item
  trivial
  refine sb_l (off_get' g hi) ?_
  trivial
  exact keep q
theorem rule_of_spec {x i d : Nat} (hx : g.its[x]? = some (i, d)) (q : Q (.int i) H) :
    wF prog (k + 1) .Grammar_rule_of [gV g, .int x] H Q := by
  refine wF_mk (m := [some (gV g), some (.int x)]) rfl rfl ?_
  unfold ir_Grammar_rule_of
  trivial
  exact sb_l (own_get g hx) (keep q)
theorem off_get {x i d : Nat} (hx : g.its[x]? = some (i, d)) : (nats ((List.range g.rules.length).map g.off))[i]? = some (.int (g.off i)) :=
  let ⟨_, _, h1, _, _⟩ := its_of hx
  off_get' g (List.getElem?_eq_some_iff.1 h1).1
theorem dot_eq {x i d : Nat} (hx : g.its[x]? = some (i, d)) : (x : Int) - (g.off i : Nat) = (d : Nat) := by
  obtain ⟨l, w, hO⟩ := its_of hx; have h1 := hO.1; have h3 := hO.2.2; clear hO
  rw [h3]; simp only [Gr.off]; omega
theorem dot_of_spec {x i d : Nat} (hx : g.its[x]? = some (i, d)) (q : Q (.int d) H) :
    wF prog (k + 1) .Grammar_dot_of [gV g, .int x] H Q := by
  refine wF_mk (m := [some (gV g), some (.int x)]) rfl rfl ?_
  unfold ir_Grammar_dot_of
  trivial
  refine sb_l (own_get g hx) (sb_l (off_get g hx) ?_)
  trivial
  rw [dot_eq g hx]
  exact keep q
noncomputable def Gr.aft (g : Gr) (i d : Nat) : Option Nat := (g.rules[i]?).bind fun r => r.2[d]?
theorem after_spec {x i d : Nat} (hx : g.its[x]? = some (i, d)) (q : ∀ s : Nat, g.aft i d = some s → Q (.int s) H) (q' : g.aft i d = none → Q (.int (-1)) H) :
    wF prog (k + 1) .Grammar_after [gV g, .int x] H Q := by
  refine wF_mk (m := [some (gV g), some (.int x), none, none]) rfl rfl ?_
  unfold ir_Grammar_after
  trivial
  obtain ⟨l, w, hO⟩ := its_of hx; have h1 := hO.1; have h2 := hO.2.1; have h3 := hO.2.2; clear hO
  refine sb_l (own_get g hx) (sb_l (rulesV_get h1) ?_)
  trivial
  refine sb_l (own_get g hx) (sb_l (off_get g hx) ?_)
  trivial
  rw [dot_eq g hx]
  refine p_len rfl ?_
  trivial
  refine c_lt (fun h => ?_) (fun h => ?_)
  · have hd : d < w.length := by simpa using h
    trivial
    refine sb_t (v := .int (w[d] : Nat)) (nats_get (List.getElem?_eq_getElem hd)) (keep (q _ ?_))
    simp [Gr.aft, h1, List.getElem?_eq_getElem hd]
  · have hd : w.length ≤ d := by simpa using h
    exact keep (q' (by simp [Gr.aft, h1, List.getElem?_eq_none hd]))
theorem advanced_spec {x i d : Nat} (hx : g.its[x]? = some (i, d)) (q : Q (.int (x + 1 : Nat)) H) :
    wF prog (k + 2) .advanced [gV g, .int x] H Q := by
  refine wF_mk (m := [some (gV g), some (.int x)]) rfl rfl ?_
  unfold ir_advanced
  obtain ⟨l, w, hO⟩ := its_of hx; have h1 := hO.1; have h2 := hO.2.1; have h3 := hO.2.2; clear hO
  trivial
  refine rule_of_spec g hx ?_
  trivial
  refine dot_of_spec g hx ?_
  trivial
  refine item_spec g (d := d + 1) (List.getElem?_eq_some_iff.1 h1).1 (keep ?_)
  rwa [show g.off i + (d + 1) = x + 1 by rw [h3]; rfl]
end
structure St where
  kernel : List Nat
  sym : Int
  items : List Nat
  moves : List (Nat × Nat)
  reds : List Nat
noncomputable def mvV (l : List (Nat × Nat)) : List (Int × V) := l.map fun p => ((p.1 : Int), V.int p.2)
noncomputable def stV (j : Nat) (s : St) : V := .obj .LrState [("number", .int j), ("kernel", .tup (nats s.kernel)), ("symbol", .int s.sym), ("items", .lst (nats s.items)), ("moves", .dcI (mvV s.moves)), ("reductions", .lst (nats s.reds))]
noncomputable def statesV (ss : List St) : List V := ss.zipIdx.map fun p => stV p.2 p.1
noncomputable def auV (g : Gr) (ss : List St) : V := .obj .Automaton [("grammar", gV g), ("states", .lst (statesV ss))]
section
variable {C : CallW} {m : Loc} {H : Hp} {Q : VK} {xs : Xs} {g : Gr} {j : Nat} {s : St} {ss : List St}
theorem statesV_of {i : Nat} {v : V} (h : (statesV ss)[i]? = some v) : ∃ s, ss[i]? = some s ∧ v = stV i s := by
  simp only [statesV, List.getElem?_map, Option.map_eq_some_iff, List.getElem?_zipIdx] at h
  obtain ⟨⟨s, j⟩, ⟨a, ha, he⟩, rfl⟩ := h
  cases he
  exact ⟨s, ha, by simp⟩
theorem statesV_get {i : Nat} {s : St} (h : ss[i]? = some s) : (statesV ss)[i]? = some (stV i s) := by simp [statesV, h]
end
section
variable {k : Nat} {H : Hp} {Q : VK}
theorem Rule_init_spec {a : Nat} {v1 v2 v3 v4 : V} (q : Q .none (H.set a (.inst .Rule [("number", v1), ("left", v2), ("right", v3), ("level_of", v4), ("action", .none), ("line", .int 0), ("before", .int 0)]))) :
    wF prog (k + 1) .Rule_init [.ref a, v1, v2, v3, v4] (H.set a (.inst .Rule [])) Q := by
  refine wF_mk (m := [some (.ref a), some v1, some v2, some v3, some v4, some .none, some (.int 0), some (.int 0)]) rfl rfl ?_
  unfold ir_Rule_init
  iterate 7 (trivial; refine sa_new (by decide) rfl ?_)
  trivial
  exact keep q
theorem LrState_init_spec {a : Nat} {v1 v2 v3 : V}
    (q : ∀ d, H d = Option.none → d ≠ a → Q .none ((H.set d (.dcI [])).set a (.inst .LrState [("number", v1), ("kernel", v2), ("symbol", v3), ("items", .lst []), ("moves", .ref d), ("reductions", .lst [])]))) :
    wF prog (k + 1) .LrState_init [.ref a, v1, v2, v3] (H.set a (.inst .LrState [])) Q := by
  refine wF_mk (m := [some (.ref a), some v1, some v2, some v3]) rfl rfl ?_
  unfold ir_LrState_init
  iterate 3 (trivial; refine sa_new (by decide) rfl ?_)
  trivial
  refine ls_frz rfl ?_
  trivial
  refine sa_new (by decide) rfl ?_
  trivial
  refine dc_i fun d hd => ?_
  have hda : d ≠ a := fun e => by rw [e, Hp.set_same] at hd; cases hd
  rw [Hp.set_ne _ _ hda] at hd
  trivial
  refine sa2 (Hp.set_ne' hda.symm (Hp.set_same _ _ _)) (by decide) rfl ?_
  rw [Hp.set_swap]
  trivial
  refine ls_frz rfl ?_
  trivial
  refine sa_new (by decide) rfl ?_
  trivial
  exact keep (q d hd hda)
theorem Automaton_init_spec {a : Nat} {v1 v2 : V} (q : Q .none (H.set a (.inst .Automaton [("grammar", v1), ("states", v2)]))) :
    wF prog (k + 1) .Automaton_init [.ref a, v1, v2] (H.set a (.inst .Automaton [])) Q := by
  refine wF_mk (m := [some (.ref a), some v1, some v2]) rfl rfl ?_
  unfold ir_Automaton_init
  iterate 2 (trivial; refine sa_new (by decide) rfl ?_)
  trivial
  exact keep q
theorem lookup_mv (x : Nat) : ∀ l : List (Nat × Nat), (mvV l).lookup (x : Int) = (l.lookup x).map fun (j : Nat) => V.int (j : Int)
  | [] => rfl
  | (y, j) :: l => by
    simp only [mvV, List.map_cons, List.lookup]
    by_cases h : x = y
    · subst h; simp
    · rw [beq_false_of_ne h, beq_false_of_ne (a := (x : Int)) (b := (y : Int)) (fun e => h (Int.ofNat.inj e))]; exact lookup_mv x l
theorem lookup_mv_neg : ∀ l : List (Nat × Nat), (mvV l).lookup (-1 : Int) = Option.none
  | [] => rfl
  | (y, j) :: l => lookup_mv_neg l
theorem state_goto_spec {j : Nat} {s : St} {x : Int} (q : Q (((mvV s.moves).lookup x).getD (.int (-1))) H) : wF prog (k + 1) .LrState_goto [stV j s, .int x] H Q := by
  refine wF_mk (m := [some (stV j s), some (.int x)]) rfl rfl ?_
  unfold ir_LrState_goto
  trivial
  refine .inr ⟨.dcI rfl, ?_⟩
  trivial
  exact MethW.getI rfl (keep q)
theorem consistent_spec {j : Nat} {s : St} (h : s.reds = [] ∨ s.reds.length = 1 ∧ s.moves = []) (q : Q (.bool true) H) : wF prog (k + 1) .LrState_is_consistent [stV j s] H Q := by
  refine wF_mk (m := [some (stV j s)]) rfl rfl ?_
  unfold ir_LrState_is_consistent
  trivial
  refine ls_frz rfl ?_
  trivial
  refine c_eq0 rfl rfl (fun z0 => ?_) fun hn => ?_
  · trivial
    exact keep q
  · have hr : s.reds ≠ [] := fun e => hn (by simp [e])
    have hO := h.resolve_left hr; have h1 := hO.1; have h2 := hO.2; clear hO
    trivial
    refine p_len rfl ?_
    trivial
    refine c_eq (fun z0 => ?_) fun e => absurd (by simp [h1]) e
    trivial
    refine an_t ?_
    trivial
    refine dc_i fun d hd => ?_
    trivial
    exact ⟨_, .dlen (xs := []) (by simp [dcIOf, h2, mvV]) (di_ref (Hp.set_same _ _ _)), fun z0 => drop (.new hd _) .rfl q, nofun⟩
theorem inadequate_spec {g : Gr} {ss : List St} (hl : ss.length ≤ big) (h : ∀ s ∈ ss, s.reds = [] ∨ s.reds.length = 1 ∧ s.moves = []) (q : Q (.lst []) H) :
    wF prog (k + 2) .inadequate_states [auV g ss] H Q := by
  refine wF_mk (m := [some (auV g ss), none, none]) rfl rfl ?_
  unfold ir_inadequate_states
  trivial
  refine .inl ⟨_, rfl, fun z0 acc H' => acc = [] ∧ H' = H, ⟨rfl, rfl⟩, ?_, ?_⟩
  · rintro i v _ _ hv ⟨rfl, rfl⟩
    refine ⟨rfl, _, rfl, ?_⟩
    obtain ⟨s, hs, rfl⟩ := statesV_of hv
    trivial
    exact consistent_spec (h s (List.mem_of_getElem? hs)) (bq_t ⟨rfl, rfl⟩)
  · rintro _ _ ⟨rfl, rfl⟩
    exact ⟨rfl, by simpa [statesV] using hl, .inl (keep q)⟩
theorem is_lr_zero_spec {g : Gr} {ss : List St} (hl : ss.length ≤ big) (h : ∀ s ∈ ss, s.reds = [] ∨ s.reds.length = 1 ∧ s.moves = []) (q : Q (.bool true) H) :
    wF prog (k + 3) .is_lr_zero [auV g ss] H Q := by
  refine wF_mk (m := [some (auV g ss)]) rfl rfl ?_
  unfold ir_is_lr_zero
  trivial
  refine inadequate_spec hl h ?_
  trivial
  refine ls_frz rfl ?_
  trivial
  exact c_eq0 rfl rfl (fun z0 => keep q) (fun e => absurd rfl e)
theorem automaton_goto_spec {g : Gr} {ss : List St} {i : Nat} {s : St} {x : Int} (hs : ss[i]? = some s) (q : Q (((mvV s.moves).lookup x).getD (.int (-1))) H) :
    wF prog (k + 2) .Automaton_goto [auV g ss, .int i, .int x] H Q := by
  refine wF_mk (m := [some (auV g ss), some (.int i), some (.int x)]) rfl rfl ?_
  unfold ir_Automaton_goto
  trivial
  refine sb_l (statesV_get hs) ?_
  trivial
  exact state_goto_spec (keep q)
theorem first_of_spec {x : Nat} {xs : List Nat} {nul fir : V} {ns fs : List V} {f : Nat} (hn : seqOf H nul = some ns) (hf : seqOf H fir = some fs)
    (hnx : ns[x]? = some (.bool false)) (hfx : fs[x]? = some (.int f)) (q : Q (.tup [.int f, .bool false]) H) :
    wF prog (k + 1) .first_of [.tup (nats (x :: xs)), nul, fir] H Q := by
  refine wF_mk (m := [some (.tup (nats (x :: xs))), some nul, some fir, none, none]) rfl rfl ?_
  unfold ir_first_of
  trivial
  refine for_t (fun i m H' => i = 0 ∧ m = [some (.tup (nats (x :: xs))), some nul, some fir, some (.int 0), none] ∧ H' = H) ⟨rfl, rfl, rfl⟩ ?_ ?_
  · rintro _ v _ _ hv ⟨rfl, rfl, rfl⟩
    cases hv
    trivial
    refine sb_s hf hfx (b_or0 ?_)
    trivial
    refine sb_s hn hnx ?_
    trivial
    exact keep q
  · rintro _ _ ⟨h, -⟩
    simp at h
theorem lastT_snoc (tc : Nat) (r : List Nat) (s : Nat) : lastT tc (r ++ [s]) = if s < tc then (s : Int) else lastT tc r := by rw [lastT, List.foldl_append]; rfl
inductive ILast (H : Hp) (tc : Nat) (r : List Nat) (i : Nat) : Loc → Hp → Prop
  | mk {z x} (e : x = lastT tc (r.take i)) : ILast H tc r i [some (.tup (nats r)), some (.int tc), some (.int x), z] H
theorem take_next {α} {r : List α} {i : Nat} {s : α} (h : r[i]? = some s) : r.take (i + 1) = r.take i ++ [s] := by rw [List.take_add_one, h]; rfl
theorem last_terminal_spec {tc : Nat} {r : List Nat} (q : Q (.int (lastT tc r)) H) : wF prog (k + 1) .last_terminal [.tup (nats r), .int tc] H Q := by
  refine wF_mk (m := [some (.tup (nats r)), some (.int tc), none, none]) rfl rfl ?_
  unfold ir_last_terminal
  trivial
  refine for_t (ILast H tc r) (.mk rfl) ?_ ?_
  · rintro i _ _ _ hv ⟨rfl⟩
    obtain ⟨s, hs, rfl⟩ := nats_of hv
    trivial
    refine c_lt (fun h => ?_) fun h => ?_
    · trivial
      exact .mk (by rw [take_next hs, lastT_snoc, if_pos (Int.ofNat_lt.1 h)])
    · trivial
      exact .mk (by rw [take_next hs, lastT_snoc, if_neg fun e => h (Int.ofNat_lt.2 e)])
  · rintro _ _ ⟨rfl⟩
    trivial
    refine keep ?_
    simpa using q
end
structure Ahead (g : Gr) : Prop where
  S : ∃ S, g.tc < S ∧ g.rules[0]? = some (g.tc, [S, 0])
  len : g.rules.length ≤ 7
  sym : g.nsym ≤ 40
  tc0 : 0 < g.tc
  tcl : g.tc < g.nsym
  rule : ∀ (i l : Nat) (w : List Nat), g.rules[i]? = some (l, w) → g.tc ≤ l ∧ l < g.nsym ∧ w ≠ [] ∧ w.length ≤ 10 ∧ ∀ s ∈ w, s < g.nsym
  mark : ∀ (i l : Nat) (w : List Nat), 1 ≤ i → g.rules[i]? = some (l, w) → g.tc < l ∧ ∃ m v, w = m :: v ∧ m < g.tc
  uniq : ∀ (i j l l' m : Nat) (v v' : List Nat), 1 ≤ i → 1 ≤ j → g.rules[i]? = some (l, m :: v) → g.rules[j]? = some (l', m :: v') → i = j
noncomputable def US (H0 H : Hp) (lk : Nat) (us : List V) (n : Nat) : Prop :=
  ∀ v ∈ us, ∃ r l, v = .ref r ∧ H r = some (.list l) ∧ l.length ≤ n ∧ H0 r = Option.none ∧ r ≠ lk
theorem US.mono {H0 H : Hp} {lk us n n'} (h : US H0 H lk us n) (hn : n ≤ n') : US H0 H lk us n' := fun v hv => by
  obtain ⟨r, l, hO⟩ := h v hv; have a := hO.1; have b := hO.2.1; have c := hO.2.2.1; have d := hO.2.2.2; clear hO
  exact ⟨r, l, a, b, by exact Nat.le_trans c hn, d⟩
theorem US.lk {H0 H : Hp} {lk us n o} (h : US H0 H lk us n) : US H0 (H.set lk o) lk us n := fun v hv => by
  obtain ⟨r, l, hO⟩ := h v hv; have a := hO.1; have b := hO.2.1; have c := hO.2.2.1; have d := hO.2.2.2.1; have e := hO.2.2.2.2; clear hO
  exact ⟨r, l, a, by rw [Hp.set_ne _ _ e]; exact b, c, d, e⟩
theorem US.app {H0 H : Hp} {lk us n} (h : US H0 H lk us n) {r l v} (hr : H r = some (.list l)) (hl : l.length ≤ n) : US H0 (H.set r (.list (l ++ [v]))) lk us (n + 1) := fun w hw => by
  obtain ⟨r', l', hO⟩ := h w hw; have a := hO.1; have b := hO.2.1; have c := hO.2.2.1; have d := hO.2.2.2.1; have e := hO.2.2.2.2; clear hO
  by_cases hh : r' = r
  · subst hh
    exact ⟨_, _, a, Hp.set_same _ _ _, by simp; exact hl, d, e⟩
  · exact ⟨r', l', a, by rw [Hp.set_ne _ _ hh]; exact b, by exact li1 [_, _] ⟨0, .v 0, .a (.v 1) (.n 1)⟩ ⟨0, .v 0, .v 1⟩ rfl c, d, e⟩
noncomputable abbrev falses (n : Nat) : V := .lst (List.replicate n (.bool false))
inductive IUs (H : Hp) (lk i : Nat) : List V → Hp → Prop
  | mk {H' acc} (h1 : acc.length = i) (h2 : US H H' lk acc 0) (h3 : H' lk = some (.list [])) (h4 : Sub H H') : IUs H lk i acc H'
inductive ISp1 (g : Gr) (H : Hp) (lk : Nat) (us : List V) (i : Nat) : Loc → Hp → Prop
  | mk {H' a4 a7 a8} (ls : List Nat) (e1 : H' lk = some (.list (nats ls))) (e2 : ls.length = i) (e3 : ∀ n ∈ ls, 1 ≤ n) (e4 : US H H' lk us (i * 20)) (e5 : Sub H H') :
    ISp1 g H lk us i [some (gV g), some (falses g.nsym), some (falses g.nsym), some (.ref lk), a4, some (.lst us), some (.lst []), a7, a8, none, none, none, none, none, none, none] H'
inductive ISp2 (g : Gr) (H : Hp) (lk : Nat) (us : List V) (ls : List Nat) (r : V) (i j : Nat) : Loc → Hp → Prop
  | mk {H' a4} (e1 : H' lk = some (.list (nats ls))) (e4 : US H H' lk us (i * 20 + j)) (e5 : Sub H H') :
    ISp2 g H lk us ls r i j [some (gV g), some (falses g.nsym), some (falses g.nsym), some (.ref lk), a4, some (.lst us), some (.lst []), some r, some (.int (j : Int)), none, none, none, none, none, none, none] H'
inductive ISp3 (g : Gr) (H : Hp) (lk : Nat) (us : List V) (ls : List Nat) (a4 a8 : Option V) (i : Nat) : Loc → Hp → Prop
  | mk {H' a7} (e1 : H' lk = some (.list (nats ls))) (e5 : Sub H H') :
    ISp3 g H lk us ls a4 a8 i [some (gV g), some (falses g.nsym), some (falses g.nsym), some (.ref lk), a4, some (.lst us), some (.lst []), a7, a8, none, none, none, none, none, none, none] H'
section
variable {k : Nat} {H : Hp} {Q : VK} {g : Gr}
theorem rulesV_of {tc : Nat} {rs : List (Nat × List Nat)} {i : Nat} {v : V} (h : (rulesV tc rs)[i]? = some v) : ∃ l w, rs[i]? = some (l, w) ∧ v = ruleV tc i (l, w) := by
  simp only [rulesV, List.getElem?_map, Option.map_eq_some_iff, List.getElem?_zipIdx] at h
  obtain ⟨⟨⟨l, w⟩, j⟩, ⟨a, ha, he⟩, rfl⟩ := h
  cases he
  exact ⟨l, w, ha, by simp⟩
theorem rulesV_len (tc : Nat) (rs : List (Nat × List Nat)) : (rulesV tc rs).length = rs.length := by simp [rulesV]
theorem nats_len (l : List Nat) : (nats l).length = l.length := by simp [nats]
theorem IUs.next {lk i acc H' r} (h : IUs H lk i acc H') (hr : H' r = Option.none) : IUs H lk (i + 1) (acc ++ [.ref r]) (H'.set r (.list [])) := by
  induction h with | mk h1 h2 h3 h4 => ?_
  refine .mk (by simp [h1]) (fun w hw => ?_) (Hp.set_ne' (Hp.ne_of hr h3) h3) (h4.set (h4.no hr) _)
  rcases List.mem_append.1 hw with hw | hw
  · obtain ⟨r', l', hO⟩ := h2 w hw; have a := hO.1; have b := hO.2.1; have c := hO.2.2.1; have d := hO.2.2.2.1; have e := hO.2.2.2.2; clear hO
    exact ⟨r', l', a, Hp.set_ne' (Hp.ne_of hr b) b, c, d, e⟩
  · rw [List.mem_singleton.1 hw]
    exact ⟨r, [], rfl, Hp.set_same _ _ _, Nat.le_refl _, h4.no hr, (Hp.ne_of hr h3).symm⟩
theorem spread_spec (ah : Ahead g) (q : Q (falses g.nsym) H) : wF prog (k + 1) .spread [gV g, falses g.nsym] H Q := by
  refine wF_mk (m := [some (gV g), some (falses g.nsym), none, none, none, none, none, none, none, none, none, none, none, none, none, none]) rfl rfl ?_
  unfold ir_spread
  have hsym := ah.sym
  have hrl := ah.len
  have hbig : (List.replicate g.nsym (V.bool false)).length ≤ big := by simp [big]; exact li1 [_] ⟨0, .v 0, .n 16000000⟩ ⟨0, .v 0, .n 40⟩ rfl hsym
  trivial
  refine p_list rfl (frz hbig ?_)
  trivial
  refine ls_new rfl fun lk hlk => ?_
  trivial
  refine co_l (IUs H lk) (.mk rfl nofun (Hp.set_same _ _ _) (.new hlk _)) ?_ hbig ?_
  · intro i v acc H' hv h
    trivial
    refine ls_new rfl fun r hr => ?_
    trivial
    exact h.next hr
  · rintro us H1 ⟨h1, h2, h3, h4⟩
    rw [List.length_replicate] at h1
    trivial
    refine ls_frz rfl ?_
    trivial
    refine for_l (ISp1 g H lk us) (.mk [] h3 rfl nofun h2 h4) ?_ ?_
    · intro i v _ H2 hv hI0; induction hI0 with | mk ls e1 e2 e3 e4 e5 => ?_
      obtain ⟨l, w, hr, rfl⟩ := rulesV_of hv
      have hi := (List.getElem?_eq_some_iff.1 hr).1
      have hO := ah.rule _ _ _ hr; have r1 := hO.1; have r2 := hO.2.1; have r3 := hO.2.2.1; have r4 := hO.2.2.2.1; have r5 := hO.2.2.2.2; clear hO
      trivial
      refine for_t (ISp2 g H lk us _ _ i) (.mk e1 e4 e5) ?_ ?_
      · intro j v _ H3 hv hI0; induction hI0 with | mk f1 f2 f3 => ?_
        obtain ⟨x, hx, rfl⟩ := nats_of hv
        have hj : j < w.length := (List.getElem?_eq_some_iff.1 hx).1
        have hxs := r5 x (List.mem_of_getElem? hx)
        trivial
        refine sb_l (rep_get hxs) ?_
        trivial
        obtain ⟨v, hv⟩ : ∃ v, us[x]? = some v := ⟨_, List.getElem?_eq_getElem (h1.symm ▸ hxs)⟩
        obtain ⟨r, ll, rfl, g2, g3, g4, g5⟩ := f2 v (List.mem_of_getElem? hv)
        refine sb_l hv (mt_app g2 ?_)
        trivial
        refine mb_app g2 (by simp only [big]; exact li5 [_, _, _, _, _] ⟨0, .a (.v 0) (.n 1), .n 16000000⟩ ⟨19, .v 1, .n 7⟩ ⟨19, .a (.v 2) (.n 1), .v 1⟩ ⟨0, .v 3, .n 10⟩ ⟨0, .a (.v 4) (.n 1), .v 3⟩ ⟨0, .v 0, .a (.m (.v 2) 20) (.v 4)⟩ rfl hrl hi r4 hj g3) ?_
        trivial
        exact .mk (Hp.set_ne' g5.symm f1) (f2.app g2 g3) (f3.set g4 _)
      · intro _ H3 hI0; induction hI0 with | mk f1 f2 f3 => ?_
        rw [nats_len] at f2
        trivial
        refine mt_app f1 ?_
        trivial
        refine mb_app f1 (by simp only [big, nats_len]; exact li3 [_, _, _] ⟨0, .a (.v 0) (.n 1), .n 16000000⟩ ⟨0, .v 1, .n 7⟩ ⟨0, .v 0, .v 2⟩ ⟨0, .a (.v 2) (.n 1), .v 1⟩ rfl hrl (Nat.le_of_eq e2) hi) ?_
        trivial
        refine .mk (ls ++ [w.length]) ((Hp.set_same _ _ _).trans (by simp [nats])) (by simp [e2]) (fun n hn => ?_) ((f2.mono (by exact li1 [_, _] ⟨0, .a (.m (.v 0) 20) (.v 1), .m (.a (.v 0) (.n 1)) 20⟩ ⟨0, .v 1, .n 10⟩ rfl r4)).lk) (f3.set hlk _)
        rcases List.mem_append.1 hn with hn | hn
        · exact e3 n hn
        · rw [List.mem_singleton.1 hn]; exact List.length_pos_iff.2 r3
    · intro _ H2 hI0; induction hI0 with | mk ls e1 e2 e3 e4 e5 => ?_
      rw [rulesV_len] at e2
      trivial
      refine for_l (ISp3 g H lk us _ _ _) (.mk e1 e5) ?_ ?_
      · intro i v _ H3 hv hI0; induction hI0 with | mk f1 f2 => ?_
        obtain ⟨l, w, hr, rfl⟩ := rulesV_of hv
        have hi := (List.getElem?_eq_some_iff.1 hr).1
        have hz := List.getElem?_eq_getElem (Nat.lt_of_lt_of_eq hi e2.symm)
        trivial
        refine sb_r f1 (nats_get hz) ?_
        trivial
        refine c_eq (fun e => ?_) fun z0 => ?_
        · have := e3 _ (List.mem_of_getElem? hz); omega
        · trivial
          exact .mk f1 f2
      · rintro _ H3 ⟨f1, f2⟩
        trivial
        refine s_while (fun n m H' => n = 0 ∧ m = [some (gV g), some (falses g.nsym), some (falses g.nsym), some (.ref lk), _, some (.lst us), some (.lst []), _, _, some (.int 0), none, none, none, none, none, none] ∧ H' = H3) ⟨rfl, rfl, rfl⟩ ?_
        rintro n m H' ⟨rfl, rfl, rfl⟩
        trivial
        refine p_len rfl ?_
        trivial
        refine c_lt (fun h => absurd h (by simp)) fun z0 => ?_
        trivial
        exact drop f2 .rfl q
theorem nullable_spec (ah : Ahead g) (q : Q (falses g.nsym) H) : wF prog (k + 2) .nullable [gV g] H Q := by
  refine wF_mk (m := [some (gV g)]) rfl rfl ?_
  unfold ir_nullable
  have hsym := ah.sym
  trivial
  refine ls_frz rfl ?_
  trivial
  refine symbol_count_spec g (b_rep (frz (by simp [big]; exact li1 [_] ⟨0, .v 0, .n 16000000⟩ ⟨0, .v 0, .n 40⟩ rfl hsym) ?_))
  trivial
  exact spread_spec ah (keep q)
end
noncomputable def meas (B : Nat) (fs : List Nat) : Nat := (fs.map (B - ·)).sum
theorem meas_set {B : Nat} : ∀ {fs : List Nat} {x v w : Nat}, fs[x]? = some v → v < w → w ≤ B → meas B (fs.set x w) < meas B fs
  | [], _, _, _, h, _, _ => by simp at h
  | f :: fs, 0, v, w, h, h1, h2 => by
    simp at h; subst h
    simp [meas]; exact li3 [_, _, _, _, _] ⟨0, .a (.v 0) (.n 1), .v 1⟩ ⟨0, .a (.v 2) (.n 1), .v 3⟩ ⟨0, .a (.v 0) (.v 3), .v 4⟩ ⟨0, .v 4, .a (.v 1) (.v 2)⟩ rfl h1 (sb3 (h2)) (sb1 _ _)
  | f :: fs, x + 1, v, w, h, h1, h2 => by
    have := meas_set (B := B) (fs := fs) (x := x) (v := v) (w := w) (by simpa using h) h1 h2
    simp [meas] at *; exact this
noncomputable def Snd (g : Gr) (x b : Nat) : Prop :=
  ∃ i w, 1 ≤ i ∧ (g.rules[i]? = some (x, b :: w) ∨ (x = g.tc ∧ ∃ S, g.rules[0]? = some (g.tc, [S, 0]) ∧ g.rules[i]? = some (S, b :: w)))
structure FOk (g : Gr) (fs : List Nat) : Prop where
  len : fs.length = g.nsym
  ter : ∀ t : Nat, t < g.tc → fs[t]? = some (2 ^ t)
  snd : ∀ x v : Nat, g.tc ≤ x → fs[x]? = some v → ∀ b, v.testBit b = true → Snd g x b
noncomputable def FDone (g : Gr) (fs : List Nat) (n : Nat) : Prop := ∀ (i x b : Nat) (w : List Nat), 1 ≤ i → i < n → g.rules[i]? = some (x, b :: w) → ∃ v, fs[x]? = some v ∧ v.testBit b = true
theorem Snd.lt {g : Gr} (ah : Ahead g) {x b : Nat} (h : Snd g x b) : b < g.tc := by
  obtain ⟨i, w, h1, h | ⟨-, S, -, h⟩⟩ := h
  all_goals
    obtain ⟨-, m, v, hO⟩ := ah.mark _ _ _ h1 h; have e := hO.1; have hm := hO.2; clear hO
    cases e; exact hm
theorem FOk.lt {g : Gr} (ah : Ahead g) {fs : List Nat} (h : FOk g fs) {x v : Nat} (hx : fs[x]? = some v) : v < 2 ^ g.nsym := by
  have hl := ah.tcl
  have : v < 2 ^ (g.tc) := by
    by_cases ht : x < g.tc
    · rw [h.ter x ht] at hx; cases hx
      exact Nat.pow_lt_pow_right (by exact li0 [] ⟨0, .n 2, .n 2⟩ rfl) ht
    · apply Nat.lt_pow_two_of_testBit
      intro b hb
      apply Bool.eq_false_iff.2
      intro e
      have := (h.snd x v (by exact (Nat.le_of_not_lt ht)) hx b e).lt ah
      omega
  exact Nat.lt_of_lt_of_le this (Nat.pow_le_pow_right (by exact li0 [] ⟨0, .n 1, .n 2⟩ rfl) (by exact li1 [_, _] ⟨0, .v 0, .v 1⟩ ⟨0, .a (.v 0) (.n 1), .v 1⟩ rfl hl))
theorem FOk.grow {g : Gr} (ah : Ahead g) {fs : List Nat} (h : FOk g fs) {i l x f v : Nat} {w : List Nat} (hr : g.rules[i]? = some (l, x :: w)) (hf : fs[x]? = some f) (hv : fs[l]? = some v) :
    FOk g (fs.set l (v ||| f)) := by
  have hO := ah.rule _ _ _ hr; have r1 := hO.1; have r2 := hO.2.1; clear hO
  refine ⟨by simp [h.len], fun t ht => ?_, fun y u hy hu b hb => ?_⟩
  · rw [List.getElem?_set_ne (by exact Nat.ne_of_gt (Nat.le_trans ht r1))]; exact h.ter t ht
  · by_cases hyl : y = l
    · subst hyl
      rw [List.getElem?_set_self (by rw [h.len]; exact r2)] at hu
      cases hu
      rw [Nat.testBit_or, Bool.or_eq_true] at hb
      rcases hb with hb | hb
      · exact h.snd _ _ hy hv b hb
      · by_cases hi : 1 ≤ i
        · obtain ⟨-, m, v', hO⟩ := ah.mark _ _ _ hi hr; have e := hO.1; have hm := hO.2; clear hO
          cases e
          rw [h.ter _ hm] at hf; cases hf
          rw [Nat.testBit_two_pow] at hb
          simp at hb; subst hb
          exact ⟨i, w, hi, .inl hr⟩
        · have : i = 0 := by exact Nat.le_antisymm (li1 [_] ⟨0, .v 0, .n 0⟩ ⟨0, .a (.v 0) (.n 1), .n 1⟩ rfl (Nat.lt_of_not_le hi)) (li0 [_] ⟨0, .n 0, .v 0⟩ rfl)
          subst this
          obtain ⟨S, hO⟩ := ah.S; have hS := hO.1; have h0 := hO.2; clear hO
          rw [h0] at hr; cases hr
          obtain ⟨j, w', hO⟩ := h.snd _ _ (by exact li1 [_, _] ⟨0, .v 0, .v 1⟩ ⟨0, .a (.v 0) (.n 1), .v 1⟩ rfl hS) hf b hb; have hj := hO.1; have hh := hO.2; clear hO
          rcases hh with hh | ⟨e, -⟩
          · exact ⟨j, w', hj, .inr ⟨rfl, _, h0, hh⟩⟩
          · omega
    · rw [List.getElem?_set_ne (Ne.symm hyl)] at hu
      exact h.snd y u hy hu b hb
theorem FDone.grow {g : Gr} {fs : List Nat} {n l v f : Nat} (h : FDone g fs n) (hl : l < fs.length) (hv : fs[l]? = some v) : FDone g (fs.set l (v ||| f)) n := by
  intro i x b w h1 h2 h3
  obtain ⟨u, hO⟩ := h i x b w h1 h2 h3; have hu := hO.1; have hb := hO.2; clear hO
  by_cases e : x = l
  · subst e
    rw [hv] at hu; cases hu
    exact ⟨_, List.getElem?_set_self hl, by rw [Nat.testBit_or, hb]; rfl⟩
  · exact ⟨u, by rw [List.getElem?_set_ne (Ne.symm e)]; exact hu, hb⟩
inductive IF1 (g : Gr) (H : Hp) (a i : Nat) : Loc → Hp → Prop
  | mk {H' a3} (fs : List Nat) (e1 : H' a = some (.list (nats fs))) (e2 : Sub H H') (e3 : fs.length = i) (e4 : ∀ t v : Nat, fs[t]? = some v → v = if t < g.tc then 2 ^ t else 0) :
    IF1 g H a i [some (gV g), some (falses g.nsym), some (.ref a), a3, none, none, none] H'
inductive IF2 (g : Gr) (H : Hp) (a : Nat) (n : Nat) : Loc → Hp → Prop
  | mk {H' a3 a5 a6} (fs : List Nat) (gr : Bool) (e1 : H' a = some (.list (nats fs))) (e2 : Sub H H') (e3 : FOk g fs) (e4 : gr = true ∨ FDone g fs g.rules.length) (e5 : n = meas (2 ^ g.nsym) fs + gr.toNat) :
    IF2 g H a n [some (gV g), some (falses g.nsym), some (.ref a), a3, some (.bool gr), a5, a6] H'
inductive IF3 (g : Gr) (H : Hp) (a : Nat) (a3 : Option V) (fs : List Nat) (i : Nat) : Loc → Hp → Prop
  | mk {H' a5 a6} (fs' : List Nat) (gr : Bool) (e1 : H' a = some (.list (nats fs'))) (e2 : Sub H H') (e3 : FOk g fs') (e4 : FDone g fs' i) (e5 : meas (2 ^ g.nsym) fs' + gr.toNat ≤ meas (2 ^ g.nsym) fs) :
    IF3 g H a a3 fs i [some (gV g), some (falses g.nsym), some (.ref a), a3, some (.bool gr), a5, a6] H'
theorem fgrow {g : Gr} {fs : List Nat} {i v : Nat} (e3 : fs.length = i) (e4 : ∀ t v : Nat, fs[t]? = some v → v = if t < g.tc then 2 ^ t else 0) (hv : v = if i < g.tc then 2 ^ i else 0) :
    ∀ t w : Nat, (fs ++ [v])[t]? = some w → w = if t < g.tc then 2 ^ t else 0 := fun t w h => by
  by_cases ht : t < fs.length
  · rw [List.getElem?_append_left ht] at h; exact e4 t w h
  · rw [List.getElem?_append_right (by exact (Nat.le_of_not_lt ht))] at h
    have := List.getElem?_eq_some_iff.1 h
    obtain ⟨h1, h2⟩ := this
    simp at h1 h2
    have : t = i := by exact Nat.le_antisymm (li3 [_, _, _, _] ⟨0, .v 0, .v 1⟩ ⟨0, .v 2, .v 1⟩ ⟨0, .v 3, .n 0⟩ ⟨0, .v 0, .a (.v 3) (.v 2)⟩ rfl (Nat.le_of_eq e3) (Nat.le_of_eq h1) (sb1 _ _)) (Nat.le_trans (Nat.le_of_eq e3.symm) (Nat.le_of_not_lt ht))
    subst this
    rw [← h2]; exact hv
theorem fok0 {g : Gr} {fs : List Nat} (e3 : fs.length = g.nsym) (hl : g.tc < g.nsym) (e4 : ∀ t v : Nat, fs[t]? = some v → v = if t < g.tc then 2 ^ t else 0) : FOk g fs := by
  refine ⟨e3, fun t ht => ?_, fun x v hx hv b hb => ?_⟩
  · have hl : t < fs.length := by exact li3 [_, _, _, _] ⟨0, .a (.v 0) (.n 1), .v 1⟩ ⟨0, .v 2, .v 1⟩ ⟨0, .a (.v 3) (.n 1), .v 2⟩ ⟨0, .a (.v 0) (.n 1), .v 3⟩ rfl (Nat.le_of_eq e3.symm) hl ht
    have := e4 t fs[t] (List.getElem?_eq_getElem hl)
    rw [if_pos ht] at this
    rw [List.getElem?_eq_getElem hl, this]
  · have := e4 x v hv
    rw [if_neg (by exact Nat.not_lt_of_le (hx))] at this
    subst this; simp at hb
theorem fdone_next {g : Gr} (ah : Ahead g) {fs : List Nat} (g3 : FOk g fs) {i l x v f : Nat} {w : List Nat} (hr : g.rules[i]? = some (l, x :: w)) (hv : fs[l]? = some v) (hf : fs[x]? = some f) (g4 : FDone g fs i) : FDone g (fs.set l (v ||| f)) (i + 1) := by
  have r2 := (ah.rule _ _ _ hr).2.1
  intro j y b w' h1 h2 h3
  by_cases hji : j = i
  · subst hji
    rw [hr] at h3; cases h3
    refine ⟨_, List.getElem?_set_self (by rw [g3.len]; exact r2), ?_⟩
    obtain ⟨-, m, v', hO⟩ := ah.mark _ _ _ h1 hr; have e := hO.1; have hm := hO.2; clear hO
    cases e
    rw [g3.ter _ hm] at hf; cases hf
    rw [Nat.testBit_or, Nat.testBit_two_pow]; simp
  · exact g4.grow (by rw [g3.len]; exact r2) hv j y b w' h1 (by omega) h3
theorem or_lt {v f : Nat} (e : ((v ||| f : Nat) : Int) ≠ v) : v < v ||| f := by
  have h1 := @Nat.left_le_or v f
  have h2 : v ||| f ≠ v := fun h => e (by exact_mod_cast h)
  omega
theorem set_same {l v u : Nat} {fs : List Nat} (hv : fs[l]? = some v) (e : ((u : Nat) : Int) = v) : fs.set l u = fs := by
  have e' : u = v := by exact_mod_cast e
  have := List.getElem?_eq_some_iff.1 hv; obtain ⟨h1, h2⟩ := this; rw [e', ← h2]; exact List.set_getElem_self h1
theorem get_ex {α} {l : List α} {n x : Nat} (h : l.length = n) (hx : x < n) : ∃ v, l[x]? = some v := ⟨_, List.getElem?_eq_getElem (h.symm ▸ hx)⟩
section
variable {k : Nat} {H : Hp} {Q : VK} {g : Gr}
theorem first_masks_spec (ah : Ahead g) (q : ∀ fs, FOk g fs → FDone g fs g.rules.length → Q (.lst (nats fs)) H) : wF prog (k + 3) .first_masks [gV g] H Q := by
  refine wF_mk (m := [some (gV g), none, none, none, none, none, none]) rfl rfl ?_
  unfold ir_first_masks
  have hsym := ah.sym
  have htc := ah.tcl
  trivial
  refine nullable_spec ah ?_
  trivial
  refine ls_new rfl fun a ha => ?_
  trivial
  refine symbol_count_spec g ?_
  refine for_r (IF1 g H a) (by simp only [big]; exact li1 [_] ⟨0, .v 0, .n 16000000⟩ ⟨0, .v 0, .n 40⟩ rfl hsym) (.mk [] (Hp.set_same _ _ _) (.new ha _) rfl (by simp)) ?_ ?_
  · intro i _ H1 hi hI0; induction hI0 with | mk fs e1 e2 e3 e4 => ?_
    have hlen : (nats fs).length < big := by simp only [big, nats_len]; exact li3 [_, _, _] ⟨0, .a (.v 0) (.n 1), .n 16000000⟩ ⟨0, .v 1, .n 40⟩ ⟨0, .a (.v 2) (.n 1), .v 1⟩ ⟨0, .v 0, .v 2⟩ rfl hsym hi (Nat.le_of_eq e3)
    trivial
    refine mt_app e1 ?_
    trivial
    refine is_terminal_spec g (bq_d (fun h => ?_) fun h => ?_)
    · trivial
      refine b_shl (by exact li2 [_, _] ⟨0, .a (.v 0) (.n 1), .n 1000⟩ ⟨0, .v 1, .n 40⟩ ⟨0, .a (.v 0) (.n 1), .v 1⟩ rfl hsym hi) ?_
      trivial
      refine mb_app e1 hlen ?_
      trivial
      exact .mk (fs ++ [2 ^ i]) ((Hp.set_same _ _ _).trans (by simp [nats])) (e2.set ha _) (by simp [e3]) (fgrow e3 e4 (if_pos h).symm)
    · trivial
      refine mb_app e1 hlen ?_
      trivial
      exact .mk (fs ++ [0]) ((Hp.set_same _ _ _).trans (by simp [nats])) (e2.set ha _) (by simp [e3]) (fgrow e3 e4 (if_neg h).symm)
  · intro _ H1 hI0; induction hI0 with | mk fs e1 e2 e3 e4 => ?_
    trivial
    refine s_while (IF2 g H a) (.mk fs true e1 e2 (fok0 e3 htc e4) (.inl rfl) rfl) ?_
    rintro n _ H2 ⟨fs, gr, f1, f2, f3, f4, rfl⟩
    trivial
    refine bq ?_ ?_
    · rintro rfl
      trivial
      refine for_l (IF3 g H a _ fs) (.mk fs false f1 f2 f3 (fun i x b w h1 h2 => absurd h2 (Nat.not_lt_zero _)) (Nat.le_refl _)) ?_ ?_
      · intro i v _ H3 hv hI0; induction hI0 with | mk fs' gr g1 g2 g3 g4 g5 => ?_
        obtain ⟨l, w, hr, rfl⟩ := rulesV_of hv
        have hO := ah.rule _ _ _ hr; have r1 := hO.1; have r2 := hO.2.1; have r3 := hO.2.2.1; have r4 := hO.2.2.2.1; have r5 := hO.2.2.2.2; clear hO
        obtain ⟨x, w, rfl⟩ := List.exists_cons_of_ne_nil r3
        have hx := r5 x (List.mem_cons_self ..)
        obtain ⟨v, hv⟩ := get_ex g3.len r2
        obtain ⟨f, hf⟩ := get_ex g3.len hx
        have hdone := fdone_next ah g3 hr hv hf g4
        trivial
        refine sb_r g1 (nats_get hv) ?_
        trivial
        refine first_of_spec rfl (s_ref g1) (rep_get hx) (nats_get hf) ?_
        trivial
        refine sb_r g1 (nats_get hv) ?_
        trivial
        refine c_ne (fun e => ?_) (fun e => ?_)
        · trivial
          refine si_list g1 (by rw [nats_len, g3.len]; exact r2) ?_
          rw [nats_set]
          trivial
          have h3 := meas_set hv (or_lt e) (Nat.le_of_lt (Nat.or_lt_two_pow (g3.lt ah hv) (g3.lt ah hf)))
          exact .mk (fs'.set l (v ||| f)) true (Hp.set_same _ _ _) (g2.set ha _) (g3.grow ah hr hf hv) hdone (Nat.le_trans (Nat.succ_le_of_lt h3) (Nat.le_trans (Nat.le_add_right _ _) g5))
        · trivial
          rw [set_same hv e] at hdone
          exact .mk fs' gr g1 g2 g3 hdone g5
      · intro _ H3 hI0; induction hI0 with | mk fs' gr g1 g2 g3 g4 g5 => ?_
        rw [rulesV_len] at g4
        trivial
        exact wh (Nat.lt_succ_of_le g5) (.mk fs' gr g1 g2 g3 (.inr g4) rfl)
    · rintro rfl
      trivial
      exact drop f2 (.fl f1 ha) (q fs f3 (f4.resolve_left nofun))
end
inductive IL1 (g : Gr) (H : Hp) (fi : List Nat) (a n : Nat) : Loc → Hp → Prop
  | mk {H' a5 a6 a7} (fs : List Nat) (gr : Bool) (e1 : H' a = some (.list (nats fs))) (e2 : Sub H H') (e3 : fs.length = g.nsym) (e4 : ∀ v ∈ fs, v < 2 ^ g.nsym) (e5 : n = meas (2 ^ g.nsym) fs + gr.toNat) :
    IL1 g H fi a n [some (gV g), some (falses g.nsym), some (.lst (nats fi)), some (.ref a), some (.bool gr), a5, a6, a7] H'
inductive IL2 (g : Gr) (H : Hp) (fi : List Nat) (a : Nat) (fs : List Nat) (i : Nat) : Loc → Hp → Prop
  | mk {H' a5 a6 a7} (fs' : List Nat) (gr : Bool) (e1 : H' a = some (.list (nats fs'))) (e2 : Sub H H') (e3 : fs'.length = g.nsym) (e4 : ∀ v ∈ fs', v < 2 ^ g.nsym) (e5 : meas (2 ^ g.nsym) fs' + gr.toNat ≤ meas (2 ^ g.nsym) fs) :
    IL2 g H fi a fs i [some (gV g), some (falses g.nsym), some (.lst (nats fi)), some (.ref a), some (.bool gr), a5, a6, a7] H'
inductive IL3 (g : Gr) (H : Hp) (fi : List Nat) (a : Nat) (fs : List Nat) (r : V) (j : Nat) : Loc → Hp → Prop
  | mk {H' a7} (fs' : List Nat) (gr : Bool) (bh : Nat) (e1 : H' a = some (.list (nats fs'))) (e2 : Sub H H') (e3 : fs'.length = g.nsym) (e6 : bh < 2 ^ g.nsym) (e4 : ∀ v ∈ fs', v < 2 ^ g.nsym) (e5 : meas (2 ^ g.nsym) fs' + gr.toNat ≤ meas (2 ^ g.nsym) fs) :
    IL3 g H fi a fs r j [some (gV g), some (falses g.nsym), some (.lst (nats fi)), some (.ref a), some (.bool gr), some r, some (.int (bh : Int)), a7] H'
section
variable {k : Nat} {H : Hp} {Q : VK} {g : Gr}
theorem follow_masks_spec (ah : Ahead g) (q : ∀ fs : List Nat, fs.length = g.nsym → Q (.lst (nats fs)) H) : wF prog (k + 4) .follow_masks [gV g] H Q := by
  refine wF_mk (m := [some (gV g), none, none, none, none, none, none, none]) rfl rfl ?_
  unfold ir_follow_masks
  have hsym := ah.sym
  trivial
  refine nullable_spec ah ?_
  trivial
  refine first_masks_spec ah fun fi fok fdn => ?_
  trivial
  refine ls_frz rfl ?_
  trivial
  refine symbol_count_spec g (b_rep (new (by simp only [big, List.length_replicate]; exact li1 [_] ⟨0, .v 0, .n 16000000⟩ ⟨0, .v 0, .n 40⟩ rfl hsym) fun a ha => ?_))
  have h0 : List.replicate g.nsym (V.int 0) = nats (List.replicate g.nsym 0) := by simp [nats]
  rw [h0]
  trivial
  refine s_while (IL1 g H fi a) (.mk (List.replicate g.nsym 0) true (Hp.set_same _ _ _) (.new ha _) (List.length_replicate ..) (fun v hv => by rw [List.eq_of_mem_replicate hv]; exact Nat.two_pow_pos _) rfl) ?_
  rintro n _ H2 ⟨fs, gr, f1, f2, f3, f4, rfl⟩
  trivial
  refine bq ?_ ?_
  · rintro rfl
    trivial
    refine for_l (IL2 g H fi a fs) (.mk fs false f1 f2 f3 f4 (Nat.le_refl _)) ?_ ?_
    · intro i v _ H3 hv hI0; induction hI0 with | mk fs' gr g1 g2 g3 g4 g5 => ?_
      obtain ⟨l, w, hr, rfl⟩ := rulesV_of hv
      have hO := ah.rule _ _ _ hr; have r1 := hO.1; have r2 := hO.2.1; have r3 := hO.2.2.1; have r4 := hO.2.2.2.1; have r5 := hO.2.2.2.2; clear hO
      obtain ⟨v, hv⟩ := get_ex g3 r2
      trivial
      refine sb_r g1 (nats_get hv) ?_
      trivial
      refine for_rev (IL3 g H fi a fs (ruleV g.tc i (l, w))) (.mk fs' gr v g1 g2 g3 (g4 _ (List.mem_of_getElem? hv)) g4 g5) ?_ ?_
      · intro j u _ H4 hu hI0; induction hI0 with | mk fs' gr bh g1 g2 g3 g6 g4 g5 => ?_
        obtain ⟨x, hx, rfl⟩ := List.mem_map.1 (List.mem_reverse.1 (List.mem_of_getElem? hu))
        have hx := r5 x hx
        obtain ⟨fx, hfx⟩ := get_ex fok.len hx
        obtain ⟨v, hv⟩ := get_ex g3 hx
        trivial
        refine is_terminal_spec g (bq_d (fun z0 => ?_) fun z0 => ?_)
        · trivial
          refine sb_l (nats_get hfx) ?_
          trivial
          exact .mk fs' gr fx g1 g2 g3 (fok.lt ah hfx) g4 g5
        · trivial
          refine sb_r g1 (nats_get hv) ?_
          trivial
          refine sb_r g1 (nats_get hv) ?_
          trivial
          have hvb := g4 _ (List.mem_of_getElem? hv)
          refine c_ne (fun e => ?_) (fun e => ?_)
          · trivial
            refine sb_r g1 (nats_get hv) ?_
            trivial
            refine si_list g1 (by rw [nats_len, g3]; exact hx) ?_
            rw [nats_set]
            trivial
            refine sb_l (rep_get hx) ?_
            trivial
            refine sb_l (nats_get hfx) ?_
            trivial
            have h3 := Nat.or_lt_two_pow hvb g6
            refine .mk (fs'.set x (v ||| bh)) true fx (Hp.set_same _ _ _) (g2.set ha _) (by rw [List.length_set]; exact g3) (fok.lt ah hfx) (fun y hy => ?_) (Nat.le_trans (Nat.succ_le_of_lt (meas_set hv (or_lt e) (Nat.le_of_lt h3))) (Nat.le_trans (Nat.le_add_right _ _) g5))
            rcases List.mem_or_eq_of_mem_set hy with h | h
            · exact g4 y h
            · rw [h]; exact h3
          · trivial
            refine sb_l (rep_get hx) ?_
            trivial
            refine sb_l (nats_get hfx) ?_
            trivial
            exact .mk fs' gr fx g1 g2 g3 (fok.lt ah hfx) g4 g5
      · intro _ H4 hI0; induction hI0 with | mk fs' gr bh g1 g2 g3 g6 g4 g5 => ?_
        trivial
        exact .mk fs' gr g1 g2 g3 g4 g5
    · intro _ H3 hI0; induction hI0 with | mk fs' gr g1 g2 g3 g4 g5 => ?_
      trivial
      exact wh (Nat.lt_succ_of_le g5) (.mk fs' gr g1 g2 g3 g4 rfl)
  · rintro rfl
    trivial
    exact drop f2 (.fl f1 ha) (q fs f3)
end
theorem putK_new {κ} [BEq κ] [LawfulBEq κ] {k : κ} {v : V} : ∀ {es : List (κ × V)}, k ∉ es.map (·.1) → putK k v es = es ++ [(k, v)]
  | [], _ => rfl
  | (j, w) :: es, h => by
    have h1 : j ≠ k := fun e => h (by simp [e])
    have h2 : k ∉ es.map (·.1) := fun e => h (by simp only [List.map_cons, List.mem_cons]; exact .inr e)
    simp only [putK, List.cons_append, putK_new h2]
    rw [if_neg (by simpa using h1)]
theorem lookup_snoc {κ} [BEq κ] [LawfulBEq κ] {k : κ} {v : V} : ∀ {es : List (κ × V)}, k ∉ es.map (·.1) → (es ++ [(k, v)]).lookup k = some v
  | [], _ => by simp [List.lookup]
  | (j, w) :: es, h => by
    have h1 : k ≠ j := fun e => h (by simp [e])
    have h2 : k ∉ es.map (·.1) := fun e => h (by simp only [List.map_cons, List.mem_cons]; exact .inr e)
    have : (k == j) = false := by simpa using h1
    simp only [List.cons_append, List.lookup, this, lookup_snoc h2]
noncomputable def Ent (g : Gr) (x b j : Nat) : Prop :=
  (1 ≤ j ∧ ∃ w, g.rules[j]? = some (x, b :: w)) ∨ (j = 0 ∧ x = g.tc ∧ ∃ S i w, 1 ≤ i ∧ g.rules[0]? = some (g.tc, [S, 0]) ∧ g.rules[i]? = some (S, b :: w))
theorem Ent.uniq {g : Gr} (ah : Ahead g) {x b i j : Nat} (h : Ent g x b i) (h' : Ent g x b j) : i = j := by
  rcases h with ⟨h1, w, h2⟩ | ⟨rfl, rfl, h⟩ <;> rcases h' with ⟨h1', w', h2'⟩ | ⟨rfl, e, h'⟩
  · exact ah.uniq _ _ _ _ _ _ _ h1 h1' h2 h2'
  · subst e; have := (ah.mark _ _ _ h1 h2).1; omega
  · have := (ah.mark _ _ _ h1' h2').1; omega
  · rfl
noncomputable abbrev KS := List ((Nat × Nat) × Nat)
noncomputable def tabV (ks : KS) : List (List Int × V) := ks.map fun p => ([(p.1.1 : Int), (p.1.2 : Int)], .lst [.int p.2])
inductive TE (H0 H : Hp) : List (List Int × V) → KS → Prop
  | nil : TE H0 H [] []
  | cons {r x b i : Nat} {es ks} : H r = some (.list [.int i]) → H0 r = Option.none → TE H0 H es ks → TE H0 H (([(x : Int), (b : Int)], .ref r) :: es) (((x, b), i) :: ks)
theorem TE.snoc {H0 H : Hp} {es ks} (h : TE H0 H es ks) {r x b i : Nat} (hr : H r = some (.list [.int i])) (h0 : H0 r = Option.none) :
    TE H0 H (es ++ [([(x : Int), (b : Int)], .ref r)]) (ks ++ [((x, b), i)]) := by
  induction h with
  | nil => exact .cons hr h0 .nil
  | cons a b _ ih => exact .cons a b ih
theorem TE.frame {H0 H H' : Hp} {es ks} (h : TE H0 H es ks) (f : ∀ r l, H r = some (.list l) → H' r = some (.list l)) : TE H0 H' es ks := by
  induction h with
  | nil => exact .nil
  | cons a b _ ih => exact .cons (f _ _ a) b ih
theorem TE.keys {H0 H : Hp} {es ks} (h : TE H0 H es ks) {x b : Nat} (hm : [(x : Int), (b : Int)] ∈ es.map (·.1)) : (x, b) ∈ ks.map (·.1) := by
  induction h with
  | nil => simp at hm
  | cons a b _ ih =>
    simp only [List.map_cons, List.mem_cons] at hm ⊢
    rcases hm with hm | hm
    · left
      simp only [List.cons.injEq, and_true] at hm
      have hO := hm; have h1 := hO.1; have h2 := hO.2; clear hO
      ext <;> simp <;> omega
    · exact .inr (ih hm)
theorem TE.vv {H0 H : Hp} {es ks} (h : TE H0 H es ks) : VVk H H0 es (tabV ks) := by
  induction h with
  | nil => exact .nil
  | cons a b _ ih => exact .cons (.lst a b (VVs.of_rfl _)) ih
theorem TE.len {H0 H : Hp} {es ks} (h : TE H0 H es ks) : es.length = ks.length := by
  induction h with
  | nil => rfl
  | cons a b _ ih => simp [ih]
inductive IP1 (g : Gr) (H : Hp) (fi fo : List Nat) (t i : Nat) : Loc → Hp → Prop
  | mk {H' a5 a6 a7 a8} (es : List (List Int × V)) (ks : KS) (e1 : H' t = some (.dcT es)) (e2 : Sub H H') (e3 : TE H H' es ks) (e4 : ∀ x b j, ((x, b), j) ∈ ks ↔ Ent g x b j ∧ j < i) (e5 : (ks.map (·.1)).Nodup) (e6 : ks.length ≤ (if i = 0 then 0 else 29 + i)) :
    IP1 g H fi fo t i [some (gV g), some (falses g.nsym), some (.lst (nats fi)), some (.lst (nats fo)), some (.ref t), a5, a6, a7, a8] H'
inductive IP2 (g : Gr) (H : Hp) (fi fo : List Nat) (t i : Nat) (r : V) (l f : Nat) (bl : List Nat) (j : Nat) : Loc → Hp → Prop
  | mk {H' a8} (es : List (List Int × V)) (ks : KS) (e1 : H' t = some (.dcT es)) (e2 : Sub H H') (e3 : TE H H' es ks) (e4 : ∀ y b n, ((y, b), n) ∈ ks ↔ (Ent g y b n ∧ n < i) ∨ (y = l ∧ n = i ∧ b ∈ bl.take j)) (e5 : (ks.map (·.1)).Nodup)
      (e6 : ks.length ≤ (if i = 0 then 0 else 29 + i) + j) :
    IP2 g H fi fo t i r l f bl j [some (gV g), some (falses g.nsym), some (.lst (nats fi)), some (.lst (nats fo)), some (.ref t), some r, some (.int (f : Int)), some (.bool false), a8] H'
theorem lstf {H : Hp} {r t : Nat} {l e} (h : H r = some (.list l)) (ht : H t = some (.dcT e)) : r ≠ t := fun e' => by subst e'; rw [h] at ht; cases ht
theorem sb_dT {H : Hp} {Q : VK} {a v es} (k : List Int) (h : dcTOf H a = some es) (e : es.lookup k = some v) (q : Q v H) : sbK2 a Q (.tup (k.map V.int)) H := ⟨v, .dcT h e, q⟩
section
variable {g : Gr}
theorem fbit (ah : Ahead g) {fi : List Nat} (fok : FOk g fi) (fdn : FDone g fi g.rules.length) {i l x f : Nat} {w : List Nat} (hr : g.rules[i]? = some (l, x :: w)) (hf : fi[x]? = some f) (b : Nat) : f.testBit b = true ↔ Ent g l b i := by
  by_cases hi1 : 1 ≤ i
  · obtain ⟨-, m, v, hO⟩ := ah.mark _ _ _ hi1 hr; have e := hO.1; have hm := hO.2; clear hO
    cases e
    rw [fok.ter _ hm] at hf; cases hf
    rw [Nat.testBit_two_pow]
    constructor
    · intro h; simp at h; subst h; exact .inl ⟨hi1, _, hr⟩
    · rintro (⟨-, w', h'⟩ | ⟨h', -⟩)
      · rw [hr] at h'; cases h'; simp
      · omega
  · have : i = 0 := by exact Nat.le_antisymm (li1 [_] ⟨0, .v 0, .n 0⟩ ⟨0, .a (.v 0) (.n 1), .n 1⟩ rfl (Nat.lt_of_not_le hi1)) (li0 [_] ⟨0, .n 0, .v 0⟩ rfl)
    subst this
    obtain ⟨S, hO⟩ := ah.S; have hS := hO.1; have h0 := hO.2; clear hO
    have h0' := h0
    rw [hr] at h0'; cases h0'
    constructor
    · intro hb
      obtain ⟨j, w', hO⟩ := fok.snd _ _ (by exact li1 [_, _] ⟨0, .v 0, .v 1⟩ ⟨0, .a (.v 0) (.n 1), .v 1⟩ rfl hS) hf b hb; have hj := hO.1; have hh := hO.2; clear hO
      rcases hh with hh | ⟨e, -⟩
      · exact .inr ⟨rfl, rfl, _, j, w', hj, h0, hh⟩
      · omega
    · rintro (⟨h', -⟩ | ⟨-, -, S', j, w', hj, h1, h2⟩)
      · omega
      · rw [h0] at h1; cases h1
        obtain ⟨v, hO⟩ := fdn j _ b w' hj (List.getElem?_eq_some_iff.1 h2).1 h2; have hv := hO.1; have hb := hO.2; clear hO
        rw [hf] at hv; cases hv; exact hb
theorem Ent.tc (ah : Ahead g) {x b i : Nat} (h : Ent g x b i) : b < g.tc := by
  rcases h with ⟨h1, w', h2⟩ | ⟨-, -, S, j, w', hj, -, h2⟩
  · obtain ⟨-, m, v, hO⟩ := ah.mark _ _ _ h1 h2; have e := hO.1; have hm := hO.2; clear hO
    cases e; exact hm
  · obtain ⟨-, m, v, hO⟩ := ah.mark _ _ _ hj h2; have e := hO.1; have hm := hO.2; clear hO
    cases e; exact hm
theorem one_bit {i l x : Nat} {w bl : List Nat} (hr : g.rules[i]? = some (l, x :: w)) (hall : ∀ b ∈ bl, Ent g l b i) (hpw : bl.Pairwise (· < ·)) (hi1 : 1 ≤ i) : bl.length ≤ 1 := by
  have hall : ∀ b ∈ bl, b = x := by
    intro b hb
    rcases hall b hb with ⟨h1, w', h2⟩ | ⟨h1, -⟩
    · rw [hr] at h2; cases h2; rfl
    · omega
  match bl, hpw, hall with
  | [], _, _ => simp
  | [_], _, _ => simp
  | a :: b :: r, hp, ha =>
    have h1 := ha a (by simp)
    have h2 := ha b (by simp)
    have := (List.pairwise_cons.1 hp).1 b (by simp)
    omega
theorem IP2.fresh (ah : Ahead g) {ks : KS} {i l : Nat} {bl : List Nat} {j b : Nat} (e4 : ∀ y b n, ((y, b), n) ∈ ks ↔ (Ent g y b n ∧ n < i) ∨ (y = l ∧ n = i ∧ b ∈ bl.take j)) (hent : Ent g l b i) (hb : bl[j]? = some b) (hbn : bl.Nodup) : (l, b) ∉ ks.map (·.1) := by
  have hj := (List.getElem?_eq_some_iff.1 hb).1
  intro hm
  obtain ⟨⟨⟨y, b'⟩, n⟩, hm, he⟩ := List.mem_map.1 hm
  cases he
  rcases (e4 _ _ _).1 hm with ⟨h1, h2⟩ | ⟨-, -, h1⟩
  · have := h1.uniq ah hent; omega
  · obtain ⟨n', hn', hh⟩ := List.mem_take_iff_getElem.1 h1
    have h3 : bl[n']? = some b := by rw [List.getElem?_eq_getElem (by exact Nat.le_trans hn' (Nat.min_le_right _ _)), hh]
    have := (List.getElem?_inj (by exact Nat.le_trans hn' (Nat.min_le_right _ _)) hbn).1 (h3.trans hb.symm)
    omega
theorem IP2.more {ks : KS} {i l : Nat} {bl : List Nat} {j b : Nat} (e4 : ∀ y b n, ((y, b), n) ∈ ks ↔ (Ent g y b n ∧ n < i) ∨ (y = l ∧ n = i ∧ b ∈ bl.take j)) (hb : bl[j]? = some b) (y b' n) :
    ((y, b'), n) ∈ ks ++ [((l, b), i)] ↔ (Ent g y b' n ∧ n < i) ∨ (y = l ∧ n = i ∧ b' ∈ bl.take (j + 1)) := by
  rw [List.mem_append, e4, List.mem_singleton, List.take_add_one, hb]
  simp only [Option.toList_some, List.mem_append, List.mem_singleton, Prod.mk.injEq]
  constructor
  · rintro ((h | ⟨h1, h2, h3⟩) | ⟨⟨h1, h2⟩, h3⟩)
    · exact .inl h
    · exact .inr ⟨h1, h2, .inl h3⟩
    · exact .inr ⟨h1, h3, .inr h2⟩
  · rintro (h | ⟨h1, h2, h3 | h3⟩)
    · exact .inl (.inl h)
    · exact .inl (.inr ⟨h1, h2, h3⟩)
    · exact .inr ⟨⟨h1, h3⟩, h2⟩
theorem IP2.done {ks : KS} {i l x : Nat} {w bl : List Nat} (hr : g.rules[i]? = some (l, x :: w)) (hbl : ∀ b, b ∈ bl ↔ Ent g l b i) (e4 : ∀ y b n, ((y, b), n) ∈ ks ↔ (Ent g y b n ∧ n < i) ∨ (y = l ∧ n = i ∧ b ∈ bl.take bl.length)) (y b n) :
    ((y, b), n) ∈ ks ↔ Ent g y b n ∧ n < i + 1 := by
  rw [e4, List.take_length]
  constructor
  · rintro (⟨h1, h2⟩ | ⟨rfl, rfl, h⟩)
    · exact ⟨h1, by exact li1 [_, _] ⟨0, .a (.v 0) (.n 1), .a (.v 1) (.n 1)⟩ ⟨0, .a (.v 0) (.n 1), .v 1⟩ rfl h2⟩
    · exact ⟨(hbl b).1 h, by exact li0 [_] ⟨0, .a (.v 0) (.n 1), .a (.v 0) (.n 1)⟩ rfl⟩
  · rintro ⟨h1, h2⟩
    by_cases hn : n < i
    · exact .inl ⟨h1, hn⟩
    · have : n = i := by exact Nat.le_antisymm (li1 [_, _] ⟨0, .v 0, .v 1⟩ ⟨0, .a (.v 0) (.n 1), .a (.v 1) (.n 1)⟩ rfl h2) ((Nat.le_of_not_lt hn))
      subst this
      refine .inr ⟨?_, rfl, ?_⟩
      · rcases h1 with ⟨h1, w', h3⟩ | ⟨h1, rfl, h3⟩
        · rw [hr] at h3; cases h3; rfl
        · subst h1
          obtain ⟨S, j, w', hO⟩ := h3; have hj := hO.1; have h4 := hO.2.1; have h5 := hO.2.2; clear hO
          rw [hr] at h4; cases h4; rfl
      · rcases h1 with ⟨h1, w', h3⟩ | ⟨h1, rfl, h3⟩
        · rw [hr] at h3; cases h3
          exact (hbl _).2 (.inl ⟨h1, _, hr⟩)
        · subst h1
          obtain ⟨S, j, w', hO⟩ := h3; have hj := hO.1; have h4 := hO.2.1; have h5 := hO.2.2; clear hO
          rw [hr] at h4; cases h4
          exact (hbl _).2 (.inr ⟨rfl, rfl, _, j, w', hj, hr, h5⟩)
theorem nodup_snoc {ks : KS} {p : (Nat × Nat) × Nat} (h : (ks.map (·.1)).Nodup) (hn : p.1 ∉ ks.map (·.1)) : ((ks ++ [p]).map (·.1)).Nodup := by
  rw [List.map_append, List.nodup_append]
  refine ⟨h, by simp, fun a ha b' hb' e => ?_⟩
  simp at hb'
  rw [e, hb'] at ha; exact hn ha
theorem Ent.rule {x b j : Nat} (h : Ent g x b j) : j < g.rules.length := by
  rcases h with ⟨-, w, h⟩ | ⟨rfl, -, S, i, w, -, h, -⟩
  · exact (List.getElem?_eq_some_iff.1 h).1
  · exact (List.getElem?_eq_some_iff.1 h).1
end
section
variable {k : Nat} {H : Hp} {Q : VK} {g : Gr}
theorem predict_spec (ah : Ahead g) (htc : g.tc ≤ 30) (q : ∀ ks : KS, (∀ x b j, ((x, b), j) ∈ ks ↔ Ent g x b j) → (ks.map (·.1)).Nodup → ks.length < 64 → Q (.dcT (tabV ks)) H) :
    wF prog (k + 5) .predict [gV g] H Q := by
  refine wF_mk (m := [some (gV g), none, none, none, none, none, none, none, none]) rfl rfl ?_
  unfold ir_predict
  have hrl := ah.len
  trivial
  refine nullable_spec ah ?_
  trivial
  refine first_masks_spec ah fun fi fok fdn => ?_
  trivial
  refine follow_masks_spec ah fun fo hfo => ?_
  trivial
  refine dc_t fun t ht => ?_
  trivial
  refine for_l (IP1 g H fi fo t) (.mk [] [] (Hp.set_same _ _ _) (.new ht _) .nil (by simp) .nil (Nat.le_refl _)) ?_ ?_
  · intro i v _ H3 hv hI0; induction hI0 with | mk es ks g1 g2 g3 g4 g5 g6 => ?_
    obtain ⟨l, w, hr, rfl⟩ := rulesV_of hv
    have hi := (List.getElem?_eq_some_iff.1 hr).1
    have hO := ah.rule _ _ _ hr; have r1 := hO.1; have r2 := hO.2.1; have r3 := hO.2.2.1; have r4 := hO.2.2.2.1; have r5 := hO.2.2.2.2; clear hO
    obtain ⟨x, w, rfl⟩ := List.exists_cons_of_ne_nil r3
    have hx := r5 x (List.mem_cons_self ..)
    obtain ⟨f, hf⟩ := get_ex fok.len hx
    have hbit := fbit ah fok fdn hr hf
    have hlt : f < 2 ^ g.tc := Nat.lt_pow_two_of_testBit _ fun b hb => Bool.eq_false_iff.2 fun e => by have := ((hbit b).1 e).tc ah; omega
    trivial
    refine first_of_spec rfl rfl (rep_get hx) (nats_get hf) (at1 rfl ?_)
    trivial
    refine bits_spec f g.tc hlt (by exact li1 [_] ⟨0, .v 0, .n 900⟩ ⟨0, .v 0, .n 30⟩ rfl htc) fun bl hbl hpw hlen => ?_
    have hbl := fun b => (hbl b).trans (hbit b)
    have hbn : bl.Nodup := hpw.imp Nat.ne_of_lt
    refine for_l (IP2 g H fi fo t i _ l f bl) (.mk es ks g1 g2 g3 (by simpa using g4) g5 g6) ?_ ?_
    · rintro j v _ H4 hv ⟨es, ks, e1, e2, e3, e4, e5, e6⟩
      obtain ⟨b, hb, rfl⟩ := nats_of hv
      have hj := (List.getElem?_eq_some_iff.1 hb).1
      have hnew := IP2.fresh ah e4 ((hbl b).1 (List.mem_of_getElem? hb)) hb hbn
      have hnew' : [(l : Int), (b : Int)] ∉ es.map (·.1) := fun h => hnew (e3.keys h)
      have hel : es.length < big := by rw [e3.len]; simp only [big]; split at e6 <;> omega
      trivial
      refine c_notIn (.dcT (x := [(l : Int), (b : Int)]) (dt_ref e1)) (fun z0 => ?_) fun h => absurd h hnew'
      trivial
      refine ls_new rfl fun r hr' => ?_
      have hrt : t ≠ r := Hp.ne_of hr' e1
      trivial
      refine si_dcT (k := [(l : Int), (b : Int)]) (Hp.set_ne' hrt e1) hel ?_
      rw [putK_new hnew']
      trivial
      have hr2 : ((H4.set r (.list [])).set t (.dcT (es ++ [([(l : Int), (b : Int)], .ref r)]))) r = some (.list []) := Hp.set_ne' hrt.symm (Hp.set_same _ _ _)
      refine sb_dT [(l : Int), (b : Int)] (dt_ref (Hp.set_same _ _ _)) (lookup_snoc hnew') (mt_app hr2 ?_)
      trivial
      refine mb_app hr2 (by decide) ?_
      trivial
      refine .mk (es ++ [([(l : Int), (b : Int)], .ref r)]) (ks ++ [((l, b), i)]) (Hp.set_ne' hrt (Hp.set_same _ _ _)) (((e2.set (e2.no hr') _).set ht _).set (e2.no hr') _) (TE.snoc (e3.frame fun r' l' h => ?_) (Hp.set_same _ _ _) (e2.no hr')) (IP2.more e4 hb) (nodup_snoc e5 hnew) (by rw [List.length_append]; exact Nat.succ_le_succ e6)
      have h1 := Hp.ne_of hr' h
      exact Hp.set_ne' h1 (Hp.set_ne' (lstf h e1) (Hp.set_ne' h1 h))
    · intro _ H4 hI0; induction hI0 with | mk es ks e1 e2 e3 e4 e5 e6 => ?_
      rw [nats_len] at e4 e6
      trivial
      refine .mk es ks e1 e2 e3 (IP2.done hr hbl e4) e5 ?_
      by_cases hi0 : i = 0
      · subst hi0; simp at e6 ⊢; exact li3 [_, _, _] ⟨0, .v 0, .n 30⟩ ⟨0, .v 1, .n 30⟩ ⟨0, .v 2, .v 1⟩ ⟨0, .v 0, .v 2⟩ rfl htc hlen e6
      · have := one_bit hr (fun b hb => (hbl b).1 hb) hpw (by exact (Nat.pos_of_ne_zero hi0))
        rw [if_neg hi0] at e6
        rw [if_neg (by exact Nat.ne_of_gt (li0 [_] ⟨0, .n 1, .a (.v 0) (.n 1)⟩ rfl))]; exact li2 [_, _, _] ⟨0, .v 0, .a (.n 29) (.a (.v 1) (.n 1))⟩ ⟨0, .v 0, .a (.a (.n 29) (.v 1)) (.v 2)⟩ ⟨0, .v 2, .n 1⟩ rfl e6 this
  · intro _ H3 hI0; induction hI0 with | mk es ks g1 g2 g3 g4 g5 g6 => ?_
    rw [rulesV_len] at g4 g6
    trivial
    refine drop g2 (.dcT g1 ht g3.vv) (q ks (fun x b j => (g4 x b j).trans ⟨fun h => h.1, fun h => ⟨h, h.rule⟩⟩) g5 ?_)
    split at g6 <;> omega
end
theorem mem_lookup {κ α} [BEq κ] [LawfulBEq κ] {k : κ} {v : α} : ∀ {es : List (κ × α)}, (es.map (·.1)).Nodup → (k, v) ∈ es → es.lookup k = some v
  | [], _, h => by cases h
  | (j, w) :: es, hn, h => by
    simp only [List.map_cons, List.nodup_cons] at hn
    rcases List.mem_cons.1 h with h | h
    · cases h; simp [List.lookup]
    · have : k ≠ j := fun e => hn.1 (e ▸ List.mem_map.2 ⟨_, h, rfl⟩)
      rw [List.lookup, beq_false_of_ne this]
      exact mem_lookup hn.2 h
theorem tab_keys (ks : KS) : (tabV ks).map (·.1) = (ks.map (·.1)).map fun p => [(p.1 : Int), (p.2 : Int)] := by simp [tabV, Function.comp_def]
theorem key_inj : ∀ p q : Nat × Nat, [(p.1 : Int), (p.2 : Int)] = [(q.1 : Int), (q.2 : Int)] → p = q := fun p q h => by
  simp only [List.cons.injEq, and_true] at h
  exact Prod.ext (Int.ofNat.inj h.1) (Int.ofNat.inj h.2)
theorem tab_nodup {ks : KS} (h : (ks.map (·.1)).Nodup) : ((tabV ks).map (·.1)).Nodup := by
  rw [tab_keys]
  exact List.Pairwise.map _ (fun a b n e => n (key_inj a b e)) h
theorem tab_look {ks : KS} (h : (ks.map (·.1)).Nodup) {x b i : Nat} (hm : ((x, b), i) ∈ ks) : (tabV ks).lookup [(x : Int), (b : Int)] = some (.lst [.int i]) :=
  mem_lookup (tab_nodup h) (List.mem_map.2 ⟨_, hm, rfl⟩)
theorem tab_none {ks : KS} {x : Nat} {b : Int} (hm : ∀ (c i : Nat), (c : Int) = b → ((x, c), i) ∉ ks) : (tabV ks).lookup [(x : Int), b] = Option.none := by
  rw [List.lookup_eq_none_iff]
  intro e he
  obtain ⟨⟨⟨y, c⟩, i⟩, h1, rfl⟩ := List.mem_map.1 he
  simp only [beq_eq_false_iff_ne, ne_eq, List.cons.injEq, and_true, bne_iff_ne]
  rintro ⟨h2, h3⟩
  cases Int.ofNat.inj h2
  exact hm c i h3.symm h1
section
variable {k : Nat} {H : Hp} {Q : VK} {g : Gr}
theorem choices_spec {ks : KS} (hn : (ks.map (·.1)).Nodup) (hl : ks.length < 64) (q : Q (.lst []) H) : wF prog (k + 1) .choices_of [.dcT (tabV ks)] H Q := by
  refine wF_mk (m := [some (.dcT (tabV ks)), none, none, none]) rfl rfl ?_
  unfold ir_choices_of
  trivial
  refine p_dcT rfl (by simpa [tabV] using hl) (fun e he => by obtain ⟨p, -, rfl⟩ := List.mem_map.1 he; rfl) fun l' hp hm => ?_
  have hlen : l'.length = ks.length := by rw [hp]; simp [tabV]
  refine frz (by simp only [big, List.length_map]; exact li2 [_, _] ⟨0, .v 0, .n 16000000⟩ ⟨0, .a (.v 1) (.n 1), .n 64⟩ ⟨0, .v 0, .v 1⟩ rfl hl (Nat.le_of_eq hlen)) (ci_l (fun z0 acc H' => acc = [] ∧ H' = H) ⟨rfl, rfl⟩ ?_ (by simp only [big, List.length_map]; exact li2 [_, _] ⟨0, .v 0, .n 16000000⟩ ⟨0, .a (.v 1) (.n 1), .n 64⟩ ⟨0, .v 0, .v 1⟩ rfl hl (Nat.le_of_eq hlen)) ?_)
  · rintro i _ _ _ hu ⟨rfl, rfl⟩
    simp only [List.getElem?_map, Option.map_eq_some_iff] at hu
    obtain ⟨key, hk, rfl⟩ := hu
    have := hm _ (List.mem_of_getElem? hk)
    rw [tab_keys, List.mem_map] at this
    obtain ⟨p, hp', rfl⟩ := this
    obtain ⟨⟨⟨x, b⟩, j⟩, hm', rfl⟩ := List.mem_map.1 hp'
    trivial
    refine sb_dT _ rfl (tab_look hn hm') ?_
    trivial
    refine p_len rfl ?_
    trivial
    exact c_gt (fun h => absurd h (Int.lt_irrefl 1)) fun z0 => ⟨rfl, rfl⟩
  · rintro _ _ ⟨rfl, rfl⟩
    exact keep q
theorem ll_clashes_spec (ah : Ahead g) (htc : g.tc ≤ 30) (q : Q (.lst []) H) : wF prog (k + 6) .ll_clashes [gV g] H Q := by
  refine wF_mk (m := [some (gV g)]) rfl rfl ?_
  unfold ir_ll_clashes
  trivial
  refine predict_spec ah htc fun ks z0 h2 h3 => ?_
  trivial
  exact choices_spec h2 h3 (keep q)
theorem is_ll_one_spec (ah : Ahead g) (htc : g.tc ≤ 30) (q : Q (.bool true) H) : wF prog (k + 7) .is_ll_one [gV g] H Q := by
  refine wF_mk (m := [some (gV g)]) rfl rfl ?_
  unfold ir_is_ll_one
  trivial
  refine ll_clashes_spec ah htc ?_
  trivial
  refine ls_frz rfl ?_
  trivial
  exact c_eq0 rfl rfl (fun z0 => keep q) (fun e => absurd rfl e)
end
section
variable {α : Type} [DecidableEq α]
noncomputable abbrev Prods (α : Type) := List (α × α × List α)
noncomputable def pick : Prods α → Nat → α → α → Option (Nat × List α)
  | [], _, _, _ => none
  | (l, m, v) :: ps, i, p, s => if l = p ∧ m = s then some (i, v) else pick ps (i + 1) p s
noncomputable def fr (ps : Prods α) : List α → List α → Nat → Nat ⊕ List Nat
  | [], [], _ => .inr []
  | [], _ :: _, n => .inl n
  | _ :: _, [], n => .inl n
  | p :: pl, s :: r, n => match pick ps 1 p s with
    | some (i, v) => (match fr ps (v ++ pl) r (n + 1) with | .inl n => .inl n | .inr us => .inr (i :: us))
    | none => if s = p then fr ps pl r (n + 1) else .inl n
noncomputable def app (us : List Nat) : Nat ⊕ List Nat → Nat ⊕ List Nat
  | .inl n => .inl n
  | .inr vs => .inr (us ++ vs)
theorem app_app (us vs) (r : Nat ⊕ List Nat) : app us (app vs r) = app (us ++ vs) r := by cases r <;> simp [app]
theorem app_nil (r : Nat ⊕ List Nat) : app [] r = r := by cases r <;> simp [app]
theorem pick_some {ps : Prods α} : ∀ {n i : Nat} {p s : α} {v : List α}, pick ps n p s = some (i, v) → n ≤ i ∧ ps[i - n]? = some (p, s, v) := by
  induction ps with
  | nil => intro n i p s v h; cases h
  | cons x ps ih =>
    have hO := x; have l := hO.1; have m := hO.2.1; have w := hO.2.2; clear hO
    intro n i p s v h
    unfold pick at h
    split at h
    · next e => cases h; obtain ⟨rfl, rfl⟩ := e; simp
    · have hO := ih h; have h1 := hO.1; have h2 := hO.2; clear hO
      refine ⟨by exact li1 [_, _] ⟨0, .v 0, .v 1⟩ ⟨0, .a (.v 0) (.n 1), .v 1⟩ rfl h1, ?_⟩
      rw [show i - n = (i - (n + 1)) + 1 by exact Nat.le_antisymm (li2 [_, _, _, _] ⟨0, .v 0, .a (.v 1) (.n 1)⟩ ⟨0, .a (.v 0) (.v 2), .v 3⟩ ⟨0, .v 3, .a (.v 1) (.a (.v 2) (.n 1))⟩ rfl (sb3 (li1 [_, _] ⟨0, .v 0, .v 1⟩ ⟨0, .a (.v 0) (.n 1), .v 1⟩ rfl h1)) (sb1 _ _)) (li2 [_, _, _, _] ⟨0, .a (.v 0) (.n 1), .v 1⟩ ⟨0, .v 2, .a (.v 1) (.v 3)⟩ ⟨0, .a (.v 0) (.a (.v 3) (.n 1)), .v 2⟩ rfl (sb1 _ _) (sb3 (h1)))]
      exact h2
theorem pick_none {ps : Prods α} : ∀ {n : Nat} {p s : α}, pick ps n p s = none → ∀ (j : Nat) v, ps[j]? ≠ some (p, s, v) := by
  induction ps with
  | nil => intro n p s _ j v h; simp at h
  | cons x ps ih =>
    obtain ⟨l, m, w⟩ := x
    intro n p s h j v e
    unfold pick at h
    split at h
    · cases h
    · next hn =>
      cases j with
      | zero => simp at e; exact hn ⟨e.1, e.2.1⟩
      | succ j => exact ih h j v (by simpa using e)
theorem fr_some {ps : Prods α} {p s : α} {pl r : List α} {n i v} (h : pick ps 1 p s = some (i, v)) : fr ps (p :: pl) (s :: r) n = app [i] (fr ps (v ++ pl) r (n + 1)) := by
  rw [fr, h]; dsimp only; cases fr ps (v ++ pl) r (n + 1) <;> rfl
theorem fr_same {ps : Prods α} {p s : α} {pl r : List α} {n} (h : pick ps 1 p s = none) (e : s = p) : fr ps (p :: pl) (s :: r) n = fr ps pl r (n + 1) := by rw [fr, h]; exact if_pos e
theorem fr_other {ps : Prods α} {p s : α} {pl r : List α} {n} (h : pick ps 1 p s = none) (e : s ≠ p) : fr ps (p :: pl) (s :: r) n = .inl n := by rw [fr, h]; exact if_neg e
theorem fr_out {ps : Prods α} {p : α} {pl : List α} {n} : fr ps (p :: pl) [] n = .inl n := by rw [fr]
theorem fr_rest {ps : Prods α} {s : α} {r : List α} {n} : fr ps [] (s :: r) n = .inl n := by rw [fr]
theorem fr_end {ps : Prods α} {n} : fr ps [] [] n = .inr [] := by rw [fr]
end
section
variable {α β : Type} [DecidableEq α] [DecidableEq β]
noncomputable def mapP (f : α → β) (ps : Prods α) : Prods β := ps.map fun x => (f x.1, f x.2.1, x.2.2.map f)
theorem pick_map {f : α → β} {N : α → Prop} (inj : ∀ p s, N p → f s = f p → s = p) {s : α} : ∀ {ps : Prods α} {n : Nat} {p : α}, (∀ x ∈ ps, N x.2.1) → N p →
    pick (mapP f ps) n (f p) (f s) = (pick ps n p s).map fun x => (x.1, x.2.map f)
  | [], _, _, _, _ => rfl
  | (l, m, v) :: ps, n, p, hN, hp => by
    simp only [mapP, List.map_cons, pick]
    have h1 : (f l = f p ∧ f m = f s) ↔ (l = p ∧ m = s) := ⟨fun ⟨a, b⟩ => ⟨inj _ _ hp a, (inj _ _ (hN _ (List.mem_cons_self ..)) b.symm).symm⟩, fun ⟨a, b⟩ => by rw [a, b]; exact ⟨rfl, rfl⟩⟩
    by_cases h : l = p ∧ m = s
    · rw [if_pos h, if_pos (h1.2 h)]; rfl
    · rw [if_neg h, if_neg fun e => h (h1.1 e)]
      exact pick_map inj (ps := ps) (fun x hx => hN x (List.mem_cons_of_mem _ hx)) hp
theorem fr_map {f : α → β} {N : α → Prop} (inj : ∀ p s, N p → f s = f p → s = p) {ps : Prods α} (hN : ∀ x ∈ ps, N x.2.1 ∧ ∀ y ∈ x.2.2, N y) :
    ∀ (r : List α) (pl : List α) (n : Nat), (∀ p ∈ pl, N p) → fr (mapP f ps) (pl.map f) (r.map f) n = fr ps pl r n
  | [], [], _, _ => fr_end.trans fr_end.symm
  | [], p :: pl, _, _ => fr_out.trans fr_out.symm
  | s :: r, [], _, _ => fr_rest.trans fr_rest.symm
  | s :: r, p :: pl, n, hp => by
    rw [List.map_cons, List.map_cons]
    have hpp := hp p (List.mem_cons_self ..)
    have hpl := fun q hq => hp q (List.mem_cons_of_mem _ hq)
    have hm := pick_map inj (s := s) (ps := ps) (n := 1) (p := p) (fun x hx => (hN x hx).1) hpp
    cases h : pick ps 1 p s with
    | none =>
      rw [h] at hm
      by_cases e : s = p
      · rw [fr_same h e, fr_same hm (congrArg f e), fr_map inj hN r pl (n + 1) hpl]
      · rw [fr_other h e, fr_other hm fun q => e (inj _ _ hpp q)]
    | some x =>
      induction x with | mk i v => ?_
      rw [h] at hm
      rw [fr_some h, fr_some hm, ← List.map_append, fr_map inj hN r (v ++ pl) (n + 1)]
      intro q hq
      rcases List.mem_append.1 hq with hq | hq
      · exact (hN _ (List.mem_of_getElem? (pick_some h).2)).2 q hq
      · exact hpl q hq
end
noncomputable abbrev inV (l : List Int) : List V := l.map V.int
noncomputable abbrev nz (l : List Nat) : List Int := l.map fun (n : Nat) => (n : Int)
theorem nz_nil : nz [] = [] := rfl
theorem nz_cons (x l) : nz (x :: l) = (x : Int) :: nz l := rfl
theorem nz_app (l r) : nz (l ++ r) = nz l ++ nz r := by simp [nz]
noncomputable def prodsA (g : Gr) : Prods Int := (g.rules.drop 1).map fun r => ((r.1 : Int), ((r.2.headD 0 : Nat) : Int), nz (r.2.drop 1))
section
variable {g : Gr}
theorem prodsA_get {i : Nat} {x : Int × Int × List Int} : (prodsA g)[i]? = some x ↔ ∃ r, g.rules[i + 1]? = some r ∧ x = ((r.1 : Int), ((r.2.headD 0 : Nat) : Int), nz (r.2.drop 1)) := by
  simp only [prodsA, List.getElem?_map, List.getElem?_drop, Option.map_eq_some_iff, Nat.add_comm 1 i]
  exact ⟨fun ⟨r, h, e⟩ => ⟨r, h, e.symm⟩, fun ⟨r, h, e⟩ => ⟨r, h, e.symm⟩⟩
theorem pickA_some (ah : Ahead g) {p s : Int} {i : Nat} {v : List Int} (h : pick (prodsA g) 1 p s = some (i, v)) : 1 ≤ i ∧ ∃ l m w, g.rules[i]? = some (l, m :: w) ∧ p = l ∧ s = m ∧ v = nz w ∧ m < g.tc := by
  have hO := pick_some h; have h1 := hO.1; have h2 := hO.2; clear hO
  obtain ⟨⟨l, r⟩, h3, h4⟩ := prodsA_get.1 h2
  rw [show i - 1 + 1 = i by exact Nat.le_antisymm ((sb3 (h1))) ((sb1 _ _))] at h3
  obtain ⟨-, m, w, rfl, hm⟩ := ah.mark _ _ _ h1 h3
  cases h4
  exact ⟨h1, l, m, w, h3, rfl, rfl, rfl, hm⟩
theorem pickA_none (ah : Ahead g) {p s : Int} (h : pick (prodsA g) 1 p s = none) {i l m : Nat} {w : List Nat} (hi : 1 ≤ i) (hr : g.rules[i]? = some (l, m :: w)) : ¬ (p = l ∧ s = m) := fun ⟨e1, e2⟩ => by
  subst e1 e2
  refine pick_none h (i - 1) (nz w) (prodsA_get.2 ⟨(l, m :: w), ?_, rfl⟩)
  rw [show i - 1 + 1 = i by exact Nat.le_antisymm ((sb3 (hi))) ((sb1 _ _))]; exact hr
end
inductive Kd (g : Gr) (S : Nat) (word : List Int) (tot : Nat ⊕ List Nat) : List Nat → Nat → List Nat → Nat → Prop
  | init (h : tot = fr (prodsA g) [(S : Int)] word 0) : Kd g S word tot [g.tc] 0 [] (2 * word.length + 5)
  | a (P : List Nat) (i : Nat) (us : List Nat) (hi : i ≤ word.length) (hP : ∀ x ∈ P, x ≠ 0 ∧ x ≠ g.tc) (h : tot = app us (fr (prodsA g) (nz P) (word.drop i) i)) : Kd g S word tot (P ++ [0]) i (0 :: us) (2 * (word.length - i) + 3)
  | b (P : List Nat) (i m : Nat) (us : List Nat) (hm : m < g.tc) (hi : word[i]? = some (m : Int)) (hP : ∀ x ∈ P, x ≠ 0 ∧ x ≠ g.tc) (h : tot = app us (fr (prodsA g) (nz P) (word.drop (i + 1)) (i + 1))) : Kd g S word tot (m :: P ++ [0]) i (0 :: us) (2 * (word.length - i) + 2)
  | fin (us : List Nat) (i : Nat) (h : tot = .inr us) : Kd g S word tot [] i (0 :: us) 0
section
variable {g : Gr} {S : Nat} {word : List Int} {tot : Nat ⊕ List Nat}
theorem drop_cons {α} {l : List α} {i : Nat} {x : α} (h : l[i]? = some x) : l.drop i = x :: l.drop (i + 1) := by
  obtain ⟨h1, h2⟩ := List.getElem?_eq_some_iff.1 h
  rw [List.drop_eq_getElem_cons h1, h2]
theorem end_get (word : List Int) : (word ++ [0])[word.length]? = some 0 := by simp
theorem row_get {word : List Int} {i : Nat} {s : Int} (h : word[i]? = some s) : (word ++ [0])[i]? = some s := by
  rw [List.getElem?_append_left (List.getElem?_eq_some_iff.1 h).1]; exact h
theorem Kd.done (ah : Ahead g) {i us n} (k : Kd g S word tot [] i us n) : ∃ vs, us = 0 :: vs ∧ tot = .inr vs := by
  generalize hX : ([] : List Nat) = X at k
  induction k with
  | init => cases hX
  | a P => cases P <;> cases hX
  | b => cases hX
  | fin us i h => exact ⟨_, rfl, h⟩
end
inductive KdL (g : Gr) (S : Nat) (word : List Int) (tot : Nat ⊕ List Nat) (X : List Nat) (i : Nat) (us : List Nat) (n : Nat) : Prop
  | mk (n' : Nat) (h : n' < n) (k : Kd g S word tot X i us n')
inductive KdT (g : Gr) (S : Nat) (word : List Int) (tot : Nat ⊕ List Nat) (X : List Nat) (i : Nat) (us : List Nat) (n x : Nat) : Prop
  | mk (s : Int) (e : (word ++ [0])[i]? = some s) (h1 : (x : Int) ≠ s → tot = .inl i) (h2 : (x : Int) = s → KdL g S word tot X (i + 1) us n)
inductive KdY (g : Gr) (S : Nat) (word : List Int) (tot : Nat ⊕ List Nat) (X : List Nat) (i : Nat) (us : List Nat) (n j : Nat) : Prop
  | mk (l : Nat) (w : List Nat) (hr : g.rules[j]? = some (l, w)) (k : KdL g S word tot (w ++ X) i (us ++ [j]) n)
inductive KdN (g : Gr) (S : Nat) (word : List Int) (tot : Nat ⊕ List Nat) (X : List Nat) (i : Nat) (us : List Nat) (n x : Nat) : Prop
  | mk (s : Int) (e : (word ++ [0])[i]? = some s) (h1 : (∀ b j : Nat, (b : Int) = s → ¬ Ent g x b j) → tot = .inl i) (h2 : ∀ b j : Nat, (b : Int) = s → Ent g x b j → KdY g S word tot X i us n j)
section
variable {g : Gr} {S : Nat} {word : List Int} {tot : Nat ⊕ List Nat} {i : Nat} {us P X : List Nat} {x : Nat}
theorem kd_lt (hl : i < word.length) : 2 * (word.length - (i + 1)) + 3 < 2 * (word.length - i) + 2 :=
  li2 [_, _, _, _] ⟨0, .a (.a (.l 2 (.v 0)) (.n 3)) (.n 1), .a (.l 2 (.v 1)) (.n 2)⟩ ⟨1, .a (.v 0) (.a (.v 2) (.n 1)), .v 3⟩ ⟨1, .v 3, .a (.v 1) (.v 2)⟩ rfl (sb3 hl) (sb1 _ _)
inductive At (word : List Int) : Nat → Prop
  | more {i : Nat} (s : Int) (hl : i < word.length) (hs : word[i]? = some s) (hd : word.drop i = s :: word.drop (i + 1)) : At word i
  | fin : At word word.length
theorem at_ (hi : i ≤ word.length) : At word i := by
  by_cases hl : i < word.length
  · have hs := List.getElem?_eq_getElem hl
    exact .more _ hl hs (drop_cons hs)
  · cases Nat.le_antisymm hi (Nat.le_of_not_lt hl); exact .fin
theorem ter_b (hi : word[i]? = some (x : Int)) (hP : ∀ x ∈ P, x ≠ 0 ∧ x ≠ g.tc) (h : tot = app us (fr (prodsA g) (nz P) (word.drop (i + 1)) (i + 1))) : KdT g S word tot (P ++ [0]) i (0 :: us) (2 * (word.length - i) + 2) x :=
  .mk _ (row_get hi) (fun e => absurd rfl e) fun z0 => .mk _ (kd_lt (List.getElem?_eq_some_iff.1 hi).1) (.a P (i + 1) us (List.getElem?_eq_some_iff.1 hi).1 hP h)
theorem ter_a0 (hw : ∀ s ∈ word, s ≠ 0 ∧ s < g.tc) (at_ : At word i) (h : tot = app us (fr (prodsA g) [] (word.drop i) i)) : KdT g S word tot [] i (0 :: us) (2 * (word.length - i) + 3) 0 := by
  induction at_ with
  | more s hl hs hd => rw [hd, fr_rest] at h; exact .mk _ (row_get hs) (fun z0 => h) fun e => absurd e.symm (hw _ (List.mem_of_getElem? hs)).1
  | fin => rw [List.drop_length, fr_end] at h; exact .mk 0 (end_get word) (fun e => absurd rfl e) fun z0 => .mk 0 (Nat.succ_pos _) (.fin us _ (by rw [h]; simp [app]))
theorem ter_a (ah : Ahead g) (at_ : At word i) (hP : ∀ z ∈ x :: P, z ≠ 0 ∧ z ≠ g.tc) (h : tot = app us (fr (prodsA g) (x :: nz P) (word.drop i) i)) (hx : x < g.tc) : KdT g S word tot (P ++ [0]) i (0 :: us) (2 * (word.length - i) + 3) x := by
  induction at_ with
  | more s hl hs hd =>
    rw [hd] at h
    have hp : pick (prodsA g) 1 (x : Int) s = none := by
      cases hp : pick (prodsA g) 1 (x : Int) s with
      | some q =>
        obtain ⟨h1, l, m, w, hO⟩ := pickA_some ah hp; have h2 := hO.1; have h3 := hO.2.1; clear hO
        exact absurd (Int.ofNat.inj h3 ▸ (ah.mark _ _ _ h1 h2).1) (Nat.not_lt_of_le (Nat.le_of_lt hx))
      | none => rfl
    exact .mk _ (row_get hs) (fun e => by rw [fr_other hp (Ne.symm e)] at h; exact h) fun e => .mk _ (Nat.lt_succ_of_lt (kd_lt hl)) (.a P _ us hl (fun x hx => hP x (List.mem_cons_of_mem _ hx)) (by rw [fr_same hp e.symm] at h; exact h))
  | fin => rw [List.drop_length, fr_out] at h; exact .mk 0 (end_get word) (fun z0 => h) fun e => absurd (Int.ofNat.inj e) (hP x (List.mem_cons_self ..)).1
theorem Kd.ter (ah : Ahead g) (hw : ∀ s ∈ word, s ≠ 0 ∧ s < g.tc) {n} (k : Kd g S word tot (x :: X) i us n) (hx : x < g.tc) : KdT g S word tot X i us n x := by
  generalize hY : x :: X = Y at k
  induction k with
  | init => cases hY; exact absurd hx (Nat.lt_irrefl _)
  | fin => cases hY
  | b P _ m us' hm hi hP h => cases hY; exact ter_b hi hP h
  | a P _ us' hi hP h =>
    cases P with
    | nil => cases hY; exact ter_a0 hw (at_ hi) h
    | cons y P => cases hY; exact ter_a ah (at_ hi) hP h hx
theorem non_0 (ah : Ahead g) (hw : ∀ s ∈ word, s ≠ 0 ∧ s < g.tc) (h0 : ∀ (i l : Nat) (w : List Nat), 1 ≤ i → g.rules[i]? = some (l, w) → ∀ x ∈ w, x ≠ 0 ∧ x ≠ g.tc) (hS : g.rules[0]? = some (g.tc, [S, 0])) (hS0 : S ≠ 0 ∧ g.tc < S)
    (h : tot = fr (prodsA g) [(S : Int)] word 0) : KdN g S word tot [] 0 [] (2 * word.length + 5) g.tc := by
  cases word with
  | nil =>
    rw [fr_out] at h
    refine .mk 0 rfl (fun z0 => h) fun b j e hj => ?_
    cases Int.ofNat.inj e
    rcases hj with ⟨h1, w, h2⟩ | ⟨-, -, S', j, w, h1, -, h2⟩
    · exact absurd rfl (h0 _ _ _ h1 h2 0 (List.mem_cons_self ..)).1
    · exact absurd rfl (h0 _ _ _ h1 h2 0 (List.mem_cons_self ..)).1
  | cons s r =>
    refine .mk s rfl (fun hn => ?_) fun b j e hj => ?_
    · cases hp : pick (prodsA g) 1 (S : Int) s with
      | some q =>
        obtain ⟨h1, l, m, w, hO⟩ := pickA_some ah hp; have h2 := hO.1; have h3 := hO.2.1; have h4 := hO.2.2.1; clear hO
        exact absurd (Or.inr ⟨rfl, rfl, _, _, w, h1, hS, Int.ofNat.inj h3 ▸ h2⟩) (hn m 0 h4.symm)
      | none =>
        have hs := (hw s (List.mem_cons_self ..)).2
        rw [fr_other hp (fun e => Int.lt_irrefl _ (Int.lt_trans (e ▸ hs) (Int.ofNat_lt.2 hS0.2)))] at h; exact h
    · rcases hj with ⟨h1, w, h2⟩ | ⟨rfl, -, -⟩
      · exact absurd (ah.mark _ _ _ h1 h2).1 (Nat.lt_irrefl _)
      · exact .mk _ _ hS (.mk (2 * ((s :: r).length - 0) + 3) (li1 [_, _] ⟨0, .a (.a (.l 2 (.v 0)) (.n 3)) (.n 1), .a (.l 2 (.v 1)) (.n 5)⟩ ⟨1, .v 0, .v 1⟩ rfl (Nat.sub_le _ _)) (.a [S] 0 [] (Nat.zero_le _) (fun x hx => by rw [List.mem_singleton.1 hx]; exact ⟨hS0.1, Nat.ne_of_gt hS0.2⟩) (by rw [app_nil]; exact h)))
theorem non_a (ah : Ahead g) (hw : ∀ s ∈ word, s ≠ 0 ∧ s < g.tc) (h0 : ∀ (i l : Nat) (w : List Nat), 1 ≤ i → g.rules[i]? = some (l, w) → ∀ x ∈ w, x ≠ 0 ∧ x ≠ g.tc)
    (at_ : At word i) (hP : ∀ z ∈ x :: P, z ≠ 0 ∧ z ≠ g.tc) (h : tot = app us (fr (prodsA g) (x :: nz P) (word.drop i) i)) (hx : ¬ x < g.tc) : KdN g S word tot (P ++ [0]) i (0 :: us) (2 * (word.length - i) + 3) x := by
  have hx0 := hP x (List.mem_cons_self ..)
  induction at_ with
  | more s hl hs hd =>
    rw [hd] at h
    refine .mk _ (row_get hs) (fun hn => ?_) fun b j e hj => ?_
    · cases hp : pick (prodsA g) 1 (x : Int) s with
      | some q =>
        obtain ⟨h1, l, m, w, hO⟩ := pickA_some ah hp; have h2 := hO.1; have h3 := hO.2.1; have h4 := hO.2.2.1; clear hO
        exact absurd (Or.inl ⟨h1, w, Int.ofNat.inj h3 ▸ h2⟩) (hn m _ h4.symm)
      | none =>
        have hs := (hw _ (List.mem_of_getElem? hs)).2
        rw [fr_other hp (fun e => hx (Int.ofNat_lt.1 (e ▸ hs)))] at h; exact h
    · rcases hj with ⟨h1, w, h2⟩ | ⟨-, e, -⟩
      · refine .mk _ _ h2 (.mk (2 * (word.length - _) + 2) (Nat.lt_succ_self _) ?_)
        rw [show b :: w ++ (P ++ [0]) = b :: (w ++ P) ++ [0] from congrArg (b :: ·) (List.append_assoc ..).symm]
        refine .b (w ++ P) _ b (us ++ [j]) ?_ (e ▸ hs) ?_ ?_
        · obtain ⟨-, m, v, hO⟩ := ah.mark _ _ _ h1 h2; have e := hO.1; have hm := hO.2; clear hO
          cases e; exact hm
        · exact fun z hz => (List.mem_append.1 hz).elim (fun hz => h0 _ _ _ h1 h2 z (List.mem_cons_of_mem _ hz)) fun hz => hP z (List.mem_cons_of_mem _ hz)
        · cases hp : pick (prodsA g) 1 (x : Int) s with
          | none => exact absurd ⟨rfl, e.symm⟩ (pickA_none ah hp h1 h2)
          | some q =>
            obtain ⟨h1', l, m, w', hO⟩ := pickA_some ah hp; have h2' := hO.1; have h3 := hO.2.1; have h4 := hO.2.2.1; have h5 := hO.2.2.2.1; clear hO
            cases Int.ofNat.inj h3
            cases Int.ofNat.inj (e.trans h4)
            cases ah.uniq _ _ _ _ _ _ _ h1 h1' h2 h2'
            rw [h2] at h2'; cases h2'
            rw [fr_some hp, app_app, h5, ← nz_app] at h
            exact h
      · exact absurd e hx0.2
  | fin =>
    rw [List.drop_length, fr_out] at h
    refine .mk 0 (end_get word) (fun z0 => h) fun b j e hj => ?_
    cases Int.ofNat.inj e
    rcases hj with ⟨h1, w, h2⟩ | ⟨-, e, -⟩
    · exact absurd rfl (h0 _ _ _ h1 h2 0 (List.mem_cons_self ..)).1
    · exact absurd e hx0.2
theorem Kd.non (ah : Ahead g) (hw : ∀ s ∈ word, s ≠ 0 ∧ s < g.tc) (h0 : ∀ (i l : Nat) (w : List Nat), 1 ≤ i → g.rules[i]? = some (l, w) → ∀ x ∈ w, x ≠ 0 ∧ x ≠ g.tc) (hS : g.rules[0]? = some (g.tc, [S, 0])) (hS0 : S ≠ 0 ∧ g.tc < S) {n} (k : Kd g S word tot (x :: X) i us n) (hx : ¬ x < g.tc) :
    KdN g S word tot X i us n x := by
  generalize hY : x :: X = Y at k
  induction k with
  | fin => cases hY
  | b P _ m us' hm hi hP h => cases hY; exact absurd hm hx
  | init h => cases hY; exact non_0 ah hw h0 hS hS0 h
  | a P _ us' hi hP h =>
    cases P with
    | nil => cases hY; exact absurd ah.tc0 hx
    | cons y P => cases hY; exact non_a ah hw h0 (at_ hi) hP h hx
end
inductive ILed (g : Gr) (S : Nat) (ks : KS) (word : List Int) (tot : Nat ⊕ List Nat) (H : Hp) (p u n : Nat) : Loc → Hp → Prop
  | mk {H' a7 a8 a9} (X : List Nat) (i : Nat) (us : List Nat) (k : Kd g S word tot X i us n) (hp : H' p = some (.list (nats X.reverse))) (hu : H' u = some (.list (nats us))) (hs : Sub H H') (hX : X.length ≤ 11 * (2 * word.length + 6 - n)) (hn : us.length ≤ 2 * word.length + 6 - n) (hm : n < 2 * word.length + 6) :
    ILed g S ks word tot H p u n [some (gV g), some (.dcT (tabV ks)), some (.lst (inV word)), some (.lst (inV (word ++ [0]))), some (.ref p), some (.ref u), some (.int (i : Int)), a7, a8, a9] H'
inductive IPush (g : Gr) (ks : KS) (word : List Int) (H : Hp) (p u : Nat) (us : List Nat) (i : Nat) (a7 a8 : V) (X w : List Nat) (j : Nat) : Loc → Hp → Prop
  | mk {H' a9} (hp : H' p = some (.list (nats (X.reverse ++ w.reverse.take j)))) (hu : H' u = some (.list (nats us))) (hs : Sub H H') :
    IPush g ks word H p u us i a7 a8 X w j [some (gV g), some (.dcT (tabV ks)), some (.lst (inV word)), some (.lst (inV (word ++ [0]))), some (.ref p), some (.ref u), some (.int (i : Int)), some a7, some a8, a9] H'
theorem mt_getT {C : CallW} {xs : Xs} {m : Loc} {Q : VK} {H : Hp} {es} (q : wEs C xs m H (mbK (.dcT es) "get" Q)) : mtK C "get" xs m Q (.dcT es) H := .inr ⟨.dcT rfl, q⟩
theorem mb_getT {Q : VK} {H : Hp} {es d} (k : List Int) (q : Q ((es.lookup k).getD d) H) : mbK (.dcT es) "get" Q [.tup (k.map V.int), d] H := MethW.getT rfl q
section
variable {k : Nat} {H : Hp} {Q : VK} {g : Gr} {S : Nat} {word : List Int} {ks : KS}
theorem ints_get {l : List Int} {i : Nat} {s : Int} (h : l[i]? = some s) : (inV l)[i]? = some (.int s) := by simp [inV, h]
theorem rev_cons_nats (x : Nat) (X : List Nat) : nats (x :: X).reverse = nats X.reverse ++ [V.int x] := by simp [nats]
theorem led_by_spec (ah : Ahead g) (h0 : ∀ (i l : Nat) (w : List Nat), 1 ≤ i → g.rules[i]? = some (l, w) → ∀ x ∈ w, x ≠ 0 ∧ x ≠ g.tc) (hS : g.rules[0]? = some (g.tc, [S, 0])) (hS0 : S ≠ 0 ∧ g.tc < S)
    (hk : ∀ x b j, ((x, b), j) ∈ ks ↔ Ent g x b j) (hn : (ks.map (·.1)).Nodup) (hw : ∀ s ∈ word, s ≠ 0 ∧ s < g.tc) (hl : word.length ≤ 100)
    (q1 : ∀ n : Nat, fr (prodsA g) [(S : Int)] word 0 = .inl n → Q (.tup [.bool false, .int n]) H)
    (q2 : ∀ us, fr (prodsA g) [(S : Int)] word 0 = .inr us → Q (.tup [.bool true, .lst (nats (0 :: us))]) H) : wF prog (k + 2) .led_by [gV g, .dcT (tabV ks), .lst (inV word)] H Q := by
  refine wF_mk (m := [some (gV g), some (.dcT (tabV ks)), some (.lst (inV word)), none, none, none, none, none, none, none]) rfl rfl ?_
  unfold ir_led_by
  generalize ht : fr (prodsA g) [(S : Int)] word 0 = tot at q1 q2
  trivial
  refine p_list rfl (frz (by simp only [big, inV, List.length_map]; exact li1 [_] ⟨0, .v 0, .n 16000000⟩ ⟨0, .v 0, .n 100⟩ rfl hl) ?_)
  trivial
  refine ls_frz rfl (b_addl rfl rfl (frz (by simp only [big, inV, List.length_append, List.length_map, List.length_cons, List.length_nil]; exact li1 [_] ⟨0, .a (.v 0) (.n 1), .n 16000000⟩ ⟨0, .v 0, .n 100⟩ rfl hl) ?_))
  rw [show inV word ++ [V.int 0] = inV (word ++ [0]) by simp [inV]]
  trivial
  refine ls_new rfl fun p hp => ?_
  trivial
  refine ls_new rfl fun u hu => ?_
  have hpu : p ≠ u := Hp.ne_of hu (Hp.set_same _ _ _)
  have hu0 : H u = Option.none := by rwa [Hp.set_ne _ _ hpu.symm] at hu
  trivial
  refine s_while (ILed g S ks word tot H p u) (.mk [g.tc] 0 [] (.init ht.symm) (Hp.set_ne' hpu (Hp.set_same _ _ _)) (Hp.set_same _ _ _) ((Sub.new hp _).set hu0 _) (by simp only [List.length_cons, List.length_nil]; exact li1 [_, _] ⟨0, .n 1, .l 11 (.v 0)⟩ ⟨10, .a (.l 2 (.v 1)) (.n 6), .a (.v 0) (.a (.l 2 (.v 1)) (.n 5))⟩ rfl (sb1 _ _)) (Nat.zero_le _) (by exact li0 [_] ⟨0, .a (.a (.l 2 (.v 0)) (.n 5)) (.n 1), .a (.l 2 (.v 0)) (.n 6)⟩ rfl)) ?_
  intro n _ H2 hI0; induction hI0 with | mk X i us kd fp fu hs hX hus hm => ?_
  trivial
  refine ls_frz rfl (c_ne0 (l_ref fp) rfl (fun hne => ?_) fun he => ?_)
  · cases X with
    | nil => exact absurd rfl hne
    | cons x X =>
      rw [rev_cons_nats] at fp
      trivial
      refine mt_pop fp ?_
      trivial
      refine is_terminal_spec g (bq_d (fun hx => ?_) fun hx => ?_)
      · obtain ⟨s, e, f1, f2⟩ := kd.ter ah hw hx
        trivial
        refine sb_l (ints_get e) (c_ne (fun h => ?_) fun h => ?_)
        · trivial
          exact drop (hs.set hp _) .rfl (q1 i (f1 h))
        · obtain ⟨n', hn', k'⟩ := f2 h
          trivial
          simp only [List.length_cons] at hX
          exact wh hn' (.mk X (i + 1) us k' (Hp.set_same _ _ _) (Hp.set_ne' hpu.symm fu) (hs.set hp _) (by exact li4 [_, _, _, _, _, _] ⟨0, .v 0, .l 11 (.v 1)⟩ ⟨0, .a (.v 0) (.n 1), .l 11 (.v 2)⟩ ⟨10, .a (.v 3) (.n 1), .v 4⟩ ⟨10, .a (.v 2) (.v 4), .a (.l 2 (.v 5)) (.n 6)⟩ ⟨10, .a (.l 2 (.v 5)) (.n 6), .a (.v 1) (.v 3)⟩ rfl hX hn' (sb3 (li1 [_, _] ⟨0, .v 0, .a (.l 2 (.v 1)) (.n 6)⟩ ⟨0, .a (.v 0) (.n 1), .a (.l 2 (.v 1)) (.n 6)⟩ rfl hm)) (sb1 _ _)) (by exact li4 [_, _, _, _, _, _] ⟨0, .v 0, .v 1⟩ ⟨0, .v 0, .v 2⟩ ⟨0, .a (.v 3) (.n 1), .v 4⟩ ⟨0, .a (.v 2) (.v 4), .a (.l 2 (.v 5)) (.n 6)⟩ ⟨0, .a (.l 2 (.v 5)) (.n 6), .a (.v 1) (.v 3)⟩ rfl hus hn' (sb3 (li1 [_, _] ⟨0, .v 0, .a (.l 2 (.v 1)) (.n 6)⟩ ⟨0, .a (.v 0) (.n 1), .a (.l 2 (.v 1)) (.n 6)⟩ rfl hm)) (sb1 _ _)) (by exact li2 [_, _, _] ⟨0, .a (.v 0) (.n 1), .a (.l 2 (.v 1)) (.n 6)⟩ ⟨0, .a (.v 2) (.n 1), .a (.l 2 (.v 1)) (.n 6)⟩ ⟨0, .a (.v 0) (.n 1), .v 2⟩ rfl hm hn'))
      · obtain ⟨s, e, f1, f2⟩ := kd.non ah hw h0 hS hS0 hx
        trivial
        refine mt_getT ?_
        trivial
        refine sb_l (ints_get e) ?_
        trivial
        refine ls_frz rfl ?_
        trivial
        refine mb_getT [(x : Int), s] ?_
        by_cases hex : ∃ b j : Nat, (b : Int) = s ∧ Ent g x b j
        · obtain ⟨b, j, rfl, hj⟩ := hex
          obtain ⟨l, w, hr, n', hn', k'⟩ := f2 b j rfl hj
          have hwl := (ah.rule _ _ _ hr).2.2.2.1
          rw [tab_look hn ((hk _ _ _).2 hj), Option.getD_some]
          trivial
          refine ls_frz rfl (c_eq0 rfl rfl (fun e => nomatch e) fun z0 => ?_)
          trivial
          have fu' := Hp.set_ne' (o := .list (nats X.reverse)) hpu.symm fu
          refine mt_app fu' ?_
          trivial
          refine mb_app fu' (by rw [nats_len]; simp only [big]; exact li3 [_, _, _] ⟨0, .a (.v 0) (.n 1), .n 16000000⟩ ⟨1, .v 1, .n 100⟩ ⟨0, .v 0, .v 2⟩ ⟨0, .v 2, .a (.l 2 (.v 1)) (.n 6)⟩ rfl hl hus (Nat.sub_le _ _)) ?_
          trivial
          refine sb_l (rulesV_get hr) ?_
          trivial
          have hus' : nats us ++ [V.int j] = nats (us ++ [j]) := by simp [nats]
          simp only [List.length_cons] at hX
          refine for_rev (IPush g ks word H p u (us ++ [j]) i (.int x) (.lst [.int j]) X w) (.mk (Hp.set_ne' hpu ((Hp.set_same _ _ _).trans (by simp))) ((Hp.set_same _ _ _).trans (by rw [hus'])) ((hs.set hp _).set hu0 _)) ?_ ?_
          · intro t v _ H3 hv hI0; induction hI0 with | mk fp fu hs => ?_
            rw [← List.map_reverse] at hv
            obtain ⟨y, hy, rfl⟩ := nats_of hv
            trivial
            refine mt_app fp ?_
            trivial
            refine mb_app fp (by simp only [big, nats_len, List.length_append, List.length_reverse, List.length_take]; exact li5 [_, _, _, _, _] ⟨0, .a (.a (.v 0) (.v 1)) (.n 1), .n 16000000⟩ ⟨21, .v 2, .n 100⟩ ⟨0, .a (.v 0) (.n 1), .l 11 (.v 3)⟩ ⟨0, .v 4, .n 10⟩ ⟨10, .v 3, .a (.l 2 (.v 2)) (.n 6)⟩ ⟨0, .v 1, .v 4⟩ rfl hl hX hwl (Nat.sub_le _ _) (Nat.min_le_right _ _)) ?_
            trivial
            exact .mk ((Hp.set_same _ _ _).trans (by rw [take_next hy]; simp [nats])) (Hp.set_ne' hpu.symm fu) (hs.set hp _)
          · intro _ H3 hI0; induction hI0 with | mk fp fu hs => ?_
            rw [nats_len, ← List.length_reverse, List.take_length, ← List.reverse_append] at fp
            trivial
            exact wh hn' (.mk (w ++ X) i (us ++ [j]) k' fp fu hs (by rw [List.length_append]; exact li5 [_, _, _, _, _, _, _] ⟨0, .a (.v 0) (.v 1), .l 11 (.v 2)⟩ ⟨0, .a (.v 1) (.n 1), .l 11 (.v 3)⟩ ⟨10, .a (.v 4) (.n 1), .v 5⟩ ⟨0, .v 0, .n 10⟩ ⟨10, .a (.v 3) (.v 5), .a (.l 2 (.v 6)) (.n 6)⟩ ⟨10, .a (.l 2 (.v 6)) (.n 6), .a (.v 2) (.v 4)⟩ rfl hX hn' hwl (sb3 (li1 [_, _] ⟨0, .v 0, .a (.l 2 (.v 1)) (.n 6)⟩ ⟨0, .a (.v 0) (.n 1), .a (.l 2 (.v 1)) (.n 6)⟩ rfl hm)) (sb1 _ _)) (by rw [List.length_append, List.length_singleton]; exact li4 [_, _, _, _, _, _] ⟨0, .a (.v 0) (.n 1), .v 1⟩ ⟨0, .v 0, .v 2⟩ ⟨0, .a (.v 3) (.n 1), .v 4⟩ ⟨0, .a (.v 2) (.v 4), .a (.l 2 (.v 5)) (.n 6)⟩ ⟨0, .a (.l 2 (.v 5)) (.n 6), .a (.v 1) (.v 3)⟩ rfl hus hn' (sb3 (li1 [_, _] ⟨0, .v 0, .a (.l 2 (.v 1)) (.n 6)⟩ ⟨0, .a (.v 0) (.n 1), .a (.l 2 (.v 1)) (.n 6)⟩ rfl hm)) (sb1 _ _)) (by exact li2 [_, _, _] ⟨0, .a (.v 0) (.n 1), .a (.l 2 (.v 1)) (.n 6)⟩ ⟨0, .a (.v 2) (.n 1), .a (.l 2 (.v 1)) (.n 6)⟩ ⟨0, .a (.v 0) (.n 1), .v 2⟩ rfl hm hn'))
        · have hno : ∀ (b j : Nat), (b : Int) = s → ¬ Ent g x b j := fun b j e h => hex ⟨b, j, e, h⟩
          rw [tab_none fun c i e h => hno c i e ((hk _ _ _).1 h), Option.getD_none]
          trivial
          refine ls_frz rfl (c_eq0 rfl rfl (fun z0 => ?_) fun e => absurd rfl e)
          trivial
          exact drop (hs.set hp _) .rfl (q1 i (f1 hno))
  · cases X with
    | cons x X => rw [rev_cons_nats] at he; simp at he
    | nil =>
      obtain ⟨vs, rfl, e⟩ := kd.done ah
      trivial
      exact drop hs (.tup (.cons .rfl (.cons (.fl fu hu0) .nil))) (q2 vs e)
end
noncomputable def War (R : Nat → Nat → Prop) : Nat → Nat → Nat → Prop
  | 0, x, y => R x y
  | m + 1, x, y => War R m x y ∨ (War R m x m ∧ War R m m y)
theorem War.of {R : Nat → Nat → Prop} {x y} (h : R x y) : ∀ m, War R m x y
  | 0 => h
  | m + 1 => .inl (War.of h m)
theorem War.trans {R : Nat → Nat → Prop} : ∀ {m x y z : Nat}, y < m → War R m x y → War R m y z → War R m x z
  | m + 1, x, y, z, hy, h, k => by
    rcases Nat.lt_succ_iff_lt_or_eq.1 hy with hy | rfl
    · rcases h with h | ⟨h1, h2⟩ <;> rcases k with k | ⟨k1, k2⟩
      · exact .inl (War.trans hy h k)
      · exact .inr ⟨War.trans hy h k1, k2⟩
      · exact .inr ⟨h1, War.trans hy h2 k⟩
      · exact .inr ⟨h1, k2⟩
    · refine .inr ⟨?_, ?_⟩
      · rcases h with h | ⟨h1, h2⟩
        · exact h
        · exact h1
      · rcases k with k | ⟨k1, k2⟩
        · exact k
        · exact k2
theorem War.last {R : Nat → Nat → Prop} : ∀ {m x y : Nat}, War R m x y → R x y ∨ ∃ z, War R m x z ∧ R z y
  | 0, _, _, h => .inl h
  | m + 1, x, y, .inl h => (War.last h).imp id fun ⟨z, a, b⟩ => ⟨z, .inl a, b⟩
  | m + 1, x, y, .inr ⟨h, k⟩ => .inr <| (War.last k).elim (fun a => ⟨m, .inl h, a⟩) fun ⟨z, a, b⟩ => ⟨z, .inr ⟨h, a⟩, b⟩
theorem War.self {R : Nat → Nat → Prop} {m y : Nat} : War R (m + 1) m y ↔ War R m m y := ⟨fun h => h.elim id fun h => h.2, .inl⟩
structure Rep (n : Nat) (fs : List Nat) (P : Nat → Nat → Prop) : Prop where
  len : fs.length = n
  bit : ∀ x v : Nat, fs[x]? = some v → ∀ y, v.testBit y = true ↔ P x y
theorem Rep.congr {n fs} {P P' : Nat → Nat → Prop} (h : Rep n fs P) (e : ∀ x y, x < n → (P x y ↔ P' x y)) : Rep n fs P' := ⟨h.len, fun x v hv y => (h.bit x v hv y).trans (e x y (h.len ▸ (List.getElem?_eq_some_iff.1 hv).1))⟩
noncomputable abbrev Half (R : Nat → Nat → Prop) (m o : Nat) : Nat → Nat → Prop := fun x y => if x < o then War R (m + 1) x y else War R m x y
theorem Rep.step {R : Nat → Nat → Prop} {n m o v w : Nat} {fs : List Nat} (h : Rep n fs (Half R m o)) (hv : fs[o]? = some v) (hw : fs[m]? = some w) (hb : v.testBit m = true) : Rep n (fs.set o (v ||| w)) (Half R m (o + 1)) := by
  refine ⟨by rw [List.length_set]; exact h.len, fun x u hu y => ?_⟩
  have h1 := h.bit o v hv
  have h2 := h.bit m w hw
  simp only [Half, Nat.lt_irrefl, if_false] at h1
  have h3 : w.testBit y = true ↔ War R m m y := by
    rw [h2]; simp only [Half]; split
    · exact War.self
    · exact Iff.rfl
  by_cases e : x = o
  · subst e
    rw [List.getElem?_set_self (List.getElem?_eq_some_iff.1 hv).1] at hu
    cases hu
    rw [Nat.testBit_or, Bool.or_eq_true, h1, h3]
    simp only [Half, Nat.lt_succ_self, if_true, War]
    exact ⟨fun q => q.imp id fun q => ⟨(h1 m).1 hb, q⟩, fun q => q.imp id fun q => q.2⟩
  · rw [List.getElem?_set_ne (Ne.symm e)] at hu
    rw [h.bit x u hu y]
    simp only [Half]
    by_cases e2 : x < o
    · rw [if_pos e2, if_pos (by exact li1 [_, _] ⟨0, .a (.v 0) (.n 1), .a (.v 1) (.n 1)⟩ ⟨0, .a (.v 0) (.n 1), .v 1⟩ rfl e2)]
    · rw [if_neg e2, if_neg (by omega)]
theorem Rep.skip {R : Nat → Nat → Prop} {n m o v : Nat} {fs : List Nat} (h : Rep n fs (Half R m o)) (hv : fs[o]? = some v) (hb : ¬ v.testBit m = true) : Rep n fs (Half R m (o + 1)) := by
  have h1 := h.bit o v hv m
  simp only [Half, Nat.lt_irrefl, if_false] at h1
  refine ⟨h.len, fun x u hu y => (h.bit x u hu y).trans ?_⟩
  simp only [Half]
  by_cases e : x = o
  · subst e
    rw [if_neg (Nat.lt_irrefl _), if_pos (Nat.lt_succ_self _)]
    exact ⟨.inl, fun q => q.elim id fun q => absurd (h1.2 q.1) hb⟩
  · by_cases e2 : x < o
    · rw [if_pos e2, if_pos (by exact li1 [_, _] ⟨0, .a (.v 0) (.n 1), .a (.v 1) (.n 1)⟩ ⟨0, .a (.v 0) (.n 1), .v 1⟩ rfl e2)]
    · rw [if_neg e2, if_neg (by omega)]
inductive ITr1 (H : Hp) (rows : V) (R : Nat → Nat → Prop) (n a m : Nat) : Loc → Hp → Prop
  | mk {H' a2 a3} (fs : List Nat) (e1 : H' a = some (.list (nats fs))) (e2 : Sub H H') (e3 : Rep n fs (War R m)) : ITr1 H rows R n a m [some rows, some (.ref a), a2, a3] H'
inductive ITr2 (H : Hp) (rows : V) (R : Nat → Nat → Prop) (n a m o : Nat) : Loc → Hp → Prop
  | mk {H' a3} (fs : List Nat) (e1 : H' a = some (.list (nats fs))) (e2 : Sub H H') (e3 : Rep n fs (Half R m o)) : ITr2 H rows R n a m o [some rows, some (.ref a), some (.int (m : Int)), a3] H'
section
variable {k : Nat} {H : Hp} {Q : VK}
theorem transitive_spec {v : V} {rows : List Nat} {R : Nat → Nat → Prop} {n : Nat} (hv : seqOf H v = some (nats rows)) (hr : Rep n rows R) (hn : n ≤ 100) (q : ∀ fs, Rep n fs (War R n) → Q (.lst (nats fs)) H) : wF prog (k + 1) .transitive [v] H Q := by
  refine wF_mk (m := [some v, none, none, none]) rfl rfl ?_
  unfold ir_transitive
  have hbig : n ≤ big := by simp only [big]; exact li1 [_] ⟨0, .v 0, .n 16000000⟩ ⟨0, .v 0, .n 100⟩ rfl hn
  trivial
  refine p_list hv (new (by rw [nats_len, hr.len]; exact hbig) fun a ha => ?_)
  trivial
  refine p_len (s_ref (Hp.set_same _ _ _)) ?_
  rw [nats_len, hr.len]
  refine for_r (ITr1 H _ R n a) hbig (.mk rows (Hp.set_same _ _ _) (.new ha _) hr) ?_ ?_
  · intro m _ H1 hm hI0; induction hI0 with | mk fs e1 e2 e3 => ?_
    trivial
    refine p_len (s_ref e1) ?_
    rw [nats_len, e3.len]
    refine for_r (ITr2 H _ R n a m) hbig (.mk fs e1 e2 (e3.congr fun x y z0 => by simp [Half])) ?_ ?_
    · intro o _ H2 ho hI0; induction hI0 with | mk fs e1 e2 e3 => ?_
      obtain ⟨v, hv⟩ := get_ex e3.len ho
      obtain ⟨w, hw⟩ := get_ex e3.len hm
      trivial
      refine sb_r e1 (nats_get hv) (b_shr (by exact li2 [_, _] ⟨0, .a (.v 0) (.n 1), .n 1000⟩ ⟨0, .v 1, .n 100⟩ ⟨0, .a (.v 0) (.n 1), .v 1⟩ rfl hn hm) ?_)
      trivial
      refine c_eq (fun e => ?_) fun e => ?_
      · trivial
        refine sb_r e1 (nats_get hv) ?_
        trivial
        refine sb_r e1 (nats_get hw) ?_
        trivial
        refine si_list e1 (by rw [nats_len, e3.len]; exact ho) ?_
        rw [nats_set]
        trivial
        exact .mk _ (Hp.set_same _ _ _) (e2.set ha _) (e3.step hv hw ((bit_and _ _).1 (Int.ofNat.inj e)))
      · trivial
        exact .mk fs e1 e2 (e3.skip hv fun h => e (congrArg Int.ofNat ((bit_and _ _).2 h)))
    · intro _ H2 hI0; induction hI0 with | mk fs e1 e2 e3 => ?_
      trivial
      exact .mk fs e1 e2 (e3.congr fun x y hx => by simp only [Half, if_pos hx])
  · intro _ H1 hI0; induction hI0 with | mk fs e1 e2 e3 => ?_
    trivial
    exact drop e2 (.fl e1 ha) (q fs e3)
end
structure Gok (g : Gr) : Prop where
  pos : 0 < g.rules.length
  len : g.rules.length ≤ 7
  sym : g.nsym ≤ 40
  its : g.its.length ≤ 60
  adv : (g.rules.map fun r => r.2.length).sum ≤ 23
  rule : ∀ (i l : Nat) (w : List Nat), g.rules[i]? = some (l, w) → l < g.nsym ∧ w ≠ [] ∧ ∀ s ∈ w, s < g.nsym
noncomputable def Lft (g : Gr) (x y : Nat) : Prop := ∃ (i : Nat) (w : List Nat), g.rules[i]? = some (x, y :: w)
noncomputable def clV (g : Gr) (F : List Nat) : V := .obj .Closer [("grammar", gV g), ("firsts", .lst (nats F))]
noncomputable def Itm (g : Gr) (x i d : Nat) : Prop := g.its[x]? = some (i, d)
noncomputable def Wn (g : Gr) (K : List Nat) (y : Nat) : Prop := ∃ x ∈ K, ∃ i d s, Itm g x i d ∧ g.aft i d = some s ∧ (y = s ∨ War (Lft g) g.nsym s y)
theorem aft_lt {g : Gr} (ok : Gok g) {i d s : Nat} (h : g.aft i d = some s) : s < g.nsym := by
  unfold Gr.aft at h
  obtain ⟨⟨l, w⟩, h1, h2⟩ := Option.bind_eq_some_iff.1 h
  exact (ok.rule _ _ _ h1).2.2 s (List.mem_of_getElem? h2)
theorem War.lt {g : Gr} (ok : Gok g) : ∀ {m x y : Nat}, War (Lft g) m x y → y < g.nsym
  | 0, _, _, ⟨_, _, h⟩ => (ok.rule _ _ _ h).2.2 _ (List.mem_cons_self ..)
  | _ + 1, _, _, .inl h => War.lt ok h
  | _ + 1, _, _, .inr ⟨_, h⟩ => War.lt ok h
theorem Wn.lt {g : Gr} (ok : Gok g) {K : List Nat} {y : Nat} (h : Wn g K y) : y < g.nsym := by
  obtain ⟨x, _, i, d, s, _, h2, rfl | h3⟩ := h
  · exact aft_lt ok h2
  · exact h3.lt ok
theorem nodup_le : ∀ {n : Nat} {l : List Nat}, l.Nodup → (∀ x ∈ l, x < n) → l.length ≤ n
  | 0, [], _, _ => Nat.le_refl _
  | 0, x :: _, _, h => absurd (h x (List.mem_cons_self ..)) (Nat.not_lt_zero _)
  | n + 1, l, hl, h => by
    have h1 := nodup_le (n := n) (hl.erase n) fun x hx => by
      have := h x (List.mem_of_mem_erase hx)
      have h3 : x ≠ n := fun e => (List.Nodup.mem_erase_iff hl).1 hx |>.1 e
      omega
    have := List.length_erase_le (l := l) (a := n)
    rw [List.length_erase] at h1
    split at h1 <;> omega
theorem nq_obj {H H' : Hp} {a : Nat} {c bs} {Q : VK} (ha : H a = Option.none) (hH : H' a = some (.inst c bs)) (hs : Sub H H') (q : Q (.obj c bs) H) : nqK a Q .none H' := ⟨rfl, _, H, hs, .obj hH ha (VVk.of_rfl _), q⟩
theorem nq_keep {H' : Hp} {a : Nat} {Q : VK} (q : Q (.ref a) H') : nqK a Q .none H' := ⟨rfl, _, H', Sub.rfl', .rfl, q⟩
section
variable {C : CallW} {m : Loc} {H : Hp} {Q : VK} {xs : Xs} {g : Gr} {F : List Nat}
end
noncomputable abbrev LftTo (g : Gr) (n x y : Nat) : Prop := ∃ (j : Nat) (w : List Nat), j < n ∧ g.rules[j]? = some (x, y :: w)
inductive ICl (g : Gr) (H : Hp) (a b i : Nat) : Loc → Hp → Prop
  | mk {H' a3} (fs : List Nat) (e0 : H' a = some (.inst .Closer [("grammar", gV g)])) (e1 : H' b = some (.list (nats fs))) (e2 : Sub H H') (e3 : Rep g.nsym fs (LftTo g i)) : ICl g H a b i [some (.ref a), some (gV g), some (.ref b), a3] H'
theorem lft_step {g : Gr} {i l x v : Nat} {w fs : List Nat} (e3 : Rep g.nsym fs (LftTo g i)) (hr : g.rules[i]? = some (l, x :: w)) (hv : fs[l]? = some v) : Rep g.nsym (fs.set l (v ||| 2 ^ x)) (LftTo g (i + 1)) := by
  refine ⟨by rw [List.length_set]; exact e3.len, fun y u hu z => ?_⟩
  have key : LftTo g (i + 1) y z ↔ LftTo g i y z ∨ (y = l ∧ z = x) := by
    constructor
    · rintro ⟨j, w', h1, h2⟩
      rcases Nat.lt_succ_iff_lt_or_eq.1 h1 with h | rfl
      · exact .inl ⟨j, w', h, h2⟩
      · rw [hr] at h2; cases h2; exact .inr ⟨rfl, rfl⟩
    · rintro (⟨j, w', h1, h2⟩ | ⟨rfl, rfl⟩)
      · exact ⟨j, w', Nat.lt_succ_of_lt h1, h2⟩
      · exact ⟨i, w, Nat.lt_succ_self _, hr⟩
  rw [key]
  by_cases e : y = l
  · subst e
    rw [List.getElem?_set_self (List.getElem?_eq_some_iff.1 hv).1] at hu
    cases hu
    rw [Nat.testBit_or, Bool.or_eq_true, e3.bit y v hv, Nat.testBit_two_pow]
    simp [eq_comm]
  · rw [List.getElem?_set_ne (Ne.symm e)] at hu
    rw [e3.bit y u hu]
    exact ⟨Or.inl, fun h => h.elim id fun h => absurd h.1 e⟩
section
variable {k : Nat} {H : Hp} {Q : VK} {g : Gr}
theorem Closer_init_spec {a : Nat} (ok : Gok g) (ha : H a = Option.none) (q : ∀ F, Rep g.nsym F (War (Lft g) g.nsym) → ∀ H', Sub H H' → H' a = some (.inst .Closer [("grammar", gV g), ("firsts", .lst (nats F))]) → Q .none H') :
    wF prog (k + 2) .Closer_init [.ref a, gV g] (H.set a (.inst .Closer [])) Q := by
  refine wF_mk (m := [some (.ref a), some (gV g), none, none]) rfl rfl ?_
  unfold ir_Closer_init
  have hsym := ok.sym
  trivial
  refine sa_new (by decide) rfl ?_
  trivial
  refine ls_frz rfl ?_
  trivial
  refine symbol_count_spec g (b_rep (new (by simp only [big, List.length_replicate]; exact li1 [_] ⟨0, .v 0, .n 16000000⟩ ⟨0, .v 0, .n 40⟩ rfl hsym) fun b hb => ?_))
  have hab : a ≠ b := Hp.ne_of hb (Hp.set_same _ _ _)
  have hb0 : H b = Option.none := by rwa [Hp.set_ne _ _ hab.symm] at hb
  trivial
  refine for_l (ICl g H a b) (.mk (List.replicate g.nsym 0) (Hp.set_ne' hab (Hp.set_same _ _ _)) ((Hp.set_same _ _ _).trans (by simp [nats])) ((Sub.new ha _).set hb0 _) ⟨List.length_replicate .., fun x v hv y => ?_⟩) ?_ ?_
  · rw [List.eq_of_mem_replicate (List.mem_of_getElem? hv), Nat.zero_testBit]
    exact ⟨nofun, fun ⟨_, _, h, _⟩ => absurd h (Nat.not_lt_zero _)⟩
  · intro i v _ H2 hv hI0; induction hI0 with | mk fs e0 e1 e2 e3 => ?_
    obtain ⟨l, w, hr, rfl⟩ := rulesV_of hv
    have hO := ok.rule _ _ _ hr; have r2 := hO.1; have r3 := hO.2.1; have r5 := hO.2.2; clear hO
    obtain ⟨x, w, rfl⟩ := List.exists_cons_of_ne_nil r3
    have hx := r5 x (List.mem_cons_self ..)
    obtain ⟨v, hv⟩ := get_ex e3.len r2
    trivial
    refine p_len rfl ?_
    trivial
    refine c_gt (fun z0 => ?_) fun h => absurd (by simp) h
    trivial
    refine sb_r e1 (nats_get hv) ?_
    trivial
    refine sb_t (n := 0) (v := .int (x : Int)) rfl ?_
    refine b_shl (by exact li2 [_, _] ⟨0, .a (.v 0) (.n 1), .n 1000⟩ ⟨0, .v 1, .n 40⟩ ⟨0, .a (.v 0) (.n 1), .v 1⟩ rfl hsym hx) ?_
    trivial
    refine si_list e1 (by rw [nats_len, e3.len]; exact r2) ?_
    rw [nats_set]
    trivial
    exact .mk _ (Hp.set_ne' hab e0) (Hp.set_same _ _ _) (e2.set hb0 _) (lft_step e3 hr hv)
  · intro _ H2 hI0; induction hI0 with | mk fs e0 e1 e2 e3 => ?_
    rw [rulesV_len] at e3
    trivial
    refine transitive_spec (R := Lft g) (s_ref e1) (e3.congr fun x y z0 => ⟨fun ⟨j, w, _, h⟩ => ⟨j, w, h⟩, fun ⟨j, w, h⟩ => ⟨j, w, (List.getElem?_eq_some_iff.1 h).1, h⟩⟩) (by exact li1 [_] ⟨0, .v 0, .n 100⟩ ⟨0, .v 0, .n 40⟩ rfl hsym) fun F hF => ?_
    trivial
    refine sa2 e0 (by decide) rfl ?_
    trivial
    exact keep (q F hF _ (e2.set ha _) (Hp.set_same _ _ _))
inductive IWn (g : Gr) (F K : List Nat) (H : Hp) (i : Nat) : Loc → Hp → Prop
  | mk {a3 a4} (mask : Nat) (h : ∀ y, mask.testBit y = true ↔ Wn g (K.take i) y) : IWn g F K H i [some (clV g F), some (.tup (nats K)), some (.int (mask : Int)), a3, a4] H
theorem Wn.next {g : Gr} {K : List Nat} {i x : Nat} (hx : K[i]? = some x) {y : Nat} : Wn g (K.take (i + 1)) y ↔ Wn g (K.take i) y ∨ Wn g [x] y := by
  rw [take_next hx]
  constructor
  · rintro ⟨z, hz, r⟩
    exact (List.mem_append.1 hz).imp (fun h => ⟨z, h, r⟩) fun h => ⟨z, h, r⟩
  · rintro (⟨z, hz, r⟩ | ⟨z, hz, r⟩)
    · exact ⟨z, List.mem_append_left _ hz, r⟩
    · exact ⟨z, List.mem_append_right _ hz, r⟩
theorem Wn.one {g : Gr} {x i d : Nat} (hi : Itm g x i d) {y : Nat} : Wn g [x] y ↔ ∃ s, g.aft i d = some s ∧ (y = s ∨ War (Lft g) g.nsym s y) := by
  constructor
  · rintro ⟨z, hz, i', d', s, h1, h2⟩
    rw [List.mem_singleton.1 hz] at h1
    rw [Itm, show g.its[x]? = some (i, d) from hi] at h1; cases h1
    exact ⟨s, h2⟩
  · rintro ⟨s, h⟩
    exact ⟨x, List.mem_singleton_self _, i, d, s, hi, h⟩
theorem wanted_spec {F K : List Nat} (hF : Rep g.nsym F (War (Lft g) g.nsym)) (ok : Gok g) (hK : ∀ x ∈ K, ∃ i d, Itm g x i d) (q : ∀ mask : Nat, (∀ y, mask.testBit y = true ↔ Wn g K y) → Q (.int mask) H) :
    wF prog (k + 2) .Closer_wanted [clV g F, .tup (nats K)] H Q := by
  refine wF_mk (m := [some (clV g F), some (.tup (nats K)), none, none, none]) rfl rfl ?_
  unfold ir_Closer_wanted
  have hsym := ok.sym
  trivial
  refine for_t (IWn g F K H) (.mk 0 fun y => by rw [Nat.zero_testBit]; exact ⟨nofun, fun ⟨_, h, _⟩ => absurd h List.not_mem_nil⟩) ?_ ?_
  · intro i v _ _ hv hI0; induction hI0 with | mk mask h => ?_
    obtain ⟨x, hx, rfl⟩ := nats_of hv
    obtain ⟨r, d, hi⟩ := hK x (List.mem_of_getElem? hx)
    trivial
    refine after_spec g hi (fun s hs => ?_) fun hs => ?_
    · have hsn := aft_lt ok hs
      obtain ⟨f, hf⟩ := get_ex hF.len hsn
      trivial
      refine c_ge (fun z0 => ?_) fun h => absurd (Int.natCast_nonneg _) h
      trivial
      refine b_shl (by exact li2 [_, _] ⟨0, .a (.v 0) (.n 1), .n 1000⟩ ⟨0, .v 1, .n 40⟩ ⟨0, .a (.v 0) (.n 1), .v 1⟩ rfl hsym hsn) ?_
      trivial
      refine sb_l (nats_get hf) ?_
      trivial
      refine .mk _ fun y => ?_
      rw [Wn.next hx, Wn.one hi, Nat.testBit_or, Nat.testBit_or, Bool.or_eq_true, Bool.or_eq_true, h, hF.bit s f hf, Nat.testBit_two_pow]
      constructor
      · rintro ((h | h) | h)
        · exact .inl h
        · exact .inr ⟨s, hs, .inl (by simpa [eq_comm] using h)⟩
        · exact .inr ⟨s, hs, .inr h⟩
      · rintro (h | ⟨s', hs', h⟩)
        · exact .inl (.inl h)
        · rw [hs] at hs'; cases hs'
          rcases h with rfl | h
          · exact .inl (.inr (by simp))
          · exact .inr h
    · trivial
      refine c_ge (fun h => absurd h (by decide)) fun z0 => ?_
      trivial
      refine .mk mask fun y => ?_
      rw [h, Wn.next hx, Wn.one hi]
      exact ⟨.inl, fun h => h.elim id fun ⟨s, h, _⟩ => by rw [hs] at h; cases h⟩
  · intro _ _ hI0; induction hI0 with | mk mask h => ?_
    rw [nats_len, List.take_length] at h
    trivial
    exact keep (q mask h)
noncomputable def sel (g : Gr) (K js : List Nat) : List Nat := (js.map g.off).filter fun x => decide (x ∉ K)
theorem sel_app {K js ks : List Nat} : sel g K (js ++ ks) = sel g K js ++ sel g K ks := by simp [sel]
theorem sel_len {K js : List Nat} : (sel g K js).length ≤ js.length := by
  unfold sel
  exact Nat.le_trans (List.length_filter_le ..) (by simp)
inductive IAd1 (g : Gr) (F K bl : List Nat) (H : Hp) (a t : Nat) : Loc → Hp → Prop
  | mk {H' a3 a4 a5} (e1 : H' a = some (.list (nats (sel g K ((bl.take t).flatMap (byLeft g.rules)))))) (e2 : Sub H H') : IAd1 g F K bl H a t [some (clV g F), some (.tup (nats K)), some (.ref a), a3, a4, a5] H'
inductive IAd2 (g : Gr) (F K bl : List Nat) (H : Hp) (a t y u : Nat) : Loc → Hp → Prop
  | mk {H' a4 a5} (e1 : H' a = some (.list (nats (sel g K ((bl.take t).flatMap (byLeft g.rules) ++ (byLeft g.rules y).take u))))) (e2 : Sub H H') : IAd2 g F K bl H a t y u [some (clV g F), some (.tup (nats K)), some (.ref a), some (.int (y : Int)), a4, a5] H'
theorem J_nodup {bl : List Nat} (hb : bl.Nodup) : (bl.flatMap (byLeft g.rules)).Nodup := by
  induction bl with
  | nil => exact .nil
  | cons y bl ih =>
    rw [List.nodup_cons] at hb
    rw [List.flatMap_cons, List.nodup_append]
    refine ⟨byLeft_nodup _ _, ih hb.2, fun j h1 j' h2 e => ?_⟩
    subst e
    obtain ⟨z, hO⟩ := List.mem_flatMap.1 h2; have hz := hO.1; have h3 := hO.2; clear hO
    obtain ⟨w, h1⟩ := mem_byLeft.1 h1
    obtain ⟨w', h3⟩ := mem_byLeft.1 h3
    rw [h1] at h3; cases h3
    exact hb.1 hz
theorem J_len {bl : List Nat} (hb : bl.Nodup) : (bl.flatMap (byLeft g.rules)).length ≤ g.rules.length := by
  refine nodup_le (J_nodup hb) fun j h => ?_
  obtain ⟨z, hO⟩ := List.mem_flatMap.1 h; have h3 := hO.2; clear hO
  obtain ⟨w, h1⟩ := mem_byLeft.1 h3
  exact (List.getElem?_eq_some_iff.1 h1).1
theorem flat_pre {α β} {f : α → List β} {l : List α} {t y : Nat} {x : α} (h : l[t]? = some x) : ((l.take t).flatMap f ++ (f x).take y).length ≤ (l.flatMap f).length := by
  have e : l = l.take t ++ x :: l.drop (t + 1) := by rw [← drop_cons h, List.take_append_drop]
  have e2 : (l.flatMap f).length = ((l.take t).flatMap f).length + ((f x).length + ((l.drop (t + 1)).flatMap f).length) := by
    conv => lhs; rw [e]
    rw [List.flatMap_append, List.flatMap_cons, List.length_append, List.length_append]
  have : ((f x).take y).length ≤ (f x).length := by rw [List.length_take]; exact Nat.min_le_right ..
  rw [List.length_append]
  exact li2 [_, _, _, _, _] ⟨0, .a (.v 0) (.v 1), .v 2⟩ ⟨0, .a (.v 0) (.a (.v 3) (.v 4)), .v 2⟩ ⟨0, .v 1, .v 3⟩ rfl (Nat.le_of_eq e2.symm) this
theorem ints_nats (l : List Nat) : (nz l).map V.int = nats l := by simp [nz, nats]
theorem nz_perm {l : List Nat} {l' : List Int} (h : l'.Perm (nz l)) : ∃ l2 : List Nat, l' = nz l2 ∧ l2.Perm l := by
  refine ⟨l'.map Int.toNat, ?_, ?_⟩
  · rw [nz, List.map_map]
    refine (List.map_id' l').symm.trans (List.map_congr_left fun x hx => ?_)
    obtain ⟨n, _, rfl⟩ := List.mem_map.1 (h.mem_iff.1 hx)
    simp
  · have := h.map Int.toNat
    rwa [nz, List.map_map, List.map_congr_left (g := id) (by simp), List.map_id] at this
theorem p_nats {a} {l : List Nat} (h : seqOf H a = some (nats l)) (hl : l.length < 64) (q : ∀ l' : List Nat, l'.Perm l → l'.Pairwise (· ≤ ·) → mkList (nats l') H Q) : prK .sorted Q [a] H := by
  refine p_ints (l := nz l) (by rw [ints_nats]; exact h) (by simpa [nz] using hl) fun l' h1 h2 => ?_
  obtain ⟨l2, rfl, h3⟩ := nz_perm h1
  rw [ints_nats]
  refine q l2 h3 ?_
  rw [nz, List.pairwise_map] at h2
  exact h2.imp fun h => Int.ofNat_le.1 h
theorem added_spec {F K : List Nat} (hF : Rep g.nsym F (War (Lft g) g.nsym)) (ok : Gok g) (hK : ∀ x ∈ K, ∃ i d, Itm g x i d)
    (q : ∀ bl A : List Nat, (∀ y, y ∈ bl ↔ Wn g K y) → bl.Nodup → A.Perm (sel g K (bl.flatMap (byLeft g.rules))) → A.length ≤ 7 → Q (.lst (nats A)) H) : wF prog (k + 3) .Closer_added [clV g F, .tup (nats K)] H Q := by
  refine wF_mk (m := [some (clV g F), some (.tup (nats K)), none, none, none, none]) rfl rfl ?_
  unfold ir_Closer_added
  have hsym := ok.sym
  have hrl := ok.len
  trivial
  refine ls_new rfl fun a ha => ?_
  trivial
  refine wanted_spec hF ok hK fun mask hm => ?_
  trivial
  refine bits_spec mask g.nsym (Nat.lt_pow_two_of_testBit _ fun b hb => Bool.eq_false_iff.2 fun e => by have := ((hm b).1 e).lt ok; omega) (by exact li1 [_] ⟨0, .v 0, .n 900⟩ ⟨0, .v 0, .n 40⟩ rfl hsym) fun bl hbl hpw z0 => ?_
  have hbl := fun y => (hbl y).trans (hm y)
  have hbn : bl.Nodup := hpw.imp Nat.ne_of_lt
  have hJ := J_len (g := g) hbn
  refine for_l (IAd1 g F K bl H a) (.mk (Hp.set_same _ _ _) (.new ha _)) ?_ ?_
  · intro t v _ H1 hv hI0; induction hI0 with | mk e1 e2 => ?_
    obtain ⟨y, hy, rfl⟩ := nats_of hv
    have hyn := ((hbl y).1 (List.mem_of_getElem? hy)).lt ok
    have hbig : (byLeft g.rules y).length ≤ big := by
      have := nodup_le (byLeft_nodup g.rules y) fun j h => let ⟨w, h1⟩ := mem_byLeft.1 h; (List.getElem?_eq_some_iff.1 h1).1
      simp only [big]; exact li2 [_, _] ⟨0, .v 0, .n 16000000⟩ ⟨0, .v 1, .n 7⟩ ⟨0, .v 0, .v 1⟩ rfl hrl this
    trivial
    refine rules_of_spec g hyn hbig ?_
    refine for_l (IAd2 g F K bl H a t y) (.mk (by simpa using e1) e2) ?_ ?_
    · intro u v _ H2 hv hI0; induction hI0 with | mk e1 e2 => ?_
      obtain ⟨j, hj, rfl⟩ := nats_of hv
      obtain ⟨w, hr⟩ := mem_byLeft.1 (List.mem_of_getElem? hj)
      have hlen : (nats (sel g K ((bl.take t).flatMap (byLeft g.rules) ++ (byLeft g.rules y).take u))).length < big := by
        have h1 := sel_len (g := g) (K := K) (js := (bl.take t).flatMap (byLeft g.rules) ++ (byLeft g.rules y).take u)
        have h2 := flat_pre (f := byLeft g.rules) (y := u) hy
        rw [nats_len]; simp only [big]; exact li4 [_, _, _, _] ⟨0, .a (.v 0) (.n 1), .n 16000000⟩ ⟨0, .v 1, .n 7⟩ ⟨0, .v 2, .v 1⟩ ⟨0, .v 0, .v 3⟩ ⟨0, .v 3, .v 2⟩ rfl hrl hJ h1 h2
      trivial
      refine item_spec g (d := 0) (List.getElem?_eq_some_iff.1 hr).1 ?_
      rw [Nat.add_zero]
      trivial
      have e : nats K = (nz K).map V.int := (ints_nats K).symm
      refine c_notIn (.memI (l := nz K) (by rw [ints_nats]; rfl)) (fun hn => ?_) fun hn => ?_
      · have hn : g.off j ∉ K := fun h => hn (List.mem_map.2 ⟨_, h, rfl⟩)
        trivial
        refine mt_app e1 ?_
        trivial
        refine mb_app e1 hlen ?_
        trivial
        refine .mk ((Hp.set_same _ _ _).trans ?_) (e2.set ha _)
        rw [take_next hj, ← List.append_assoc, sel_app (js := _ ++ _)]
        simp [sel, hn, nats]
      · have hn : g.off j ∈ K := by obtain ⟨x, h1, h2⟩ := List.mem_map.1 hn; cases Int.ofNat.inj h2; exact h1
        trivial
        refine .mk ?_ e2
        rw [take_next hj, ← List.append_assoc, sel_app (js := _ ++ _)]
        simpa [sel, hn] using e1
    · intro _ H2 hI0; induction hI0 with | mk e1 e2 => ?_
      rw [nats_len, List.take_length] at e1
      trivial
      refine .mk ?_ e2
      rw [take_next hy, List.flatMap_append, List.flatMap_singleton]
      exact e1
  · intro _ H1 hI0; induction hI0 with | mk e1 e2 => ?_
    rw [nats_len, List.take_length] at e1
    trivial
    have hl := sel_len (g := g) (K := K) (js := bl.flatMap (byLeft g.rules))
    refine p_nats (s_ref e1) (by exact li3 [_, _, _] ⟨0, .a (.v 0) (.n 1), .n 64⟩ ⟨0, .v 1, .n 7⟩ ⟨0, .v 2, .v 1⟩ ⟨0, .v 0, .v 2⟩ rfl hrl hJ hl) fun A h1 z0 => ?_
    have hA := h1.length_eq
    exact frz (by rw [nats_len]; simp only [big]; exact li4 [_, _, _, _] ⟨0, .v 0, .n 16000000⟩ ⟨0, .v 1, .n 7⟩ ⟨0, .v 2, .v 1⟩ ⟨0, .v 3, .v 2⟩ ⟨0, .v 0, .v 3⟩ rfl hrl hJ hl (Nat.le_of_eq hA)) (drop e2 .rfl (q bl A hbl hbn h1 (by exact li4 [_, _, _, _] ⟨0, .v 0, .n 7⟩ ⟨0, .v 1, .n 7⟩ ⟨0, .v 2, .v 1⟩ ⟨0, .v 3, .v 2⟩ ⟨0, .v 0, .v 3⟩ rfl hrl hJ hl (Nat.le_of_eq hA))))
end
noncomputable def Cls (g : Gr) (K I : List Nat) : Prop := ∃ bl : List Nat, (∀ y, y ∈ bl ↔ Wn g K y) ∧ bl.Nodup ∧ I.Perm (K ++ sel g K (bl.flatMap (byLeft g.rules)))
noncomputable def cr (g : Gr) (x : Nat) : Option Nat := (g.its[x]?).bind fun p => if g.aft p.1 p.2 = none ∧ p.1 ≠ 0 then some p.1 else none
noncomputable def fw (g : Gr) (s x : Nat) : Option Nat := (g.its[x]?).bind fun p => if g.aft p.1 p.2 = some s then some (x + 1) else none
section
variable {k : Nat} {H : Hp} {Q : VK} {g : Gr}
theorem cr_yes {x i d : Nat} (h : Itm g x i d) (h1 : g.aft i d = none) (h2 : i ≠ 0) : cr g x = some i := by rw [cr, show g.its[x]? = some (i, d) from h]; exact if_pos ⟨h1, h2⟩
theorem cr_no {x i d : Nat} (h : Itm g x i d) (h1 : ¬ (g.aft i d = none ∧ i ≠ 0)) : cr g x = none := by rw [cr, show g.its[x]? = some (i, d) from h]; exact if_neg h1
theorem fw_yes {x i d s : Nat} (h : Itm g x i d) (h1 : g.aft i d = some s) : fw g s x = some (x + 1) := by rw [fw, show g.its[x]? = some (i, d) from h]; exact if_pos h1
theorem fw_no {x i d s : Nat} (h : Itm g x i d) (h1 : g.aft i d ≠ some s) : fw g s x = none := by rw [fw, show g.its[x]? = some (i, d) from h]; exact if_neg h1
theorem close_spec {F K : List Nat} (hF : Rep g.nsym F (War (Lft g) g.nsym)) (ok : Gok g) (hK : ∀ x ∈ K, ∃ i d, Itm g x i d) (hl : K.length < 64)
    (q : ∀ I : List Nat, Cls g K I → Q (.lst (nats I)) H) : wF prog (k + 4) .Closer_close [clV g F, .tup (nats K)] H Q := by
  refine wF_mk (m := [some (clV g F), some (.tup (nats K))]) rfl rfl ?_
  unfold ir_Closer_close
  trivial
  refine p_nats rfl hl fun K' h1 z0 => frz (by rw [nats_len, h1.length_eq]; simp only [big]; exact li1 [_] ⟨0, .v 0, .n 16000000⟩ ⟨0, .a (.v 0) (.n 1), .n 64⟩ rfl hl) ?_
  trivial
  refine added_spec hF ok hK fun bl A hbl hbn hA hlen => ?_
  refine b_addl rfl rfl (frz (by rw [List.length_append, nats_len, nats_len, h1.length_eq]; simp only [big]; exact li2 [_, _] ⟨0, .a (.v 0) (.v 1), .n 16000000⟩ ⟨0, .a (.v 0) (.n 1), .n 64⟩ ⟨0, .v 1, .n 7⟩ rfl hl hlen) (keep ?_))
  rw [← List.map_append]
  exact q _ ⟨bl, hbl, hbn, h1.append hA⟩
inductive ICr (g : Gr) (I : List Nat) (H : Hp) (a i : Nat) : Loc → Hp → Prop
  | mk {H' a3} (e1 : H' a = some (.list (nats ((I.take i).filterMap (cr g))))) (e2 : Sub H H') : ICr g I H a i [some (gV g), some (.lst (nats I)), some (.ref a), a3] H'
theorem fm_next {α β} {f : α → Option β} {l : List α} {i : Nat} {x : α} (h : l[i]? = some x) : (l.take (i + 1)).filterMap f = (l.take i).filterMap f ++ (f x).toList := by
  rw [take_next h, List.filterMap_append, List.filterMap_cons, List.filterMap_nil]
  cases f x <;> rfl
theorem fm_len {α β} {f : α → Option β} {l : List α} {n : Nat} (h : l.length ≤ n) (i : Nat) : ((l.take i).filterMap f).length ≤ n :=
  Nat.le_trans (List.length_filterMap_le ..) (Nat.le_trans (by rw [List.length_take]; exact Nat.min_le_right ..) h)
theorem complete_spec {I : List Nat} (hI : ∀ x ∈ I, ∃ i d, Itm g x i d) (hl : I.length ≤ 60) (q : ∀ R : List Nat, R.Perm (I.filterMap (cr g)) → Q (.lst (nats R)) H) :
    wF prog (k + 2) .complete_rules [gV g, .lst (nats I)] H Q := by
  refine wF_mk (m := [some (gV g), some (.lst (nats I)), none, none]) rfl rfl ?_
  unfold ir_complete_rules
  trivial
  refine ls_new rfl fun a ha => ?_
  trivial
  refine for_l (ICr g I H a) (.mk (Hp.set_same _ _ _) (.new ha _)) ?_ ?_
  · rintro i v _ H1 hv ⟨e1, e2⟩
    obtain ⟨x, hx, rfl⟩ := nats_of hv
    obtain ⟨r, d, hi⟩ := hI x (List.mem_of_getElem? hx)
    have hn := fm_next (f := cr g) hx
    have no : cr g x = none → ICr g I H a (i + 1) [some (gV g), some (.lst (nats I)), some (.ref a), some (.int (x : Int))] H1 := fun h => .mk (by rw [hn, h]; simpa using e1) e2
    trivial
    refine after_spec g hi (fun s hs => ?_) fun hs => ?_
    · trivial
      refine c_lt (fun h => absurd (Int.natCast_nonneg s) (Int.not_le.2 h)) fun z0 => ?_
      trivial
      exact no (cr_no hi fun h => by rw [hs] at h; exact nomatch h.1)
    · trivial
      refine c_lt (fun z0 => ?_) fun h => absurd (by decide) h
      trivial
      refine rule_of_spec g hi ?_
      trivial
      refine c_ne (fun e => ?_) fun e => ?_
      · trivial
        refine mt_app e1 ?_
        trivial
        refine rule_of_spec g hi ?_
        trivial
        refine mb_app e1 (by have := fm_len (f := cr g) hl i; rw [nats_len]; simp only [big]; exact li1 [_] ⟨0, .a (.v 0) (.n 1), .n 16000000⟩ ⟨0, .v 0, .n 60⟩ rfl this) ?_
        trivial
        exact .mk ((Hp.set_same _ _ _).trans (by rw [hn, cr_yes hi hs fun h => e (congrArg Int.ofNat h)]; simp [nats])) (e2.set ha _)
      · trivial
        exact no (cr_no hi fun h => h.2 (Int.ofNat.inj e))
  · intro _ H1 hI0; induction hI0 with | mk e1 e2 => ?_
    rw [nats_len, List.take_length] at e1
    have := List.length_filterMap_le (cr g) I
    trivial
    refine p_nats (s_ref e1) (by exact li2 [_, _] ⟨0, .a (.v 0) (.n 1), .n 64⟩ ⟨0, .v 1, .n 60⟩ ⟨0, .v 0, .v 1⟩ rfl hl this) fun R h1 z0 => ?_
    have := h1.length_eq
    exact frz (by rw [nats_len]; simp only [big]; omega) (drop e2 .rfl (q R h1))
structure BD (g : Gr) (I : List Nat) (H H' : Hp) (t i : Nat) (ks : List (Nat × Nat)) : Prop where
  t : H' t = some (.dcI (ks.map fun p => ((p.1 : Int), .ref p.2)))
  sub : Sub H H'
  at_ : ∀ s r, (s, r) ∈ ks → H' r = some (.list (nats ((I.take i).filterMap (fw g s)))) ∧ H r = Option.none
  nd : (ks.map (·.1)).Nodup
  nr : (ks.map (·.2)).Nodup
  key : ∀ s, (I.take i).filterMap (fw g s) ≠ [] → s ∈ ks.map (·.1)
theorem BD.inj {I : List Nat} {H' : Hp} {t i : Nat} {ks : List (Nat × Nat)} (h : BD g I H H' t i ks) {s r r' : Nat} (a : (s, r) ∈ ks) (b : (s, r') ∈ ks) : r = r' := by
  have := mem_lookup h.nd a
  rw [mem_lookup h.nd b] at this
  exact (Option.some.inj this).symm
theorem nd_inj {ks : List (Nat × Nat)} (h : (ks.map (·.2)).Nodup) {s s' r : Nat} (a : (s, r) ∈ ks) (b : (s', r) ∈ ks) : s = s' := by
  have e : (ks.map fun p => (p.2, p.1)).map (·.1) = ks.map (·.2) := by simp [Function.comp_def]
  have h1 := mem_lookup (es := ks.map fun p => (p.2, p.1)) (by rw [e]; exact h) (List.mem_map.2 ⟨_, a, rfl⟩)
  have h2 := mem_lookup (es := ks.map fun p => (p.2, p.1)) (by rw [e]; exact h) (List.mem_map.2 ⟨_, b, rfl⟩)
  rw [h1] at h2
  exact Option.some.inj h2
theorem keysI (ks : List (Nat × Nat)) : (ks.map fun p => ((p.1 : Int), V.ref p.2)).map (·.1) = nz (ks.map (·.1)) := by simp [nz, Function.comp_def]
theorem nz_mem {l : List Nat} {s : Nat} : (s : Int) ∈ nz l ↔ s ∈ l := ⟨fun h => by obtain ⟨x, h1, h2⟩ := List.mem_map.1 h; cases Int.ofNat.inj h2; exact h1, fun h => List.mem_map.2 ⟨_, h, rfl⟩⟩
theorem lookI {ks : List (Nat × Nat)} (h : (ks.map (·.1)).Nodup) {s r : Nat} (hm : (s, r) ∈ ks) : (ks.map fun p => ((p.1 : Int), V.ref p.2)).lookup (s : Int) = some (.ref r) := by
  refine mem_lookup ?_ (List.mem_map.2 ⟨_, hm, rfl⟩)
  rw [keysI]
  exact List.Pairwise.map _ (fun z0 z0 n e => n (Int.ofNat.inj e)) h
theorem BD.skip {I : List Nat} {H' : Hp} {t i x : Nat} {ks : List (Nat × Nat)} (h : BD g I H H' t i ks) (hx : I[i]? = some x) (hn : ∀ s, fw g s x = none) : BD g I H H' t (i + 1) ks := by
  have e : ∀ s, (I.take (i + 1)).filterMap (fw g s) = (I.take i).filterMap (fw g s) := fun s => by rw [fm_next hx, hn s]; simp
  exact ⟨h.t, h.sub, fun s r m => by rw [e]; exact h.at_ s r m, h.nd, h.nr, fun s => by rw [e]; exact h.key s⟩
theorem BD.put {I : List Nat} {H' : Hp} {t i x s r y d : Nat} {ks : List (Nat × Nat)} (h : BD g I H H' t i ks) (hx : I[i]? = some x) (hi : Itm g x y d) (hs : g.aft y d = some s) (hm : (s, r) ∈ ks) :
    BD g I H (H'.set r (.list (nats ((I.take i).filterMap (fw g s)) ++ [.int ((x + 1 : Nat) : Int)]))) t (i + 1) ks := by
  have no : ∀ s', s' ≠ s → (I.take (i + 1)).filterMap (fw g s') = (I.take i).filterMap (fw g s') := fun s' n => by rw [fm_next hx, fw_no hi fun e => n (by rw [hs] at e; exact (Option.some.inj e).symm)]; simp
  have yes : (I.take (i + 1)).filterMap (fw g s) = (I.take i).filterMap (fw g s) ++ [x + 1] := by rw [fm_next hx, fw_yes hi hs]; rfl
  have hO := h.at_ s r hm; have h1 := hO.1; have h2 := hO.2; clear hO
  refine ⟨Hp.set_ne' (fun e => ?_) h.t, h.sub.set h2 _, fun s' r' m => ?_, h.nd, h.nr, fun s' => ?_⟩
  · subst e; rw [h.t] at h1; cases h1
  · by_cases e : s' = s
    · subst e
      cases h.inj m hm
      exact ⟨(Hp.set_same _ _ _).trans (by rw [yes]; simp [nats]), h2⟩
    · have hO := h.at_ s' r' m; have g1 := hO.1; have g2 := hO.2; clear hO
      refine ⟨Hp.set_ne' (fun e2 => e ?_) (by rw [no s' e]; exact g1), g2⟩
      subst e2
      exact nd_inj h.nr m hm
  · by_cases e : s' = s
    · subst e
      rw [yes]
      exact fun z0 => List.mem_map.2 ⟨_, hm, rfl⟩
    · rw [no s' e]; exact h.key s'
theorem BD.new {I : List Nat} {H' : Hp} {t i s r : Nat} {ks : List (Nat × Nat)} (h : BD g I H H' t i ks) (hr : H' r = Option.none) (hs : s ∉ ks.map (·.1)) :
    (I.take i).filterMap (fw g s) = [] ∧ H r = Option.none ∧ t ≠ r ∧ ∀ p ∈ ks, p.2 ≠ r := by
  refine ⟨Decidable.byContradiction fun e => hs (h.key s e), h.sub.no hr, Hp.ne_of hr h.t, fun p hp e => ?_⟩
  have := (h.at_ p.1 p.2 hp).1
  rw [e, hr] at this; cases this
noncomputable def bhV (ks : List (Nat × List Nat)) : List (Int × V) := ks.map fun p => ((p.1 : Int), V.tup (nats p.2))
structure Beh (g : Gr) (I : List Nat) (ks : List (Nat × List Nat)) : Prop where
  nd : (ks.map (·.1)).Nodup
  ker : ∀ s K, (s, K) ∈ ks → K.Perm (I.filterMap (fw g s)) ∧ K.Pairwise (· ≤ ·) ∧ K ≠ []
  all : ∀ s, I.filterMap (fw g s) ≠ [] → s ∈ ks.map (·.1)
inductive IKb1 (g : Gr) (I : List Nat) (H : Hp) (t i : Nat) : Loc → Hp → Prop
  | mk {H' a3 a4} (ks : List (Nat × Nat)) (e : BD g I H H' t i ks) (ne : ∀ s ∈ ks.map (·.1), (I.take i).filterMap (fw g s) ≠ []) : IKb1 g I H t i [some (gV g), some (.lst (nats I)), some (.ref t), a3, a4, none] H'
inductive IKb2 (g : Gr) (I : List Nat) (H : Hp) (H1 : Hp) (t o : Nat) (a3 : Option V) (l : List Nat) (i : Nat) : Loc → Hp → Prop
  | mk {H' a4} (es : List (Nat × List Nat)) (e1 : H' o = some (.dcI (bhV es))) (e2 : Sub H1 H') (e3 : es.map (·.1) = l.take i) (e4 : ∀ s K, (s, K) ∈ es → K.Perm (I.filterMap (fw g s)) ∧ K.Pairwise (· ≤ ·) ∧ K ≠ []) :
    IKb2 g I H H1 t o a3 l i [some (gV g), some (.lst (nats I)), some (.ref t), a3, a4, some (.ref o)] H'
theorem sb_dI {a v es} (k : Int) (h : dcIOf H a = some es) (e : es.lookup k = some v) (q : Q v H) : sbK2 a Q (.int k) H := ⟨v, .dcI h e, q⟩
theorem BD.len {I : List Nat} {H' : Hp} {t i : Nat} {ks : List (Nat × Nat)} (h : BD g I H H' t i ks) (ok : Gok g) (ne : ∀ s ∈ ks.map (·.1), (I.take i).filterMap (fw g s) ≠ []) : ks.length ≤ 40 := by
  have hb : ∀ s ∈ ks.map (·.1), s < g.nsym := fun s hs => by
    have := ne s hs
    obtain ⟨y, hy⟩ := List.exists_mem_of_ne_nil _ this
    obtain ⟨x, hO⟩ := List.mem_filterMap.1 hy; have hx := hO.1; have e := hO.2; clear hO
    unfold fw at e
    obtain ⟨⟨i, d⟩, e1, e2⟩ := Option.bind_eq_some_iff.1 e
    dsimp only at e2
    split at e2
    · next h => exact aft_lt ok h
    · cases e2
  have := nodup_le h.nd hb
  have := ok.sym
  rw [List.length_map] at *
  omega
theorem behind_spec {I : List Nat} (ok : Gok g) (hI : ∀ x ∈ I, ∃ i d, Itm g x i d) (hl : I.length ≤ 60) (q : ∀ ks, Beh g I ks → ks.length ≤ 40 → Q (.dcI (bhV ks)) H) :
    wF prog (k + 3) .kernels_behind [gV g, .lst (nats I)] H Q := by
  refine wF_mk (m := [some (gV g), some (.lst (nats I)), none, none, none, none]) rfl rfl ?_
  unfold ir_kernels_behind
  trivial
  refine dc_i fun t ht => ?_
  trivial
  refine for_l (IKb1 g I H t) (.mk [] ⟨Hp.set_same _ _ _, .new ht _, nofun, .nil, .nil, fun s h => absurd rfl h⟩ nofun) ?_ ?_
  · intro i v _ H1 hv hI0; induction hI0 with | mk ks bd ne => ?_
    obtain ⟨x, hx, rfl⟩ := nats_of hv
    obtain ⟨r, d, hi⟩ := hI x (List.mem_of_getElem? hx)
    have hks := bd.len ok ne
    trivial
    refine after_spec g hi (fun s hs => ?_) fun hs => ?_
    · trivial
      refine c_ge (fun z0 => ?_) fun h => absurd (Int.natCast_nonneg s) h
      have fin : ∀ {H2 : Hp} {ks : List (Nat × Nat)} {r : Nat}, BD g I H H2 t i ks → (∀ s' ∈ ks.map (·.1), s' ≠ s → (I.take i).filterMap (fw g s') ≠ []) → (s, r) ∈ ks → wSs (wF prog (k + 2)) (.cons (.exprS (.meth (.sub (.loc 2) (.loc 4)) "append" (.cons (.call .advanced (.cons (.loc 0) (.cons (.loc 3) .nil))) .nil))) .nil)
          [some (gV g), some (.lst (nats I)), some (.ref t), some (.int (x : Int)), some (.int (s : Int)), none] H2 (lp (rt Q) (IKb1 g I H t (i + 1))) := by
        intro H2 ks r bd ne hm
        have hr := (bd.at_ s r hm).1
        trivial
        refine sb_dI _ (di_ref bd.t) (lookI bd.nd hm) (mt_app hr ?_)
        trivial
        refine advanced_spec g hi ?_
        trivial
        refine mb_app hr (by have := fm_len (f := fw g s) hl i; rw [nats_len]; simp only [big]; exact li1 [_] ⟨0, .a (.v 0) (.n 1), .n 16000000⟩ ⟨0, .v 0, .n 60⟩ rfl this) ?_
        trivial
        refine .mk ks (bd.put hx hi hs hm) fun s' hs' => ?_
        rw [fm_next hx]
        by_cases e : s' = s
        · rw [e, fw_yes hi hs]; simp
        · exact fun h => ne s' hs' e (List.append_eq_nil_iff.1 h).1
      trivial
      refine c_notIn (.dcI (di_ref bd.t)) (fun hn => ?_) fun hn => ?_
      · rw [keysI, nz_mem] at hn
        trivial
        refine ls_new rfl fun r hr => ?_
        have hO := bd.new hr hn; have b1 := hO.1; have b2 := hO.2.1; have b3 := hO.2.2.1; have b4 := hO.2.2.2; clear hO
        trivial
        refine si_dcI (Hp.set_ne' b3 bd.t) (by rw [List.length_map]; simp only [big]; exact li1 [_] ⟨0, .a (.v 0) (.n 1), .n 16000000⟩ ⟨0, .v 0, .n 40⟩ rfl hks) ?_
        rw [putK_new (by rw [keysI, nz_mem]; exact hn)]
        trivial
        refine fin (ks := ks ++ [(s, r)]) (r := r) ⟨(Hp.set_same _ _ _).trans (by simp), (bd.sub.set b2 _).set ht _, fun s' r' m => ?_, ?_, ?_, fun s' h => ?_⟩ (fun s' h e => ?_) (by simp)
        · rcases List.mem_append.1 m with m | m
          · have hO := bd.at_ s' r' m; have c1 := hO.1; have c2 := hO.2; clear hO
            exact ⟨Hp.set_ne' (fun e => by subst e; rw [bd.t] at c1; cases c1) (Hp.set_ne' (b4 _ m) c1), c2⟩
          · cases List.mem_singleton.1 m
            exact ⟨Hp.set_ne' b3.symm ((Hp.set_same _ _ _).trans (by rw [b1]; rfl)), b2⟩
        · rw [List.map_append, List.nodup_append]
          exact ⟨bd.nd, by simp, fun a ha b hb e => by simp at hb; rw [e, hb] at ha; exact hn ha⟩
        · rw [List.map_append, List.nodup_append]
          exact ⟨bd.nr, by simp, fun a ha b hb e => by simp at hb; obtain ⟨p, hp, rfl⟩ := List.mem_map.1 ha; exact b4 p hp (e.trans hb)⟩
        · rw [List.map_append]; exact List.mem_append_left _ (bd.key s' h)
        · rw [List.map_append, List.mem_append] at h
          exact h.elim (fun h => ne s' h) fun h => absurd (by simpa using h) e
      · rw [keysI, nz_mem] at hn
        obtain ⟨⟨s', r⟩, hm, rfl⟩ := List.mem_map.1 hn
        trivial
        exact fin bd (fun s h z0 => ne s h) hm
    · trivial
      refine c_ge (fun h => absurd h (by decide)) fun z0 => ?_
      trivial
      have no : ∀ s, fw g s x = none := fun s => fw_no hi fun e => by rw [hs] at e; cases e
      exact .mk ks (bd.skip hx no) fun s h => by rw [fm_next hx, no s]; simpa using ne s h
  · rintro _ H1 ⟨ks, bd, ne⟩
    have hks := bd.len ok ne
    rw [nats_len] at bd ne
    have hT := List.take_length (l := I)
    trivial
    refine dc_i fun o ho => ?_
    have hto : t ≠ o := Hp.ne_of ho bd.t
    trivial
    refine p_dcI (di_ref (Hp.set_ne' hto bd.t)) (by rw [List.length_map]; exact li1 [_] ⟨0, .a (.v 0) (.n 1), .n 64⟩ ⟨0, .v 0, .n 40⟩ rfl hks) fun l' h1 h2 => ?_
    rw [keysI] at h1
    obtain ⟨l, rfl, hp⟩ := nz_perm h1
    have hll := hp.length_eq
    rw [List.length_map] at hll
    rw [ints_nats]
    refine frz (by rw [nats_len]; simp only [big]; exact li2 [_, _] ⟨0, .v 0, .n 16000000⟩ ⟨0, .v 1, .n 40⟩ ⟨0, .v 0, .v 1⟩ rfl hks (Nat.le_of_eq hll)) ?_
    refine for_l (IKb2 g I H H1 t o _ l) (.mk [] (Hp.set_same _ _ _) (.new ho _) rfl nofun) ?_ ?_
    · rintro i v _ H2 hv ⟨es, e1, e2, e3, e4⟩
      obtain ⟨s, hs, rfl⟩ := nats_of hv
      obtain ⟨⟨s', r⟩, hm, rfl⟩ := List.mem_map.1 (hp.mem_iff.1 (List.mem_of_getElem? hs))
      have hr := e2 _ _ (bd.at_ _ r hm).1
      have hne := ne _ (List.mem_map.2 ⟨_, hm, rfl⟩)
      rw [hT] at hr hne
      have hfl := List.length_filterMap_le (fw g s') I
      trivial
      refine sb_dI _ (di_ref (e2 _ _ bd.t)) (lookI bd.nd hm) ?_
      trivial
      refine p_nats (s_ref hr) (by exact li2 [_, _] ⟨0, .a (.v 0) (.n 1), .n 64⟩ ⟨0, .v 1, .n 60⟩ ⟨0, .v 0, .v 1⟩ rfl hl hfl) fun K k1 k2 => frz (by rw [nats_len, k1.length_eq]; simp only [big]; exact li2 [_, _] ⟨0, .v 0, .n 16000000⟩ ⟨0, .v 1, .n 60⟩ ⟨0, .v 0, .v 1⟩ rfl hl hfl) ?_
      trivial
      refine p_tuple rfl ?_
      trivial
      have hel : es.length < big := by
        have := congrArg List.length e3
        rw [List.length_map, List.length_take] at this
        have := Nat.min_le_right i l.length
        simp only [big]; omega
      refine si_dcI e1 (by rw [bhV, List.length_map]; exact hel) ?_
      have hnew : s' ∉ es.map (·.1) := fun h => by
        rw [e3] at h
        obtain ⟨n', hn', hh⟩ := List.mem_take_iff_getElem.1 h
        have hln := (hp.nodup_iff).2 bd.nd
        have h3 : l[n']? = some s' := by rw [List.getElem?_eq_getElem (by exact Nat.le_trans hn' (Nat.min_le_right _ _)), hh]
        have := (List.getElem?_inj (by exact Nat.le_trans hn' (Nat.min_le_right _ _)) hln).1 (h3.trans hs.symm)
        omega
      have hb : (bhV es).map (·.1) = nz (es.map (·.1)) := by simp [bhV, nz, Function.comp_def]
      rw [putK_new (by rw [hb, nz_mem]; exact hnew)]
      trivial
      refine .mk (es ++ [(s', K)]) ((Hp.set_same _ _ _).trans (by simp [bhV])) (e2.set ho _) (by rw [List.map_append, e3, take_next hs]; rfl) fun s K' h => ?_
      rcases List.mem_append.1 h with h | h
      · exact e4 s K' h
      · cases List.mem_singleton.1 h
        exact ⟨k1, k2, fun e => by rw [e] at k1; exact hne k1.symm.eq_nil⟩
    · rintro _ H2 ⟨es, e1, e2, e3, e4⟩
      rw [nats_len, List.take_length] at e3
      trivial
      have ho0 : H o = Option.none := bd.sub.no ho
      refine drop (bd.sub.trans e2) (.dcI e1 ho0 (VVk.of_rfl _)) (q es ⟨?_, e4, fun s h => ?_⟩ ?_)
      · rw [e3]; exact (hp.nodup_iff).2 bd.nd
      · rw [e3, hp.mem_iff]; exact bd.key s (by rw [hT]; exact h)
      · have := congrArg List.length e3
        rw [List.length_map] at this
        exact li3 [_, _, _] ⟨0, .v 0, .n 40⟩ ⟨0, .v 1, .n 40⟩ ⟨0, .v 2, .v 1⟩ ⟨0, .v 0, .v 2⟩ rfl hks (Nat.le_of_eq hll) (Nat.le_of_eq this)
end
noncomputable abbrev stA (j : Nat) (s : St) (d : Nat) : List (String × V) := [("number", .int j), ("kernel", .tup (nats s.kernel)), ("symbol", .int s.sym), ("items", .lst (nats s.items)), ("moves", .ref d), ("reductions", .lst (nats s.reds))]
noncomputable def numV (ss : List St) : List (List Int × V) := ss.zipIdx.map fun p => (nz p.1.kernel, .int p.2)
noncomputable abbrev buA (g : Gr) (F : List Nat) (sr nr : Nat) : List (String × V) := [("grammar", gV g), ("closer", clV g F), ("states", .ref sr), ("numbers", .ref nr)]
structure BH (g : Gr) (F : List Nat) (H0 H : Hp) (b sr nr : Nat) (rs : List (Nat × Nat)) (ss : List St) : Prop where
  hb : H b = some (.inst .Builder (buA g F sr nr))
  hs : H sr = some (.list (rs.map fun p => .ref p.1))
  hn : H nr = some (.dcT (numV ss))
  len : rs.length = ss.length
  st : ∀ (j r d : Nat) (s : St), rs[j]? = some (r, d) → ss[j]? = some s → H r = some (.inst .LrState (stA j s d)) ∧ H d = some (.dcI (mvV s.moves))
  fr : ∀ p ∈ rs, H0 p.1 = Option.none ∧ H0 p.2 = Option.none
  fb : H0 b = Option.none
  fs : H0 sr = Option.none
  fn : H0 nr = Option.none
  sub : Sub H0 H
  n1 : (rs.map (·.1)).Nodup
  n2 : (rs.map (·.2)).Nodup
theorem nz_inj {l l' : List Nat} (h : nz l = nz l') : l = l' := by
  have := congrArg (List.map Int.toNat) h
  simpa [nz, Function.comp_def] using this
theorem numV_snoc (ss : List St) (s : St) : numV (ss ++ [s]) = numV ss ++ [(nz s.kernel, .int ss.length)] := by simp [numV, List.zipIdx_append]
theorem numV_keys (ss : List St) : (numV ss).map (·.1) = (ss.map (·.kernel)).map nz := by
  refine List.ext_getElem? fun i => ?_
  simp only [numV, List.getElem?_map, List.getElem?_zipIdx]
  cases ss[i]? <;> rfl
theorem inT {H : Hp} {c es} {K : List Nat} (h : dcTOf H c = some es) : InV H (.tup (nats K)) c (nz K ∈ es.map (·.1)) := by rw [← ints_nats]; exact .dcT h
theorem si_dK {C : CallW} {m : Loc} {H : Hp} {ss S a} {K : List Nat} {es v} (h : H a = some (.dcT es)) (hk : es.length < big) (q : wSs C ss m (H.set a (.dcT (putK (nz K) v es))) S) : siK3 C (.ref a) v ss m S (.tup (nats K)) H := by
  rw [← ints_nats]; exact si_dcT h hk q
theorem sb_dK {H : Hp} {Q : VK} {a v es} {K : List Nat} (h : dcTOf H a = some es) (e : es.lookup (nz K) = some v) (q : Q v H) : sbK2 a Q (.tup (nats K)) H := by
  rw [← ints_nats]; exact sb_dT _ h e q
theorem numV_mem {ss : List St} {K : List Nat} : nz K ∈ (numV ss).map (·.1) ↔ K ∈ ss.map (·.kernel) := by
  rw [numV_keys]
  exact ⟨fun h => by obtain ⟨x, h1, h2⟩ := List.mem_map.1 h; cases nz_inj h2; exact h1, fun h => List.mem_map.2 ⟨_, h, rfl⟩⟩
theorem numV_look {ss : List St} (hn : (ss.map (·.kernel)).Nodup) {j : Nat} {s : St} (h : ss[j]? = some s) : (numV ss).lookup (nz s.kernel) = some (.int j) := by
  refine mem_lookup ?_ (List.mem_map.2 ⟨(s, j), List.mem_zipIdx_iff_getElem?.2 h, rfl⟩)
  rw [numV_keys]
  exact List.Pairwise.map _ (fun z0 z0 n e => n (nz_inj e)) hn
theorem numV_len (ss : List St) : (numV ss).length = ss.length := by simp [numV]
theorem zip_inj {rs : List (Nat × Nat)} (h : (rs.map (·.1)).Nodup) {i j r d d' : Nat} (a : rs[i]? = some (r, d)) (b : rs[j]? = some (r, d')) : i = j :=
  (List.getElem?_inj (by rw [List.length_map]; exact (List.getElem?_eq_some_iff.1 a).1) h).1 (by simp [a, b])
theorem zip_inj2 {rs : List (Nat × Nat)} (h : (rs.map (·.2)).Nodup) {i j r r' d : Nat} (a : rs[i]? = some (r, d)) (b : rs[j]? = some (r', d)) : i = j :=
  (List.getElem?_inj (by rw [List.length_map]; exact (List.getElem?_eq_some_iff.1 a).1) h).1 (by simp [a, b])
section
variable {k : Nat} {H H0 : Hp} {Q : VK} {g : Gr} {F : List Nat} {b sr nr : Nat} {rs : List (Nat × Nat)} {ss : List St}
theorem BH.ex (h : BH g F H0 H b sr nr rs ss) {j : Nat} {s : St} (hs : ss[j]? = some s) : ∃ r d, rs[j]? = some (r, d) ∧ H r = some (.inst .LrState (stA j s d)) ∧ H d = some (.dcI (mvV s.moves)) := by
  obtain ⟨⟨r, d⟩, hr⟩ := get_ex h.len (List.getElem?_eq_some_iff.1 hs).1
  exact ⟨r, d, hr, h.st _ _ _ _ hr hs⟩
theorem BH.put (h : BH g F H0 H b sr nr rs ss) {j r d : Nat} {s s' : St} (hr : rs[j]? = some (r, d)) (hs : ss[j]? = some s) (hk : s'.kernel = s.kernel) (hm : s'.moves = s.moves) :
    BH g F H0 (H.set r (.inst .LrState (stA j s' d))) b sr nr rs (ss.set j s') := by
  have hO := h.st _ _ _ _ hr hs; have h1 := hO.1; have h2 := hO.2; clear hO
  have hj := (List.getElem?_eq_some_iff.1 hs).1
  refine ⟨Hp.set_ne' (fun e => ?_) h.hb, Hp.set_ne' (fun e => ?_) h.hs, ?_, by rw [List.length_set]; exact h.len, fun i r' d' s2 a c => ?_, h.fr, h.fb, h.fs, h.fn, h.sub.set (h.fr _ (List.mem_of_getElem? hr)).1 _, h.n1, h.n2⟩
  · subst e; rw [h.hb] at h1; cases h1
  · subst e; rw [h.hs] at h1; cases h1
  · have e : numV (ss.set j s') = numV ss := by
      refine List.ext_getElem? fun i => ?_
      simp only [numV, List.getElem?_map, List.getElem?_zipIdx]
      by_cases e : i = j
      · subst e; rw [List.getElem?_set_self hj, hs]; simp [hk]
      · rw [List.getElem?_set_ne (Ne.symm e)]
    rw [e]
    exact Hp.set_ne' (fun e => by subst e; rw [h.hn] at h1; cases h1) h.hn
  · by_cases e : i = j
    · subst e
      rw [List.getElem?_set_self hj] at c
      rw [hr] at a
      cases a; cases c
      exact ⟨Hp.set_same _ _ _, Hp.set_ne' (fun e => by subst e; rw [h2] at h1; cases h1) (by rw [hm]; exact h2)⟩
    · rw [List.getElem?_set_ne (Ne.symm e)] at c
      have hO := h.st _ _ _ _ a c; have g1 := hO.1; have g2 := hO.2; clear hO
      exact ⟨Hp.set_ne' (fun e2 => e (zip_inj h.n1 (e2 ▸ a) hr)) g1, Hp.set_ne' (fun e2 => by subst e2; rw [g2] at h1; cases h1) g2⟩
theorem BH.mv (h : BH g F H0 H b sr nr rs ss) {j r d : Nat} {s : St} {mv : List (Nat × Nat)} (hr : rs[j]? = some (r, d)) (hs : ss[j]? = some s) :
    BH g F H0 (H.set d (.dcI (mvV mv))) b sr nr rs (ss.set j { s with moves := mv }) := by
  have hO := h.st _ _ _ _ hr hs; have h1 := hO.1; have h2 := hO.2; clear hO
  have hj := (List.getElem?_eq_some_iff.1 hs).1
  refine ⟨Hp.set_ne' (fun e => ?_) h.hb, Hp.set_ne' (fun e => ?_) h.hs, ?_, by rw [List.length_set]; exact h.len, fun i r' d' s2 a c => ?_, h.fr, h.fb, h.fs, h.fn, h.sub.set (h.fr _ (List.mem_of_getElem? hr)).2 _, h.n1, h.n2⟩
  · subst e; rw [h.hb] at h2; cases h2
  · subst e; rw [h.hs] at h2; cases h2
  · have e : numV (ss.set j { s with moves := mv }) = numV ss := by
      refine List.ext_getElem? fun i => ?_
      simp only [numV, List.getElem?_map, List.getElem?_zipIdx]
      by_cases e : i = j
      · subst e; rw [List.getElem?_set_self hj, hs]; simp
      · rw [List.getElem?_set_ne (Ne.symm e)]
    rw [e]
    exact Hp.set_ne' (fun e => by subst e; rw [h.hn] at h2; cases h2) h.hn
  · by_cases e : i = j
    · subst e
      rw [List.getElem?_set_self hj] at c
      rw [hr] at a
      cases a; cases c
      exact ⟨Hp.set_ne' (fun e => by subst e; rw [h1] at h2; cases h2) h1, Hp.set_same _ _ _⟩
    · rw [List.getElem?_set_ne (Ne.symm e)] at c
      have hO := h.st _ _ _ _ a c; have g1 := hO.1; have g2 := hO.2; clear hO
      exact ⟨Hp.set_ne' (fun e2 => by subst e2; rw [g1] at h2; cases h2) g1, Hp.set_ne' (fun e2 => e (zip_inj2 h.n2 (e2 ▸ a) hr)) g2⟩
theorem mt_bu {C : CallW} {m : Loc} {xs : Xs} {n : String} {f : Fid} (h : H b = some (.inst .Builder (buA g F sr nr))) (hf : Cid.meth .Builder n = some f) (q : wEs C xs m H (mfK C f (.ref b) Q)) (hn : (buA g F sr nr).lookup n = Option.none) : mtK C n xs m Q (.ref b) H := mt_ref h hf hn q
theorem number_of_spec {K : List Nat} {sym : Int} (h : BH g F H0 H b sr nr rs ss) (hkn : (ss.map (·.kernel)).Nodup) (hl : ss.length < big)
    (q1 : ∀ (j : Nat) (s : St), ss[j]? = some s → s.kernel = K → Q (.int j) H)
    (q2 : K ∉ ss.map (·.kernel) → ∀ H' r d, BH g F H0 H' b sr nr (rs ++ [(r, d)]) (ss ++ [⟨K, sym, [], [], []⟩]) → Q (.int ss.length) H') :
    wF prog (k + 2) .Builder_number_of [.ref b, .tup (nats K), .int sym] H Q := by
  refine wF_mk (m := [some (.ref b), some (.tup (nats K)), some (.int sym)]) rfl rfl ?_
  unfold ir_Builder_number_of
  trivial
  refine a_ref h.hb (by decide) rfl (c_notIn (inT (dt_ref h.hn)) (fun hn => ?_) fun hn => ?_)
  · rw [numV_mem] at hn
    trivial
    refine a_ref h.hb (by decide) rfl ?_
    trivial
    refine p_len (s_ref h.hs) ?_
    rw [List.length_map, h.len]
    trivial
    refine a_ref h.hb (by decide) rfl ?_
    trivial
    refine si_dK h.hn (by rw [numV_len]; exact hl) ?_
    rw [putK_new (by rw [numV_mem]; exact hn)]
    have hsn : sr ≠ nr := fun e => by have := h.hs; rw [e, h.hn] at this; cases this
    have hbn : b ≠ nr := fun e => by have := h.hb; rw [e, h.hn] at this; cases this
    have hbs : b ≠ sr := fun e => by have := h.hb; rw [e, h.hs] at this; cases this
    trivial
    refine a_ref (Hp.set_ne' hbn h.hb) (by decide) rfl (mt_app (Hp.set_ne' hsn h.hs) ?_)
    trivial
    refine a_ref (Hp.set_ne' hbn h.hb) (by decide) rfl ?_
    trivial
    refine p_len (s_ref (Hp.set_ne' hsn h.hs)) ?_
    rw [List.length_map, h.len]
    trivial
    intro r hr
    refine LrState_init_spec fun d hd hdr => ?_
    refine nq_keep ?_
    have hrn := Hp.ne_of hr (Hp.set_same H nr _)
    have hdn := Hp.ne_of hd (Hp.set_same H nr _)
    rw [Hp.set_ne _ _ hrn.symm] at hr
    rw [Hp.set_ne _ _ hdn.symm] at hd
    have nr_ : ∀ {x o}, H x = some o → x ≠ r := fun e => Hp.ne_of hr e
    have nd_ : ∀ {x o}, H x = some o → x ≠ d := fun e => Hp.ne_of hd e
    trivial
    refine mb_app (vs := rs.map fun p => .ref p.1) (Hp.set_ne' (nr_ h.hs) (Hp.set_ne' (nd_ h.hs) (Hp.set_ne' hsn h.hs))) (by rw [List.length_map, h.len]; exact hl) ?_
    trivial
    refine a_ref (Hp.set_ne' hbs (Hp.set_ne' (nr_ h.hb) (Hp.set_ne' (nd_ h.hb) (Hp.set_ne' hbn h.hb)))) (by decide) rfl ?_
    trivial
    have hnn : ∀ {es}, ((((H.set nr (.dcT es)).set d (.dcI [])).set r (.inst .LrState (stA ss.length ⟨K, sym, [], [], []⟩ d))).set sr (.list ((rs.map fun p => V.ref p.1) ++ [.ref r]))) nr = some (.dcT es) :=
      Hp.set_ne' hsn.symm (Hp.set_ne' hrn (Hp.set_ne' hdn (Hp.set_same _ _ _)))
    refine sb_dK (dt_ref hnn) (lookup_snoc (by rw [numV_mem]; exact hn)) ?_
    refine keep (q2 hn _ r d ⟨?_, ?_, ?_, ?_, fun j r' d' s a c => ?_, ?_, h.fb, h.fs, h.fn, ?_, ?_, ?_⟩)
    · exact Hp.set_ne' hbs (Hp.set_ne' (nr_ h.hb) (Hp.set_ne' (nd_ h.hb) (Hp.set_ne' hbn h.hb)))
    · rw [Hp.set_same]; simp
    · rw [numV_snoc]; exact hnn
    · simp [h.len]
    · by_cases hj : j < ss.length
      · rw [List.getElem?_append_left (h.len ▸ hj)] at a
        rw [List.getElem?_append_left hj] at c
        have hO := h.st _ _ _ _ a c; have g1 := hO.1; have g2 := hO.2; clear hO
        refine ⟨Hp.set_ne' (fun e => ?_) (Hp.set_ne' (nr_ g1) (Hp.set_ne' (nd_ g1) (Hp.set_ne' (fun e => ?_) g1))), Hp.set_ne' (fun e => ?_) (Hp.set_ne' (nr_ g2) (Hp.set_ne' (nd_ g2) (Hp.set_ne' (fun e => ?_) g2)))⟩
        · subst e; rw [h.hs] at g1; cases g1
        · subst e; rw [h.hn] at g1; cases g1
        · subst e; rw [h.hs] at g2; cases g2
        · subst e; rw [h.hn] at g2; cases g2
      · rw [List.getElem?_append_right (by rw [h.len]; exact (Nat.le_of_not_lt hj))] at a
        rw [List.getElem?_append_right (by exact (Nat.le_of_not_lt hj))] at c
        have hj0 : j = ss.length := by
          have := (List.getElem?_eq_some_iff.1 c).1
          simp at this; exact Nat.le_antisymm (li2 [_, _, _] ⟨0, .v 0, .v 1⟩ ⟨0, .v 2, .n 0⟩ ⟨0, .v 0, .a (.v 2) (.v 1)⟩ rfl (Nat.le_of_eq this) (sb1 _ _)) ((Nat.le_of_not_lt hj))
        subst hj0
        simp [h.len] at a c
        obtain ⟨rfl, rfl⟩ := a
        subst c
        exact ⟨Hp.set_ne' (nr_ h.hs).symm (Hp.set_same _ _ _), Hp.set_ne' (nd_ h.hs).symm (Hp.set_ne' hdr (Hp.set_same _ _ _))⟩
    · intro p hp
      rcases List.mem_append.1 hp with hp | hp
      · exact h.fr p hp
      · rw [List.mem_singleton.1 hp]; exact ⟨h.sub.no hr, h.sub.no hd⟩
    · exact (((h.sub.set h.fn _).set (h.sub.no hd) _).set (h.sub.no hr) _).set h.fs _
    · rw [List.map_append, List.nodup_append]
      refine ⟨h.n1, by simp, fun a ha b' hb' e => ?_⟩
      simp at hb'; subst hb' e
      obtain ⟨p, hO⟩ := List.mem_map.1 ha; have hp := hO.1; have e := hO.2; clear hO
      obtain ⟨i, hi⟩ := List.getElem?_of_mem hp
      obtain ⟨s, hs⟩ := get_ex h.len.symm (List.getElem?_eq_some_iff.1 hi).1
      exact nr_ (h.st i p.1 p.2 s hi hs).1 e
    · rw [List.map_append, List.nodup_append]
      refine ⟨h.n2, by simp, fun a ha b' hb' e => ?_⟩
      simp at hb'; subst hb' e
      obtain ⟨p, hO⟩ := List.mem_map.1 ha; have hp := hO.1; have e := hO.2; clear hO
      obtain ⟨i, hi⟩ := List.getElem?_of_mem hp
      obtain ⟨s, hs⟩ := get_ex h.len.symm (List.getElem?_eq_some_iff.1 hi).1
      exact nd_ (h.st i p.1 p.2 s hi hs).2 e
  · rw [numV_mem] at hn
    obtain ⟨s, hO⟩ := List.mem_map.1 hn; have hm := hO.1; have e := hO.2; clear hO
    obtain ⟨j, hj⟩ := List.getElem?_of_mem hm
    trivial
    refine a_ref h.hb (by decide) rfl ?_
    trivial
    have e2 := numV_look hkn hj
    rw [e] at e2
    exact sb_dK (dt_ref h.hn) e2 (keep (q1 j s hj e))
end
theorem subs_le {α} [DecidableEq α] : ∀ (U : List α) (L : List (List α)), L.Nodup → (∀ K ∈ L, K.Sublist U) → L.length ≤ 2 ^ U.length
  | [], L, hn, h => by
    have : ∀ K ∈ L, K = [] := fun K hK => List.sublist_nil.1 (h K hK)
    match L, hn, this with
    | [], _, _ => simp
    | [_], _, _ => simp
    | a :: b :: r, hn, h => exact absurd ((h a (by simp)).trans (h b (by simp)).symm) (fun e => (List.nodup_cons.1 hn).1 (by simp [e]))
  | u :: U, L, hn, h => by
    have e : L.length = (L.filter fun K => decide (K.Sublist U)).length + (L.filter fun K => ! decide (K.Sublist U)).length := by
      rw [← List.countP_eq_length_filter, ← List.countP_eq_length_filter]
      exact (List.length_eq_countP_add_countP (fun K => decide (K.Sublist U))).trans (by simp)
    have h1 := subs_le U (L.filter fun K => decide (K.Sublist U)) (hn.filter _) fun K hK => of_decide_eq_true (List.mem_filter.1 hK).2
    have h3 : ∀ K ∈ L.filter fun K => ! decide (K.Sublist U), K = u :: K.tail ∧ K.tail.Sublist U := fun K hK => by
      obtain ⟨a, b⟩ := List.mem_filter.1 hK
      cases h K a with
      | cons _ s => simp [s] at b
      | cons_cons _ s => exact ⟨rfl, s⟩
    have h2 := subs_le U ((L.filter fun K => ! decide (K.Sublist U)).map List.tail) (by
      rw [List.Nodup, List.pairwise_map]
      refine List.Pairwise.imp_of_mem (fun {a b} ha hb n e => n ?_) (hn.filter _)
      rw [(h3 a ha).1, (h3 b hb).1, e]) (fun K hK => by
        obtain ⟨K', h4, rfl⟩ := List.mem_map.1 hK
        exact (h3 K' h4).2)
    rw [List.length_map] at h2
    rw [e, List.length_cons, Nat.pow_succ]
    exact li2 [_, _, _] ⟨0, .a (.v 0) (.v 1), .m (.v 2) 2⟩ ⟨0, .v 0, .v 2⟩ ⟨0, .v 1, .v 2⟩ rfl h1 h2
theorem sorted_eq : ∀ {K K' : List Nat}, K.Pairwise (· < ·) → K'.Pairwise (· < ·) → (∀ x, x ∈ K ↔ x ∈ K') → K = K'
  | [], [], _, _, _ => rfl
  | [], y :: _, _, _, h => absurd ((h y).2 (List.mem_cons_self ..)) List.not_mem_nil
  | x :: _, [], _, _, h => absurd ((h x).1 (List.mem_cons_self ..)) List.not_mem_nil
  | x :: K, y :: K', h1, h2, h => by
    rw [List.pairwise_cons] at h1 h2
    have hx := (h x).1 (List.mem_cons_self ..)
    have hy := (h y).2 (List.mem_cons_self ..)
    have e : x = y := by
      rcases List.mem_cons.1 hx with e | e
      · exact e
      · rcases List.mem_cons.1 hy with e' | e'
        · exact e'.symm
        · have := h1.1 _ e'; have := h2.1 _ e; omega
    subst e
    congr 1
    refine sorted_eq h1.2 h2.2 fun z => ⟨fun hz => ?_, fun hz => ?_⟩
    · rcases List.mem_cons.1 ((h z).1 (List.mem_cons_of_mem _ hz)) with e | e
      · have := h1.1 _ hz; omega
      · exact e
    · rcases List.mem_cons.1 ((h z).2 (List.mem_cons_of_mem _ hz)) with e | e
      · have := h2.1 _ hz; omega
      · exact e
noncomputable def advs (rs : List (Nat × List Nat)) : List Nat := ((its rs).zipIdx.filter fun p => decide (1 ≤ p.1.2)).map (·.2)
theorem advs_len (rs : List (Nat × List Nat)) : (advs rs).length = (rs.map fun r => r.2.length).sum := by
  have h : ∀ n : Nat, ((List.range (n + 1)).filter fun d => decide (1 ≤ d)).length = n := fun n => by
    induction n with
    | zero => rfl
    | succ n ih => rw [List.range_succ, List.filter_append, List.length_append, ih]; simp
  have h2 : ∀ (l : List (Nat × Nat)) (k : Nat), ((l.zipIdx k).filter fun p => decide (1 ≤ p.1.2)).length = (l.filter fun p => decide (1 ≤ p.2)).length := fun l => by
    induction l with
    | nil => intro k; rfl
    | cons a l ih => intro k; rw [List.zipIdx_cons, List.filter_cons, List.filter_cons]; dsimp only; split <;> simp [ih]
  rw [advs, List.length_map, h2]
  induction rs using snoc_ind with
  | h0 => rfl
  | hs rs r ih =>
    rw [its_snoc, List.filter_append, List.length_append, ih, List.map_append, List.sum_append, List.filter_map, List.length_map]
    congr 1
    exact (h r.2.length).trans (by simp)
theorem advs_mem {rs : List (Nat × List Nat)} {x i d : Nat} (h : (its rs)[x]? = some (i, d)) (hd : 1 ≤ d) : x ∈ advs rs :=
  List.mem_map.2 ⟨((i, d), x), List.mem_filter.2 ⟨List.mem_zipIdx_iff_getElem?.2 h, decide_eq_true hd⟩, rfl⟩
structure Kok (g : Gr) (K : List Nat) : Prop where
  ne : K ≠ []
  so : K.Pairwise (· < ·)
  ex : ∃ s, ∀ x ∈ K, ∃ y i d, x = y + 1 ∧ Itm g y i d ∧ g.aft i d = some s
section
variable {g : Gr}
theorem aft_some {i d s : Nat} (h : g.aft i d = some s) : ∃ l w, g.rules[i]? = some (l, w) ∧ w[d]? = some s := by
  obtain ⟨⟨l, w⟩, h1, h2⟩ := Option.bind_eq_some_iff.1 h
  exact ⟨l, w, h1, h2⟩
theorem Itm.next {x i d s : Nat} (h : Itm g x i d) (h1 : g.aft i d = some s) : Itm g (x + 1) i (d + 1) := by
  obtain ⟨l, w, h2, _, h4⟩ := its_of h
  obtain ⟨l', w', h5, h6⟩ := aft_some h1
  have := (List.getElem?_eq_some_iff.1 h6).1
  have h7 := its_get h5 (d := d + 1) this
  rw [h4]; exact h7
theorem Itm.inj {x i d i' d' : Nat} (h : Itm g x i d) (h' : Itm g x i' d') : i = i' ∧ d = d' := by
  rw [Itm, show g.its[x]? = some (i, d) from h] at h'
  cases h'; exact ⟨rfl, rfl⟩
theorem Itm.eq {x y i d : Nat} (h : Itm g x i d) (h' : Itm g y i d) : x = y := by
  obtain ⟨_, _, _, _, e⟩ := its_of h
  obtain ⟨_, _, _, _, e'⟩ := its_of h'
  rw [e, e']
theorem Itm.off {i l : Nat} {w : List Nat} (h : g.rules[i]? = some (l, w)) : Itm g (g.off i) i 0 := its_get h (Nat.zero_le _)
theorem Kok.itm {K : List Nat} (h : Kok g K) : ∀ x ∈ K, ∃ i d, Itm g x i d := fun x hx =>
  let ⟨_, h⟩ := h.ex; let ⟨_, i, d, e, h1, h2⟩ := h x hx; ⟨i, d + 1, e ▸ h1.next h2⟩
theorem kok_len (ok : Gok g) {L : List (List Nat)} (hn : L.Nodup) (h : ∀ K ∈ L, Kok g K) : L.length ≤ 2 ^ 23 := by
  have hU := advs_len g.rules
  have hm : ∀ K ∈ L, ∀ x ∈ K, x ∈ advs g.rules := fun K hK x hx => by
    obtain ⟨s, h1⟩ := (h K hK).ex
    obtain ⟨y, i, d, rfl, h2, h3⟩ := h1 x hx
    exact advs_mem (h2.next h3) (Nat.succ_pos d)
  have := subs_le (advs g.rules) (L.map fun K => (advs g.rules).filter fun x => decide (x ∈ K)) (by
    rw [List.Nodup, List.pairwise_map]
    refine List.Pairwise.imp_of_mem (fun {a b} ha hb n e => n (sorted_eq (h a ha).so (h b hb).so fun x => ?_)) hn
    have h1 : ∀ K ∈ L, (x ∈ K ↔ x ∈ (advs g.rules).filter fun x => decide (x ∈ K)) := fun K hK => by
      rw [List.mem_filter, decide_eq_true_iff]
      exact ⟨fun q => ⟨hm K hK x q, q⟩, fun q => q.2⟩
    rw [h1 a ha, h1 b hb, e]) (fun K hK => by
      obtain ⟨K', _, rfl⟩ := List.mem_map.1 hK
      exact List.filter_sublist)
  rw [List.length_map] at this
  exact Nat.le_trans this (Nat.pow_le_pow_right (by decide) (by rw [hU]; exact ok.adv))
theorem off_inj {i j l l' : Nat} {w w' : List Nat} (h : g.rules[i]? = some (l, w)) (h' : g.rules[j]? = some (l', w')) (e : g.off i = g.off j) : i = j := by
  have := Itm.off h'
  rw [← e] at this
  exact ((Itm.off h).inj this).1
theorem Cls.nodup {K I : List Nat} (h : Cls g K I) (hK : K.Nodup) : I.Nodup := by
  obtain ⟨bl, _, hb, hp⟩ := h
  rw [hp.nodup_iff, List.nodup_append]
  refine ⟨hK, ?_, fun x hx y hy e => ?_⟩
  · refine List.Pairwise.filter _ ?_
    rw [List.pairwise_map]
    refine List.Pairwise.imp_of_mem (fun {a b} ha hb n e => n ?_) (J_nodup hb)
    obtain ⟨_, _, h1⟩ := List.mem_flatMap.1 ha
    obtain ⟨_, _, h2⟩ := List.mem_flatMap.1 hb
    obtain ⟨_, h1⟩ := mem_byLeft.1 h1
    obtain ⟨_, h2⟩ := mem_byLeft.1 h2
    exact off_inj h1 h2 e
  · subst e
    exact of_decide_eq_true (List.mem_filter.1 hy).2 hx
theorem Cls.mem {K I : List Nat} (h : Cls g K I) {x : Nat} : x ∈ I ↔ x ∈ K ∨ ∃ j l w, g.rules[j]? = some (l, w) ∧ Wn g K l ∧ x = g.off j := by
  obtain ⟨bl, h1, hb, hp⟩ := h
  rw [hp.mem_iff, List.mem_append]
  constructor
  · rintro (h | h)
    · exact .inl h
    · obtain ⟨h2, _⟩ := List.mem_filter.1 h
      obtain ⟨j, h3, rfl⟩ := List.mem_map.1 h2
      obtain ⟨l, h4, h5⟩ := List.mem_flatMap.1 h3
      obtain ⟨w, h6⟩ := mem_byLeft.1 h5
      exact .inr ⟨j, l, w, h6, (h1 l).1 h4, rfl⟩
  · rintro (h | ⟨j, l, w, h2, h3, rfl⟩)
    · exact .inl h
    · by_cases hx : g.off j ∈ K
      · exact .inl hx
      · exact .inr (List.mem_filter.2 ⟨List.mem_map.2 ⟨j, List.mem_flatMap.2 ⟨l, (h1 l).2 h3, mem_byLeft.2 ⟨w, h2⟩⟩, rfl⟩, decide_eq_true hx⟩)
theorem Cls.itm {K I : List Nat} (h : Cls g K I) (hK : ∀ x ∈ K, ∃ i d, Itm g x i d) : ∀ x ∈ I, ∃ i d, Itm g x i d := fun x hx => by
  rcases h.mem.1 hx with h | ⟨j, l, w, h1, _, rfl⟩
  · exact hK x h
  · exact ⟨j, 0, Itm.off h1⟩
theorem itm_len (ok : Gok g) {I : List Nat} (hn : I.Nodup) (h : ∀ x ∈ I, ∃ i d, Itm g x i d) : I.length ≤ 60 :=
  Nat.le_trans (nodup_le hn fun x hx => let ⟨_, _, h1⟩ := h x hx; (List.getElem?_eq_some_iff.1 h1).1) ok.its
theorem fw_some {s x y : Nat} (h : fw g s x = some y) : ∃ i d, Itm g x i d ∧ g.aft i d = some s ∧ y = x + 1 := by
  obtain ⟨⟨i, d⟩, h1, h2⟩ := Option.bind_eq_some_iff.1 h
  dsimp only at h2
  split at h2
  · next e => cases h2; exact ⟨i, d, h1, e, rfl⟩
  · cases h2
theorem Beh.kok {I : List Nat} {ks : List (Nat × List Nat)} (h : Beh g I ks) (hI : I.Nodup) {s : Nat} {K : List Nat} (hK : (s, K) ∈ ks) : Kok g K := by
  obtain ⟨h1, h2, h3⟩ := h.ker s K hK
  refine ⟨h3, ?_, s, fun x hx => ?_⟩
  · have hn : K.Nodup := by
      rw [h1.nodup_iff]
      refine List.Pairwise.filterMap _ (fun a a' n b hb b' hb' e => n ?_) hI
      obtain ⟨_, _, _, _, e1⟩ := fw_some (Option.mem_def.1 hb)
      obtain ⟨_, _, _, _, e2⟩ := fw_some (Option.mem_def.1 hb')
      exact Nat.le_antisymm (li3 [_, _, _, _] ⟨0, .v 0, .v 1⟩ ⟨0, .v 2, .v 3⟩ ⟨0, .a (.v 0) (.n 1), .v 2⟩ ⟨0, .v 3, .a (.v 1) (.n 1)⟩ rfl (Nat.le_of_eq e) (Nat.le_of_eq e1.symm) (Nat.le_of_eq e2)) (li3 [_, _, _, _] ⟨0, .v 0, .v 1⟩ ⟨0, .v 2, .v 3⟩ ⟨0, .v 3, .a (.v 1) (.n 1)⟩ ⟨0, .a (.v 0) (.n 1), .v 2⟩ rfl (Nat.le_of_eq e.symm) (Nat.le_of_eq e1) (Nat.le_of_eq e2.symm))
    exact List.Pairwise.imp₂ (fun a b h1 h2 => Nat.lt_of_le_of_ne h1 h2) h2 hn
  · obtain ⟨z, _, h4⟩ := List.mem_filterMap.1 (h1.mem_iff.1 hx)
    obtain ⟨i, d, h5, h6, h7⟩ := fw_some h4
    exact ⟨z, i, d, h7, h5, h6⟩
end
inductive Mvs (kr : List (List Nat)) : List (Nat × Nat) → List (Nat × List Nat) → Prop
  | nil : Mvs kr [] []
  | snoc {mv ks x t K} : Mvs kr mv ks → kr[t]? = some K → Mvs kr (mv ++ [(x, t)]) (ks ++ [(x, K)])
structure StF (g : Gr) (kr : List (List Nat)) (s : St) : Prop where
  cls : Cls g s.kernel s.items
  red : s.reds.Perm (s.items.filterMap (cr g))
  mv : ∃ ks, Beh g s.items ks ∧ Mvs kr s.moves ks
noncomputable abbrev kers (ss : List St) : List (List Nat) := ss.map fun s => s.kernel
structure BI (g : Gr) (ss : List St) (a lo : Nat) : Prop where
  nd : (kers ss).Nodup
  k0 : (kers ss)[0]? = some [0]
  kok : ∀ j K, 1 ≤ j → (kers ss)[j]? = some K → Kok g K
  fin : ∀ j s, j < a → ss[j]? = some s → StF g (kers ss) s
  raw : ∀ j s, lo ≤ j → ss[j]? = some s → s.moves = []
theorem Mvs.mono {kr mv ks K} (h : Mvs kr mv ks) : Mvs (kr ++ [K]) mv ks := by
  induction h with
  | nil => exact .nil
  | snoc _ e ih => exact .snoc ih (by rw [List.getElem?_append_left (List.getElem?_eq_some_iff.1 e).1]; exact e)
theorem Mvs.keys {kr mv ks} (h : Mvs kr mv ks) : mv.map (·.1) = ks.map (·.1) := by
  induction h with
  | nil => rfl
  | snoc _ e ih => rw [List.map_append, List.map_append, ih]; rfl
theorem StF.mono {g : Gr} {kr K s} (h : StF g kr s) : StF g (kr ++ [K]) s := ⟨h.cls, h.red, let ⟨ks, a, b⟩ := h.mv; ⟨ks, a, b.mono⟩⟩
theorem kers_get {ss : List St} {j : Nat} {s : St} (h : ss[j]? = some s) : (kers ss)[j]? = some s.kernel := by simp [kers, h]
theorem kers_set {ss : List St} {j : Nat} {s s' : St} (h : ss[j]? = some s) (e : s'.kernel = s.kernel) : kers (ss.set j s') = kers ss := by
  refine List.ext_getElem? fun i => ?_
  simp only [kers, List.getElem?_map]
  by_cases hi : i = j
  · subst hi; rw [List.getElem?_set_self (List.getElem?_eq_some_iff.1 h).1, h]; simp [e]
  · rw [List.getElem?_set_ne (Ne.symm hi)]
section
variable {g : Gr} {ss : List St} {a lo : Nat}
theorem BI.len (ok : Gok g) (h : BI g ss a lo) : ss.length ≤ 2 ^ 23 + 1 := by
  have hk := h.kok
  have hn := h.nd
  cases ss with
  | nil => exact Nat.zero_le _
  | cons s ss =>
    have := kok_len ok (L := kers ss) (List.nodup_cons.1 hn).2 fun K hK => by
      obtain ⟨i, hi⟩ := List.getElem?_of_mem hK
      exact hk (i + 1) K (Nat.succ_pos i) hi
    rw [List.length_map] at this
    exact Nat.succ_le_succ this
theorem BI.itm (h : BI g ss a lo) (ok : Gok g) {j : Nat} {s : St} (hs : ss[j]? = some s) : (∀ x ∈ s.kernel, ∃ i d, Itm g x i d) ∧ s.kernel.Nodup := by
  have hk := kers_get hs
  by_cases hj : j = 0
  · subst hj
    have := h.k0
    rw [hk] at this
    rw [Option.some.inj this]
    refine ⟨fun x hx => ?_, by simp⟩
    obtain ⟨r, hr⟩ : ∃ r, g.rules[0]? = some r := ⟨_, List.getElem?_eq_getElem ok.pos⟩
    rw [List.mem_singleton.1 hx]
    exact ⟨0, 0, its_get (l := r.1) (w := r.2) hr (Nat.zero_le _)⟩
  · have := h.kok j _ (by exact (Nat.pos_of_ne_zero hj)) hk
    exact ⟨this.itm, this.so.imp Nat.ne_of_lt⟩
theorem BI.set {j : Nat} {s s' : St} (h : BI g ss a lo) (hs : ss[j]? = some s) (e : s'.kernel = s.kernel) (ha : a ≤ j) (lo' : Nat) (hl : lo ≤ lo') (hj : j < lo') : BI g (ss.set j s') a lo' := by
  have hk := kers_set hs e
  refine ⟨by rw [hk]; exact h.nd, by rw [hk]; exact h.k0, by rw [hk]; exact h.kok, fun i t hi ht => ?_, fun i t hi ht => ?_⟩
  · rw [List.getElem?_set_ne (by exact Nat.ne_of_gt (Nat.le_trans hi ha))] at ht
    rw [hk]; exact h.fin i t hi ht
  · rw [List.getElem?_set_ne (by exact Nat.ne_of_lt (Nat.le_trans hj hi))] at ht
    exact h.raw i t (Nat.le_trans hl hi) ht
theorem BI.snoc {K : List Nat} {sym : Int} (h : BI g ss a lo) (ha : a ≤ ss.length) (hK : K ∉ kers ss) (k : Kok g K) : BI g (ss ++ [⟨K, sym, [], [], []⟩]) a lo := by
  have e : kers (ss ++ [⟨K, sym, [], [], []⟩]) = kers ss ++ [K] := by simp [kers]
  have h0 : 0 < (kers ss).length := (List.getElem?_eq_some_iff.1 h.k0).1
  have old : ∀ j t, (ss ++ [⟨K, sym, [], [], []⟩])[j]? = some t → ss[j]? = some t ∨ t = ⟨K, sym, [], [], []⟩ ∧ j = ss.length := fun j t ht => by
    by_cases hj : j < ss.length
    · rw [List.getElem?_append_left hj] at ht; exact .inl ht
    · rw [List.getElem?_append_right (by exact (Nat.le_of_not_lt hj))] at ht
      have := (List.getElem?_eq_some_iff.1 ht).1
      simp at this
      have : j = ss.length := by exact Nat.le_antisymm (li2 [_, _, _] ⟨0, .v 0, .v 1⟩ ⟨0, .v 2, .n 0⟩ ⟨0, .v 0, .a (.v 2) (.v 1)⟩ rfl (Nat.le_of_eq this) (sb1 _ _)) ((Nat.le_of_not_lt hj))
      subst this
      simp at ht
      exact .inr ⟨ht.symm, rfl⟩
  refine ⟨?_, ?_, fun j K' hj hk => ?_, fun j t hj ht => ?_, fun j t hj ht => ?_⟩
  · rw [e, List.nodup_append]
    exact ⟨h.nd, by simp, fun x hx y hy q => hK (by rw [← List.mem_singleton.1 hy, ← q]; exact hx)⟩
  · rw [e, List.getElem?_append_left h0]; exact h.k0
  · rw [e] at hk
    by_cases hl : j < (kers ss).length
    · rw [List.getElem?_append_left hl] at hk; exact h.kok j K' hj hk
    · rw [List.getElem?_append_right (by exact (Nat.le_of_not_lt hl))] at hk
      rw [List.mem_singleton.1 (List.mem_of_getElem? hk)]; exact k
  · rw [e]
    rcases old j t ht with ht | ⟨rfl, rfl⟩
    · exact (h.fin j t hj ht).mono
    · exact absurd hj (Nat.not_lt.2 ha)
  · rcases old j t ht with ht | ⟨rfl, rfl⟩
    · exact h.raw j t hj ht
    · rfl
end
inductive IEx (g : Gr) (F : List Nat) (H0 : Hp) (b sr nr at_ r d : Nat) (K : List Nat) (sym : Int) (I R : List Nat) (ks : List (Nat × List Nat)) (i : Nat) : Loc → Hp → Prop
  | mk {H' a3} (rs : List (Nat × Nat)) (ss : List St) (mv : List (Nat × Nat)) (bh : BH g F H0 H' b sr nr rs ss) (bi : BI g ss at_ (at_ + 1)) (hr : rs[at_]? = some (r, d)) (hs : ss[at_]? = some ⟨K, sym, I, mv, R⟩) (hm : Mvs (kers ss) mv (ks.take i)) :
    IEx g F H0 b sr nr at_ r d K sym I R ks i [some (.ref b), some (.ref r), some (.dcI (bhV ks)), a3] H'
theorem bhV_look {ks : List (Nat × List Nat)} (h : (ks.map (·.1)).Nodup) {s : Nat} {K : List Nat} (hm : (s, K) ∈ ks) : (bhV ks).lookup (s : Int) = some (.tup (nats K)) := by
  refine mem_lookup ?_ (List.mem_map.2 ⟨_, hm, rfl⟩)
  have e : (bhV ks).map (·.1) = nz (ks.map (·.1)) := by simp [bhV, nz, Function.comp_def]
  rw [e]
  exact List.Pairwise.map _ (fun z0 z0 n e => n (Int.ofNat.inj e)) h
theorem mvV_keys (mv : List (Nat × Nat)) : (mvV mv).map (·.1) = nz (mv.map (·.1)) := by simp [mvV, nz, Function.comp_def]
theorem mvV_snoc (mv : List (Nat × Nat)) (x t : Nat) : mvV mv ++ [((x : Int), V.int t)] = mvV (mv ++ [(x, t)]) := by simp [mvV]
section
variable {C : CallW} {m : Loc} {H H0 : Hp} {Q : VK} {k : Nat} {g : Gr} {F : List Nat} {b sr nr : Nat} {rs : List (Nat × Nat)} {ss : List St}
theorem for_d {i es} {sa ss : Ss} {S : SK} (I : Nat → Loc → Hp → Prop) (hb : es.length ≤ big) (h0 : I 0 m H)
    (hs : ∀ k u m H, (es.map fun e => V.int e.1)[k]? = some u → I k m H → wSs C sa (m.set i (some u)) H (lp S (I (k + 1)))) (he : ∀ m H, I es.length m H → wSs C ss m H S) : viK (foK C (.one i) sa ss m S) (.dcI es) H :=
  .inr ⟨es, rfl, hb, I, h0, fun k u m H e i => ⟨True.intro, _, rfl, hs k u m H e i⟩, fun m H i => ⟨True.intro, he m H (by rwa [List.length_map] at i)⟩⟩
theorem take_fresh {α} {ks : List (Nat × α)} (h : (ks.map (·.1)).Nodup) {i x : Nat} {K : α} (hi : ks[i]? = some (x, K)) : x ∉ (ks.take i).map (·.1) := by
  have e : ks = ks.take i ++ (x, K) :: ks.drop (i + 1) := by rw [← drop_cons hi, List.take_append_drop]
  rw [e, List.map_append, List.nodup_append] at h
  exact fun hx => h.2.2 x hx x (by simp) rfl
theorem sa_items {ss : Ss} {S : SK} {r j d : Nat} {s : St} {I : List Nat} (h : H r = some (.inst .LrState (stA j s d))) (q : wSs C ss m (H.set r (.inst .LrState (stA j { s with items := I } d))) S) : saK2 C "items" (.lst (nats I)) ss m S (.ref r) H := sa2 h (by decide) rfl q
theorem sa_reds {ss : Ss} {S : SK} {r j d : Nat} {s : St} {I : List Nat} (h : H r = some (.inst .LrState (stA j s d))) (q : wSs C ss m (H.set r (.inst .LrState (stA j { s with reds := I } d))) S) : saK2 C "reductions" (.lst (nats I)) ss m S (.ref r) H := sa2 h (by decide) rfl q
theorem expand_spec {at_ r d : Nat} {K I0 R0 : List Nat} {sym : Int} (ok : Gok g) (hF : Rep g.nsym F (War (Lft g) g.nsym)) (bh : BH g F H0 H b sr nr rs ss) (bi : BI g ss at_ at_) (hr : rs[at_]? = some (r, d)) (hs : ss[at_]? = some ⟨K, sym, I0, [], R0⟩)
    (q : ∀ H' rs' ss', BH g F H0 H' b sr nr rs' ss' → BI g ss' (at_ + 1) (at_ + 1) → at_ < ss'.length → Q .none H') : wF prog (k + 5) .Builder_expand [.ref b, .ref r] H Q := by
  refine wF_mk (m := [some (.ref b), some (.ref r), none, none]) rfl rfl ?_
  unfold ir_Builder_expand
  have hO := bi.itm ok hs; have hK := hO.1; have hKn := hO.2; clear hO
  have hKl := itm_len ok hKn hK
  have hr1 := (bh.st _ _ _ _ hr hs).1
  trivial
  refine a_ref bh.hb (by decide) rfl ?_
  trivial
  refine a_ref hr1 (by decide) rfl ?_
  trivial
  refine close_spec hF ok hK (Nat.lt_of_le_of_lt hKl (by decide)) fun I hI => ?_
  have hIi := hI.itm hK
  have hIn := hI.nodup hKn
  have hIl := itm_len ok hIn hIi
  trivial
  refine sa_items hr1 ?_
  have hlt := (List.getElem?_eq_some_iff.1 hs).1
  replace bh := bh.put (s' := ⟨K, sym, I, [], R0⟩) hr hs rfl rfl
  replace bi := bi.set (s' := ⟨K, sym, I, [], R0⟩) hs rfl (Nat.le_refl _) (at_ + 1) (Nat.le_succ _) (Nat.lt_succ_self _)
  replace hs := List.getElem?_set_self (a := (⟨K, sym, I, [], R0⟩ : St)) hlt
  replace hlt := (List.getElem?_eq_some_iff.1 hs).1
  replace hr1 := (bh.st _ _ _ _ hr hs).1
  trivial
  refine a_ref bh.hb (by decide) rfl ?_
  trivial
  refine a_ref hr1 (by decide) rfl ?_
  trivial
  refine complete_spec hIi hIl fun R hR => ?_
  trivial
  refine sa_reds hr1 ?_
  replace bh := bh.put (s' := ⟨K, sym, I, [], R⟩) hr hs rfl rfl
  replace bi := bi.set (s' := ⟨K, sym, I, [], R⟩) hs rfl (Nat.le_refl _) (at_ + 1) (Nat.le_refl _) (Nat.lt_succ_self _)
  replace hs := List.getElem?_set_self (a := (⟨K, sym, I, [], R⟩ : St)) hlt
  replace hlt := (List.getElem?_eq_some_iff.1 hs).1
  replace hr1 := (bh.st _ _ _ _ hr hs).1
  trivial
  refine a_ref bh.hb (by decide) rfl ?_
  trivial
  refine a_ref hr1 (by decide) rfl ?_
  trivial
  refine behind_spec ok hIi hIl fun ks hks hkl => ?_
  trivial
  refine for_d (IEx g F H0 b sr nr at_ r d K sym I R ks) (by rw [bhV, List.length_map]; simp only [big]; exact li1 [_] ⟨0, .v 0, .n 16000000⟩ ⟨0, .v 0, .n 40⟩ rfl hkl) (.mk rs _ [] bh bi hr hs .nil) ?_ ?_
  · intro i v _ H2 hv hI0; induction hI0 with | mk rs ss mv bh bi hr hs hm => ?_
    obtain ⟨x, K', hi, rfl⟩ : ∃ x K', ks[i]? = some (x, K') ∧ v = .int (x : Nat) := by
      simp only [bhV, List.getElem?_map, Option.map_eq_some_iff] at hv
      obtain ⟨_, ⟨p, h1, rfl⟩, rfl⟩ := hv
      exact ⟨p.1, p.2, h1, rfl⟩
    have hmem := List.mem_of_getElem? hi
    have hlen := bi.len ok
    have hnew : x ∉ mv.map (·.1) := by rw [hm.keys]; exact take_fresh hks.nd hi
    have hml : mv.length < big := by
      have h1 := congrArg List.length hm.keys
      have h2 := List.length_take_le' i ks
      rw [List.length_map, List.length_map] at h1
      simp only [big]; exact li3 [_, _, _] ⟨0, .a (.v 0) (.n 1), .n 16000000⟩ ⟨0, .v 1, .n 40⟩ ⟨0, .v 0, .v 2⟩ ⟨0, .v 2, .v 1⟩ rfl hkl (Nat.le_of_eq h1) h2
    have fin : ∀ {H' : Hp} {rs : List (Nat × Nat)} {ss : List St} {t : Nat}, BH g F H0 H' b sr nr rs ss → BI g ss at_ (at_ + 1) → rs[at_]? = some (r, d) → ss[at_]? = some ⟨K, sym, I, mv, R⟩ → Mvs (kers ss) mv (ks.take i) → (kers ss)[t]? = some K' →
        siK1 (wF prog (k + 4)) (.attr (.loc 1) "moves") (.loc 3) .nil [some (.ref b), some (.ref r), some (.dcI (bhV ks)), some (.int (x : Int))] (lp (rt Q) (IEx g F H0 b sr nr at_ r d K sym I R ks (i + 1))) (.int (t : Int)) H' := by
      intro H' rs ss t bh bi hr hs hm ht
      have hO := bh.st _ _ _ _ hr hs; have g1 := hO.1; have g2 := hO.2; clear hO
      have hlt := (List.getElem?_eq_some_iff.1 hs).1
      have hk := kers_set (s' := ⟨K, sym, I, mv ++ [(x, t)], R⟩) hs rfl
      trivial
      refine a_ref g1 (by decide) rfl ?_
      trivial
      refine si_dcI g2 (by rw [mvV, List.length_map]; exact hml) ?_
      rw [putK_new (by rw [mvV_keys, nz_mem]; exact hnew), mvV_snoc]
      trivial
      exact .mk rs _ (mv ++ [(x, t)]) (bh.mv hr hs) (bi.set (s' := ⟨K, sym, I, mv ++ [(x, t)], R⟩) hs rfl (Nat.le_refl _) _ (Nat.le_refl _) (Nat.lt_succ_self _)) hr (List.getElem?_set_self hlt) (by rw [take_next hi, hk]; exact hm.snoc ht)
    have hlen := bi.len ok
    trivial
    refine mt_bu bh.hb rfl ?_ rfl
    trivial
    refine sb_dI _ rfl (bhV_look hks.nd hmem) ?_
    trivial
    refine number_of_spec bh bi.nd (by simp only [big]; omega) (fun j s h1 h2 => ?_) fun hn H3 r' d' bh' => ?_
    · exact fin bh bi hr hs hm (by rw [← h2]; exact kers_get h1)
    · have hl := (List.getElem?_eq_some_iff.1 hs).1
      have e : kers (ss ++ [⟨K', (x : Int), [], [], []⟩]) = kers ss ++ [K'] := by simp [kers]
      exact fin bh' (bi.snoc (Nat.le_of_lt hl) hn (hks.kok hIn hmem)) (by rw [List.getElem?_append_left (List.getElem?_eq_some_iff.1 hr).1]; exact hr) (by rw [List.getElem?_append_left hl]; exact hs) (by rw [e]; exact hm.mono) (by rw [e]; simp [kers])
  · intro _ H2 hI0; induction hI0 with | mk rs ss mv bh bi hr hs hm => ?_
    rw [bhV, List.length_map, List.take_length] at hm
    trivial
    refine keep (q _ rs ss bh ⟨bi.nd, bi.k0, bi.kok, fun j s hj h => ?_, bi.raw⟩ (List.getElem?_eq_some_iff.1 hs).1)
    rcases Nat.lt_succ_iff_lt_or_eq.1 hj with hj | rfl
    · exact bi.fin j s hj h
    · rw [hs] at h; cases h
      exact ⟨hI, hR, ks, hks, hm⟩
end
theorem VVs_of {H K : Hp} : ∀ {vs ws : List V}, vs.length = ws.length → (∀ (i : Nat) v w, vs[i]? = some v → ws[i]? = some w → VV H K v w) → VVs H K vs ws
  | [], [], _, _ => .nil
  | _ :: _, [], h, _ => nomatch h
  | [], _ :: _, h, _ => nomatch h
  | _ :: _, _ :: _, h, f => .cons (f 0 _ _ rfl rfl) (VVs_of (Nat.succ.inj h) fun i v w a b => f (i + 1) v w a b)
section
variable {C : CallW} {m : Loc} {H H0 : Hp} {Q : VK} {k : Nat} {g : Gr} {F : List Nat} {b sr nr : Nat} {rs : List (Nat × Nat)} {ss : List St}
theorem BH.vvs {H' : Hp} (h : BH g F H0 H b sr nr rs ss) (f : Sub H H') : VVs H' H0 (rs.map fun p => .ref p.1) (statesV ss) := by
  refine VVs_of (by simp [statesV, h.len]) fun i v w a c => ?_
  obtain ⟨s, h1, rfl⟩ := statesV_of c
  obtain ⟨r, d, hO⟩ := h.ex h1; have h2 := hO.1; have h3 := hO.2.1; have h4 := hO.2.2; clear hO
  rw [List.getElem?_map, h2] at a
  cases a
  have hO := h.fr _ (List.mem_of_getElem? h2); have h5 := hO.1; have h6 := hO.2; clear hO
  exact .obj (f _ _ h3) h5 (.cons .rfl (.cons .rfl (.cons .rfl (.cons .rfl (.cons (.dcI (f _ _ h4) h6 (VVk.of_rfl _)) (.cons .rfl .nil))))))
theorem Builder_init_spec (ok : Gok g) (hb : H b = Option.none) (q : ∀ F H' sr nr, Rep g.nsym F (War (Lft g) g.nsym) → BH g F H H' b sr nr [] [] → Q .none H') : wF prog (k + 3) .Builder_init [.ref b, gV g] (H.set b (.inst .Builder [])) Q := by
  refine wF_mk (m := [some (.ref b), some (gV g)]) rfl rfl ?_
  unfold ir_Builder_init
  trivial
  refine sa_new (by decide) rfl ?_
  trivial
  intro c hc
  refine Closer_init_spec ok hc fun F hF H' hs hH => ?_
  refine nq_obj hc hH hs ?_
  trivial
  refine sa_new (by decide) rfl ?_
  trivial
  refine ls_new rfl fun sr hsr => ?_
  have hbs := Hp.ne_of hsr (Hp.set_same H b _)
  trivial
  refine sa2 (Hp.set_ne' hbs (Hp.set_same _ _ _)) (by decide) rfl ?_
  rw [Hp.set_swap]
  trivial
  refine dc_t fun nr hnr => ?_
  have hbn := Hp.ne_of hnr (Hp.set_same _ b _)
  have hsn := Hp.ne_of hnr (Hp.set_ne' hbs.symm (Hp.set_same H sr (.list [])))
  trivial
  refine sa2 (Hp.set_ne' hbn (Hp.set_same _ _ _)) (by decide) rfl ?_
  rw [Hp.set_swap]
  rw [Hp.set_ne _ _ hbn.symm, Hp.set_ne _ _ hsn.symm] at hnr
  rw [Hp.set_ne _ _ hbs.symm] at hsr
  trivial
  refine keep (q F _ sr nr hF ⟨Hp.set_same _ _ _, Hp.set_ne' hbs.symm (Hp.set_ne' hsn (Hp.set_same _ _ _)), Hp.set_ne' hbn.symm (Hp.set_same _ _ _), rfl, (fun j r d s h => nomatch h), nofun, hb, hsr, hnr, ((Sub.new hsr _).set hnr _).set hb _, .nil, .nil⟩)
inductive IBu (g : Gr) (F : List Nat) (H0 : Hp) (b sr nr n : Nat) : Loc → Hp → Prop
  | mk {H'} (rs : List (Nat × Nat)) (ss : List St) (i : Nat) (bh : BH g F H0 H' b sr nr rs ss) (bi : BI g ss i i) (hi : i ≤ ss.length) (hn : n = 2 ^ 23 + 1 - i) : IBu g F H0 b sr nr n [some (.ref b), some (.int (i : Int))] H'
theorem BI.one : BI g [⟨[0], -1, [], [], []⟩] 0 0 :=
  ⟨by simp, rfl, fun j K hj h => by have := (List.getElem?_eq_some_iff.1 h).1; simp at this; omega, fun j s h => absurd h (Nat.not_lt_zero _), fun j s z0 h => by rw [List.mem_singleton.1 (List.mem_of_getElem? h)]⟩
theorem built_spec (ok : Gok g) (hF : Rep g.nsym F (War (Lft g) g.nsym)) (bh : BH g F H0 H b sr nr [] []) (q : ∀ ss, BI g ss ss.length ss.length → ss.length ≤ big → Q (auV g ss) H0) : wF prog (k + 6) .Builder_built [.ref b] H Q := by
  refine wF_mk (m := [some (.ref b), none]) rfl rfl ?_
  unfold ir_Builder_built
  trivial
  refine mt_bu bh.hb rfl ?_ rfl
  trivial
  refine a_ref bh.hb (by decide) rfl ?_
  trivial
  refine item_spec g (i := 0) (d := 0) ok.pos ?_
  rw [show g.off 0 + 0 = 0 from rfl]
  trivial
  refine number_of_spec (K := [0]) bh .nil (by decide) (fun j s h => nomatch h) fun z0 H1 r d bh => ?_
  trivial
  refine s_while (IBu g F H0 b sr nr) (.mk _ _ 0 bh BI.one (Nat.zero_le _) rfl) ?_
  rintro n _ H2 ⟨rs, ss, i, bh, bi, hi, rfl⟩
  have hlen := bi.len ok
  trivial
  refine a_ref bh.hb (by decide) rfl ?_
  trivial
  refine p_len (s_ref bh.hs) ?_
  rw [List.length_map, bh.len]
  trivial
  refine c_lt (fun h => ?_) fun h => ?_
  · have hlt := Int.ofNat_lt.1 h
    have hs := List.getElem?_eq_getElem hlt
    obtain ⟨rd, hr⟩ := get_ex bh.len hlt
    obtain ⟨r, d⟩ := rd
    have hm := bi.raw _ _ (Nat.le_refl _) hs
    trivial
    refine mt_bu bh.hb rfl ?_ rfl
    trivial
    refine a_ref bh.hb (by decide) rfl ?_
    trivial
    refine sb_r (v := .ref r) bh.hs (by rw [List.getElem?_map, hr]; rfl) ?_
    trivial
    generalize ss[i] = s at hs hm
    induction s with | mk K sym I0 mv R0 => ?_
    cases hm
    refine expand_spec ok hF bh bi hr hs fun H3 rs' ss' bh' bi' hl => ?_
    trivial
    exact wh (by exact li2 [_, _, _, _] ⟨0, .a (.v 0) (.n 1), .v 1⟩ ⟨0, .a (.v 0) (.a (.v 2) (.n 1)), .a (.v 3) (.n 1)⟩ ⟨0, .a (.v 3) (.n 1), .a (.v 1) (.v 2)⟩ rfl (sb3 (Nat.le_trans (Int.ofNat_lt.1 h) hlen)) (sb1 _ _)) (.mk rs' ss' (i + 1) bh' bi' hl rfl)
  · have he : i = ss.length := Nat.le_antisymm hi (Nat.not_lt.1 fun e => h (Int.ofNat_lt.2 e))
    subst he
    trivial
    refine a_ref bh.hb (by decide) rfl ?_
    trivial
    refine a_ref bh.hb (by decide) rfl ?_
    trivial
    intro a ha
    refine Automaton_init_spec ?_
    have sa := bh.sub
    have f := Sub.new ha (.inst .Automaton [("grammar", gV g), ("states", .ref sr)])
    exact ⟨rfl, auV g ss, H0, sa.trans f, .obj (Hp.set_same _ _ _) (sa.no ha) (.cons .rfl (.cons (.lst (f _ _ bh.hs) bh.fs (bh.vvs f)) .nil)), keep (q ss bi (Nat.le_trans hlen (by decide)))⟩
theorem build_spec (ok : Gok g) (q : ∀ ss, BI g ss ss.length ss.length → ss.length ≤ big → Q (auV g ss) H) : wF prog (k + 7) .build [gV g] H Q := by
  refine wF_mk (m := [some (gV g)]) rfl rfl ?_
  unfold ir_build
  trivial
  intro b hb
  refine Builder_init_spec ok hb fun F H' sr nr hF bh => ?_
  refine nq_keep ?_
  refine mt_bu bh.hb rfl ?_ rfl
  trivial
  exact built_spec ok hF bh fun ss bi hl => keep (q ss bi hl)
end
structure Bhd (g : Gr) (S : Nat) : Prop where
  zero : g.rules[0]? = some (g.tc, [S, 0])
  St : g.tc < S
  tc0 : 0 < g.tc
  rule : ∀ (i l : Nat) (w : List Nat), 1 ≤ i → g.rules[i]? = some (l, w) → g.tc < l ∧ ∃ v m, w = v ++ [m] ∧ m < g.tc ∧ ∀ x ∈ w, x ≠ 0 ∧ x ≠ g.tc
  mark : ∀ (i d j l m : Nat) (v : List Nat), 1 ≤ j → g.rules[j]? = some (l, v ++ [m]) → g.aft i d = some m → i = j ∧ d = v.length
theorem Mvs.look {kr mv ks} (h : Mvs kr mv ks) (hn : (ks.map (·.1)).Nodup) {x : Nat} {K : List Nat} (hm : (x, K) ∈ ks) : ∃ t, mv.lookup x = some t ∧ kr[t]? = some K := by
  have hk := h.keys ▸ hn
  suffices ∃ t, (x, t) ∈ mv ∧ kr[t]? = some K from let ⟨t, a, b⟩ := this; ⟨t, mem_lookup hk a, b⟩
  clear hn hk
  induction h with
  | nil => exact absurd hm List.not_mem_nil
  | snoc _ e ih =>
    rcases List.mem_append.1 hm with hm | hm
    · obtain ⟨t, a, b⟩ := ih hm; exact ⟨t, List.mem_append_left _ a, b⟩
    · cases List.mem_singleton.1 hm
      exact ⟨_, List.mem_append_right _ (List.mem_singleton_self _), e⟩
theorem Mvs.of {kr mv ks} (h : Mvs kr mv ks) {x t : Nat} (hm : (x, t) ∈ mv) : ∃ K, (x, K) ∈ ks ∧ kr[t]? = some K := by
  induction h with
  | nil => exact absurd hm List.not_mem_nil
  | snoc _ e ih =>
    rcases List.mem_append.1 hm with hm | hm
    · obtain ⟨t, a, b⟩ := ih hm; exact ⟨t, List.mem_append_left _ a, b⟩
    · cases List.mem_singleton.1 hm
      exact ⟨_, List.mem_append_right _ (List.mem_singleton_self _), e⟩
theorem lookup_mem {α} {x : Nat} {t : α} : ∀ {l : List (Nat × α)}, l.lookup x = some t → (x, t) ∈ l
  | (y, u) :: l, h => by
    rw [List.lookup] at h
    split at h
    · next e => cases h; rw [eq_of_beq e]; exact List.mem_cons_self ..
    · exact List.mem_cons_of_mem _ (lookup_mem h)
section
variable {g : Gr} {ss : List St} {S : Nat}
noncomputable abbrev Aut (g : Gr) (ss : List St) : Prop := BI g ss ss.length ss.length
theorem Aut.fin' (A : Aut g ss) {j : Nat} {s : St} (h : ss[j]? = some s) : StF g (kers ss) s := A.fin j s (List.getElem?_eq_some_iff.1 h).1 h
theorem kers_of {t : Nat} {K : List Nat} (h : (kers ss)[t]? = some K) : ∃ s, ss[t]? = some s ∧ s.kernel = K := by
  rw [List.getElem?_map] at h
  exact Option.map_eq_some_iff.1 h
theorem Aut.g1 (A : Aut g ss) {j y i d x : Nat} {s : St} (h : ss[j]? = some s) (hy : y ∈ s.items) (hi : Itm g y i d) (ha : g.aft i d = some x) : ∃ t s', s.moves.lookup x = some t ∧ ss[t]? = some s' ∧ y + 1 ∈ s'.items := by
  obtain ⟨_, _, ks, hb, hm⟩ := A.fin' h
  have hmem : y + 1 ∈ s.items.filterMap (fw g x) := List.mem_filterMap.2 ⟨y, hy, fw_yes hi ha⟩
  obtain ⟨⟨x', K⟩, h1, rfl⟩ := List.mem_map.1 (hb.all x (List.ne_nil_of_mem hmem))
  obtain ⟨t, h2, h3⟩ := hm.look hb.nd h1
  obtain ⟨s', h4, rfl⟩ := kers_of h3
  exact ⟨t, s', h2, h4, (A.fin' h4).cls.mem.2 (.inl ((hb.ker _ _ h1).1.mem_iff.2 hmem))⟩
theorem Aut.g2 (A : Aut g ss) {j x t : Nat} {s : St} (h : ss[j]? = some s) (hl : s.moves.lookup x = some t) : ∃ s', ss[t]? = some s' ∧ s'.kernel ≠ [] ∧ ∀ z ∈ s'.kernel, ∃ y i d, y ∈ s.items ∧ z = y + 1 ∧ Itm g y i d ∧ g.aft i d = some x := by
  obtain ⟨_, _, ks, hb, hm⟩ := A.fin' h
  obtain ⟨K, h1, h3⟩ := hm.of (lookup_mem hl)
  obtain ⟨s', h4, rfl⟩ := kers_of h3
  obtain ⟨h5, _, h6⟩ := hb.ker _ _ h1
  refine ⟨s', h4, h6, fun z hz => ?_⟩
  obtain ⟨y, h7, h8⟩ := List.mem_filterMap.1 (h5.mem_iff.1 hz)
  obtain ⟨i, d, h9, h10, h11⟩ := fw_some h8
  exact ⟨y, i, d, h7, h11, h9, h10⟩
theorem itm0 (ok : Gok g) : Itm g 0 0 0 := by
  obtain ⟨r, hr⟩ : ∃ r, g.rules[0]? = some r := ⟨_, List.getElem?_eq_getElem ok.pos⟩
  exact its_get (l := r.1) (w := r.2) hr (Nat.zero_le _)
theorem Aut.ker (A : Aut g ss) {j x : Nat} {s : St} (h : ss[j]? = some s) (hx : x ∈ s.kernel) : (j = 0 ∧ x = 0) ∨ (1 ≤ j ∧ ∃ y i d, x = y + 1 ∧ Itm g y i d) := by
  have hk := kers_get h
  by_cases hj : j = 0
  · subst hj
    rw [A.k0] at hk
    rw [← Option.some.inj hk] at hx
    exact .inl ⟨rfl, List.mem_singleton.1 hx⟩
  · obtain ⟨_, hs⟩ := (A.kok j _ (by exact (Nat.pos_of_ne_zero hj)) hk).ex
    obtain ⟨y, i, d, h1, h2, _⟩ := hs x hx
    exact .inr ⟨by exact (Nat.pos_of_ne_zero hj), y, i, d, h1, h2⟩
theorem Aut.dot (A : Aut g ss) (ok : Gok g) {j x i d : Nat} {s : St} (h : ss[j]? = some s) (hx : x ∈ s.items) (hi : Itm g x i (d + 1)) : x ∈ s.kernel ∧ 1 ≤ j := by
  rcases (A.fin' h).cls.mem.1 hx with hk | ⟨k, l, w, h1, _, rfl⟩
  · refine ⟨hk, ?_⟩
    rcases A.ker h hk with ⟨_, rfl⟩ | h
    · exact absurd ((itm0 ok).inj hi).2 (Nat.succ_ne_zero d).symm
    · exact h.1
  · exact absurd ((Itm.off h1).inj hi).2 (Nat.succ_ne_zero d).symm
theorem Aut.cons (A : Aut g ss) (ok : Gok g) (b : Bhd g S) {j x i d : Nat} {s : St} (h : ss[j]? = some s) (hx : x ∈ s.items) (hi : Itm g x i d) (ha : g.aft i d = none) (h0 : i ≠ 0) : s.reds = [i] ∧ s.moves = [] := by
  obtain ⟨l, w, hr, hd, _⟩ := its_of hi
  obtain ⟨_, v, m, rfl, _⟩ := b.rule i l w (by exact (Nat.pos_of_ne_zero h0)) hr
  have hd : d = v.length + 1 := by
    have h1 : (v ++ [m])[d]? = none := by simpa [Gr.aft, hr] using ha
    have := List.getElem?_eq_none_iff.1 h1
    simp at this hd; exact Nat.le_antisymm (hd) (this)
  subst hd
  obtain ⟨hk, hj⟩ := A.dot ok h hx hi
  have kk := A.kok j _ hj (kers_get h)
  obtain ⟨sy, hs⟩ := kk.ex
  have all : ∀ z ∈ s.kernel, Itm g z i (v.length + 1) := by
    obtain ⟨y, i', d', rfl, h1, h2⟩ := hs x hk
    obtain ⟨rfl, e⟩ := (h1.next h2).inj hi
    cases Nat.succ.inj e
    have hm : sy = m := by
      have : g.aft i' v.length = some m := by simp [Gr.aft, hr]
      rw [this] at h2; exact (Option.some.inj h2).symm
    subst hm
    intro z hz
    obtain ⟨y', i2, d2, rfl, h3, h4⟩ := hs z hz
    obtain ⟨rfl, rfl⟩ := b.mark _ _ _ _ _ _ (Nat.pos_of_ne_zero h0) hr h4
    exact h3.next h4
  have hK : s.kernel = [x] := sorted_eq kk.so (List.pairwise_singleton _ _) fun z => ⟨fun hz => List.mem_singleton.2 ((all z hz).eq hi), fun hz => List.mem_singleton.1 hz ▸ hk⟩
  obtain ⟨hc, hred, ks, hb, hm⟩ := A.fin' h
  rw [hK] at hc
  have hI : s.items = [x] := by
    refine List.perm_singleton.1 ?_
    obtain ⟨bl, h1, _, hp⟩ := hc
    have : bl = [] := List.eq_nil_iff_forall_not_mem.2 fun y hy => by
      obtain ⟨z, hz, i', d', s', h3, h4, _⟩ := (h1 y).1 hy
      rw [List.mem_singleton.1 hz] at h3
      obtain ⟨rfl, rfl⟩ := h3.inj hi
      rw [ha] at h4; cases h4
    subst this
    exact hp
  rw [hI] at hred hb
  refine ⟨?_, ?_⟩
  · rw [List.filterMap_cons, cr_yes hi ha h0] at hred
    exact List.perm_singleton.1 hred
  · have : ks = [] := List.eq_nil_iff_forall_not_mem.2 fun ⟨y, K⟩ hy => by
      obtain ⟨h1, _, h2⟩ := hb.ker y K hy
      obtain ⟨z, hz⟩ := List.exists_mem_of_ne_nil _ h2
      obtain ⟨y', h3, h4⟩ := List.mem_filterMap.1 (h1.mem_iff.1 hz)
      obtain ⟨i', d', h5, h6, _⟩ := fw_some h4
      rw [List.mem_singleton.1 h3] at h5
      obtain ⟨rfl, rfl⟩ := h5.inj hi
      rw [ha] at h6; cases h6
    have h1 := hm.keys
    rw [this] at h1
    exact List.map_eq_nil_iff.1 h1
theorem cr_some {x i : Nat} (h : cr g x = some i) : ∃ d, Itm g x i d ∧ g.aft i d = none ∧ i ≠ 0 := by
  obtain ⟨⟨i, d⟩, h1, h2⟩ := Option.bind_eq_some_iff.1 h
  dsimp only at h2
  split at h2
  · next e => cases h2; exact ⟨d, h1, e⟩
  · cases h2
theorem Aut.red (A : Aut g ss) (ok : Gok g) (b : Bhd g S) {j : Nat} {s : St} (h : ss[j]? = some s) : s.reds = [] ∨ ∃ x i d, s.reds = [i] ∧ s.moves = [] ∧ x ∈ s.items ∧ Itm g x i d ∧ g.aft i d = none ∧ i ≠ 0 := by
  by_cases e : s.reds = []
  · exact .inl e
  · obtain ⟨i, hi⟩ := List.exists_mem_of_ne_nil _ e
    obtain ⟨x, hx, hc⟩ := List.mem_filterMap.1 ((A.fin' h).red.mem_iff.1 hi)
    obtain ⟨d, h1, h2, h3⟩ := cr_some hc
    obtain ⟨h4, h5⟩ := A.cons ok b h hx h1 h2 h3
    exact .inr ⟨x, i, d, h4, h5, hx, h1, h2, h3⟩
theorem Aut.consistent (A : Aut g ss) (ok : Gok g) (b : Bhd g S) : ∀ s ∈ ss, s.reds = [] ∨ s.reds.length = 1 ∧ s.moves = [] := fun s hs => by
  obtain ⟨j, hj⟩ := List.getElem?_of_mem hs
  exact (A.red ok b hj).imp id fun ⟨_, _, _, h1, h2, _⟩ => ⟨by rw [h1]; rfl, h2⟩
theorem Aut.noRed (A : Aut g ss) (ok : Gok g) (b : Bhd g S) {j x t : Nat} {s : St} (h : ss[j]? = some s) (hl : s.moves.lookup x = some t) : s.reds = [] := (A.red ok b h).elim id fun ⟨_, _, _, _, h2, _⟩ => by rw [h2] at hl; cases hl
theorem Aut.left (A : Aut g ss) (ok : Gok g) {j x i l : Nat} {w : List Nat} {s : St} (h : ss[j]? = some s) (hx : x ∈ s.items) (hi : Itm g x i 0) (h0 : i ≠ 0) (hr : g.rules[i]? = some (l, w)) : ∃ t, s.moves.lookup l = some t := by
  have cl := (A.fin' h).cls
  suffices ∃ y i' d', y ∈ s.items ∧ Itm g y i' d' ∧ g.aft i' d' = some l from by
    obtain ⟨y, i', d', h1, h2, h3⟩ := this
    obtain ⟨t, _, h4, _⟩ := A.g1 h h1 h2 h3
    exact ⟨t, h4⟩
  rcases cl.mem.1 hx with hk | ⟨k, l', w', h1, h2, rfl⟩
  · rcases A.ker h hk with ⟨_, rfl⟩ | ⟨_, y, i', d', rfl, h1⟩
    · exact absurd ((itm0 ok).inj hi).1.symm h0
    · obtain ⟨_, _, _, _, e⟩ := its_of h1
      have h3 : Itm g (y + 1) i' (d' + 1) := by
        by_cases hlt : ∃ s, g.aft i' d' = some s
        · obtain ⟨s, hs⟩ := hlt; exact h1.next hs
        · obtain ⟨_, hs⟩ := (A.kok j _ ‹_› (kers_get h)).ex
          obtain ⟨y', i2, d2, h5, h6, h7⟩ := hs _ hk
          cases Nat.succ.inj h5
          obtain ⟨rfl, rfl⟩ := h6.inj h1
          exact h6.next h7
      exact absurd (h3.inj hi).2 (Nat.succ_ne_zero _)
  · obtain ⟨rfl, _⟩ := (Itm.off h1).inj hi
    rw [hr] at h1; cases h1
    obtain ⟨x', hx', i', d', s', h3, h4, rfl | h5⟩ := h2
    · exact ⟨x', i', d', cl.mem.2 (.inl hx'), h3, h4⟩
    · have left : ∀ {z}, Wn g s.kernel z → Lft g z l → ∃ y i' d', y ∈ s.items ∧ Itm g y i' d' ∧ g.aft i' d' = some l := fun {z} hz ⟨q, u, hq⟩ => ⟨g.off q, q, 0, cl.mem.2 (.inr ⟨q, z, _, hq, hz, rfl⟩), Itm.off hq, by simp [Gr.aft, hq]⟩
      rcases h5.last with h6 | ⟨z, h6, h7⟩
      · exact left ⟨x', hx', i', d', s', h3, h4, .inl rfl⟩ h6
      · exact left ⟨x', hx', i', d', s', h3, h4, .inr h6⟩ h7
theorem Aut.open (A : Aut g ss) (ok : Gok g) {j x i d l k : Nat} {w : List Nat} {s : St} (h : ss[j]? = some s) (hx : x ∈ s.items) (hi : Itm g x i d) (ha : g.aft i d = some l) (hr : g.rules[k]? = some (l, w)) : g.off k ∈ s.items := by
  have cl := (A.fin' h).cls
  refine cl.mem.2 (.inr ⟨k, l, w, hr, ?_, rfl⟩)
  rcases cl.mem.1 hx with hk | ⟨q, l', w', h1, ⟨x', hx', i', d', s', h3, h4, h5⟩, rfl⟩
  · exact ⟨x, hk, i, d, l, hi, ha, .inl rfl⟩
  · obtain ⟨rfl, rfl⟩ := (Itm.off h1).inj hi
    have hl : Lft g l' l := by
      obtain ⟨l2, w2, h6, h7⟩ := aft_some ha
      rw [h1] at h6; cases h6
      match w', h7, h1 with
      | _ :: u, h7, h1 => cases h7; exact ⟨q, u, h1⟩
    refine ⟨x', hx', i', d', s', h3, h4, .inr ?_⟩
    rcases h5 with rfl | h5
    · exact .of hl _
    · exact War.trans (h5.lt ok) h5 (.of hl _)
end
inductive D (g : Gr) : List Nat → List Int → List Nat → Prop
  | nil : D g [] [] []
  | t {s p u ts} : s < g.tc → D g p u ts → D g (s :: p) ((s : Int) :: u) ts
  | n {l m i : Nat} {v p : List Nat} {u ts} : 1 ≤ i → g.rules[i]? = some (l, v ++ [m]) → D g (v.reverse ++ p) u ts → D g (l :: p) ((m : Int) :: u) (i :: ts)
inductive Pth (ss : List St) : List Nat → List Nat → Prop
  | z : Pth ss [0] []
  | go {j js γ s x t} : Pth ss (j :: js) γ → ss[j]? = some s → s.moves.lookup x = some t → Pth ss (t :: j :: js) (x :: γ)
inductive Run (g : Gr) (ss : List St) (N : List Int) : List Nat → List Nat → Nat → Nat → List Nat → Prop
  | red {j js tk a n r s i l w j2 js2 s2 t} : ss[j]? = some s → s.reds = [i] → g.rules[i]? = some (l, w) → (j :: js).drop w.length = j2 :: js2 → ss[j2]? = some s2 → s2.moves.lookup l = some t → Run g ss N (t :: j2 :: js2) (tk ++ [i]) a n r → Run g ss N (j :: js) tk a (n + 1) r
  | shf {j js tk a n r s x t} : ss[j]? = some s → s.reds = [] → N[a]? = some ((x : Nat) : Int) → s.moves.lookup x = some t → a + 1 ≠ N.length → Run g ss N (t :: j :: js) tk (a + 1) n r → Run g ss N (j :: js) tk a (n + 1) r
  | fin {j js tk a s x t} : ss[j]? = some s → s.reds = [] → N[a]? = some ((x : Nat) : Int) → s.moves.lookup x = some t → a + 1 = N.length → Run g ss N (j :: js) tk a 1 tk
section
variable {g : Gr} {ss : List St} {S : Nat}
theorem D.len {p u ts} (h : D g p u ts) : ts.length ≤ u.length := by
  induction h with
  | nil => exact Nat.le_refl _
  | t _ _ ih => exact Nat.le_succ_of_le ih
  | n _ _ _ ih => exact Nat.succ_le_succ ih
theorem D.ter (b : Bhd g S) {m : Nat} {p u ts} (h : D g (m :: p) u ts) (hm : m < g.tc) : ∃ u', u = (m : Int) :: u' ∧ D g p u' ts := by
  cases h with
  | t _ h => exact ⟨_, rfl, h⟩
  | n h1 h2 _ => exact absurd (b.rule _ _ _ h1 h2).1 (by exact Nat.not_lt_of_le (li1 [_, _] ⟨0, .v 0, .v 1⟩ ⟨0, .a (.v 0) (.n 1), .v 1⟩ rfl hm))
theorem drop_next {α} {l : List α} {n : Nat} {x : α} {r : List α} (h : l.drop n = x :: r) : l.drop (n + 1) = r := by
  rw [← List.drop_drop, h]; rfl
theorem Aut.way (A : Aut g ss) {i l : Nat} {w γ : List Nat} (hr : g.rules[i]? = some (l, w)) : ∀ {β α js : List Nat} {j x : Nat} {s : St}, w = α ++ β → Pth ss (j :: js) (α.reverse ++ γ) → ss[j]? = some s → x ∈ s.items → Itm g x i α.length →
    ∃ j' js' s' x', Pth ss (j' :: js') (w.reverse ++ γ) ∧ (j' :: js').drop β.length = j :: js ∧ ss[j']? = some s' ∧ x' ∈ s'.items ∧ Itm g x' i w.length
  | [], α, js, j, x, s, e, hp, h2, h3, h4 => by
    rw [List.append_nil] at e; subst e
    exact ⟨j, js, s, x, hp, rfl, h2, h3, h4⟩
  | y :: β, α, js, j, x, s, e, hp, h2, h3, h4 => by
    have ha : g.aft i α.length = some y := by simp [Gr.aft, hr, e]
    obtain ⟨t, s', h5, h6, h7⟩ := A.g1 h2 h3 h4 ha
    obtain ⟨j', js', s2, x2, g1, g2, g3⟩ := Aut.way A hr (β := β) (α := α ++ [y]) (γ := γ) (js := j :: js) (by rw [e]; simp) (by rw [List.reverse_append]; exact hp.go h2 h5) h6 h7 (by rw [List.length_append]; exact h4.next ha)
    exact ⟨j', js', s2, x2, g1, drop_next g2, g3⟩
theorem Aut.comp (A : Aut g ss) (ok : Gok g) (b : Bhd g S) {N : List Int} {p u ts} (h : D g p u ts) : ∀ {js js' γ tk : List Nat} {a n : Nat} {r : List Nat} {rest : List Int}, Pth ss js' (p ++ γ) → js'.drop p.length = js → N.drop a = u.reverse ++ rest → rest ≠ [] →
    Run g ss N js' (tk ++ ts.reverse) (a + u.length) n r → Run g ss N js tk a (n + u.length + ts.length) r := by
  induction h with
  | nil =>
    intro js js' γ tk a n r rest _ h2 _ _ h5
    rw [← h2]; simpa using h5
  | @t s p u ts hs _ ih =>
    intro js js' γ tk a n r rest h1 h2 h3 h4 h5
    cases h1 with
    | @go j js' _ s' _ t hp h6 h7 =>
      rw [List.reverse_cons, List.append_assoc] at h3
      have hN : N[a + u.length]? = some (s : Int) := by
        rw [← List.getElem?_drop, h3, List.getElem?_append_right (by simp)]; simp
      have hl : a + u.length + 1 ≠ N.length := fun e => by
        have := congrArg List.length h3
        simp only [List.length_drop, List.length_append, List.length_reverse, List.length_singleton] at this
        have := List.length_pos_iff.2 h4
        omega
      have := ih hp h2 h3 (by simp) (.shf h6 (A.noRed ok b h6 h7) hN h7 hl h5)
      rw [show n + ((s : Int) :: u).length + ts.length = n + 1 + u.length + ts.length by rw [List.length_cons]; exact Nat.le_antisymm (li0 [_, _, _] ⟨0, .a (.a (.v 0) (.a (.v 1) (.n 1))) (.v 2), .a (.a (.a (.v 0) (.n 1)) (.v 1)) (.v 2)⟩ rfl) (li0 [_, _, _] ⟨0, .a (.a (.a (.v 0) (.n 1)) (.v 1)) (.v 2), .a (.a (.v 0) (.a (.v 1) (.n 1))) (.v 2)⟩ rfl)]
      exact this
  | @n l m i v p u ts h0 hr _ ih =>
    intro js js' γ tk a n r rest h1 h2 h3 h4 h5
    cases h1 with
    | @go j js' _ s' _ t hp h6 h7 =>
      rw [List.reverse_cons, List.append_assoc] at h3
      have hN : N[a + u.length]? = some (m : Int) := by
        rw [← List.getElem?_drop, h3, List.getElem?_append_right (by simp)]; simp
      have hl : a + u.length + 1 ≠ N.length := fun e => by
        have := congrArg List.length h3
        simp only [List.length_drop, List.length_append, List.length_reverse, List.length_singleton] at this
        have := List.length_pos_iff.2 h4
        omega
      obtain ⟨s2, h8, h9, h10⟩ := A.g2 h6 h7
      obtain ⟨z, hz⟩ := List.exists_mem_of_ne_nil _ h9
      obtain ⟨y, i', d', h11, _, h12, h13⟩ := h10 z hz
      obtain ⟨jm, jsm, sm, xm, g1, g2, g3, g4, g5⟩ := A.way hr (β := v ++ [m]) (α := []) (γ := p ++ γ) rfl hp h6 (A.open ok h6 h11 h12 h13 hr) (Itm.off hr)
      have hc : g.aft i (v ++ [m]).length = none := by simp [Gr.aft, hr]
      obtain ⟨g6, _⟩ := A.cons ok b g3 g4 g5 hc (by exact Nat.ne_of_gt (h0))
      rw [List.reverse_append] at g1
      cases g1 with
      | @go jl jsl _ sl _ _ g7 g8 g9 =>
        rw [List.length_append] at g2
        have hq : (jl :: jsl).drop v.length = j :: js' := g2
        have h14 : Run g ss N (jl :: jsl) (tk ++ ts.reverse) (a + u.length) (n + 2) r := .shf g8 (A.noRed ok b g8 g9) hN g9 hl (.red g3 g6 hr (by rw [List.length_append]; exact hq) h6 h7 (by simpa [← Nat.add_assoc] using h5))
        have := ih (js := js) (γ := γ) (by rw [List.append_assoc]; exact g7) (by rw [List.length_append, List.length_reverse, ← List.drop_drop, hq]; exact h2) h3 (by simp) h14
        rw [show n + ((m : Int) :: u).length + (i :: ts).length = n + 2 + u.length + ts.length by rw [List.length_cons, List.length_cons]; exact Nat.le_antisymm (li0 [_, _, _] ⟨0, .a (.a (.v 0) (.a (.v 1) (.n 1))) (.a (.v 2) (.n 1)), .a (.a (.a (.v 0) (.n 2)) (.v 1)) (.v 2)⟩ rfl) (li0 [_, _, _] ⟨0, .a (.a (.a (.v 0) (.n 2)) (.v 1)) (.v 2), .a (.a (.v 0) (.a (.v 1) (.n 1))) (.a (.v 2) (.n 1))⟩ rfl)]
        exact this
theorem Aut.start (A : Aut g ss) : ∃ s, ss[0]? = some s ∧ 0 ∈ s.items := by
  obtain ⟨s, h1, h2⟩ := kers_of A.k0
  exact ⟨s, h1, (A.fin' h1).cls.mem.2 (.inl (by rw [h2]; exact List.mem_singleton_self _))⟩
theorem Aut.whole (A : Aut g ss) (ok : Gok g) (b : Bhd g S) {u : List Int} {us} (h : D g [S] u us) : Run g ss (u.reverse ++ [0]) [0] [] 0 (1 + u.length + us.length) us.reverse := by
  obtain ⟨s, h1, h2⟩ := A.start
  have ha : g.aft 0 0 = some S := by simp [Gr.aft, b.zero]
  have ha' : g.aft 0 1 = some 0 := by simp [Gr.aft, b.zero]
  obtain ⟨t, s', h3, h4, h5⟩ := A.g1 h1 h2 (itm0 ok) ha
  obtain ⟨t2, s2, h6, h7, h8⟩ := A.g1 h4 h5 ((itm0 ok).next ha) ha'
  exact A.comp ok b h (js := [0]) (js' := [t, 0]) (γ := []) (rest := [0]) (.go .z h1 h3) rfl rfl (by simp) (.fin (x := 0) h4 (A.noRed ok b h4 h6) (by rw [Nat.zero_add, List.getElem?_append_right (by simp)]; simp) h6 (by simp))
theorem Aut.back (A : Aut g ss) (ok : Gok g) {i l : Nat} {w : List Nat} (hr : g.rules[i]? = some (l, w)) : ∀ {d j x : Nat} {js γ : List Nat} {s : St}, Pth ss (j :: js) γ → ss[j]? = some s → x ∈ s.items → Itm g x i d →
    ∃ γ0 j0 js0 s0 x0, γ = (w.take d).reverse ++ γ0 ∧ (j :: js).drop d = j0 :: js0 ∧ Pth ss (j0 :: js0) γ0 ∧ ss[j0]? = some s0 ∧ x0 ∈ s0.items ∧ Itm g x0 i 0
  | 0, j, x, js, γ, s, hp, h1, h2, h3 => ⟨γ, j, js, s, x, by simp, rfl, hp, h1, h2, h3⟩
  | d + 1, j, x, js, γ, s, hp, h1, h2, h3 => by
    obtain ⟨h4, h5⟩ := A.dot ok h1 h2 h3
    cases hp with
    | z => exact absurd h5 (Nat.not_succ_le_zero 0)
    | go hp h6 h7 =>
      obtain ⟨s2, h8, _, h9⟩ := A.g2 h6 h7
      rw [h1] at h8; cases h8
      obtain ⟨y, i', d', h10, rfl, h11, h12⟩ := h9 x h4
      obtain ⟨rfl, e⟩ := (h11.next h12).inj h3
      cases Nat.succ.inj e
      obtain ⟨γ0, j0, js0, s0, x0, g1, g2, g3⟩ := Aut.back A ok hr hp h6 h10 h11
      obtain ⟨l2, w2, h13, hx⟩ := aft_some h12
      rw [hr] at h13; cases h13
      refine ⟨γ0, j0, js0, s0, x0, ?_, g2, g3⟩
      rw [take_next hx, g1]; simp
theorem Aut.reduce (A : Aut g ss) (ok : Gok g) (b : Bhd g S) {j : Nat} {js γ : List Nat} {s : St} {u ts} (hp : Pth ss (j :: js) γ) (h : ss[j]? = some s) (hn : s.reds ≠ []) (hd : D g γ u ts) :
    ∃ i l w j2 js2 s2 t γ2, s.reds = [i] ∧ g.rules[i]? = some (l, w) ∧ (j :: js).drop w.length = j2 :: js2 ∧ ss[j2]? = some s2 ∧ s2.moves.lookup l = some t ∧ Pth ss (t :: j2 :: js2) γ2 ∧ D g γ2 u (i :: ts) := by
  obtain ⟨x, i, d, h1, _, h2, h3, h4, h5⟩ := (A.red ok b h).resolve_left hn
  obtain ⟨l, w, hr, hdw, _⟩ := its_of h3
  have hd' : d = w.length := by
    have : w[d]? = none := by simpa [Gr.aft, hr] using h4
    have := List.getElem?_eq_none_iff.1 this
    exact Nat.le_antisymm (hdw) (this)
  subst hd'
  obtain ⟨γ0, j0, js0, s0, x0, g1, g2, g3, g4, g5, g6⟩ := A.back ok hr hp h h2 h3
  obtain ⟨t, ht⟩ := A.left ok g4 g5 g6 h5 hr
  obtain ⟨_, v, m, rfl, hm, _⟩ := b.rule i l w (by exact (Nat.pos_of_ne_zero h5)) hr
  rw [List.take_length, List.reverse_append] at g1
  subst g1
  obtain ⟨u', rfl, hd'⟩ := hd.ter b hm
  exact ⟨i, l, _, j0, js0, s0, t, l :: γ0, h1, hr, g2, g4, ht, g3.go g4 ht, .n (by exact (Nat.pos_of_ne_zero h5)) hr hd'⟩
theorem Aut.accept (A : Aut g ss) (ok : Gok g) (b : Bhd g S) {j t : Nat} {js γ : List Nat} {s : St} (hp : Pth ss (j :: js) γ) (h : ss[j]? = some s) (hl : s.moves.lookup 0 = some t) : γ = [S] := by
  obtain ⟨s', _, h1, h2⟩ := A.g2 h hl
  obtain ⟨z, hz⟩ := List.exists_mem_of_ne_nil _ h1
  obtain ⟨y, i, d, h3, _, h4, h5⟩ := h2 z hz
  obtain ⟨l, w, hr, hd, _⟩ := its_of h4
  have hi : i = 0 := Decidable.byContradiction fun e => by
    obtain ⟨_, _, _, _, _, h6⟩ := b.rule i l w (by exact (Nat.pos_of_ne_zero e)) hr
    obtain ⟨l2, w2, h7, h8⟩ := aft_some h5
    rw [hr] at h7; cases h7
    exact (h6 0 (List.mem_of_getElem? h8)).1 rfl
  subst hi
  have hz := b.zero
  rw [hr] at hz; cases hz
  have hd1 : d = 1 := by
    have : ([S, 0] : List Nat)[d]? = some 0 := by simpa [Gr.aft, hr] using h5
    have hS := b.St
    match d, this with
    | 0, e => simp at e; omega
    | 1, _ => rfl
    | d + 2, e => simp at e
  subst hd1
  obtain ⟨γ0, j0, js0, s0, x0, g1, g2, g3, g4, g5, g6⟩ := A.back ok hr hp h h3 h4
  rw [show γ = S :: γ0 from g1]
  have hk : x0 ∈ s0.kernel := by
    rcases (A.fin' g4).cls.mem.1 g5 with hk | ⟨k, l', w', h6, h7, rfl⟩
    · exact hk
    · obtain ⟨rfl, _⟩ := (Itm.off h6).inj g6
      rw [hr] at h6; cases h6
      exfalso
      have no : ∀ (i d : Nat), g.aft i d ≠ some g.tc := fun i d e => by
        obtain ⟨l2, w2, h8, h9⟩ := aft_some e
        by_cases hi : i = 0
        · subst hi; rw [hr] at h8; cases h8
          have hS := b.St
          have h0 := b.tc0
          have := List.mem_of_getElem? h9
          simp at this; omega
        · obtain ⟨_, _, _, _, _, h10⟩ := b.rule i l2 w2 (by exact (Nat.pos_of_ne_zero hi)) h8
          exact (h10 _ (List.mem_of_getElem? h9)).2 rfl
      obtain ⟨x', _, i', d', s', _, h8, rfl | h9⟩ := h7
      · exact no _ _ h8
      · have nl : ∀ z, ¬ Lft g z g.tc := fun z ⟨q, u, hq⟩ => no q 0 (by simp [Gr.aft, hq])
        rcases h9.last with h | ⟨z, _, h⟩
        · exact nl _ h
        · exact nl _ h
  have hj0 : j0 = 0 := by
    rcases A.ker g4 hk with h | ⟨h6, y', i', d', rfl, h7⟩
    · exact h.1
    · obtain ⟨sy, h8⟩ := (A.kok j0 _ h6 (kers_get g4)).ex
      obtain ⟨y2, i2, d2, h9, h10, h11⟩ := h8 _ hk
      rw [h9] at g6
      exact absurd ((h10.next h11).inj g6).2 (Nat.succ_ne_zero _)
  subst hj0
  cases g3 with
  | z => rfl
  | go hp h6 h7 =>
    obtain ⟨s2, h8, h9, h10⟩ := A.g2 h6 h7
    obtain ⟨z, hz⟩ := List.exists_mem_of_ne_nil _ h9
    obtain ⟨y', i', d', _, e, _⟩ := h10 z hz
    rcases A.ker h8 hz with ⟨_, e2⟩ | ⟨h11, _⟩
    · omega
    · exact absurd h11 (Nat.not_succ_le_zero 0)
end
section
variable {g : Gr} {ss : List St} {N : List Int}
theorem Run.inv_red {j js tk a n r s i l w j2 js2 s2 t} (R : Run g ss N (j :: js) tk a n r) (h1 : ss[j]? = some s) (h2 : s.reds = [i]) (h3 : g.rules[i]? = some (l, w)) (h4 : (j :: js).drop w.length = j2 :: js2) (h5 : ss[j2]? = some s2) (h6 : s2.moves.lookup l = some t) :
    ∃ n', n = n' + 1 ∧ Run g ss N (t :: j2 :: js2) (tk ++ [i]) a n' r := by
  cases R with
  | red g1 g2 g3 g4 g5 g6 R =>
    rw [h1] at g1; cases g1
    rw [h2] at g2; cases g2
    rw [h3] at g3; cases g3
    rw [h4] at g4; cases g4
    rw [h5] at g5; cases g5
    rw [h6] at g6; cases g6
    exact ⟨_, rfl, R⟩
  | shf g1 g2 => rw [h1] at g1; cases g1; rw [h2] at g2; cases g2
  | fin g1 g2 => rw [h1] at g1; cases g1; rw [h2] at g2; cases g2
theorem Run.inv_shf {j js tk a n r s v} (R : Run g ss N (j :: js) tk a n r) (h1 : ss[j]? = some s) (h2 : s.reds = []) (h3 : N[a]? = some v) :
    ∃ (x t : Nat), v = x ∧ s.moves.lookup x = some t ∧ (a + 1 ≠ N.length → ∃ n', n = n' + 1 ∧ Run g ss N (t :: j :: js) tk (a + 1) n' r) ∧ (a + 1 = N.length → r = tk) := by
  cases R with
  | red g1 g2 => rw [h1] at g1; cases g1; rw [h2] at g2; cases g2
  | shf g1 g2 g3 g4 g5 R =>
    rw [h1] at g1; cases g1
    rw [h3] at g3; cases g3
    exact ⟨_, _, rfl, g4, fun z0 => ⟨_, rfl, R⟩, fun e => absurd e g5⟩
  | fin g1 g2 g3 g4 g5 =>
    rw [h1] at g1; cases g1
    rw [h3] at g3; cases g3
    exact ⟨_, _, rfl, g4, fun e => absurd g5 e, fun z0 => rfl⟩
end
inductive IFl (g : Gr) (ss : List St) (S : Nat) (row : List Int) (H : Hp) (k : Nat) : Loc → Hp → Prop
  | mk {a5 a6 a7 a8} (j : Nat) (js γ tk : List Nat) (a : Nat) (hp : Pth ss (j :: js) γ) (hd : D g γ (row.take a).reverse tk.reverse) (ha : a ≤ row.length)
      (hc : ∀ us, D g [S] row.reverse us → ∃ n, k + n ≤ 2 * (row.length + 1) ∧ 1 ≤ n ∧ Run g ss (row ++ [0]) (j :: js) tk a n us.reverse) (hj : js.length ≤ k) (ht : tk.length ≤ k) :
    IFl g ss S row H k [some (auV g ss), some (.lst (inV (row ++ [0]))), some (.lst (nats (j :: js).reverse)), some (.lst (nats tk)), some (.int (a : Int)), a5, a6, a7, a8] H
section
variable {C : CallW} {m : Loc} {H : Hp} {Q : VK} {k : Nat} {g : Gr} {ss : List St} {S : Nat} {row : List Int}
theorem Run.pos {N js tk a n r} (R : Run g ss N js tk a n r) : 1 ≤ n := by cases R <;> exact Nat.succ_pos _
theorem sb_top {j : Nat} {js : List Nat} (q : Q (.int j) H) : sbK2 (.lst (nats (j :: js).reverse)) Q (.int (-1)) H := sb_last (vs := nats js.reverse) (v := .int j) (by rw [rev_cons_nats]; rfl) q
theorem take_nats {l : List Nat} {n : Nat} : (nats l.reverse).take (l.length - n) = nats (l.drop n).reverse := by
  rw [List.reverse_drop, nats, nats, List.map_take]
theorem from_left_spec (A : Aut g ss) (ok : Gok g) (b : Bhd g S) (hw : ∀ v ∈ row, v = -1 ∨ ∃ x : Nat, v = x ∧ x < g.tc) (hl : row.length ≤ 100)
    (q1 : ∀ us, D g [S] row.reverse us → Q (.lst (nats us.reverse)) H) (q2 : (∀ us, ¬ D g [S] row.reverse us) → Q .none H) : wF prog (k + 3) .law_from_left [auV g ss, .lst (inV (row ++ [0]))] H Q := by
  refine wF_mk (m := [some (auV g ss), some (.lst (inV (row ++ [0]))), none, none, none, none, none, none, none]) rfl rfl ?_
  unfold ir_law_from_left
  have hlen : (inV (row ++ [0])).length = row.length + 1 := by simp [inV]
  trivial
  refine ls_frz rfl ?_
  trivial
  refine ls_frz rfl ?_
  trivial
  refine at1 rfl ?_
  trivial
  refine p_len rfl (b_mul (.inl (by decide)) ?_)
  rw [hlen, show (2 : Int) * ((row.length + 1 : Nat) : Int) = ((2 * (row.length + 1) : Nat) : Int) by omega]
  refine for_r (IFl g ss S row H) (by simp only [big]; exact li1 [_] ⟨0, .l 2 (.a (.v 0) (.n 1)), .n 16000000⟩ ⟨1, .v 0, .n 100⟩ rfl hl) (.mk 0 [] [] [] 0 .z .nil (Nat.zero_le _) (fun us h => ?_) (Nat.le_refl _) (Nat.le_refl _)) ?_ ?_
  · have h1 := A.whole ok b h
    have h2 := h.len
    rw [List.reverse_reverse] at h1
    rw [List.length_reverse] at h1 h2
    exact ⟨_, by exact li1 [_, _] ⟨0, .a (.n 0) (.a (.a (.n 1) (.v 0)) (.v 1)), .l 2 (.a (.v 0) (.n 1))⟩ ⟨0, .v 1, .v 0⟩ rfl h2, by exact li0 [_, _] ⟨0, .n 1, .a (.a (.n 1) (.v 0)) (.v 1)⟩ rfl, h1⟩
  · intro i _ _ hi hI0; induction hI0 with | mk j js γ tk a hp hd ha hc hj ht => ?_
    obtain ⟨s, hs⟩ : ∃ s, ss[j]? = some s := by
      cases hp with
      | z => obtain ⟨s, h, _⟩ := A.start; exact ⟨s, h⟩
      | go _ h1 h2 => obtain ⟨s', h, _⟩ := A.g2 h1 h2; exact ⟨s', h⟩
    trivial
    refine sb_top (sb_l (statesV_get hs) ?_)
    trivial
    refine ls_frz rfl (c_ne0 rfl rfl (fun hn => ?_) fun hn => ?_)
    · have hn : s.reds ≠ [] := fun e => hn (by rw [e]; rfl)
      obtain ⟨x, l, w, j2, js2, s2, t, γ2, hO⟩ := A.reduce ok b hp hs hn hd; have h1 := hO.1; have hr := hO.2.1; have h2 := hO.2.2.1; have h3 := hO.2.2.2.1; have h4 := hO.2.2.2.2.1; have h5 := hO.2.2.2.2.2.1; have h6 := hO.2.2.2.2.2.2; clear hO
      trivial
      refine sb_l (n := 0) (v := .int x) (by rw [h1]; rfl) (sb_l (rulesV_get hr) ?_)
      trivial
      refine p_len rfl ?_
      trivial
      refine p_len rfl ?_
      trivial
      have hdl : (nats (j :: js).reverse).length = (j :: js).length := by simp [nats]
      have hdw : w.length ≤ (j :: js).length := by
        have := congrArg List.length h2
        rw [List.length_drop] at this
        simp only [List.length_cons] at this ⊢; omega
      have hcl : clampTo (((nats (j :: js).reverse).length : Nat) - ((nats w).length : Nat) : Int) (nats (j :: js).reverse).length = (j :: js).length - w.length := by
        rw [hdl, nats_len, clampTo, if_pos (by omega)]; omega
      refine .inr ⟨_, _, rfl, rfl, ?_⟩
      rw [hcl, take_nats, h2]
      have h2l := congrArg List.length h2
      rw [List.length_drop] at h2l
      simp only [List.length_cons] at h2l
      have hbig : (j2 :: js2).length < big := by simp only [List.length_cons, big]; exact li5 [_, _, _, _, _] ⟨0, .a (.a (.v 0) (.n 1)) (.n 1), .n 16000000⟩ ⟨1, .v 1, .n 100⟩ ⟨0, .a (.v 2) (.n 1), .l 2 (.a (.v 1) (.n 1))⟩ ⟨0, .v 3, .v 2⟩ ⟨0, .a (.v 0) (.n 1), .v 4⟩ ⟨0, .v 4, .a (.v 3) (.n 1)⟩ rfl hl hi hj (Nat.le_of_eq h2l.symm) (Nat.sub_le _ _)
      refine frz (by rw [nats_len, List.length_reverse]; exact Nat.le_of_lt hbig) ?_
      trivial
      refine sb_top ?_
      trivial
      refine automaton_goto_spec h3 ?_
      rw [lookup_mv, h4, Option.map_some, Option.getD_some]
      trivial
      refine ls_frz rfl (b_addl rfl rfl (frz (by rw [List.length_append, nats_len, List.length_reverse]; exact hbig) ?_))
      trivial
      refine ls_frz rfl (b_addl rfl rfl (frz (by rw [List.length_append, nats_len, List.length_singleton]; simp only [big]; exact li3 [_, _, _] ⟨0, .a (.v 0) (.n 1), .n 16000000⟩ ⟨1, .v 1, .n 100⟩ ⟨0, .a (.v 2) (.n 1), .l 2 (.a (.v 1) (.n 1))⟩ ⟨0, .v 0, .v 2⟩ rfl hl hi ht) ?_))
      trivial
      refine at1 rfl ?_
      trivial
      rw [← rev_cons_nats, show nats tk ++ [V.int x] = nats (tk ++ [x]) by simp [nats]]
      refine .mk t (j2 :: js2) γ2 (tk ++ [x]) a h5 (by rw [List.reverse_append]; exact h6) ha (fun us h => ?_) (by simp only [List.length_cons]; omega) (by rw [List.length_append, List.length_singleton]; exact li1 [_, _] ⟨0, .a (.v 0) (.n 1), .a (.v 1) (.n 1)⟩ ⟨0, .v 0, .v 1⟩ rfl ht)
      obtain ⟨n, hO⟩ := hc us h; have g1 := hO.1; have g2 := hO.2.1; have g3 := hO.2.2; clear hO
      obtain ⟨n', rfl, g4⟩ := g3.inv_red hs h1 hr h2 h3 h4
      exact ⟨n', by exact li1 [_, _, _] ⟨0, .a (.a (.v 0) (.n 1)) (.v 1), .l 2 (.a (.v 2) (.n 1))⟩ ⟨0, .a (.v 0) (.a (.v 1) (.n 1)), .l 2 (.a (.v 2) (.n 1))⟩ rfl g1, g4.pos, g4⟩
    · have hn : s.reds = [] := List.map_eq_nil_iff.1 hn
      have hNa : ∃ v, (row ++ [0])[a]? = some v := get_ex (n := row.length + 1) (by simp) (by exact li1 [_, _] ⟨0, .a (.v 0) (.n 1), .a (.v 1) (.n 1)⟩ ⟨0, .v 0, .v 1⟩ rfl ha)
      obtain ⟨v, hv⟩ := hNa
      have hv' := hv
      trivial
      refine sb_top ?_
      trivial
      refine sb_l (ints_get hv) ?_
      trivial
      have none : (mvV s.moves).lookup v = Option.none → ∀ us, ¬ D g [S] row.reverse us := fun e us h => by
        obtain ⟨n, hO⟩ := hc us h; have g1 := hO.1; have g2 := hO.2.1; have g3 := hO.2.2; clear hO
        obtain ⟨x, t, rfl, g4, _⟩ := g3.inv_shf hs hn hv
        rw [lookup_mv, g4] at e; cases e
      refine automaton_goto_spec hs ?_
      by_cases hx : ∃ x t : Nat, v = x ∧ s.moves.lookup x = some t
      · obtain ⟨x, t, rfl, hx⟩ := hx
        rw [lookup_mv, hx, Option.map_some, Option.getD_some]
        trivial
        refine c_lt (fun h => absurd (Int.natCast_nonneg t) (Int.not_le.2 h)) fun z0 => ?_
        trivial
        have hbig : (nats (j :: js).reverse ++ [V.int t]).length ≤ big := by rw [List.length_append, nats_len, List.length_reverse]; simp only [List.length_cons, List.length_nil, big]; exact li3 [_, _, _] ⟨0, .a (.a (.v 0) (.n 1)) (.n 1), .n 16000000⟩ ⟨1, .v 1, .n 100⟩ ⟨0, .a (.v 2) (.n 1), .l 2 (.a (.v 1) (.n 1))⟩ ⟨0, .v 0, .v 2⟩ rfl hl hi hj
        refine ls_frz rfl (b_addl rfl rfl (frz hbig ?_))
        trivial
        refine at1 rfl ?_
        trivial
        refine p_len rfl ?_
        rw [hlen]
        trivial
        refine c_eq (fun e => ?_) fun e => ?_
        · have e : a = row.length := by omega
          subst e
          rw [List.getElem?_append_right (Nat.le_refl _), Nat.sub_self] at hv
          have hx0 : x = 0 := Int.ofNat.inj (Option.some.inj hv).symm
          subst hx0
          have := A.accept ok b hp hs hx
          subst this
          rw [List.take_length] at hd
          trivial
          have := q1 _ hd
          rw [List.reverse_reverse] at this
          exact keep this
        · have hlt : a < row.length := by omega
          rw [List.getElem?_append_left hlt] at hv
          have hxt : x < g.tc := by
            rcases hw _ (List.mem_of_getElem? hv) with h | ⟨x', h, h'⟩
            · omega
            · cases Int.ofNat.inj h; exact h'
          trivial
          rw [← rev_cons_nats]
          refine .mk t (j :: js) (x :: γ) tk (a + 1) (hp.go hs hx) (by rw [take_next hv, List.reverse_append]; exact .t hxt hd) hlt (fun us h => ?_) (by simp only [List.length_cons]; exact li1 [_, _] ⟨0, .a (.v 0) (.n 1), .a (.v 1) (.n 1)⟩ ⟨0, .v 0, .v 1⟩ rfl hj) (by exact li1 [_, _] ⟨0, .v 0, .a (.v 1) (.n 1)⟩ ⟨0, .v 0, .v 1⟩ rfl ht)
          obtain ⟨n, hO⟩ := hc us h; have g1 := hO.1; have g2 := hO.2.1; have g3 := hO.2.2; clear hO
          obtain ⟨x', t', hO⟩ := g3.inv_shf hs hn hv'; have e1 := hO.1; have g4 := hO.2.1; have g5 := hO.2.2.1; clear hO
          cases Int.ofNat.inj e1
          rw [hx] at g4; cases g4
          obtain ⟨n', rfl, g6⟩ := g5 (by rw [List.length_append, List.length_singleton]; omega)
          exact ⟨n', by exact li1 [_, _, _] ⟨0, .a (.a (.v 0) (.n 1)) (.v 1), .l 2 (.a (.v 2) (.n 1))⟩ ⟨0, .a (.v 0) (.a (.v 1) (.n 1)), .l 2 (.a (.v 2) (.n 1))⟩ rfl g1, g6.pos, g6⟩
      · have hno : (mvV s.moves).lookup v = Option.none := by
          have hv0 : v = -1 ∨ ∃ x : Nat, v = x := by
            rcases List.mem_append.1 (List.mem_of_getElem? hv) with h | h
            · exact (hw v h).imp id fun ⟨x, h, _⟩ => ⟨x, h⟩
            · exact .inr ⟨0, List.mem_singleton.1 h⟩
          rcases hv0 with rfl | ⟨x, rfl⟩
          · exact lookup_mv_neg _
          · rw [lookup_mv]
            cases h : s.moves.lookup x with
            | none => rfl
            | some t => exact absurd ⟨x, t, rfl, h⟩ hx
        rw [hno, Option.getD_none]
        trivial
        refine c_lt (fun z0 => ?_) fun h => absurd (by decide) h
        trivial
        exact keep (q2 (none hno))
  · intro _ _ hI0; induction hI0 with | mk j js γ tk a hp hd ha hc hj ht => ?_
    trivial
    exact keep (q2 fun us h => by obtain ⟨n, g1, g2, _⟩ := hc us h; omega)
end
structure UL (H0 H : Hp) (us : List Nat) (cs : List (List Nat)) : Prop where
  len : us.length = cs.length
  nd : us.Nodup
  at_ : ∀ (x u : Nat) (c : List Nat), us[x]? = some u → cs[x]? = some c → H u = some (.list (nats c)) ∧ H0 u = Option.none
section
variable {H0 H : Hp} {us : List Nat} {cs : List (List Nat)}
theorem UL.out (h : UL H0 H us cs) {r : Nat} {o} (hr : r ∉ us) : UL H0 (H.set r o) us cs :=
  ⟨h.len, h.nd, fun x u c a b => ⟨Hp.set_ne' (fun e => hr (e ▸ List.mem_of_getElem? a)) (h.at_ x u c a b).1, (h.at_ x u c a b).2⟩⟩
theorem UL.put (h : UL H0 H us cs) {x u : Nat} {c : List Nat} (hu : us[x]? = some u) : UL H0 (H.set u (.list (nats c))) us (cs.set x c) := by
  refine ⟨by rw [List.length_set]; exact h.len, h.nd, fun y v d a b => ?_⟩
  by_cases e : y = x
  · subst e
    rw [hu] at a; cases a
    rw [List.getElem?_set_self (h.len ▸ (List.getElem?_eq_some_iff.1 hu).1)] at b
    cases b
    obtain ⟨c', hc⟩ := get_ex h.len.symm (List.getElem?_eq_some_iff.1 hu).1
    exact ⟨Hp.set_same _ _ _, (h.at_ _ _ _ hu hc).2⟩
  · rw [List.getElem?_set_ne (Ne.symm e)] at b
    refine ⟨Hp.set_ne' (fun e2 => e ?_) (h.at_ y v d a b).1, (h.at_ y v d a b).2⟩
    exact (List.getElem?_inj (List.getElem?_eq_some_iff.1 a).1 h.nd).1 (by rw [a, hu, e2])
theorem UL.mem (h : UL H0 H us cs) {u : Nat} (hu : u ∈ us) : ∃ c, H u = some (.list (nats c)) ∧ H0 u = Option.none := by
  obtain ⟨x, hx⟩ := List.getElem?_of_mem hu
  obtain ⟨c, hc⟩ := get_ex h.len.symm (List.getElem?_eq_some_iff.1 hx).1
  exact ⟨c, h.at_ x u c hx hc⟩
theorem UL.fresh (h : UL H0 H us cs) {r : Nat} (hr : H r = Option.none) : r ∉ us := fun e => by
  obtain ⟨_, h1, _⟩ := h.mem e
  rw [hr] at h1; cases h1
theorem UL.inst (h : UL H0 H us cs) {r : Nat} {c as} (hr : H r = some (.inst c as)) : r ∉ us := fun e => by
  obtain ⟨_, h1, _⟩ := h.mem e
  rw [hr] at h1; cases h1
theorem UL.snoc (h : UL H0 H us cs) {r : Nat} (hr : H r = Option.none) (h0 : H0 r = Option.none) : UL H0 (H.set r (.list [])) (us ++ [r]) (cs ++ [[]]) := by
  have hn := h.fresh hr
  have ho := h.out (o := .list []) hn
  refine ⟨by simp [h.len], ?_, fun x u c a b => ?_⟩
  · rw [List.nodup_append]
    exact ⟨h.nd, by simp, fun a ha b hb e => hn (by rw [← List.mem_singleton.1 hb, ← e]; exact ha)⟩
  · by_cases hx : x < us.length
    · rw [List.getElem?_append_left hx] at a
      rw [List.getElem?_append_left (h.len ▸ hx)] at b
      exact ho.at_ x u c a b
    · rw [List.getElem?_append_right (by exact (Nat.le_of_not_lt hx))] at a
      rw [List.getElem?_append_right (by rw [← h.len]; exact (Nat.le_of_not_lt hx))] at b
      rw [List.mem_singleton.1 (List.mem_of_getElem? a), List.mem_singleton.1 (List.mem_of_getElem? b)]
      exact ⟨Hp.set_same _ _ _, h0⟩
theorem UL.vvs {K : Hp} (h : UL H0 H us cs) (f : Sub K H0) : VVs H K (us.map .ref) (cs.map fun c => .lst (nats c)) :=
  VVs_of (by simp [h.len]) fun i v w a b => by
    rw [List.getElem?_map] at a b
    obtain ⟨u, h1, rfl⟩ := Option.map_eq_some_iff.1 a
    obtain ⟨c, h2, rfl⟩ := Option.map_eq_some_iff.1 b
    obtain ⟨h3, h4⟩ := h.at_ i u c h1 h2
    exact .fl h3 (f.no h4)
end
noncomputable abbrev grA (names : List String) (tc : Nat) (rv dv : V) (st : Nat) (us : List Nat) (os ow : Nat) : List (String × V) :=
  [("names", .lst (txV names)), ("terminal_count", .int tc), ("rules", rv), ("levels", dv), ("expect", .none), ("start", .int st), ("by_left", .lst (us.map .ref)), ("offsets", .ref os), ("owners", .ref ow)]
structure GI (names : List String) (tc : Nat) (rs : List (Nat × List Nat)) (H H' : Hp) (a r : Nat) (dv : V) (st : Nat) (us : List Nat) (os ow i : Nat) : Prop where
  ha : H' a = some (.inst .Grammar (grA names tc (.ref r) dv st us os ow))
  hr : H r = some (.list (rulesV tc rs))
  sub : Sub H H'
  ul : UL H H' us ((List.range names.length).map (byLeft (rs.take i)))
  hos : H' os = some (.list (nats ((List.range i).map (offs rs))))
  how : H' ow = some (.list (nats ((its (rs.take i)).map (·.1))))
  no : os ∉ us ∧ ow ∉ us ∧ os ≠ ow ∧ H os = Option.none ∧ H ow = Option.none
inductive IGi (names : List String) (tc : Nat) (rs : List (Nat × List Nat)) (H : Hp) (a r : Nat) (dv : V) (st : Nat) (us : List Nat) (os ow i : Nat) : Loc → Hp → Prop
  | mk {H' a7} (h : GI names tc rs H H' a r dv st us os ow i) : IGi names tc rs H a r dv st us os ow i [some (.ref a), some (.lst (txV names)), some (.int tc), some (.ref r), some dv, some .none, some (.int st), a7, none, none, none] H'
inductive IGu (H : Hp) (a : Nat) (as : List (String × V)) (i : Nat) : List V → Hp → Prop
  | mk {H'} (us : List Nat) (cs : List (List Nat)) (h : UL H H' us cs) (ha : H' a = some (.inst .Grammar as)) (hs : Sub H H') (hc : cs = List.replicate i []) : IGu H a as i (us.map .ref) H'
theorem offs_at {rs : List (Nat × List Nat)} {i : Nat} : (its (rs.take i)).length = offs rs i := rfl
theorem its_next {rs : List (Nat × List Nat)} {i : Nat} {r} (h : rs[i]? = some r) : (its (rs.take (i + 1))).map (·.1) = (its (rs.take i)).map (·.1) ++ List.replicate (r.2.length + 1) i := by
  have hi := (List.getElem?_eq_some_iff.1 h).1
  have hl : (rs.take i).length = i := by rw [List.length_take]; exact Nat.min_eq_left (li1 [_, _] ⟨0, .v 0, .v 1⟩ ⟨0, .a (.v 0) (.n 1), .v 1⟩ rfl hi)
  rw [take_next h, its_snoc, List.map_append, List.map_map, hl]
  congr 1
  exact (List.map_const' ..).trans (by simp)
theorem by_next {rs : List (Nat × List Nat)} {i l n : Nat} {w} (h : rs[i]? = some (l, w)) (hl : l < n) : ((List.range n).map (byLeft (rs.take i))).set l (byLeft (rs.take i) l ++ [i]) = (List.range n).map (byLeft (rs.take (i + 1))) := by
  have hi := (List.getElem?_eq_some_iff.1 h).1
  have hlen : (rs.take i).length = i := by rw [List.length_take]; exact Nat.min_eq_left (li1 [_, _] ⟨0, .v 0, .v 1⟩ ⟨0, .a (.v 0) (.n 1), .v 1⟩ rfl hi)
  refine List.ext_getElem? fun x => ?_
  rw [take_next h]
  by_cases e : x = l
  · subst e
    rw [List.getElem?_set_self (by simpa using hl), List.getElem?_map, List.getElem?_range hl, Option.map_some, byLeft_snoc, if_pos rfl, hlen]
  · rw [List.getElem?_set_ne (Ne.symm e), List.getElem?_map, List.getElem?_map]
    by_cases hx : x < n
    · rw [List.getElem?_range hx, Option.map_some, Option.map_some, byLeft_snoc, if_neg (Ne.symm e), List.append_nil]
    · rw [List.getElem?_eq_none (by simpa using hx)]; rfl
theorem its_len (rs : List (Nat × List Nat)) : (its rs).length = (rs.map fun r => r.2.length + 1).sum := by
  induction rs using snoc_ind with
  | h0 => rfl
  | hs rs r ih => rw [its_snoc, List.length_append, ih]; simp
theorem byLeft_len (rs : List (Nat × List Nat)) (x) : (byLeft rs x).length ≤ rs.length := by
  rw [byLeft, List.length_map]
  exact Nat.le_trans (List.length_filter_le ..) (by simp)
section
variable {H : Hp} {Q : VK} {k : Nat} {names : List String} {tc a r st : Nat} {rs : List (Nat × List Nat)} {dv : V}
theorem mt_ext {C : CallW} {xs : Xs} {m : Loc} {r : Nat} {vs} (h : H r = some (.list vs)) (q : wEs C xs m H (mbK (.ref r) "extend" Q)) : mtK C "extend" xs m Q (.ref r) H := .inr ⟨.lst (by decide) (l_ref h), q⟩
theorem mb_ext {r : Nat} {vs ws} (h : H r = some (.list vs)) (l : vs.length + ws.length ≤ big) (q : Q .none (H.set r (.list (vs ++ ws)))) : mbK (.ref r) "extend" Q [.lst ws] H := MethW.extend h l q
theorem Grammar_init_spec (hnl : names.length ≤ 1000) (hrl : rs.length ≤ 1000) (hil : (its rs).length ≤ 1000) (hr : H r = some (.list (rulesV tc rs))) (hal : ∀ (i l : Nat) (w), rs[i]? = some (l, w) → l < names.length) (ha0 : H a = Option.none)
    (q : ∀ H' us os ow, GI names tc rs H H' a r dv st us os ow rs.length → Q .none (H'.set a (.inst .Grammar (grA names tc (.ref r) dv st us os ow ++ [("item_count", .int (its rs).length)])))) :
    wF prog (k + 1) .Grammar_init [.ref a, .lst (txV names), .int tc, .ref r, dv, .none, .int st] (H.set a (.inst .Grammar [])) Q := by
  refine wF_mk (m := [some (.ref a), some (.lst (txV names)), some (.int tc), some (.ref r), some dv, some .none, some (.int st), none, none, none, none]) rfl rfl ?_
  unfold ir_Grammar_init
  iterate 6 (trivial; refine sa_new (by decide) rfl ?_)
  trivial
  refine a_ref (Hp.set_same _ _ _) (by decide) rfl ?_
  refine co_l (IGu H a _) (.mk [] [] ⟨rfl, .nil, nofun⟩ (Hp.set_same _ _ _) (.new ha0 _) rfl) ?_ (by simp [big]; exact li1 [_] ⟨0, .v 0, .n 16000000⟩ ⟨0, .v 0, .n 1000⟩ rfl hnl) ?_
  · rintro i v _ H2 hv ⟨us, cs, h, ha, hs, rfl⟩
    trivial
    refine ls_new rfl fun u hu => ?_
    trivial
    delta caK; rw [show us.map V.ref ++ [V.ref u] = (us ++ [u]).map V.ref by simp]
    exact .mk (us ++ [u]) _ (h.snoc hu (hs.no hu)) (Hp.set_ne' (Hp.ne_of hu ha) ha) (hs.set (hs.no hu) _) (List.replicate_succ' ..).symm
  · rintro _ H2 ⟨us, cs, h, ha, hs, rfl⟩
    rw [show (txV names).length = names.length by simp] at h
    trivial
    refine sa2 ha (by decide) rfl ?_
    trivial
    refine ls_new rfl fun os hos => ?_
    have hao := Hp.ne_of hos (Hp.set_same _ a _)
    rw [Hp.set_ne _ _ hao.symm] at hos
    have hos0 := hs.no hos
    have ho' := h.fresh hos
    have hai := h.inst ha
    have h := h.out (o := .list []) ho'
    have hs := hs.set hos0 (.list [])
    trivial
    refine sa2 (Hp.set_ne' hao (Hp.set_same _ _ _)) (by decide) rfl ?_
    rw [Hp.set_swap]
    trivial
    refine ls_new rfl fun ow how => ?_
    have haw := Hp.ne_of how (Hp.set_same _ a _)
    rw [Hp.set_ne _ _ haw.symm] at how
    have how0 := hs.no how
    have hw' := h.fresh how
    have how_ := Hp.ne_of how (Hp.set_same H2 os _)
    have h := h.out (o := .list []) hw'
    have hs := hs.set how0 (.list [])
    trivial
    refine sa2 (Hp.set_ne' haw (Hp.set_same _ _ _)) (by decide) rfl ?_
    rw [Hp.set_swap]
    have h := h.out (o := .inst .Grammar (grA names tc (.ref r) dv st us os ow)) hai
    have hs := hs.set ha0 (.inst .Grammar (grA names tc (.ref r) dv st us os ow))
    trivial
    refine a_ref (Hp.set_same _ _ _) (by decide) rfl ?_
    have e0 : (List.range names.length).map (byLeft (rs.take 0)) = List.replicate names.length [] := by
      rw [List.take_zero]
      exact (List.map_const' ..).trans (by simp)
    refine for_of (IGi names tc rs H a r dv st us os ow) (s_ref (hs _ _ hr)) (.mk ⟨Hp.set_same _ _ _, hr, hs, by rw [e0]; exact h, Hp.set_ne' hao.symm (Hp.set_ne' how_ (Hp.set_same _ _ _)), Hp.set_ne' haw.symm (Hp.set_same _ _ _), ho', hw', how_, hos0, how0⟩) ?_ ?_
    · intro i v _ H3 hv hI0; induction hI0 with | mk g => ?_
      refine ⟨s_ref (g.sub _ _ hr), _, rfl, ?_⟩
      obtain ⟨l, w, hri, rfl⟩ := rulesV_of hv
      obtain ⟨n1, n2, n3, n4, n5⟩ := g.no
      have hl := hal _ _ _ hri
      have hi := (List.getElem?_eq_some_iff.1 hri).1
      obtain ⟨u, hu⟩ := get_ex g.ul.len (x := l) (by simpa using hl)
      have hul := g.ul.at_ l u (byLeft (rs.take i) l) hu (by rw [List.getElem?_map, List.getElem?_range hl]; rfl)
      have hbl := byLeft_len (rs.take i) l
      rw [List.length_take] at hbl
      have hof := (List.getElem?_eq_some_iff.1 (its_get hri (Nat.le_refl _))).1
      trivial
      refine a_ref g.ha (by decide) rfl ?_
      trivial
      refine sb_l (by rw [List.getElem?_map, hu]; rfl) ?_
      refine mt_app hul.1 ?_
      trivial
      refine mb_app hul.1 (by rw [nats_len]; simp only [big]; exact li3 [_, _, _] ⟨0, .a (.v 0) (.n 1), .n 16000000⟩ ⟨0, .v 1, .n 1000⟩ ⟨0, .v 0, .v 2⟩ ⟨0, .v 2, .v 1⟩ rfl hrl hbl (Nat.min_le_right _ _)) ?_
      have hum := List.mem_of_getElem? hu
      have ul := g.ul.put (c := byLeft (rs.take i) l ++ [i]) hu
      rw [by_next hri hl] at ul
      rw [show nats (byLeft (rs.take i) l) ++ [V.int i] = nats (byLeft (rs.take i) l ++ [i]) by simp [nats]]
      have sub := g.sub.set hul.2 (.list (nats (byLeft (rs.take i) l ++ [i])))
      have hau : a ≠ u := fun e => g.ul.inst g.ha (e ▸ hum)
      have hou : os ≠ u := fun e => n1 (e ▸ hum)
      have hwu : ow ≠ u := fun e => n2 (e ▸ hum)
      have ha := Hp.set_ne' (o := .list (nats (byLeft (rs.take i) l ++ [i]))) hau g.ha
      have hos := Hp.set_ne' (o := .list (nats (byLeft (rs.take i) l ++ [i]))) hou g.hos
      have how := Hp.set_ne' (o := .list (nats (byLeft (rs.take i) l ++ [i]))) hwu g.how
      generalize H3.set u (.list (nats (byLeft (rs.take i) l ++ [i]))) = H4 at *
      trivial
      refine a_ref ha (by decide) rfl ?_
      refine mt_app hos ?_
      trivial
      refine a_ref ha (by decide) rfl ?_
      trivial
      refine p_len (s_ref how) ?_
      rw [nats_len, List.length_map, offs_at]
      trivial
      refine mb_app hos (by rw [nats_len, List.length_map, List.length_range]; simp only [big]; exact li2 [_, _] ⟨0, .a (.v 0) (.n 1), .n 16000000⟩ ⟨0, .v 1, .n 1000⟩ ⟨0, .a (.v 0) (.n 1), .v 1⟩ rfl hrl hi) ?_
      have hao : a ≠ os := fun e => by rw [e, hos] at ha; cases ha
      have haw : a ≠ ow := fun e => by rw [e, how] at ha; cases ha
      have ul := ul.out (o := .list (nats ((List.range i).map (offs rs)) ++ [.int (offs rs i)])) n1
      have sub := sub.set n4 (.list (nats ((List.range i).map (offs rs)) ++ [.int (offs rs i)]))
      trivial
      refine a_ref (Hp.set_ne' hao ha) (by decide) rfl ?_
      refine mt_ext (Hp.set_ne' n3.symm how) ?_
      trivial
      refine ls_frz rfl ?_
      trivial
      refine p_len rfl ?_
      rw [nats_len]
      trivial
      rw [show (w.length : Int) + 1 = ((w.length + 1 : Nat) : Int) by omega]
      refine b_rep (frz (by rw [List.length_replicate]; simp only [big]; exact li2 [_, _, _] ⟨0, .a (.v 0) (.n 1), .n 16000000⟩ ⟨0, .v 1, .n 1000⟩ ⟨0, .a (.a (.v 2) (.v 0)) (.n 1), .v 1⟩ rfl hil hof) ?_)
      trivial
      refine mb_ext (Hp.set_ne' n3.symm how) (by rw [List.length_replicate, nats_len, List.length_map, offs_at]; simp only [big]; exact li2 [_, _, _] ⟨0, .a (.v 0) (.a (.v 1) (.n 1)), .n 16000000⟩ ⟨0, .v 2, .n 1000⟩ ⟨0, .a (.a (.v 0) (.v 1)) (.n 1), .v 2⟩ rfl hil hof) ?_
      trivial
      refine .mk ⟨Hp.set_ne' haw (Hp.set_ne' hao ha), hr, sub.set n5 _, ul.out n2, Hp.set_ne' n3 ((Hp.set_same _ _ _).trans ?_), (Hp.set_same _ _ _).trans ?_, g.no⟩
      · rw [List.range_succ]; simp [nats]
      · rw [its_next hri]; simp [nats]
    · intro _ H3 hI0; induction hI0 with | mk g => ?_
      rw [rulesV_len] at g
      refine ⟨s_ref (g.sub _ _ hr), ?_⟩
      trivial
      refine a_ref g.ha (by decide) rfl ?_
      trivial
      refine p_len (s_ref g.how) ?_
      rw [nats_len, List.length_map, List.take_length]
      trivial
      refine sa2 g.ha (by decide) rfl ?_
      trivial
      exact keep (q _ _ _ _ g)
end
noncomputable abbrev Qs := List (String × List String)
noncomputable def own : List String := ["$end", "error", "$undefined"]
noncomputable abbrev qsV (qs : Qs) : List V := qs.map fun p => .tup [.str p.1, .lst (txV p.2)]
structure PG (qs : Qs) (lf nm : List String) : Prop where
  lnd : lf.Nodup
  lm : ∀ x, x ∈ lf ↔ ∃ p ∈ qs, p.1 = x
  nnd : nm.Nodup
  mem : ∀ x, x ∈ nm ↔ x ∈ own ∨ ∃ p ∈ qs, x ∈ p.2 ∧ x ∉ lf
  ow : ∃ t, nm = own ++ t
noncomputable def mkG (qs : Qs) (lf nm : List String) (s : String) : Gr :=
  ⟨nm ++ ["$accept"] ++ lf, nm.length, (nm.length, [(nm ++ ["$accept"] ++ lf).idxOf s, 0]) :: qs.map fun p => ((nm ++ ["$accept"] ++ lf).idxOf p.1, p.2.map (nm ++ ["$accept"] ++ lf).idxOf), (nm ++ ["$accept"] ++ lf).idxOf s⟩
noncomputable abbrev pgL (qs : Qs) (a2 a3 a4 a5 a6 a7 a8 a9 a10 : Option V) : Loc := [some (.lst (qsV qs)), some .none, a2, a3, a4, a5, a6, a7, a8, a9, a10, none, none, none, none, none, none, none, none, none, none, none]
inductive IG1 (qs : Qs) (H : Hp) (a i : Nat) : Loc → Hp → Prop
  | mk {H' a3 a4} (lf : List String) (e : H' a = some (.list (txV lf))) (hs : Sub H H') (nd : lf.Nodup) (hm : ∀ x, x ∈ lf ↔ ∃ p ∈ qs.take i, p.1 = x) (h0 : lf.head? = (qs.take i).head?.map (·.1)) (hl : lf.length ≤ i) :
    IG1 qs H a i (pgL qs (some (.ref a)) a3 a4 none none none none none none) H'
inductive IG2 (qs : Qs) (H : Hp) (a : Nat) (lf : List String) (s : String) (b i : Nat) : Loc → Hp → Prop
  | mk {H' a3 a4 a7} (nm : List String) (e : H' a = some (.list (txV lf))) (e2 : H' b = some (.list (txV nm))) (hs : Sub H H') (nd : nm.Nodup) (hm : ∀ x, x ∈ nm ↔ x ∈ own ∨ ∃ p ∈ qs.take i, x ∈ p.2 ∧ x ∉ lf) (ho : ∃ t, nm = own ++ t) (hl : nm.length ≤ 3 + ((qs.take i).map fun p => p.2.length).sum) :
    IG2 qs H a lf s b i (pgL qs (some (.ref a)) a3 a4 (some (.str s)) (some (.ref b)) a7 none none none) H'
inductive IG3 (qs : Qs) (H : Hp) (a : Nat) (lf : List String) (s : String) (b i : Nat) (p : String × List String) (j : Nat) : Loc → Hp → Prop
  | mk {H' a7} (nm : List String) (e : H' a = some (.list (txV lf))) (e2 : H' b = some (.list (txV nm))) (hs : Sub H H') (nd : nm.Nodup) (hm : ∀ x, x ∈ nm ↔ (x ∈ own ∨ ∃ p ∈ qs.take i, x ∈ p.2 ∧ x ∉ lf) ∨ (x ∈ p.2.take j ∧ x ∉ lf)) (ho : ∃ t, nm = own ++ t) (hl : nm.length ≤ 3 + ((qs.take i).map fun p => p.2.length).sum + j) :
    IG3 qs H a lf s b i p j (pgL qs (some (.ref a)) (some (.str p.1)) (some (.lst (txV p.2))) (some (.str s)) (some (.ref b)) a7 none none none) H'
noncomputable abbrev nsOf (lf nm : List String) : List String := nm ++ ["$accept"] ++ lf
inductive IG4 (qs : Qs) (H : Hp) (a : Nat) (lf nm : List String) (s : String) (c i : Nat) : Loc → Hp → Prop
  | mk {H' a3 a4 a7 a10} (e : H' c = some (.list (rulesV nm.length ((mkG qs lf nm s).rules.take (i + 1))))) (hs : Sub H H') :
    IG4 qs H a lf nm s c i (pgL qs (some (.ref a)) a3 a4 (some (.str s)) (some (.lst (txV (nsOf lf nm)))) a7 (some (.int nm.length)) (some (.ref c)) a10) H'
inductive IGx (H : Hp) (ns w : List String) (j : Nat) : List V → Hp → Prop
  | mk : IGx H ns w j (nats ((w.take j).map ns.idxOf)) H
theorem o_list {a b : List V} (h : some (O.list a) = some (.list b)) : a = b := by cases h; rfl
theorem strs_get {l : List String} {i : Nat} {v : V} (h : (txV l)[i]? = some v) : ∃ x, l[i]? = some x ∧ v = .str x := by
  rw [List.getElem?_map] at h
  obtain ⟨x, h1, rfl⟩ := Option.map_eq_some_iff.1 h
  exact ⟨x, h1, rfl⟩
theorem qs_get {qs : Qs} {i : Nat} {v : V} (h : (qsV qs)[i]? = some v) : ∃ p, qs[i]? = some p ∧ v = .tup [.str p.1, .lst (txV p.2)] := by
  rw [List.getElem?_map] at h
  obtain ⟨x, h1, rfl⟩ := Option.map_eq_some_iff.1 h
  exact ⟨x, h1, rfl⟩
theorem strs_snoc (l : List String) (x : String) : txV l ++ [V.str x] = txV (l ++ [x]) := by simp [txV]
theorem ex_take {α} {qs : List α} {i : Nat} {p : α} {P : α → Prop} (h : qs[i]? = some p) : (∃ q ∈ qs.take (i + 1), P q) ↔ (∃ q ∈ qs.take i, P q) ∨ P p := by
  rw [take_next h]
  constructor
  · rintro ⟨q, hq, r⟩
    rcases List.mem_append.1 hq with hq | hq
    · exact .inl ⟨q, hq, r⟩
    · cases List.mem_singleton.1 hq; exact .inr r
  · rintro (⟨q, hq, r⟩ | r)
    · exact ⟨q, List.mem_append_left _ hq, r⟩
    · exact ⟨p, List.mem_append_right _ (List.mem_singleton_self _), r⟩
theorem sum_take {α} {f : α → Nat} {qs : List α} {i : Nat} {p : α} (h : qs[i]? = some p) : ((qs.take i).map f).sum + f p ≤ (qs.map f).sum := by
  conv => rhs; rw [← List.take_append_drop i qs, drop_cons h]
  rw [List.map_append, List.sum_append, List.map_cons, List.sum_cons]
  exact li0 [_, _, _] ⟨0, .a (.v 0) (.v 1), .a (.v 0) (.a (.v 1) (.v 2))⟩ rfl
theorem head_take {α} {qs : List α} {i : Nat} {p : α} (h : qs[i]? = some p) : (qs.take (i + 1)).head? = ((qs.take i).head?).or (some p) := by
  rw [take_next h, List.head?_append]; rfl
theorem mkG_its (qs : Qs) (lf nm s) : (its (mkG qs lf nm s).rules).length = 3 + (qs.map fun p => p.2.length).sum + qs.length := by
  rw [its_len, mkG]
  simp only [List.map_cons, List.sum_cons, List.map_map, List.length_cons, List.length_nil]
  have : ∀ l : Qs, (l.map ((fun r : Nat × List Nat => r.2.length + 1) ∘ fun p : String × List String => ((nsOf lf nm).idxOf p.1, p.2.map (nsOf lf nm).idxOf))).sum = (l.map fun p => p.2.length).sum + l.length := fun l => by
    induction l with
    | nil => rfl
    | cons p l ih => simp only [List.map_cons, List.sum_cons, ih, Function.comp_apply, List.length_map, List.length_cons]; exact Nat.le_antisymm (li0 [_, _, _] ⟨0, .a (.a (.v 0) (.n 1)) (.a (.v 1) (.v 2)), .a (.a (.v 0) (.v 1)) (.a (.v 2) (.n 1))⟩ rfl) (li0 [_, _, _] ⟨0, .a (.a (.v 0) (.v 1)) (.a (.v 2) (.n 1)), .a (.a (.v 0) (.n 1)) (.a (.v 1) (.v 2))⟩ rfl)
  rw [this]; exact Nat.le_antisymm (li0 [_, _] ⟨0, .a (.n 3) (.a (.v 0) (.v 1)), .a (.a (.n 3) (.v 0)) (.v 1)⟩ rfl) (li0 [_, _] ⟨0, .a (.a (.n 3) (.v 0)) (.v 1), .a (.n 3) (.a (.v 0) (.v 1))⟩ rfl)
section
variable {H : Hp} {Q : VK} {k : Nat} {qs : Qs} {C : CallW} {m : Loc} {t f : HK}
theorem for_l2 {i j} {vs : List V} {sa ss : Ss} {S : SK} (I : Nat → Loc → Hp → Prop) (h0 : I 0 m H)
    (hs : ∀ k u m H, vs[k]? = some u → I k m H → ∃ m', bindT (.two (.one i) (.one j)) u m = some m' ∧ wSs C sa m' H (lp S (I (k + 1)))) (he : ∀ m H, I vs.length m H → wSs C ss m H S) : viK (foK C (.two (.one i) (.one j)) sa ss m S) (.lst vs) H :=
  .inl ⟨vs, rfl, I, h0, fun k u m H e i => ⟨rfl, hs k u m H e i⟩, fun m H i => ⟨rfl, he m H i⟩⟩
theorem mt_idx {xs : Xs} {a : V} {l : List String} (h : lstOf H a = some (txV l)) (q : wEs C xs m H (mbK a "index" Q)) : mtK C "index" xs m Q a H := .inr ⟨.lst (by decide) h, q⟩
theorem mb_idx {l : List String} {s : String} (h : s ∈ l) (hl : l.length ≤ 1000) (q : Q (.int (l.idxOf s : Nat)) H) : mbK (.lst (txV l)) "index" Q [.str s] H := MethW.index rfl h hl q
theorem inS {a : V} {l : List String} {s : String} (h : seqOf H a = some (txV l)) : InV H (.str s) a (s ∈ l) := .memS h
theorem c_isNot0 (q : f H) : cK2 .isNot .none t f .none H := ⟨rfl, (fun h => nomatch h), fun z0 => q⟩
theorem sl_one {x : String} (h : x.length = 1) (q : Q (.str x) H) : s1K2 (.str x) Q (.int 1) H := .inl ⟨x, rfl, h, rfl, q⟩
theorem plain_spec {s0 : String} {q0 : List String} {qr : Qs} (hq : qs = (s0, q0) :: qr) (hl1 : ∀ p ∈ qs, p.1.length = 1 ∧ p.1 ≠ "error" ∧ p.1 ∉ ["", "$", "'"]) (hn : qs.length ≤ 100) (hsum : (qs.map fun p => p.2.length).sum ≤ 100)
    (q : ∀ lf nm, PG qs lf nm → lf.length ≤ qs.length → nm.length ≤ 3 + (qs.map fun p => p.2.length).sum → Q (gV (mkG qs lf nm s0)) H) : wF prog (k + 3) .plain_grammar [.lst (qsV qs)] H Q := by
  refine wF_mk (m := pgL qs none none none none none none none none none) rfl rfl ?_
  unfold ir_plain_grammar
  have hql : (qsV qs).length = qs.length := by simp [qsV]
  trivial
  refine ls_new rfl fun a ha => ?_
  trivial
  refine for_l2 (IG1 qs H a) (.mk [] (Hp.set_same _ _ _) (.new ha _) .nil (by simp) rfl (Nat.le_refl _)) ?_ ?_
  · intro i v _ H2 hv hI0; induction hI0 with | mk lf e hs nd hm h0 hl => ?_
    obtain ⟨p, hp, rfl⟩ := qs_get hv
    have hO := hl1 p (List.mem_of_getElem? hp); have p1 := hO.1; have p2 := hO.2.1; have p3 := hO.2.2; clear hO
    refine ⟨_, rfl, ?_⟩
    have hi := (List.getElem?_eq_some_iff.1 hp).1
    trivial
    refine c_eqs (fun h => absurd h p2) fun z0 => ?_
    trivial
    refine sl_one p1 ?_
    trivial
    refine c_in (inS (l := ["", "$", "'"]) rfl) (fun h => absurd h p3) fun z0 => ?_
    trivial
    refine c_notIn (inS (s_ref e)) (fun hn => ?_) fun hn => ?_
    · trivial
      refine mt_app e ?_
      trivial
      refine mb_app e (by rw [List.length_map]; simp only [big]; omega) ?_
      rw [strs_snoc]
      trivial
      refine .mk (lf ++ [p.1]) (Hp.set_same _ _ _) (hs.set ha _) (List.nodup_append.2 ⟨nd, by simp, fun x hx y hy h => hn (by rw [← List.mem_singleton.1 hy, ← h]; exact hx)⟩) (fun x => ?_) ?_ (by rw [List.length_append]; exact Nat.succ_le_succ hl)
      · rw [ex_take hp, ← hm, List.mem_append, List.mem_singleton, eq_comm (a := x)]
      · rw [head_take hp, List.head?_append, h0]
        cases (qs.take i).head? <;> rfl
    · trivial
      refine .mk lf e hs nd (fun x => ?_) ?_ (Nat.le_succ_of_le hl)
      · rw [ex_take hp, ← hm]
        exact ⟨.inl, fun h => h.elim id fun h => h ▸ hn⟩
      · rw [head_take hp, h0]
        obtain ⟨y, hy⟩ := (hm _).1 hn
        have : (qs.take i) ≠ [] := List.ne_nil_of_mem hy.1
        cases hh : qs.take i with
        | nil => exact absurd hh this
        | cons => rfl
  · intro _ H2 hI0; induction hI0 with | mk lf e hs lnd lm l0 ll => ?_
    rw [hql, List.take_length] at lm l0
    rw [hql] at ll
    have lfe : ∃ r, lf = s0 :: r := by
      rw [hq] at l0
      cases lf with
      | nil => cases l0
      | cons x r => cases l0; exact ⟨r, rfl⟩
    have hs0 : s0 ∈ lf := by obtain ⟨r, rfl⟩ := lfe; exact List.mem_cons_self ..
    trivial
    refine c_isNot0 ?_
    trivial
    refine ls_frz rfl (c_eq0 (l_ref e) rfl (fun h => ?_) fun z0 => ?_)
    · obtain ⟨r, rfl⟩ := lfe; cases h
    trivial
    refine sb_s (n := 0) (v := .str s0) (s_ref e) (by obtain ⟨r, rfl⟩ := lfe; rfl) ?_
    trivial
    refine c_notIn (inS (s_ref e)) (fun h => absurd hs0 h) fun z0 => ?_
    trivial
    refine p_list rfl (new (by decide) fun b hb => ?_)
    have hab := Hp.ne_of hb e
    have hb0 := hs.no hb
    trivial
    refine for_l2 (IG2 qs H a lf s0 b) (.mk own (Hp.set_ne' hab e) (Hp.set_same _ _ _) (hs.set (hs.no hb) _) (by decide) (by simp) ⟨[], rfl⟩ (Nat.le_refl _)) ?_ ?_
    · intro i v _ H3 hv hI0; induction hI0 with | mk nm e e2 hs nd hm ho hl => ?_
      obtain ⟨p, hp, rfl⟩ := qs_get hv
      refine ⟨_, rfl, ?_⟩
      have hbd : ((qs.take i).map fun p => p.2.length).sum + p.2.length ≤ 100 := Nat.le_trans (sum_take (f := fun p => p.2.length) hp) hsum
      trivial
      refine for_l (IG3 qs H a lf s0 b i p) (.mk nm e e2 hs nd (by simpa using hm) ho hl) ?_ ?_
      · intro j v _ H4 hv hI0; induction hI0 with | mk nm e e2 hs nd hm ho hl => ?_
        obtain ⟨x, hx, rfl⟩ := strs_get hv
        have hj := (List.getElem?_eq_some_iff.1 hx).1
        have ht : ∀ y, y ∈ p.2.take (j + 1) ↔ y ∈ p.2.take j ∨ y = x := fun y => by rw [take_next hx, List.mem_append, List.mem_singleton]
        trivial
        refine c_notIn (inS (s_ref e)) (fun hn => ?_) fun hn => ?_
        · trivial
          refine c_notIn (inS (s_ref e2)) (fun hn2 => ?_) fun hn2 => ?_
          · trivial
            refine mt_app e2 ?_
            trivial
            refine mb_app e2 (by rw [List.length_map]; simp only [big]; exact li3 [_, _, _, _] ⟨0, .a (.v 0) (.n 1), .n 16000000⟩ ⟨0, .a (.v 1) (.v 2), .n 100⟩ ⟨0, .v 0, .a (.a (.n 3) (.v 1)) (.v 3)⟩ ⟨0, .a (.v 3) (.n 1), .v 2⟩ rfl hbd hl hj) ?_
            rw [strs_snoc]
            trivial
            have hab : a ≠ b := fun h => by
              subst h; rw [e] at e2
              have h1 : lf = nm := by
                have := o_list e2
                exact List.map_inj_right (fun z0 z0 h => (by cases h; rfl)) |>.1 this
              subst h1
              obtain ⟨t, rfl⟩ := ho
              have := (lm "error").1 (by simp [own])
              obtain ⟨p, hO⟩ := this; have h2 := hO.1; have h3 := hO.2; clear hO
              exact (hl1 p h2).2.1 h3
            refine .mk (nm ++ [x]) (Hp.set_ne' hab e) (Hp.set_same _ _ _) (hs.set hb0 _) (List.nodup_append.2 ⟨nd, by simp, fun y hy z hz h => hn2 (by rw [← List.mem_singleton.1 hz, ← h]; exact hy)⟩) (fun y => ?_) (let ⟨t, h⟩ := ho; ⟨t ++ [x], by rw [h, List.append_assoc]⟩) (by rw [List.length_append]; exact Nat.succ_le_succ hl)
            rw [ht, List.mem_append, List.mem_singleton, hm]
            constructor
            · rintro ((h | ⟨h, h'⟩) | rfl)
              · exact .inl h
              · exact .inr ⟨.inl h, h'⟩
              · exact .inr ⟨.inr rfl, hn⟩
            · rintro (h | ⟨h | rfl, h'⟩)
              · exact .inl (.inl h)
              · exact .inl (.inr ⟨h, h'⟩)
              · exact .inr rfl
          · trivial
            refine .mk nm e e2 hs nd (fun y => ?_) ho (Nat.le_succ_of_le hl)
            rw [ht]
            constructor
            · exact fun h => ((hm y).1 h).imp id fun h => ⟨.inl h.1, h.2⟩
            · rintro (h | ⟨h | rfl, h'⟩)
              · exact (hm y).2 (.inl h)
              · exact (hm y).2 (.inr ⟨h, h'⟩)
              · exact hn2
        · trivial
          refine .mk nm e e2 hs nd (fun y => ?_) ho (Nat.le_succ_of_le hl)
          rw [ht, hm]
          constructor
          · exact fun h => h.imp id fun h => ⟨.inl h.1, h.2⟩
          · rintro (h | ⟨h | rfl, h'⟩)
            · exact .inl h
            · exact .inr ⟨h, h'⟩
            · exact absurd hn h'
      · intro _ H4 hI0; induction hI0 with | mk nm e e2 hs nd hm ho hl => ?_
        rw [List.length_map, List.take_length] at hm
        rw [List.length_map] at hl
        trivial
        refine .mk nm e e2 hs nd (fun x => ?_) ho (by rw [take_next hp, List.map_append, List.sum_append]; simp only [List.map_cons, List.map_nil, List.sum_cons, List.sum_nil]; exact li1 [_, _, _] ⟨0, .v 0, .a (.n 3) (.a (.v 1) (.v 2))⟩ ⟨0, .v 0, .a (.a (.n 3) (.v 1)) (.v 2)⟩ rfl hl)
        rw [hm, ex_take hp, or_assoc]
    · intro _ H3 hI0; induction hI0 with | mk nm e e2 hs nd hm ho hl => ?_
      rw [hql, List.take_length] at hm hl
      have pg : PG qs lf nm := ⟨lnd, lm, nd, hm, ho⟩
      have hns : (txV (nsOf lf nm)).length ≤ 1000 := by simp only [List.length_map, List.length_append, List.length_cons, List.length_nil]; exact li4 [_, _, _, _] ⟨0, .a (.a (.v 0) (.n 1)) (.v 1), .n 1000⟩ ⟨0, .v 2, .n 100⟩ ⟨0, .v 3, .n 100⟩ ⟨0, .v 1, .v 2⟩ ⟨0, .v 0, .a (.n 3) (.v 3)⟩ rfl hn hsum ll hl
      have hns' : (nsOf lf nm).length ≤ 1000 := by rwa [List.length_map] at hns
      have hin0 : s0 ∈ nsOf lf nm := List.mem_append_right _ hs0
      have ht0 : nm.length ≤ (nsOf lf nm).idxOf s0 := by
        rw [nsOf, List.append_assoc, List.idxOf_append, if_neg]
        · exact Nat.le_add_left _ _
        · rw [hm]
          rintro (h | ⟨_, _, _, h⟩)
          · obtain ⟨p, hO⟩ := (lm s0).1 hs0; have h1 := hO.1; have h2 := hO.2; clear hO
            have hO := hl1 p h1; have h3 := hO.1; have h4 := hO.2.1; clear hO
            rw [h2] at h3 h4
            simp only [own, List.mem_cons, List.not_mem_nil, or_false] at h
            rcases h with h | h | h
            · rw [h] at h3; exact absurd h3 (by decide)
            · exact h4 h
            · rw [h] at h3; exact absurd h3 (by decide)
          · exact h hs0
      have hpos : 0 < nm.length := by obtain ⟨t, rfl⟩ := ho; simp [own]
      have hlt0 : lastT nm.length [(nsOf lf nm).idxOf s0, 0] = 0 := by
        show lastT nm.length ([(nsOf lf nm).idxOf s0] ++ [0]) = 0
        rw [lastT_snoc, if_pos hpos]; rfl
      trivial
      refine p_len (s_ref e2) ?_
      rw [List.length_map]
      trivial
      refine ls_frz rfl (b_addl (l_ref e2) rfl (frz (by simp only [List.length_map, List.length_append, List.length_cons, List.length_nil, big]; exact li2 [_, _] ⟨0, .a (.v 0) (.n 1), .n 16000000⟩ ⟨0, .v 1, .n 100⟩ ⟨0, .v 0, .a (.n 3) (.v 1)⟩ rfl hsum hl) ?_))
      trivial
      refine b_addl rfl (l_ref e) (frz (by simp only [List.length_map, List.length_append, List.length_cons, List.length_nil, big]; exact li4 [_, _, _, _] ⟨0, .a (.a (.v 0) (.n 1)) (.v 1), .n 16000000⟩ ⟨0, .v 2, .n 100⟩ ⟨0, .v 3, .n 100⟩ ⟨0, .v 1, .v 2⟩ ⟨0, .v 0, .a (.n 3) (.v 3)⟩ rfl hn hsum ll hl) ?_)
      rw [show txV nm ++ [V.str "$accept"] ++ txV lf = txV (nsOf lf nm) by simp [txV]]
      trivial
      refine mt_idx rfl ?_
      trivial
      refine mb_idx hin0 hns' ?_
      trivial
      intro r hr
      refine Rule_init_spec (nq_obj hr (Hp.set_same _ _ _) (.new hr _) ?_)
      have hr0 : V.obj .Rule [("number", .int 0), ("left", .int nm.length), ("right", .tup [.int ((nsOf lf nm).idxOf s0 : Nat), .int 0]), ("level_of", .int 0), ("action", .none), ("line", .int 0), ("before", .int 0)] = ruleV nm.length 0 (nm.length, [(nsOf lf nm).idxOf s0, 0]) := by
        unfold ruleV; rw [hlt0]; rfl
      rw [hr0]
      trivial
      refine ls_new rfl fun c hc => ?_
      have hc0 := hs.no hc
      trivial
      refine for_l2 (IG4 qs H a lf nm s0 c) (.mk (Hp.set_same _ _ _) (hs.set hc0 _)) ?_ ?_
      · rintro i v _ H4 hv ⟨e, hs⟩
        obtain ⟨p, hp, rfl⟩ := qs_get hv
        have hpm := List.mem_of_getElem? hp
        have hi := (List.getElem?_eq_some_iff.1 hp).1
        have hin : ∀ x ∈ p.2, x ∈ nsOf lf nm := fun x hx => by
          by_cases h : x ∈ lf
          · exact List.mem_append_right _ h
          · exact List.mem_append_left _ (List.mem_append_left _ ((hm x).2 (.inr ⟨p, hpm, hx, h⟩)))
        have hpl : p.2.length ≤ 100 := Nat.le_trans (Nat.le_add_left _ _) (Nat.le_trans (sum_take (f := fun p => p.2.length) hp) hsum)
        have hrl : (rulesV nm.length ((mkG qs lf nm s0).rules.take (i + 1))).length = i + 1 := by
          rw [rulesV_len, List.length_take]
          simp only [mkG, List.length_cons, List.length_map]; exact Nat.min_eq_left (li1 [_, _] ⟨0, .a (.v 0) (.n 1), .a (.v 1) (.n 1)⟩ ⟨0, .a (.v 0) (.n 1), .v 1⟩ rfl hi)
        refine ⟨_, rfl, ?_⟩
        trivial
        refine co_l (IGx H4 (nsOf lf nm) p.2) .mk ?_ (by rw [List.length_map]; simp only [big]; exact li1 [_] ⟨0, .v 0, .n 16000000⟩ ⟨0, .v 0, .n 100⟩ rfl hpl) ?_
        · rintro j v _ _ hv ⟨⟩
          obtain ⟨x, hx, rfl⟩ := strs_get hv
          trivial
          refine mt_idx rfl ?_
          trivial
          refine mb_idx (hin x (List.mem_of_getElem? hx)) hns' ?_
          trivial
          have := IGx.mk (H := H4) (ns := nsOf lf nm) (w := p.2) (j := j + 1)
          rw [take_next hx, List.map_append, nats, List.map_append] at this
          exact this
        · rintro _ _ ⟨⟩
          rw [List.length_map, List.take_length]
          trivial
          refine p_tuple rfl ?_
          trivial
          refine mt_app e ?_
          trivial
          refine p_len (s_ref e) ?_
          rw [hrl]
          trivial
          refine mt_idx rfl ?_
          trivial
          refine mb_idx (List.mem_append_right _ ((lm p.1).2 ⟨p, hpm, rfl⟩)) hns' ?_
          trivial
          refine last_terminal_spec ?_
          trivial
          intro r hr
          refine Rule_init_spec (nq_obj hr (Hp.set_same _ _ _) (.new hr _) ?_)
          refine mb_app e (by rw [hrl]; simp only [big]; exact li2 [_, _] ⟨0, .a (.a (.v 0) (.n 1)) (.n 1), .n 16000000⟩ ⟨0, .v 1, .n 100⟩ ⟨0, .a (.v 0) (.n 1), .v 1⟩ rfl hn hi) ?_
          trivial
          refine .mk ((Hp.set_same _ _ _).trans ?_) (hs.set hc0 _)
          have hg : (mkG qs lf nm s0).rules[i + 1]? = some ((nsOf lf nm).idxOf p.1, p.2.map (nsOf lf nm).idxOf) := by
            simp only [mkG, List.getElem?_cons_succ, List.getElem?_map, hp, Option.map_some]
          have hl : ((mkG qs lf nm s0).rules.take (i + 1)).length = i + 1 := by rw [rulesV_len] at hrl; exact hrl
          rw [take_next hg, rulesV_snoc, hl]
          rfl
      · rintro _ H4 ⟨e, hs⟩
        have hrs : (mkG qs lf nm s0).rules.length = qs.length + 1 := by simp [mkG]
        rw [hql, ← hrs, List.take_length] at e
        trivial
        refine dc_i fun d hd => ?_
        have hd0 := hs.no hd
        have hcd := Hp.ne_of hd e
        trivial
        refine mt_idx rfl ?_
        trivial
        refine mb_idx hin0 hns' ?_
        trivial
        intro a' ha'
        have ha0 : H a' = none := (hs.set hd0 _).no ha'
        refine Grammar_init_spec (rs := (mkG qs lf nm s0).rules) hns' (by exact li2 [_, _] ⟨0, .v 0, .n 1000⟩ ⟨0, .v 1, .n 100⟩ ⟨0, .v 0, .a (.v 1) (.n 1)⟩ rfl hn (Nat.le_of_eq hrs)) ?_ (Hp.set_ne' hcd e) ?_ ha' fun H' us os ow gi => ?_
        · have := mkG_its qs lf nm s0
          exact li3 [_, _, _] ⟨0, .v 0, .n 1000⟩ ⟨0, .v 1, .n 100⟩ ⟨0, .v 2, .n 100⟩ ⟨0, .v 0, .a (.a (.n 3) (.v 2)) (.v 1)⟩ rfl hn hsum (Nat.le_of_eq this)
        · intro i l w h
          simp only [mkG] at h
          cases i with
          | zero =>
            cases h
            simp only [List.length_append, List.length_cons, List.length_nil]; exact li0 [_, _] ⟨0, .a (.v 0) (.n 1), .a (.a (.v 0) (.n 1)) (.v 1)⟩ rfl
          | succ i =>
            rw [List.getElem?_cons_succ, List.getElem?_map] at h
            obtain ⟨p, hO⟩ := Option.map_eq_some_iff.1 h; have h1 := hO.1; have h2 := hO.2; clear hO
            cases h2
            exact List.idxOf_lt_length_iff.2 (List.mem_append_right _ ((lm p.1).2 ⟨p, List.mem_of_getElem? h1, rfl⟩))
        · have hO := gi.no; have n1 := hO.1; have n2 := hO.2.1; have n3 := hO.2.2.1; have n4 := hO.2.2.2.1; have n5 := hO.2.2.2.2; clear hO
          have sub := (hs.set hd0 (.dcI [])).trans gi.sub
          have hda' := Hp.ne_of ha' (Hp.set_same H4 d (.dcI []))
          have hca' := Hp.ne_of ha' (Hp.set_ne' hcd e)
          have hoa : os ≠ a' := fun h => by have := gi.hos; rw [h, gi.ha] at this; cases this
          have hwa : ow ≠ a' := fun h => by have := gi.how; rw [h, gi.ha] at this; cases this
          have ul := gi.ul.out (o := .inst .Grammar (grA (nsOf lf nm) nm.length (.ref c) (.ref d) ((nsOf lf nm).idxOf s0) us os ow ++ [("item_count", .int (its (mkG qs lf nm s0).rules).length)])) (gi.ul.inst gi.ha)
          rw [List.take_length] at ul
          have vv := ul.vvs (hs.set hd0 _)
          rw [List.map_map] at vv
          have how := gi.how
          rw [List.take_length] at how
          refine ⟨rfl, gV (mkG qs lf nm s0), H, sub.set ha0 _, .obj (Hp.set_same _ _ _) ha0 (.cons .rfl (.cons .rfl (.cons (.lst (Hp.set_ne' hca' (gi.sub _ _ (Hp.set_ne' hcd e))) hc0 (VVs.of_rfl _)) (.cons (.dcI (Hp.set_ne' hda' (gi.sub _ _ (Hp.set_same _ _ _))) hd0 .nil) (.cons .rfl (.cons .rfl (.cons (.inl vv) (.cons (.fl (Hp.set_ne' hoa gi.hos) ((hs.set hd0 _).no n4)) (.cons (.fl (Hp.set_ne' hwa how) ((hs.set hd0 _).no n5)) (.cons .rfl .nil)))))))))), keep (q lf nm pg ll hl)⟩
end
noncomputable abbrev penO (n : Int) (c : Nat) : O := .list [.int n, .int c]
inductive IPe (H : Hp) (script : List Int) (i : Nat) : Loc → Hp → Prop
  | mk {n : Int} {a2} (h : 0 ≤ n) : IPe H script i [some (.lst (inV script)), some (.int n), a2] H
section
variable {H : Hp} {Q : VK} {k : Nat} {C : CallW} {m : Loc} {t f : HK}
set_option tactic.hygienic true in
theorem pen_spec {script : List Int} (hl : script.length ≤ 63) (q : ∀ a n, H a = Option.none → 0 ≤ n → Q (.ref a) (H.set a (penO n 0))) : wF prog (k + 1) .law_pen [.lst (inV script)] H Q := by
  refine wF_mk (m := [some (.lst (inV script)), none, none]) rfl rfl ?_
  unfold ir_law_pen
  have hb : (inV script).length ≤ 63 := by rw [List.length_map]; exact hl
  trivial
  refine .inr ⟨_, _, rfl, rfl, ?_⟩
  rw [show clampTo 63 (inV script).length = (inV script).length by rw [clampTo, if_pos (by decide)]; exact Nat.min_eq_right hb, List.take_length]
  refine frz (by simp only [big]; exact li1 [_] ⟨0, .v 0, .n 16000000⟩ ⟨0, .v 0, .n 63⟩ rfl hb) ?_
  refine for_l (IPe H script) (.mk (by decide)) ?_ ?_
  · intro i v _ _ hv hI0; induction hI0 with | mk h => ?_
    rename_i n _
    rw [List.getElem?_map] at hv
    obtain ⟨x, hx, rfl⟩ := Option.map_eq_some_iff.1 hv
    have fin : ∀ w : Int, 0 ≤ w → wSs (wF prog k) .nil [some (.lst (inV script)), some (.int (n * 1000003 + 2 * (if x < 0 then -x else x) + w)), some (.int x)] H (lp (rt Q) (IPe H script (i + 1))) := fun w hw => by
      refine .mk ?_
      split <;> omega
    trivial
    refine b_mul (.inr (by decide)) ?_
    trivial
    refine PrimW.int ?_
    trivial
    refine PrimW.abs ?_
    refine b_mul (.inl (by decide)) ?_
    trivial
    refine c_lt (fun z0 => ?_) fun z0 => ?_
    · exact fin 1 (by decide)
    · exact fin 0 (by decide)
  · intro _ _ hI0; induction hI0 with | mk h => ?_
    trivial
    exact ls_new rfl fun a ha => keep (q a _ ha h)
theorem draw_spec {a c d : Nat} {n : Int} (ha : H a = some (penO n c)) (hn : 0 ≤ n) (hc : c < 900000) (h0 : 0 < d) (h1 : d < 1000000) (q : ∀ (x c' : Nat) (n' : Int), x < d → 0 ≤ n' → c' ≤ c + 1 → Q (.int x) (H.set a (penO n' c'))) :
    wF prog (k + 1) .law_draw [.ref a, .int d] H Q := by
  refine wF_mk (m := [some (.ref a), some (.int d), none]) rfl rfl ?_
  unfold ir_law_draw
  have fin : ∀ {H' : Hp} {n' : Int} {c' : Nat}, H' a = some (penO n' c') → 0 ≤ n' → c' ≤ c + 1 → (∀ o, H'.set a o = H.set a o) → wSs (wF prog k) (.cons (.asg 2 (.bin .mod (.sub (.loc 0) (.cst (.int 0))) (.loc 1))) (.cons (.setI (.loc 0) (.cst (.int 0)) (.bin .fdiv (.sub (.loc 0) (.cst (.int 0))) (.loc 1))) (.cons (.ret (.loc 2)) .nil))) [some (.ref a), some (.int d), none] H' (rt Q) := by
    intro H' n' c' ha hn hc hs
    have hd : (0 : Int) < d := by exact Int.ofNat_lt.2 (h0)
    trivial
    refine sb_r (n := 0) ha rfl ?_
    trivial
    refine b_mod hd ?_
    trivial
    refine sb_r (n := 0) ha rfl ?_
    trivial
    refine b_div hd (by exact Int.ofNat_lt.2 (h1)) ?_
    trivial
    refine si_list (k := 0) ha (by simp) ?_
    trivial
    obtain ⟨x, hx⟩ := Int.eq_ofNat_of_zero_le (Int.emod_nonneg n' (Int.ne_of_gt hd))
    have hx' := Int.emod_lt_of_pos n' hd
    rw [hs]
    rw [hx] at hx' ⊢
    exact keep (q x c' _ (by exact (Int.ofNat_lt.1 hx')) (Int.ediv_nonneg hn (by exact Int.natCast_nonneg _)) hc)
  trivial
  refine sb_r (n := 0) ha rfl ?_
  trivial
  refine c_lt (fun h => ?_) fun h => ?_
  · trivial
    refine sb_r (n := 1) ha rfl ?_
    trivial
    refine si_list (k := 1) ha (by simp) ?_
    have ha' := Hp.set_same H a (penO n (c + 1))
    trivial
    refine sb_r (n := 0) ha' rfl ?_
    trivial
    refine sb_r (n := 1) ha' rfl ?_
    trivial
    refine b_pow (by exact Int.natCast_nonneg _) (by exact Int.ofNat_lt.2 (li1 [_] ⟨0, .a (.a (.v 0) (.n 1)) (.n 1), .n 1000000⟩ ⟨0, .a (.v 0) (.n 1), .n 900000⟩ rfl hc)) ?_
    refine b_mul (.inl (by decide)) ?_
    trivial
    refine si_list (k := 0) ha' (by simp) ?_
    rw [Hp.set_set]
    trivial
    refine fin (n' := n + 104729 + 7919 * ((c + 1 : Nat) : Int) ^ 5) (c' := c + 1) (Hp.set_same _ _ _) ?_ (Nat.le_refl _) (fun o => Hp.set_set _ _ _ _)
    have : (0 : Int) ≤ ((c + 1 : Nat) : Int) ^ 5 := Int.pow_nonneg (by exact Int.natCast_nonneg _)
    omega
  · trivial
    exact fin ha hn (Nat.le_succ _) (fun z0 => rfl)
theorem Sub.upd {H' : Hp} {a : Nat} {x y : O} (h : Sub (H.set a x) H') : Sub (H.set a y) (H'.set a y) := by
  intro b o e
  by_cases hb : b = a
  · subst hb; rw [Hp.set_same] at e ⊢; exact e
  · rw [Hp.set_ne _ _ hb] at e ⊢
    exact h b o (by rw [Hp.set_ne _ _ hb]; exact e)
end
noncomputable abbrev Ps := List (String × List String)
noncomputable abbrev psV (ps : Ps) : List V := ps.map fun p => .tup [.str p.1, .tup (txV p.2)]
noncomputable abbrev nmOf (t : Nat) : List String := ["S", "T", "U"].take t
noncomputable abbrev abN (t : Nat) : List String := ["a", "b"] ++ nmOf t
noncomputable def Rof (t : Nat) : Nat := if t = 1 then 3 else 2
structure RI (t : Nat) (ps : Ps) (i j : Nat) (x : String) : Prop where
  ok : ∀ p ∈ ps, p.1 ∈ nmOf t ∧ ∀ y ∈ p.2, y ∈ abN t
  le : ∀ p ∈ ps, p.2.length ≤ 3
  cov : ∀ y ∈ (nmOf t).take i, ∃ p ∈ ps, p.1 = y
  cnt : ps.length ≤ i * Rof t + j
  wt : (ps.map fun p => p.2.length + 1).sum ≤ i * (4 * Rof t - 1) + (4 * j - 1)
  head : 0 < i ∨ 0 < j → ∃ q r, ps = ("S", q) :: r
  cur : 0 < j → ∃ p ∈ ps, p.1 = x
noncomputable abbrev ruL (a : Nat) (t : Nat) (b : Bool) (p : Nat) (a4 a5 a6 a7 : Option V) : Loc := [some (.ref a), some (.lst (txV (nmOf t))), some (.bool b), some (.ref p), a4, a5, a6, a7, none, none, none, none, none, none, none]
structure RH (H H' : Hp) (a p : Nat) (ps : Ps) (B : Nat) : Prop where
  hp : H' p = some (.list (psV ps))
  pen : ∃ n c, H' a = some (penO n c) ∧ 0 ≤ n ∧ c ≤ B ∧ Sub (H.set a (penO n c)) H'
inductive IR1 (H : Hp) (a t : Nat) (b : Bool) (p i : Nat) : Loc → Hp → Prop
  | mk {H' a4 a5 a6 a7} (ps : Ps) (h : RH H H' a p ps (2 + 20 * i)) (r : RI t ps i 0 "") : IR1 H a t b p i (ruL a t b p a4 a5 a6 a7) H'
inductive IR2 (H : Hp) (a t : Nat) (b : Bool) (p i : Nat) (x : String) (j : Nat) : Loc → Hp → Prop
  | mk {H' a5 a6 a7} (ps : Ps) (h : RH H H' a p ps (3 + 20 * i + 5 * j)) (r : RI t ps i j x) : IR2 H a t b p i x j (ruL a t b p (some (.str x)) a5 a6 a7) H'
inductive IR3 (H : Hp) (a p : Nat) (ps : Ps) (B : Nat) (sm : List String) (s : Nat) : List V → Hp → Prop
  | mk {H'} (w : List String) (hl : w.length = s) (hm : ∀ y ∈ w, y ∈ sm) (h : RH H H' a p ps (B + s)) : IR3 H a p ps B sm s (txV w) H'
theorem RI.zero (t : Nat) (x) : RI t [] 0 0 x := ⟨nofun, nofun, by simp, Nat.zero_le _, Nat.zero_le _, fun h => by omega, fun h => absurd h (Nat.lt_irrefl _)⟩
theorem RI.other {t ps i x y} (h : RI t ps i 0 x) : RI t ps i 0 y := ⟨h.ok, h.le, h.cov, h.cnt, h.wt, h.head, fun h => absurd h (Nat.lt_irrefl _)⟩
theorem RI.add {t ps i j x w} (h : RI t ps i j x) (hx : (nmOf t)[i]? = some x) (hw : ∀ y ∈ w, y ∈ abN t) (hl : w.length ≤ 3) (hl0 : j = 0 → w.length ≤ 2) : RI t (ps ++ [(x, w)]) i (j + 1) x := by
  refine ⟨fun p hp => ?_, fun p hp => ?_, fun y hy => ?_, ?_, ?_, fun z0 => ?_, fun z0 => ⟨(x, w), by simp, rfl⟩⟩
  · rcases List.mem_append.1 hp with hp | hp
    · exact h.ok p hp
    · rw [List.mem_singleton.1 hp]; exact ⟨List.mem_of_getElem? hx, hw⟩
  · rcases List.mem_append.1 hp with hp | hp
    · exact h.le p hp
    · rw [List.mem_singleton.1 hp]; exact hl
  · obtain ⟨p, hO⟩ := h.cov y hy; have h1 := hO.1; have h2 := hO.2; clear hO
    exact ⟨p, List.mem_append_left _ h1, h2⟩
  · have := h.cnt
    rw [List.length_append, List.length_singleton]; exact li1 [_, _, _] ⟨0, .a (.v 0) (.n 1), .a (.v 1) (.a (.v 2) (.n 1))⟩ ⟨0, .v 0, .a (.v 1) (.v 2)⟩ rfl this
  · have := h.wt
    rw [List.map_append, List.sum_append]
    simp only [List.map_cons, List.map_nil, List.sum_cons, List.sum_nil]
    by_cases hj : j = 0
    · have := hl0 hj; omega
    · exact li4 [_, _, _, _, _, _] ⟨0, .a (.v 0) (.a (.v 1) (.n 1)), .a (.v 2) (.v 3)⟩ ⟨0, .v 1, .n 3⟩ ⟨0, .v 0, .a (.v 2) (.v 4)⟩ ⟨0, .a (.v 4) (.n 1), .l 4 (.v 5)⟩ ⟨0, .l 4 (.a (.v 5) (.n 1)), .a (.v 3) (.n 1)⟩ rfl hl this (sb3 (li1 [_] ⟨0, .n 1, .l 4 (.v 0)⟩ ⟨3, .n 1, .v 0⟩ rfl (Nat.pos_of_ne_zero hj))) (sb1 _ _)
  · by_cases hz : 0 < i ∨ 0 < j
    · obtain ⟨q, r, rfl⟩ := h.head hz
      exact ⟨q, r ++ [(x, w)], rfl⟩
    · have hi : i = 0 := by omega
      have hj : j = 0 := by omega
      subst hi hj
      have h0 := h.cnt
      have : ps = [] := List.eq_nil_of_length_eq_zero (by exact Nat.le_antisymm (li1 [_, _] ⟨0, .v 0, .n 0⟩ ⟨0, .v 0, .l 0 (.v 1)⟩ rfl h0) (li0 [_] ⟨0, .n 0, .v 0⟩ rfl))
      subst this
      have : x = "S" := by
        have := List.mem_of_getElem? hx
        match t, hx with
        | t + 1, hx => exact (Option.some.inj hx).symm
      rw [this]
      exact ⟨w, [], rfl⟩
theorem RI.next {t ps i j x} (h : RI t ps i j x) (hx : (nmOf t)[i]? = some x) (hj : 0 < j) (hR : j ≤ Rof t) : RI t ps (i + 1) 0 "" := by
  refine ⟨h.ok, h.le, fun y hy => ?_, ?_, ?_, fun z0 => h.head (.inr hj), fun h => absurd h (Nat.lt_irrefl _)⟩
  · rw [take_next hx] at hy
    rcases List.mem_append.1 hy with hy | hy
    · exact h.cov y hy
    · rw [List.mem_singleton.1 hy]; exact h.cur hj
  · have := h.cnt
    rw [Nat.succ_mul]; exact Nat.le_trans this (Nat.add_le_add_left hR _)
  · have := h.wt
    rw [Nat.succ_mul]; exact li4 [_, _, _, _, _, _, _] ⟨0, .v 0, .a (.a (.v 1) (.v 2)) (.v 3)⟩ ⟨3, .v 4, .v 5⟩ ⟨0, .v 0, .a (.v 1) (.v 6)⟩ ⟨0, .a (.v 6) (.n 1), .l 4 (.v 4)⟩ ⟨0, .l 4 (.v 5), .a (.v 2) (.n 1)⟩ rfl hR this (sb3 (li1 [_] ⟨0, .n 1, .l 4 (.v 0)⟩ ⟨3, .n 1, .v 0⟩ rfl hj)) (sb1 _ _)
section
variable {H : Hp} {Q : VK} {k : Nat} {C : CallW} {m : Loc}
theorem c_gtb {i j : Int} (h : ∀ b : Bool, Q (.bool b) H) : cK2 .gt (.int i) (qB true Q) (qB false Q) (.int j) H := c_gt (fun z0 => h true) fun z0 => h false
theorem ite_j {x y z : X} (P : V → Prop) (br : ∀ Q' : VK, (∀ v, P v → Q' v H) → wE C (.ite x y z) m H Q') (fin : ∀ v, P v → Q v H) : wE C (.ite x y z) m H Q := br Q fin
theorem p_max {i j : Int} (q : Q (.int (if i < j then j else i)) H) : prK .max Q [.int i, .int j] H := PrimW.max q
theorem RH.more {H' : Hp} {a p ps B B'} (h : RH H H' a p ps B) (hb : B ≤ B') : RH H H' a p ps B' := ⟨h.hp, let ⟨n, c, h1, h2, h3, h4⟩ := h.pen; ⟨n, c, h1, h2, by exact Nat.le_trans h3 hb, h4⟩⟩
theorem RH.draw {H' : Hp} {a p d ps B} (h : RH H H' a p ps B) (hB : B < 1000) (h0 : 0 < d) (h1 : d < 1000000) (q : ∀ (x : Nat) H'', x < d → RH H H'' a p ps (B + 1) → Q (.int x) H'') : wF prog (k + 1) .law_draw [.ref a, .int d] H' Q := by
  obtain ⟨n, c, hO⟩ := h.pen; have h2 := hO.1; have h3 := hO.2.1; have h4 := hO.2.2.1; have h5 := hO.2.2.2; clear hO
  refine draw_spec h2 h3 (by exact li2 [_, _] ⟨0, .a (.v 0) (.n 1), .n 900000⟩ ⟨0, .a (.v 1) (.n 1), .n 1000⟩ ⟨0, .v 0, .v 1⟩ rfl hB h4) h0 h1 fun x c' n' hx hn hc => q x _ hx ⟨Hp.set_ne' (fun e => ?_) h.hp, n', c', Hp.set_same _ _ _, hn, by exact li2 [_, _, _] ⟨0, .v 0, .a (.v 1) (.n 1)⟩ ⟨0, .v 2, .v 1⟩ ⟨0, .v 0, .a (.v 2) (.n 1)⟩ rfl h4 hc, h5.upd⟩
  subst e
  have := h.hp
  rw [h2] at this
  have := o_list this
  cases ps <;> cases this
theorem RH.app {H' : Hp} {a p ps B} (h : RH H H' a p ps B) (h0 : H p = Option.none) (hap : p ≠ a) (x : String) (w : List String) : RH H (H'.set p (.list (psV ps ++ [.tup [.str x, .tup (txV w)]]))) a p (ps ++ [(x, w)]) B := by
  obtain ⟨n, c, hO⟩ := h.pen; have h2 := hO.1; have h3 := hO.2.1; have h4 := hO.2.2.1; have h5 := hO.2.2.2; clear hO
  exact ⟨(Hp.set_same _ _ _).trans (by simp [psV]), n, c, Hp.set_ne' hap.symm h2, h3, h4, h5.set (by rw [Hp.set_ne _ _ hap]; exact h0) _⟩
set_option tactic.hygienic true in
theorem law_rules_spec {a : Nat} {n : Int} (ha : H a = some (penO n 0)) (hn : 0 ≤ n)
    (q : ∀ t ps n' c', 1 ≤ t → t ≤ 3 → RI t ps t 0 "" → 0 ≤ n' → c' ≤ 100 → Q (.lst (psV ps)) (H.set a (penO n' c'))) : wF prog (k + 2) .law_rules [.ref a] H Q := by
  refine wF_mk (m := [some (.ref a), none, none, none, none, none, none, none, none, none, none, none, none, none, none]) rfl rfl ?_
  unfold ir_law_rules
  trivial
  refine ls_frz rfl ?_
  trivial
  refine draw_spec (d := 3) ha hn (by decide) (by decide) (by decide) fun t0 c1 n1 ht hn1 hc1 => ?_
  trivial
  refine .inr ⟨_, _, rfl, rfl, ?_⟩
  rw [show [V.str "S", V.str "T", V.str "U"].take (clampTo (1 + (t0 : Int)) [V.str "S", V.str "T", V.str "U"].length) = txV (nmOf (t0 + 1)) by
    rw [txV, nmOf, List.map_take, clampTo, if_pos (by exact Int.natCast_nonneg _), show (1 + (t0 : Int)).toNat = t0 + 1 by omega]
    congr 1
    exact Nat.min_eq_left (by simp only [List.length_cons, List.length_nil]; exact ht)]
  generalize ht' : t0 + 1 = t
  have htl : (nmOf t).length = t := by rw [nmOf, List.length_take]; simp only [List.length_cons, List.length_nil]; exact Nat.min_eq_left (Nat.le_trans (Nat.le_of_eq ht'.symm) ht)
  refine frz (by rw [List.length_map, htl]; simp only [big]; exact li2 [_, _] ⟨0, .v 0, .n 16000000⟩ ⟨0, .a (.v 1) (.n 1), .n 3⟩ ⟨0, .v 0, .a (.v 1) (.n 1)⟩ rfl ht (Nat.le_of_eq ht'.symm)) ?_
  trivial
  refine draw_spec (d := 4) (Hp.set_same _ _ _) hn1 (by exact li1 [_] ⟨0, .a (.v 0) (.n 1), .n 900000⟩ ⟨0, .v 0, .n 1⟩ rfl hc1) (by decide) (by decide) fun z c2 n2 z0 hn2 hc2 => ?_
  rw [Hp.set_set]
  refine c_gtb fun b => ?_
  trivial
  refine ls_new rfl fun p hp => ?_
  have hap := Hp.ne_of hp (Hp.set_same _ a _)
  rw [Hp.set_ne _ _ hap.symm] at hp
  have hR : (if (2 : Int) < 4 - (txV (nmOf t)).length then 4 - (txV (nmOf t)).length else 2 : Int) = Rof t := by
    rw [List.length_map, htl, Rof]
    have : t = 1 ∨ t = 2 ∨ t = 3 := by omega
    rcases this with h | h | h <;> subst h <;> rfl
  have hR2 : 1 ≤ Rof t ∧ Rof t ≤ 3 := by rw [Rof]; split <;> decide
  trivial
  refine for_l (IR1 H a t b p) (.mk [] ⟨Hp.set_same _ _ _, n2, c2, Hp.set_ne' hap (Hp.set_same _ _ _), hn2, by exact li2 [_, _] ⟨0, .v 0, .n 2⟩ ⟨0, .v 1, .n 1⟩ ⟨0, .v 0, .a (.v 1) (.n 1)⟩ rfl hc1 hc2, (Sub.new (by rw [Hp.set_ne _ _ hap.symm]; exact hp) _)⟩ (.zero t _)) ?_ ?_
  · intro i v _ H2 hv hI0; induction hI0 with | mk ps h r => ?_
    obtain ⟨x, hx, rfl⟩ := strs_get hv
    have hi := (List.getElem?_eq_some_iff.1 hx).1
    rw [htl] at hi
    trivial
    refine p_len rfl ?_
    trivial
    refine p_max ?_
    rw [hR]
    trivial
    refine h.draw (by exact li3 [_, _, _] ⟨0, .a (.a (.n 2) (.l 20 (.v 0))) (.n 1), .n 1000⟩ ⟨19, .a (.v 1) (.n 1), .n 3⟩ ⟨19, .v 2, .a (.v 1) (.n 1)⟩ ⟨19, .a (.v 0) (.n 1), .v 2⟩ rfl ht (Nat.le_of_eq ht'.symm) hi) (by exact hR2.1) (by exact li1 [_] ⟨0, .a (.v 0) (.n 1), .n 1000000⟩ ⟨0, .v 0, .n 3⟩ rfl hR2.2) fun J H3 hJ h => ?_
    trivial
    rw [show (1 : Int) + J = ((1 + J : Nat) : Int) by omega]
    refine for_r (IR2 H a t b p i x) (by simp only [big]; exact li2 [_, _] ⟨0, .a (.n 1) (.v 0), .n 16000000⟩ ⟨0, .v 1, .n 3⟩ ⟨0, .a (.v 0) (.n 1), .v 1⟩ rfl hR2.2 hJ) (.mk ps (h.more (by exact li0 [_] ⟨0, .a (.a (.n 2) (.l 20 (.v 0))) (.n 1), .a (.n 3) (.l 20 (.v 0))⟩ rfl)) r.other) ?_ ?_
    · rintro j _ H4 hj ⟨ps, h, r⟩
      rename_i o5 o6 o7
      dsimp only [q_asg]
      refine ite_j (fun v => ∃ sm, v = .lst (txV sm) ∧ sm ≠ [] ∧ sm.length ≤ 5 ∧ ∀ y ∈ sm, y ∈ abN t) (fun Q' fin => ?_) fun v hv => ?_
      · have ab := fin _ ⟨["a", "b"], rfl, nofun, by decide, fun y hy => List.mem_append_left _ hy⟩
        have all := fin _ ⟨abN t, rfl, by simp [abN], by rw [List.length_append, htl]; simp only [List.length_cons, List.length_nil]; exact li2 [_, _] ⟨0, .a (.n 2) (.v 0), .n 5⟩ ⟨0, .a (.v 1) (.n 1), .n 3⟩ ⟨0, .v 0, .a (.v 1) (.n 1)⟩ rfl ht (Nat.le_of_eq ht'.symm), fun y hy => hy⟩
        have way : eK (wF prog (k + 1)) (.bin .add (.lstD (.cons (.cst (.str "a")) (.cons (.cst (.str "b")) .nil))) (.loc 1)) (ruL a t b p (some (.str x)) (some (.int (j : Int))) o6 o7) Q' H4 := by
          trivial
          refine ls_frz rfl ?_
          trivial
          refine (b_addl rfl rfl (frz (by rw [List.length_append, List.length_map, htl]; simp only [List.length_cons, List.length_nil, big]; exact li2 [_, _] ⟨0, .a (.n 2) (.v 0), .n 16000000⟩ ⟨0, .a (.v 1) (.n 1), .n 3⟩ ⟨0, .v 0, .a (.v 1) (.n 1)⟩ rfl ht (Nat.le_of_eq ht'.symm)) ?_))
          rw [show [V.str "a", V.str "b"] ++ txV (nmOf t) = txV (abN t) by simp [txV, abN]]
          exact all
        trivial
        refine c_eq (fun z0 => ?_) fun z0 => way
        trivial
        refine bq (fun z0 => ?_) fun z0 => way
        trivial
        exact ls_frz rfl ab
      · obtain ⟨sm, rfl, hs1, hs2, hs3⟩ := hv
        have hsl := List.length_pos_iff.2 hs1
        dsimp only [List.set_cons_zero, List.set_cons_succ, q_asg, q_call, q_esc, q_loc, q_l0]
        refine ite_j (fun v => ∃ D : Nat, v = .int D ∧ 0 < D ∧ D ≤ 4 ∧ (j = 0 → D ≤ 3)) (fun Q' fin => ?_) fun v hv => ?_
        · trivial
          refine c_gt (fun h => fin _ ⟨4, rfl, by decide, by decide, fun e => ?_⟩) fun z0 => fin _ ⟨3, rfl, by decide, by decide, fun z0 => by decide⟩
          subst e; exact absurd h (by decide)
        · obtain ⟨D, rfl, hD0, hD1, hD2⟩ := hv
          trivial
          refine h.draw (by omega) hD0 (by exact li1 [_] ⟨0, .a (.v 0) (.n 1), .n 1000000⟩ ⟨0, .v 0, .n 4⟩ rfl hD1) fun z H5 hz h => ?_
          trivial
          refine mt_app h.hp ?_
          trivial
          refine co_r (IR3 H a p ps (4 + 20 * i + 5 * j) sm) (.mk [] rfl nofun (h.more (by exact li0 [_, _] ⟨0, .a (.a (.a (.n 3) (.l 20 (.v 0))) (.l 5 (.v 1))) (.n 1), .a (.a (.n 4) (.l 20 (.v 0))) (.l 5 (.v 1))⟩ rfl))) ?_ (by simp only [big]; exact li2 [_, _] ⟨0, .v 0, .n 16000000⟩ ⟨0, .v 1, .n 4⟩ ⟨0, .a (.v 0) (.n 1), .v 1⟩ rfl hD1 hz) ?_
          · intro s _ H6 hs hI0; induction hI0 with | mk w hw1 hw2 h => ?_
            trivial
            refine p_len rfl ?_
            rw [List.length_map]
            trivial
            refine h.draw (by omega) hsl (by exact li1 [_] ⟨0, .a (.v 0) (.n 1), .n 1000000⟩ ⟨0, .v 0, .n 5⟩ rfl hs2) fun y H7 hy h => ?_
            obtain ⟨u, hu⟩ : ∃ u, sm[y]? = some u := ⟨_, List.getElem?_eq_getElem hy⟩
            refine sb_l (v := .str u) (by rw [List.getElem?_map, hu]; rfl) ?_
            show IR3 _ _ _ _ _ _ _ _ _
            rw [strs_snoc]
            exact .mk (w ++ [u]) (by rw [List.length_append, hw1]; rfl) (fun y hy => (List.mem_append.1 hy).elim (hw2 y) fun h => List.mem_singleton.1 h ▸ List.mem_of_getElem? hu) (h.more (by exact li0 [_, _, _] ⟨0, .a (.a (.a (.a (.n 4) (.l 20 (.v 0))) (.l 5 (.v 1))) (.v 2)) (.n 1), .a (.a (.a (.n 4) (.l 20 (.v 0))) (.l 5 (.v 1))) (.a (.v 2) (.n 1))⟩ rfl))
          · intro _ H6 hI0; induction hI0 with | mk w hw1 hw2 h => ?_
            trivial
            refine p_tuple rfl ?_
            trivial
            have hc := r.cnt
            have hiR : i * Rof t ≤ 3 * 3 := Nat.mul_le_mul (by exact li3 [_, _, _] ⟨0, .v 0, .n 3⟩ ⟨0, .a (.v 1) (.n 1), .n 3⟩ ⟨0, .v 2, .a (.v 1) (.n 1)⟩ ⟨0, .a (.v 0) (.n 1), .v 2⟩ rfl ht (Nat.le_of_eq ht'.symm) hi) hR2.2
            refine mb_app h.hp (by rw [List.length_map]; simp only [big]; omega) ?_
            trivial
            exact .mk _ ((h.app hp hap.symm x w).more (by exact li2 [_, _, _, _] ⟨0, .a (.a (.a (.n 4) (.l 20 (.v 0))) (.l 5 (.v 1))) (.v 2), .a (.a (.n 3) (.l 20 (.v 0))) (.l 5 (.a (.v 1) (.n 1)))⟩ ⟨0, .v 3, .n 4⟩ ⟨0, .a (.v 2) (.n 1), .v 3⟩ rfl hD1 hz)) (r.add hx (fun y hy => hs3 y (hw2 y hy)) (by exact li3 [_, _, _] ⟨0, .v 0, .n 3⟩ ⟨0, .v 1, .n 4⟩ ⟨0, .a (.v 2) (.n 1), .v 1⟩ ⟨0, .v 0, .v 2⟩ rfl hD1 hz (Nat.le_of_eq hw1)) (fun e => by have := hD2 e; exact li3 [_, _, _] ⟨0, .v 0, .n 2⟩ ⟨0, .a (.v 1) (.n 1), .v 2⟩ ⟨0, .v 0, .v 1⟩ ⟨0, .v 2, .n 3⟩ rfl hz (Nat.le_of_eq hw1) this))
    · intro _ H4 hI0; induction hI0 with | mk ps h r => ?_
      trivial
      exact .mk ps (h.more (by exact li2 [_, _, _] ⟨0, .a (.a (.n 3) (.l 20 (.v 0))) (.l 5 (.a (.n 1) (.v 1))), .a (.n 2) (.l 20 (.a (.v 0) (.n 1)))⟩ ⟨4, .v 2, .n 3⟩ ⟨4, .a (.v 1) (.n 1), .v 2⟩ rfl hR2.2 hJ)) (r.next hx (by exact li0 [_] ⟨0, .n 1, .a (.n 1) (.v 0)⟩ rfl) (by exact li1 [_, _] ⟨0, .a (.n 1) (.v 0), .v 1⟩ ⟨0, .a (.v 0) (.n 1), .v 1⟩ rfl hJ))
  · intro _ H2 hI0; induction hI0 with | mk ps h r => ?_
    rw [List.length_map, htl] at h r
    trivial
    obtain ⟨n, c, hO⟩ := h.pen; have h1 := hO.1; have h2 := hO.2.1; have h3 := hO.2.2.1; have h4 := hO.2.2.2; clear hO
    exact drop h4 (.fl h.hp (by rw [Hp.set_ne _ _ hap.symm]; exact hp)) (q t ps n c (by exact li1 [_, _] ⟨0, .n 1, .v 0⟩ ⟨0, .a (.v 1) (.n 1), .v 0⟩ rfl (Nat.le_of_eq ht')) (by exact Nat.le_trans (Nat.le_of_eq ht'.symm) ht) r h2 (by exact li3 [_, _, _] ⟨0, .v 0, .n 100⟩ ⟨19, .a (.v 1) (.n 1), .n 3⟩ ⟨19, .v 2, .a (.v 1) (.n 1)⟩ ⟨0, .v 0, .a (.n 2) (.l 20 (.v 2))⟩ rfl ht (Nat.le_of_eq ht'.symm) h3))
end
noncomputable def mk (i : Nat) : String := "M" ++ toString ((i : Int) + 1)
noncomputable abbrev sg (n : Nat) : List String := ["a", "b"] ++ (List.range n).map mk
theorem mk_fin : ∀ i : Fin 6, "M".length + (toString ((i.val : Int) + 1)).length ≤ 1000 := by decide +kernel
theorem mk_len {i : Nat} (h : i < 6) : "M".length + (toString ((i : Int) + 1)).length ≤ 1000 := mk_fin ⟨i, h⟩
inductive ICs (c : Nat → Prop) (H : Hp) (k : Nat) : List V → Hp → Prop
  | mk (l : List Nat) (h1 : ∀ x ∈ l, x < k ∧ c x) (h2 : ∀ i, i < k → c i → ∃ x r, l = x :: r ∧ x ≤ i) (hl : l.length ≤ k) : ICs c H k (nats l) H
theorem ICs.zero {c H} : ICs c H 0 [] H := .mk [] nofun (fun i h => absurd h (Nat.not_lt_zero _)) (Nat.le_refl _)
theorem ICs.yes {c H k acc} {H' : Hp} (h : ICs c H k acc H') (hc : c k) : ICs c H (k + 1) (acc ++ [.int (k : Int)]) H' := by
  induction h with | mk l h1 h2 hl => ?_
  have := ICs.mk (c := c) (H := H) (k := k + 1) (l ++ [k]) (fun x hx => ?_) (fun i hi hc' => ?_) (by rw [List.length_append]; exact Nat.succ_le_succ hl)
  · rwa [show nats (l ++ [k]) = nats l ++ [.int (k : Int)] by simp [nats]] at this
  · rcases List.mem_append.1 hx with hx | hx
    · obtain ⟨a, b⟩ := h1 x hx; exact ⟨by exact li1 [_, _] ⟨0, .a (.v 0) (.n 1), .a (.v 1) (.n 1)⟩ ⟨0, .a (.v 0) (.n 1), .v 1⟩ rfl a, b⟩
    · rw [List.mem_singleton.1 hx]; exact ⟨by exact li0 [_] ⟨0, .a (.v 0) (.n 1), .a (.v 0) (.n 1)⟩ rfl, hc⟩
  · rcases Nat.lt_succ_iff_lt_or_eq.1 hi with hi | rfl
    · obtain ⟨x, r, rfl, h⟩ := h2 i hi hc'
      exact ⟨x, r ++ [k], rfl, h⟩
    · cases l with
      | nil => exact ⟨i, [], rfl, Nat.le_refl _⟩
      | cons x r => exact ⟨x, r ++ [i], rfl, Nat.le_of_lt (h1 x (List.mem_cons_self ..)).1⟩
theorem ICs.no {c H k acc} {H' : Hp} (h : ICs c H k acc H') (hc : ¬ c k) : ICs c H (k + 1) acc H' := by
  induction h with | mk l h1 h2 hl => ?_
  refine .mk l (fun x hx => ⟨Nat.lt_succ_of_lt (h1 x hx).1, (h1 x hx).2⟩) (fun i hi hc' => ?_) (Nat.le_succ_of_le hl)
  rcases Nat.lt_succ_iff_lt_or_eq.1 hi with hi | rfl
  · exact h2 i hi hc'
  · exact absurd hc' hc
noncomputable def LfAt (ps : Ps) (s : String) (i : Nat) : Prop := ∃ p, ps[i]? = some p ∧ p.1 = s
theorem psV_get {ps : Ps} {i : Nat} {v : V} (h : (psV ps)[i]? = some v) : ∃ p, ps[i]? = some p ∧ v = .tup [.str p.1, .tup (txV p.2)] := by
  rw [List.getElem?_map] at h
  obtain ⟨x, h1, rfl⟩ := Option.map_eq_some_iff.1 h
  exact ⟨x, h1, rfl⟩
theorem psV_at {ps : Ps} {i : Nat} {p} (h : ps[i]? = some p) : (psV ps)[i]? = some (.tup [.str p.1, .tup (txV p.2)]) := by rw [List.getElem?_map, h]; rfl
theorem RI.len {t ps} (r : RI t ps t 0 "") (h1 : t ≤ 3) : ps.length ≤ 6 := by
  have h2 : t = 0 ∨ t = 1 ∨ t = 2 ∨ t = 3 := by omega
  rcases h2 with h | h | h | h <;> subst h <;> exact Nat.le_trans r.cnt (by decide)
theorem RI.ex {ps : Ps} {t : Nat} (r : RI t ps t 0 "") {s : String} (hs : s ∈ abN t) (hn : s ∉ ["a", "b"]) : ∃ i, LfAt ps s i := by
  have hs : s ∈ nmOf t := (List.mem_append.1 hs).resolve_left hn
  have htl : (nmOf t).length ≤ t := by rw [nmOf, List.length_take]; exact Nat.min_le_left ..
  obtain ⟨p, h1, h2⟩ := r.cov s (by rw [List.take_of_length_le htl]; exact hs)
  obtain ⟨i, hi⟩ := List.getElem?_of_mem h1
  exact ⟨i, p, hi, h2⟩
inductive IRw (H : Hp) (a : Nat) (ps : Ps) (t k : Nat) : Loc → Hp → Prop
  | mk {H' a4 a5 a6 a7} (r : Nat) (pl row : List String) (n : Int) (c : Nat) (hr : H' r = some (.list (txV pl))) (ha : H' a = some (penO n c)) (hn : 0 ≤ n) (hc : c ≤ 100 + k) (hs : Sub (H.set a (penO n c)) H') (h0 : H r = Option.none)
      (hp : ∀ y ∈ pl, y ∈ abN t) (hpl : pl.length ≤ 1 + 3 * k) (hrow : ∀ y ∈ row, y ∈ sg ps.length) (hrl : row.length ≤ k) (z : k = 0 → pl = ["S"]) (nz : k ≠ 0 → row ≠ []) :
    IRw H a ps t k [some (.ref a), some (.lst (psV ps)), some (.ref r), some (.lst (txV row)), a4, a5, a6, a7, none, none, none, none, none, none, none, none, none] H'
section
variable {H : Hp} {Q : VK} {k : Nat} {C : CallW} {m : Loc}
theorem ite_jh {x y z : X} (P : V → Hp → Prop) (br : ∀ Q' : VK, (∀ v H, P v H → Q' v H) → wE C (.ite x y z) m H Q') (fin : ∀ v H, P v H → Q v H) : wE C (.ite x y z) m H Q := br Q fin
theorem b_mark {i : Nat} (h : i < 6) (q : Q (.str (mk i)) H) : bK2 .add (.str "M") Q (.str (toString ((i : Int) + 1))) H := b_adds (mk_len h) q
set_option tactic.hygienic true in
theorem law_row_spec {a : Nat} {n : Int} {c t : Nat} {ps : Ps} (ht : t ≤ 3) (ht1 : 1 ≤ t) (ri : RI t ps t 0 "") (ha : H a = some (penO n c)) (hn : 0 ≤ n) (hc : c ≤ 100)
    (q : ∀ row n' c', row ≠ [] → row.length ≤ 30 → (∀ y ∈ row, y ∈ sg ps.length) → 0 ≤ n' → c' ≤ 200 → Q (.lst (txV row)) (H.set a (penO n' c'))) : wF prog (k + 2) .law_row [.ref a, .lst (psV ps)] H Q := by
  refine wF_mk (m := [some (.ref a), some (.lst (psV ps)), none, none, none, none, none, none, none, none, none, none, none, none, none, none, none]) rfl rfl ?_
  unfold ir_law_row
  have hl := ri.len ht
  have hw := ri.le
  have hpl0 : (psV ps).length ≤ 6 := by rw [List.length_map]; exact hl
  have hH : H.set a (penO n c) = H := by
    funext b; by_cases h : b = a
    · subst h; rw [Hp.set_same, ha]
    · exact Hp.set_ne _ _ h
  trivial
  refine ls_new rfl fun r hr => ?_
  trivial
  refine ls_frz rfl ?_
  trivial
  refine at1 rfl ?_
  trivial
  refine for_r (n := 30) (IRw H a ps t) (by decide) (.mk r ["S"] [] n c (Hp.set_same _ _ _) (Hp.set_ne' (Hp.ne_of hr ha) ha) hn hc (hH.symm ▸ Sub.new hr _) hr (fun y hy => ?_) (by decide) nofun (Nat.le_refl _) (fun z0 => rfl) (fun h => absurd rfl h)) ?_ ?_
  · rw [List.mem_singleton.1 hy]
    have : t = 1 ∨ t = 2 ∨ t = 3 := by omega
    rcases this with h | h | h <;> subst h <;> decide
  · rintro i _ H2 hi ⟨r, pl, row, n, c, hr, ha, hn, hc, hs, h0, hp, hpl, hrow, hrl, z, nz⟩
    rename_i o4 o5 o6 o7
    have hra : r ≠ a := fun e => by
      subst e; rw [ha] at hr
      have := o_list hr
      cases pl <;> cases this
    trivial
    refine ls_frz rfl (c_eq0 (l_ref hr) rfl (fun he => ?_) fun he => ?_)
    · trivial
      have he : pl = [] := List.map_eq_nil_iff.1 he
      refine drop hs .rfl (q row n c (nz fun e => ?_) (by exact li2 [_, _] ⟨0, .v 0, .n 30⟩ ⟨0, .a (.v 1) (.n 1), .n 30⟩ ⟨0, .v 0, .v 1⟩ rfl hi hrl) hrow hn (by exact li2 [_, _] ⟨0, .v 0, .n 200⟩ ⟨0, .a (.v 1) (.n 1), .n 30⟩ ⟨0, .v 0, .a (.n 100) (.v 1)⟩ rfl hi hc))
      rw [z e] at he; cases he
    · have he : pl ≠ [] := fun e => he (by rw [e]; rfl)
      obtain ⟨pl, s, rfl⟩ : ∃ p s, pl = p ++ [s] := ⟨_, _, (List.dropLast_concat_getLast he).symm⟩
      rw [List.length_append, List.length_singleton] at hpl
      have hps := hp s (by simp)
      have hp := fun y hy => hp y (List.mem_append_left _ hy)
      trivial
      refine mt_pop (vs := txV pl) (v := .str s) (hr.trans (by simp [txV])) ?_
      have ha := Hp.set_ne' (o := .list (txV pl)) hra.symm ha
      have hr := Hp.set_same H2 r (.list (txV pl))
      have hs := hs.set (by rw [Hp.set_ne _ _ hra]; exact h0) (.list (txV pl))
      generalize H2.set r (.list (txV pl)) = H3 at *
      trivial
      refine c_in (inS (l := ["a", "b"]) rfl) (fun hab => ?_) fun hab => ?_
      · trivial
        refine ls_frz rfl ?_
        trivial
        refine b_addl rfl rfl (frz (by rw [List.length_append, List.length_map]; simp only [List.length_cons, List.length_nil, big]; exact li2 [_, _] ⟨0, .a (.n 1) (.v 0), .n 16000000⟩ ⟨0, .a (.v 1) (.n 1), .n 30⟩ ⟨0, .v 0, .v 1⟩ rfl hi hrl) ?_)
        trivial
        refine .mk r pl (s :: row) n c hr ha hn (by exact li1 [_, _] ⟨0, .v 0, .a (.n 100) (.a (.v 1) (.n 1))⟩ ⟨0, .v 0, .a (.n 100) (.v 1)⟩ rfl hc) hs h0 hp (by exact li1 [_, _] ⟨0, .v 0, .a (.n 1) (.l 3 (.a (.v 1) (.n 1)))⟩ ⟨0, .a (.v 0) (.n 1), .a (.n 1) (.l 3 (.v 1))⟩ rfl hpl) (fun y hy => ?_) (Nat.succ_le_succ hrl) (fun h => absurd h (Nat.succ_ne_zero _)) (fun z0 => nofun)
        rcases List.mem_cons.1 hy with rfl | hy
        · exact List.mem_append_left _ hab
        · exact hrow y hy
      · obtain ⟨i0, hi0⟩ := RI.ex ri hps hab
        trivial
        refine ci_e (fun k u => [some (.ref a), some (.lst (psV ps)), some (.ref r), some (.lst (txV row)), some (.int (i : Int)), some (.str s), o6, o7, none, none, none, none, none, none, none, some (.int (k : Int)), some u]) (fun z0 z0 z0 => rfl) (ICs (LfAt ps s) H3) .zero ?_ (by simp only [big]; exact li1 [_] ⟨0, .v 0, .n 16000000⟩ ⟨0, .v 0, .n 6⟩ rfl hpl0) ?_
        · rintro j u acc H4 hu hc
          obtain ⟨p, hp, rfl⟩ := psV_get hu
          obtain rfl : H4 = H3 := by cases hc; rfl
          trivial
          refine c_eqs (fun e => ?_) fun e => ?_
          · trivial
            exact hc.yes ⟨p, hp, e⟩
          · exact hc.no fun ⟨p', h1, h2⟩ => e (by rw [hp] at h1; cases h1; exact h2)
        · intro _ _ hI0; induction hI0 with | mk l h1 h2 hll => ?_
          obtain ⟨x0, l', rfl, _⟩ := h2 i0 (by obtain ⟨p, h, _⟩ := hi0; rw [List.length_map]; exact (List.getElem?_eq_some_iff.1 h).1) hi0
          dsimp only [List.set_cons_zero, List.set_cons_succ, q_asg]
          refine ite_jh (fun v H4 => ∃ x n' c', v = .int ((x : Nat) : Int) ∧ LfAt ps s x ∧ H4 = H3.set a (penO n' c') ∧ 0 ≤ n' ∧ c' ≤ c + 1) (fun Q' fin => ?_) fun v H4 hv => ?_
          · trivial
            refine c_lt (fun z0 => ?_) fun z0 => ?_
            · trivial
              refine p_len rfl ?_
              rw [nats_len]
              trivial
              refine draw_spec (d := (x0 :: l').length) ha hn (by exact li2 [_, _] ⟨0, .a (.v 0) (.n 1), .n 900000⟩ ⟨0, .a (.v 1) (.n 1), .n 30⟩ ⟨0, .v 0, .a (.n 100) (.v 1)⟩ rfl hi hc) (Nat.succ_pos _) (by rw [List.length_map] at hll; exact li2 [_, _] ⟨0, .a (.v 0) (.n 1), .n 1000000⟩ ⟨0, .v 1, .n 6⟩ ⟨0, .v 0, .v 1⟩ rfl hl hll) fun y c' n' hy hn' hc' => ?_
              have hy' := List.getElem?_eq_getElem hy
              refine sb_l (nats_get hy') ?_
              exact fin _ _ ⟨_, n', c', rfl, (h1 _ (List.mem_of_getElem? hy')).2, rfl, hn', hc'⟩
            · trivial
              refine sb_l (n := 0) rfl (fin _ _ ⟨x0, n, c, rfl, (h1 x0 (List.mem_cons_self ..)).2, ?_, hn, Nat.le_succ _⟩)
              funext b; by_cases h : b = a
              · subst h; rw [Hp.set_same, ha]
              · exact (Hp.set_ne _ _ h).symm
          · obtain ⟨x, n', c', rfl, ⟨p, hx, hpx⟩, rfl, hn', hc'⟩ := hv
            have hx6 := (List.getElem?_eq_some_iff.1 hx).1
            have hpm := List.mem_of_getElem? hx
            have hpw := hw p hpm
            trivial
            refine p_str (by exact Int.natCast_nonneg _) (by exact Int.ofNat_lt.2 (li2 [_, _] ⟨0, .a (.a (.v 0) (.n 1)) (.n 1), .n 1000000⟩ ⟨0, .v 1, .n 6⟩ ⟨0, .a (.v 0) (.n 1), .v 1⟩ rfl hl hx6)) ?_
            refine b_mark (by exact Nat.le_trans hx6 hl) ?_
            trivial
            refine ls_frz rfl ?_
            trivial
            refine b_addl rfl rfl (frz (by rw [List.length_append, List.length_map]; simp only [List.length_cons, List.length_nil, big]; exact li2 [_, _] ⟨0, .a (.n 1) (.v 0), .n 16000000⟩ ⟨0, .a (.v 1) (.n 1), .n 30⟩ ⟨0, .v 0, .v 1⟩ rfl hi hrl) ?_)
            trivial
            refine sb_l (psV_at hx) ?_
            trivial
            refine p_list rfl (frz (by rw [List.length_map]; simp only [big]; exact li1 [_] ⟨0, .v 0, .n 16000000⟩ ⟨0, .v 0, .n 3⟩ rfl hpw) ?_)
            have hr' := Hp.set_ne' (o := penO n' c') hra hr
            refine b_addl (l_ref hr') rfl (new (by rw [List.length_append, List.length_map, List.length_map]; simp only [big]; exact li3 [_, _, _] ⟨0, .a (.v 0) (.v 1), .n 16000000⟩ ⟨2, .a (.v 2) (.n 1), .n 30⟩ ⟨0, .a (.v 0) (.n 1), .a (.n 1) (.l 3 (.v 2))⟩ ⟨0, .v 1, .n 3⟩ rfl hi hpl hpw) fun r' hr2 => ?_)
            have hra' := Hp.ne_of hr2 (Hp.set_same H3 a (penO n' c'))
            have hr0 := (hs.upd (y := penO n' c')).no hr2
            have hs' := (hs.upd (y := penO n' c')).set hr0 (.list (txV (pl ++ p.2)))
            rw [Hp.set_ne _ _ hra'.symm] at hr0
            rw [show txV pl ++ txV p.2 = txV (pl ++ p.2) by simp [txV]]
            trivial
            refine .mk r' (pl ++ p.2) (mk x :: row) n' c' (Hp.set_same _ _ _) (Hp.set_ne' hra' (Hp.set_same _ _ _)) hn' (by exact li2 [_, _, _] ⟨0, .v 0, .a (.n 100) (.a (.v 1) (.n 1))⟩ ⟨0, .v 2, .a (.n 100) (.v 1)⟩ ⟨0, .v 0, .a (.v 2) (.n 1)⟩ rfl hc hc') hs' hr0 (fun y hy => ?_) (by rw [List.length_append]; exact li2 [_, _, _] ⟨0, .a (.v 0) (.v 1), .a (.n 1) (.l 3 (.a (.v 2) (.n 1)))⟩ ⟨0, .a (.v 0) (.n 1), .a (.n 1) (.l 3 (.v 2))⟩ ⟨0, .v 1, .n 3⟩ rfl hpl hpw) (fun y hy => ?_) (Nat.succ_le_succ hrl) (fun h => absurd h (Nat.succ_ne_zero _)) (fun z0 => nofun)
            · exact (List.mem_append.1 hy).elim (hp y) ((ri.ok p hpm).2 y)
            · rcases List.mem_cons.1 hy with rfl | hy
              · exact List.mem_append_right _ (List.mem_map.2 ⟨x, List.mem_range.2 hx6, rfl⟩)
              · exact hrow y hy
  · intro _ H2 hI0; induction hI0 with | mk r pl row n c hr ha hn hc hs h0 hp hpl hrow hrl z nz => ?_
    trivial
    exact drop hs .rfl (q row n c (nz (by decide)) hrl hrow hn (by exact li1 [_] ⟨0, .v 0, .n 200⟩ ⟨0, .v 0, .n 130⟩ rfl hc))
end
inductive IMk (H : Hp) (k : Nat) : List V → Hp → Prop
  | mk : IMk H k (txV ((List.range k).map mk)) H
noncomputable def prodS : Nat → Ps → Prods String
  | _, [] => []
  | n, p :: ps => (p.1, mk n, p.2.reverse) :: prodS (n + 1) ps
theorem prodS_get : ∀ {ps : Ps} {n i : Nat}, (prodS n ps)[i]? = (ps[i]?).map fun p => (p.1, mk (n + i), p.2.reverse)
  | [], _, _ => by simp [prodS]
  | p :: ps, n, 0 => rfl
  | p :: ps, n, i + 1 => by
    rw [prodS, List.getElem?_cons_succ, List.getElem?_cons_succ, prodS_get, show n + 1 + i = n + (i + 1) by exact Nat.le_antisymm (li0 [_, _] ⟨0, .a (.a (.v 0) (.n 1)) (.v 1), .a (.v 0) (.a (.v 1) (.n 1))⟩ rfl) (li0 [_, _] ⟨0, .a (.v 0) (.a (.v 1) (.n 1)), .a (.a (.v 0) (.n 1)) (.v 1)⟩ rfl)]
theorem pick_first {α} [DecidableEq α] {p s : α} {v : List α} : ∀ {P : Prods α} {n i : Nat}, P[i]? = some (p, s, v) → (∀ j, j < i → ∀ v', P[j]? ≠ some (p, s, v')) → pick P n p s = some (n + i, v)
  | (l, m, w) :: P, n, 0, h, _ => by
    cases h; rw [pick, if_pos ⟨rfl, rfl⟩]; rfl
  | (l, m, w) :: P, n, i + 1, h, hn => by
    rw [pick, if_neg fun ⟨e1, e2⟩ => hn 0 (Nat.succ_pos i) w (by rw [← e1, ← e2]; rfl), pick_first (i := i) h fun j hj v' => hn (j + 1) (Nat.succ_lt_succ hj) v']
    congr 2; exact Nat.le_antisymm (li0 [_, _] ⟨0, .a (.a (.v 0) (.n 1)) (.v 1), .a (.v 0) (.a (.v 1) (.n 1))⟩ rfl) (li0 [_, _] ⟨0, .a (.v 0) (.a (.v 1) (.n 1)), .a (.a (.v 0) (.n 1)) (.v 1)⟩ rfl)
noncomputable def SpAt (ps : Ps) (part sign : String) (i : Nat) : Prop := ∃ p, ps[i]? = some p ∧ p.1 = part ∧ sign = mk i
inductive IFr (H : Hp) (ps : Ps) (row : List String) (tot : Nat ⊕ List Nat) (k : Nat) : Loc → Hp → Prop
  | mk {H' a4 a5 a6 a7} (r u : Nat) (pl : List String) (us : List Nat) (hr : H' r = some (.list (txV pl))) (hu : H' u = some (.list (nats us))) (hru : r ≠ u) (hs : Sub H H') (h0 : H r = Option.none) (hu0 : H u = Option.none)
      (ht : tot = app us (fr (prodS 0 ps) pl.reverse (row.reverse.drop k) k)) (hpl : pl.length ≤ 1 + 3 * k) (hus : us.length ≤ k) :
    IFr H ps row tot k [some (.lst (psV ps)), some (.lst (txV row)), some (.ref r), some (.ref u), a4, a5, a6, a7, none, none, none, none, none, none, none] H'
section
variable {H : Hp} {Q : VK} {k : Nat} {C : CallW} {m : Loc}
theorem law_bent_spec {a : Nat} {n : Int} {c t : Nat} {ps : Ps} {row : List String} (ht : t ≤ 3) (ri : RI t ps t 0 "") (ha : H a = some (penO n c)) (hn : 0 ≤ n) (hc : c ≤ 200) (hr : row ≠ []) (hrl : row.length ≤ 30) (hrm : ∀ y ∈ row, y ∈ sg ps.length)
    (q : ∀ row' n' c', row'.length ≤ 61 → (∀ y ∈ row', y ∈ sg ps.length) → Q (.lst (txV row')) (H.set a (penO n' c'))) : wF prog (k + 2) .law_bent [.ref a, .lst (psV ps), .lst (txV row)] H Q := by
  refine wF_mk (m := [some (.ref a), some (.lst (psV ps)), some (.lst (txV row)), none, none, none, none, none, none, none, none, none]) rfl rfl ?_
  unfold ir_law_bent
  have hl := ri.len ht
  have hpl : (psV ps).length = ps.length := List.length_map ..
  have hrl' : (txV row).length = row.length := List.length_map ..
  have hsl : (sg ps.length).length = 2 + ps.length := by simp [sg]; exact Nat.le_antisymm (li0 [_] ⟨0, .a (.a (.v 0) (.n 1)) (.n 1), .a (.n 2) (.v 0)⟩ rfl) (li0 [_] ⟨0, .a (.n 2) (.v 0), .a (.a (.v 0) (.n 1)) (.n 1)⟩ rfl)
  have hr0 := List.length_pos_iff.2 hr
  trivial
  refine ls_frz rfl ?_
  trivial
  refine p_len rfl ?_
  rw [hpl]
  refine co_r (IMk H) .mk ?_ (by simp only [big]; exact li1 [_] ⟨0, .v 0, .n 16000000⟩ ⟨0, .v 0, .n 6⟩ rfl hl) ?_
  · rintro i _ _ hi ⟨⟩
    trivial
    refine p_str (by exact Int.natCast_nonneg _) (by exact Int.ofNat_lt.2 (li2 [_, _] ⟨0, .a (.a (.v 0) (.n 1)) (.n 1), .n 1000000⟩ ⟨0, .v 1, .n 6⟩ ⟨0, .a (.v 0) (.n 1), .v 1⟩ rfl hl hi)) (b_mark (by exact Nat.le_trans hi hl) ?_)
    show IMk _ _ _ _
    rw [strs_snoc]
    have := IMk.mk (H := H) (k := i + 1)
    rwa [List.range_succ, List.map_append] at this
  · rintro _ _ ⟨⟩
    refine b_addl rfl rfl (frz (by simp only [List.length_append, List.length_map, List.length_range, List.length_cons, List.length_nil, big]; exact li1 [_] ⟨0, .a (.n 2) (.v 0), .n 16000000⟩ ⟨0, .v 0, .n 6⟩ rfl hl) ?_)
    rw [show [V.str "a", V.str "b"] ++ txV ((List.range ps.length).map mk) = txV (sg ps.length) by simp [txV, sg]]
    trivial
    refine p_len rfl ?_
    rw [hrl']
    trivial
    refine draw_spec (d := row.length) ha hn (by exact li1 [_] ⟨0, .a (.v 0) (.n 1), .n 900000⟩ ⟨0, .v 0, .n 200⟩ rfl hc) hr0 (by exact li1 [_] ⟨0, .a (.v 0) (.n 1), .n 1000000⟩ ⟨0, .v 0, .n 30⟩ rfl hrl) fun x c1 n1 hx hn1 hc1 => ?_
    trivial
    refine draw_spec (d := 3) (Hp.set_same _ _ _) hn1 (by exact li2 [_, _] ⟨0, .a (.v 0) (.n 1), .n 900000⟩ ⟨0, .v 1, .n 200⟩ ⟨0, .v 0, .a (.v 1) (.n 1)⟩ rfl hc hc1) (by decide) (by decide) fun y c2 n2 hy hn2 hc2 => ?_
    rw [Hp.set_set]
    trivial
    refine p_len rfl ?_
    rw [List.length_map, hsl]
    trivial
    refine draw_spec (d := 2 + ps.length) (Hp.set_same _ _ _) hn2 (by exact li3 [_, _, _] ⟨0, .a (.v 0) (.n 1), .n 900000⟩ ⟨0, .v 1, .n 200⟩ ⟨0, .v 2, .a (.v 1) (.n 1)⟩ ⟨0, .v 0, .a (.v 2) (.n 1)⟩ rfl hc hc1 hc2) (by exact li0 [_] ⟨0, .n 1, .a (.n 2) (.v 0)⟩ rfl) (by exact li1 [_] ⟨0, .a (.a (.n 2) (.v 0)) (.n 1), .n 1000000⟩ ⟨0, .v 0, .n 6⟩ rfl hl) fun z c3 n3 hz hn3 hc3 => ?_
    rw [Hp.set_set]
    obtain ⟨sgn, hsg⟩ := get_ex hsl hz
    have hsm := List.mem_of_getElem? hsg
    refine sb_l (v := .str sgn) (by rw [List.getElem?_map, hsg]; rfl) ?_
    trivial
    refine at1 rfl ?_
    dsimp only [q_rrt, q_bin, q_slcTo, q_loc, q_l0, q_lS]
    refine .inr ⟨_, _, rfl, rfl, ?_⟩
    rw [← List.map_take]
    generalize clampTo _ _ = u
    refine frz (by rw [List.length_map, List.length_take]; simp only [big]; exact li2 [_, _] ⟨0, .v 0, .n 16000000⟩ ⟨0, .v 1, .n 30⟩ ⟨0, .v 0, .v 1⟩ rfl hrl (Nat.min_le_right _ _)) ?_
    show wE _ _ _ _ _
    refine ite_j (fun v => ∃ l, v = .lst (txV l) ∧ l.length ≤ 1 ∧ ∀ y ∈ l, y ∈ sg ps.length) (fun Q' fin => ?_) fun v hv => ?_
    · trivial
      refine c_eq (fun z0 => ?_) fun z0 => ?_
      · trivial
        exact ls_frz rfl (fin _ ⟨[], rfl, Nat.zero_le _, nofun⟩)
      · trivial
        exact ls_frz rfl (fin _ ⟨[sgn], rfl, Nat.le_refl _, fun y hy => List.mem_singleton.1 hy ▸ hsm⟩)
    · obtain ⟨l, rfl, hll, hlm⟩ := hv
      refine b_addl rfl rfl (frz (by rw [List.length_append, List.length_map, List.length_map, List.length_take]; simp only [big]; exact li3 [_, _, _] ⟨0, .a (.v 0) (.v 1), .n 16000000⟩ ⟨0, .v 2, .n 30⟩ ⟨0, .v 1, .n 1⟩ ⟨0, .v 0, .v 2⟩ rfl hrl hll (Nat.min_le_right _ _)) ?_)
      dsimp only [q_slcFrom, q_loc, q_l0, q_lS, q_bin]
      refine ite_j (fun v => ∃ i : Int, v = .int i) (fun Q' fin => ?_) fun v hv => ?_
      · trivial
        exact c_eq (fun z0 => fin _ ⟨0, rfl⟩) (fun z0 => fin _ ⟨1, rfl⟩)
      · obtain ⟨i, rfl⟩ := hv
        trivial
        refine ⟨_, _, rfl, rfl, ?_⟩
        rw [← List.map_drop]
        generalize clampTo _ _ = u'
        refine frz (by rw [List.length_map, List.length_drop]; simp only [big]; omega) ?_
        refine b_addl rfl rfl (frz (by rw [List.length_append, List.length_append, List.length_map, List.length_map, List.length_map, List.length_drop, List.length_take]; simp only [big]; omega) ?_)
        rw [← List.map_append, ← List.map_append]
        refine keep (q _ n3 c3 (by rw [List.length_append, List.length_append, List.length_take, List.length_drop]; omega) fun y hy => ?_)
        rcases List.mem_append.1 hy with hy | hy
        · rcases List.mem_append.1 hy with hy | hy
          · exact hrm y (List.mem_of_mem_take hy)
          · exact hlm y hy
        · exact hrm y (List.mem_of_mem_drop hy)
theorem sp_first {ps : Ps} {part sign : String} {i : Nat} (h : SpAt ps part sign i) (hn : ∀ j, j < i → ¬ SpAt ps part sign j) : ∃ p, ps[i]? = some p ∧ pick (prodS 0 ps) 1 part sign = some (i + 1, p.2.reverse) := by
  obtain ⟨p, h1, rfl, rfl⟩ := h
  refine ⟨p, h1, ?_⟩
  rw [Nat.add_comm]
  refine pick_first (by rw [prodS_get, h1, Nat.zero_add]; rfl) fun j hj v' e => ?_
  rw [prodS_get, Nat.zero_add] at e
  obtain ⟨p', hO⟩ := Option.map_eq_some_iff.1 e; have h2 := hO.1; have h3 := hO.2; clear hO
  simp only [Prod.mk.injEq] at h3
  exact hn j hj ⟨p', h2, h3.1, h3.2.1.symm⟩
theorem sp_none {ps : Ps} {part sign : String} (hn : ∀ j, j < ps.length → ¬ SpAt ps part sign j) : pick (prodS 0 ps) 1 part sign = none := by
  cases h : pick (prodS 0 ps) 1 part sign with
  | none => rfl
  | some x =>
    have hO := x; have i := hO.1; have v := hO.2; clear hO
    have hO := pick_some h; have h1 := hO.1; have h2 := hO.2; clear hO
    rw [prodS_get, Nat.zero_add] at h2
    obtain ⟨p, hO⟩ := Option.map_eq_some_iff.1 h2; have h3 := hO.1; have h4 := hO.2; clear hO
    simp only [Prod.mk.injEq] at h4
    exact absurd ⟨p, h3, h4.1, h4.2.1.symm⟩ (hn _ (List.getElem?_eq_some_iff.1 h3).1)
set_option tactic.hygienic true in
theorem from_right_spec {ps : Ps} {row : List String} (hl : ps.length ≤ 6) (hw : ∀ p ∈ ps, p.2.length ≤ 3) (hrl : row.length ≤ 61)
    (q1 : ∀ n : Nat, fr (prodS 0 ps) ["S"] row.reverse 0 = .inl n → Q (.tup [.bool false, .int n]) H)
    (q2 : ∀ us, us.length ≤ 61 → fr (prodS 0 ps) ["S"] row.reverse 0 = .inr us → Q (.tup [.bool true, .lst (nats us)]) H) : wF prog (k + 1) .law_from_right [.lst (psV ps), .lst (txV row)] H Q := by
  refine wF_mk (m := [some (.lst (psV ps)), some (.lst (txV row)), none, none, none, none, none, none, none, none, none, none, none, none, none]) rfl rfl ?_
  unfold ir_law_from_right
  generalize htot : fr (prodS 0 ps) ["S"] row.reverse 0 = tot at q1 q2
  have hpl0 : (psV ps).length = ps.length := List.length_map ..
  have hrl' : (txV row).length = row.length := List.length_map ..
  trivial
  refine ls_new rfl fun r hr => ?_
  trivial
  refine ls_new rfl fun u hu => ?_
  have hru := Hp.ne_of hu (Hp.set_same H r (.list [.str "S"]))
  have hu0 : H u = none := by rwa [Hp.set_ne _ _ hru.symm] at hu
  trivial
  refine at1 rfl ?_
  trivial
  refine p_len rfl ?_
  rw [hrl']
  refine for_r (IFr H ps row tot) (by simp only [big]; exact li1 [_] ⟨0, .v 0, .n 16000000⟩ ⟨0, .v 0, .n 61⟩ rfl hrl) (.mk r u ["S"] [] (Hp.set_ne' hru (Hp.set_same _ _ _)) (Hp.set_same _ _ _) hru ((Sub.new hr _).set hu0 _) hr hu0 (by rw [app_nil]; exact htot.symm) (by decide) (Nat.le_refl _)) ?_ ?_
  · rintro i _ H2 hi ⟨r, u, pl, us, hr, hu, hru, hs, h0, hu0, ht, hpl, hus⟩
    rename_i o4 o5 o6 o7
    have hri : i < row.reverse.length := by rw [List.length_reverse]; exact hi
    obtain ⟨s, hsg⟩ : ∃ s, row.reverse[i]? = some s := ⟨_, List.getElem?_eq_getElem hri⟩
    rw [drop_cons hsg] at ht
    have hrow : row[row.length - 1 - i]? = some s := by rwa [List.getElem?_reverse hi] at hsg
    trivial
    refine p_len rfl ?_
    rw [hrl']
    trivial
    rw [show (row.length : Int) - 1 - i = ((row.length - 1 - i : Nat) : Int) by omega]
    refine sb_l (v := .str s) (by rw [List.getElem?_map, hrow]; rfl) ?_
    trivial
    refine ls_frz rfl (c_eq0 (l_ref hr) rfl (fun he => ?_) fun he => ?_)
    · have he : pl = [] := List.map_eq_nil_iff.1 he
      subst he
      trivial
      exact drop hs .rfl (q1 i (ht.trans (by rw [List.reverse_nil, fr_rest]; rfl)))
    · have he : pl ≠ [] := fun e => he (by rw [e]; rfl)
      obtain ⟨pl, part, rfl⟩ : ∃ p s, pl = p ++ [s] := ⟨_, _, (List.dropLast_concat_getLast he).symm⟩
      rw [List.length_append, List.length_singleton] at hpl
      rw [List.reverse_append] at ht
      replace ht : tot = app us (fr (prodS 0 ps) (part :: pl.reverse) (s :: row.reverse.drop (i + 1)) i) := ht
      trivial
      refine mt_pop (vs := txV pl) (v := .str part) (hr.trans (by simp [txV])) ?_
      have hu := Hp.set_ne' (o := .list (txV pl)) hru.symm hu
      have hr := Hp.set_same H2 r (.list (txV pl))
      have hs := hs.set h0 (.list (txV pl))
      generalize H2.set r (.list (txV pl)) = H3 at *
      trivial
      refine ci_e (fun k v => [some (.lst (psV ps)), some (.lst (txV row)), some (.ref r), some (.ref u), some (.int (i : Int)), some (.str s), some (.str part), o7, none, none, none, none, none, some (.int (k : Int)), some v]) (fun z0 z0 z0 => rfl) (ICs (SpAt ps part s) H3) .zero ?_ (by simp only [big]; exact li2 [_, _] ⟨0, .v 0, .n 16000000⟩ ⟨0, .v 1, .n 6⟩ ⟨0, .v 0, .v 1⟩ rfl hl (Nat.le_of_eq hpl0)) ?_
      · rintro j v acc H4 hv hc
        obtain ⟨p, hp, rfl⟩ := psV_get hv
        obtain rfl : H4 = H3 := by cases hc; rfl
        have hj := (List.getElem?_eq_some_iff.1 hp).1
        trivial
        refine c_eqs (fun e => ?_) fun e => ?_
        · trivial
          refine p_str (by exact Int.natCast_nonneg _) (by exact Int.ofNat_lt.2 (li2 [_, _] ⟨0, .a (.a (.v 0) (.n 1)) (.n 1), .n 1000000⟩ ⟨0, .v 1, .n 6⟩ ⟨0, .a (.v 0) (.n 1), .v 1⟩ rfl hl hj)) (b_mark (by exact Nat.le_trans hj hl) (c_eqs (fun e2 => ?_) fun e2 => ?_))
          · trivial
            exact hc.yes ⟨p, hp, e, e2⟩
          · exact hc.no fun ⟨p', _, _, h⟩ => e2 h
        · exact hc.no fun ⟨p', h1, h2, _⟩ => e (by rw [hp] at h1; cases h1; exact h2)
      · intro _ _ hI0; induction hI0 with | mk l h1 h2 hll => ?_
        rw [hpl0] at h1 h2
        trivial
        refine ls_frz rfl (c_ne0 rfl rfl (fun hne => ?_) fun hne => ?_)
        · cases l with
          | nil => exact absurd rfl hne
          | cons x l =>
            have hO := h1 x (List.mem_cons_self ..); have hx := hO.1; have hsp := hO.2; clear hO
            obtain ⟨p, hp, hpk⟩ := sp_first hsp fun j hj hsj => by
              obtain ⟨x', r', hO⟩ := h2 j (by exact li2 [_, _, _] ⟨0, .a (.v 0) (.n 1), .v 1⟩ ⟨0, .a (.v 2) (.n 1), .v 1⟩ ⟨0, .a (.v 0) (.n 1), .v 2⟩ rfl hx hj) hsj; have e := hO.1; have h := hO.2; clear hO
              cases e; omega
            have hpw := hw p (List.mem_of_getElem? hp)
            rw [fr_some hpk, app_app] at ht
            trivial
            refine mt_app hu ?_
            trivial
            refine sb_l (n := 0) rfl ?_
            trivial
            refine mb_app hu (by rw [nats_len]; simp only [big]; exact li3 [_, _, _] ⟨0, .a (.v 0) (.n 1), .n 16000000⟩ ⟨0, .v 1, .n 61⟩ ⟨0, .a (.v 2) (.n 1), .v 1⟩ ⟨0, .v 0, .v 2⟩ rfl hrl hi hus) ?_
            trivial
            refine sb_l (n := 0) rfl (sb_l (psV_at hp) ?_)
            trivial
            refine p_list rfl (frz (by rw [List.length_map]; simp only [big]; exact li1 [_] ⟨0, .v 0, .n 16000000⟩ ⟨0, .v 0, .n 3⟩ rfl hpw) ?_)
            have hr' := Hp.set_ne' (o := .list (nats us ++ [.int ((x : Int) + 1)])) hru hr
            refine b_addl (l_ref hr') rfl (new (by rw [List.length_append, List.length_map, List.length_map]; simp only [big]; exact li4 [_, _, _, _] ⟨0, .a (.v 0) (.v 1), .n 16000000⟩ ⟨2, .v 2, .n 61⟩ ⟨2, .a (.v 3) (.n 1), .v 2⟩ ⟨0, .a (.v 0) (.n 1), .a (.n 1) (.l 3 (.v 3))⟩ ⟨0, .v 1, .n 3⟩ rfl hrl hi hpl hpw) fun r' hr2 => ?_)
            have hur := Hp.ne_of hr2 (Hp.set_same H3 u (.list (nats us ++ [.int ((x : Int) + 1)])))
            have hs := hs.set hu0 (.list (nats us ++ [.int ((x : Int) + 1)]))
            have hr0 := hs.no hr2
            rw [show txV pl ++ txV p.2 = txV (pl ++ p.2) by simp [txV]]
            trivial
            refine .mk r' u (pl ++ p.2) (us ++ [x + 1]) (Hp.set_same _ _ _) (Hp.set_ne' hur ((Hp.set_same _ _ _).trans (by simp [nats]))) hur.symm (hs.set hr0 _) hr0 hu0 (by rw [List.reverse_append]; exact ht) (by rw [List.length_append]; exact li2 [_, _, _] ⟨0, .a (.v 0) (.v 1), .a (.n 1) (.l 3 (.a (.v 2) (.n 1)))⟩ ⟨0, .a (.v 0) (.n 1), .a (.n 1) (.l 3 (.v 2))⟩ ⟨0, .v 1, .n 3⟩ rfl hpl hpw) (by rw [List.length_append]; exact Nat.succ_le_succ hus)
        · have hle : l = [] := List.map_eq_nil_iff.1 hne
          have hpk := sp_none (ps := ps) (part := part) (sign := s) fun j hj hsj => by
            obtain ⟨x', r', hO⟩ := h2 j hj hsj; have e := hO.1; have h := hO.2; clear hO
            rw [hle] at e; cases e
          trivial
          refine c_nes (fun e => ?_) fun e => ?_
          · trivial
            exact drop hs .rfl (q1 i (ht.trans (by rw [fr_other hpk e]; rfl)))
          · rw [fr_same hpk e] at ht
            trivial
            exact .mk r u pl us hr hu hru hs h0 hu0 ht (by exact li1 [_, _] ⟨0, .v 0, .a (.n 1) (.l 3 (.a (.v 1) (.n 1)))⟩ ⟨0, .a (.v 0) (.n 1), .a (.n 1) (.l 3 (.v 1))⟩ rfl hpl) (Nat.le_succ_of_le hus)
  · intro _ H2 hI0; induction hI0 with | mk r u pl us hr hu hru hs h0 hu0 ht hpl hus => ?_
    rw [List.drop_of_length_le (by rw [List.length_reverse]; exact Nat.le_refl _)] at ht
    trivial
    refine ls_frz rfl (c_eq0 (l_ref hr) rfl (fun he => ?_) fun he => ?_)
    · have he : pl = [] := List.map_eq_nil_iff.1 he
      subst he
      trivial
      refine drop hs (.tup (.cons .rfl (.cons (.fl hu hu0) .nil))) (q2 us (by exact Nat.le_trans hus hrl) (ht.trans (by rw [List.reverse_nil, fr_end]; simp [app])))
    · have he : pl ≠ [] := fun e => he (by rw [e]; rfl)
      trivial
      refine p_len rfl ?_
      rw [hrl']
      trivial
      refine drop hs .rfl (q1 row.length (ht.trans ?_))
      obtain ⟨x, l, hx⟩ := List.exists_cons_of_ne_nil (fun e => he (List.reverse_eq_nil_iff.1 e))
      rw [hx, fr_out]; rfl
end
noncomputable def qsOf (e : List String → String → List String) (ps : Ps) : Qs := ps.zipIdx.map fun p => (p.1.1, e p.1.2 (mk p.2))
structure Eok (e : List String → String → List String) : Prop where
  mem : ∀ w m x, x ∈ e w m ↔ x ∈ w ∨ x = m
  len : ∀ w m, (e w m).length = w.length + 1
theorem mk_inj : ∀ i j : Fin 6, mk i = mk j → i = j := by decide +kernel
theorem mk_out : ∀ i : Fin 6, mk i ∉ ["$end", "error", "$undefined", "$accept", "a", "b", "S", "T", "U"] := by decide +kernel
theorem nm_sub {t : Nat} {x : String} (h : x ∈ nmOf t) : x ∈ ["S", "T", "U"] := List.mem_of_mem_take h
theorem ab_sub {t : Nat} {x : String} (h : x ∈ abN t) : x ∈ ["a", "b", "S", "T", "U"] := by
  rcases List.mem_append.1 h with h | h
  · exact List.mem_append_left ["S", "T", "U"] h
  · exact List.mem_append_right ["a", "b"] (nm_sub h)
theorem idx_inj {ns : List String} {x y : String} (hx : x ∈ ns) (h : ns.idxOf x = ns.idxOf y) : x = y := by
  have hl := List.idxOf_lt_length_iff.2 hx
  have hl' := h ▸ hl
  rw [← List.getElem_idxOf hl, ← List.getElem_idxOf hl']
  simp only [h]
structure GG (e : List String → String → List String) (t : Nat) (ps : Ps) (lf nm : List String) : Prop where
  gg ::
  eok : Eok e
  ht1 : 1 ≤ t
  ht : t ≤ 3
  ri : RI t ps t 0 ""
  pg : PG (qsOf e ps) lf nm
  hl : lf.length ≤ (qsOf e ps).length
  hn : nm.length ≤ 3 + ((qsOf e ps).map fun p => p.2.length).sum
section
variable {e : List String → String → List String} {t : Nat} {ps : Ps} {lf nm : List String}
noncomputable abbrev grG (e : List String → String → List String) (ps : Ps) (lf nm : List String) : Gr := mkG (qsOf e ps) lf nm "S"
theorem qs_at {i : Nat} {q} : (qsOf e ps)[i]? = some q ↔ ∃ p, ps[i]? = some p ∧ q = (p.1, e p.2 (mk i)) := by
  simp only [qsOf, List.getElem?_map, List.getElem?_zipIdx, Option.map_map, Option.map_eq_some_iff, Nat.zero_add]
  exact ⟨fun ⟨p, h1, h2⟩ => ⟨p, h1, h2.symm⟩, fun ⟨p, h1, h2⟩ => ⟨p, h1, h2.symm⟩⟩
theorem qs_len : (qsOf e ps).length = ps.length := by simp [qsOf]
theorem qs_sum (he : Eok e) : ((qsOf e ps).map fun p => p.2.length).sum = (ps.map fun p => p.2.length + 1).sum := by
  congr 1
  refine List.ext_getElem? fun i => ?_
  simp only [qsOf, List.getElem?_map, List.getElem?_zipIdx, Option.map_map]
  cases ps[i]? with
  | none => rfl
  | some p => simp [he.len]
theorem RI.wt21 (ri : RI t ps t 0 "") (ht : t ≤ 3) : (ps.map fun p => p.2.length + 1).sum ≤ 21 := by
  have h2 : t = 0 ∨ t = 1 ∨ t = 2 ∨ t = 3 := by omega
  rcases h2 with h | h | h | h <;> subst h <;> exact Nat.le_trans ri.wt (by decide)
namespace GG
variable (G : GG e t ps lf nm)
include G
theorem lf_nm {x} (h : x ∈ lf) : x ∈ nmOf t := by
  obtain ⟨q, h1, rfl⟩ := (G.pg.lm x).1 h
  obtain ⟨i, hi⟩ := List.getElem?_of_mem h1
  obtain ⟨p, h2, rfl⟩ := qs_at.1 hi
  exact (G.ri.ok p (List.mem_of_getElem? h2)).1
theorem p_lf {p} (h : p ∈ ps) : p.1 ∈ lf := by
  obtain ⟨i, hi⟩ := List.getElem?_of_mem h
  exact (G.pg.lm _).2 ⟨_, List.mem_of_getElem? (qs_at.2 ⟨p, hi, rfl⟩), rfl⟩
theorem nm_of {x} (h : x ∈ nm) : x ∈ own ∨ x ∈ ["a", "b"] ∨ ∃ i, i < ps.length ∧ x = mk i := by
  rcases (G.pg.mem x).1 h with h | ⟨q, h1, h2, h3⟩
  · exact .inl h
  · obtain ⟨i, hi⟩ := List.getElem?_of_mem h1
    obtain ⟨p, h4, rfl⟩ := qs_at.1 hi
    have hp := List.mem_of_getElem? h4
    rcases (G.eok.mem _ _ _).1 h2 with h5 | h5
    · rcases List.mem_append.1 ((G.ri.ok p hp).2 x h5) with h6 | h6
      · exact .inr (.inl h6)
      · exfalso
        have htl : (nmOf t).length ≤ t := by rw [nmOf, List.length_take]; exact Nat.min_le_left ..
        obtain ⟨p', h7, rfl⟩ := G.ri.cov x (by rw [List.take_of_length_le htl]; exact h6)
        exact h3 (G.p_lf h7)
    · exact .inr (.inr ⟨i, (List.getElem?_eq_some_iff.1 h4).1, h5⟩)
theorem len6 : ps.length ≤ 6 := G.ri.len G.ht
theorem mk_nm {i : Nat} (hi : i < ps.length) : mk i ∈ nm := by
  obtain ⟨p, hp⟩ : ∃ p, ps[i]? = some p := ⟨_, List.getElem?_eq_getElem hi⟩
  refine (G.pg.mem _).2 (.inr ⟨_, List.mem_of_getElem? (qs_at.2 ⟨p, hp, rfl⟩), (G.eok.mem _ _ _).2 (.inr rfl), fun h => ?_⟩)
  have h1 := nm_sub (G.lf_nm h)
  have h2 := G.len6
  exact mk_out ⟨i, by exact Nat.le_trans hi h2⟩ (List.mem_append_right ["$end", "error", "$undefined", "$accept", "a", "b"] h1)
theorem y_ns {p} (hp : p ∈ ps) {y} (hy : y ∈ p.2) : y ∈ nsOf lf nm := by
  obtain ⟨i, hi⟩ := List.getElem?_of_mem hp
  by_cases h : y ∈ lf
  · exact List.mem_append_right _ h
  · exact List.mem_append_left _ (List.mem_append_left _ ((G.pg.mem y).2 (.inr ⟨_, List.mem_of_getElem? (qs_at.2 ⟨p, hi, rfl⟩), (G.eok.mem _ _ _).2 (.inl hy), h⟩)))
theorem s_lf : "S" ∈ lf := by
  obtain ⟨q, r, h⟩ := G.ri.head (.inl G.ht1)
  exact G.p_lf (p := ("S", q)) (by rw [h]; exact List.mem_cons_self ..)
theorem lf_out {x} (h : x ∈ lf) : x ∉ nm ++ ["$accept"] := fun h2 => by
  have h1 := nm_sub (G.lf_nm h)
  have h6 := G.len6
  rcases List.mem_append.1 h2 with h2 | h2
  · rcases G.nm_of h2 with h3 | h3 | ⟨i, hi, rfl⟩
    · exact (by decide : ∀ y ∈ ["S", "T", "U"], y ∉ own) x h1 h3
    · exact (by decide : ∀ y ∈ ["S", "T", "U"], y ∉ ["a", "b"]) x h1 h3
    · exact mk_out ⟨i, by exact Nat.le_trans hi h6⟩ (List.mem_append_right ["$end", "error", "$undefined", "$accept", "a", "b"] h1)
  · rw [List.mem_singleton.1 h2] at h1; revert h1; decide
theorem lt {x} (h : x ∈ nm) : (nsOf lf nm).idxOf x < nm.length := by
  rw [nsOf, List.idxOf_append, if_pos (List.mem_append_left _ h), List.idxOf_append, if_pos h]
  exact List.idxOf_lt_length_iff.2 h
theorem gt {x} (h : x ∈ lf) : nm.length < (nsOf lf nm).idxOf x := by
  rw [nsOf, List.idxOf_append, if_neg (G.lf_out h), List.length_append]
  exact Nat.lt_of_lt_of_le (Nat.lt_succ_self _) (Nat.le_add_left _ _)
theorem pos : 0 < nm.length := by obtain ⟨u, h⟩ := G.pg.ow; rw [h]; simp [own]
theorem zero : (nsOf lf nm).idxOf "$end" = 0 := by obtain ⟨u, h⟩ := G.pg.ow; rw [h]; exact List.idxOf_cons_self
theorem ne0 {x} (h : x ∈ nsOf lf nm) (hx : x ≠ "$end") : (nsOf lf nm).idxOf x ≠ 0 := fun h0 => hx (idx_inj h (h0.trans G.zero.symm))
theorem netc {x} (h : x ∈ nsOf lf nm) (hx : x ≠ "$accept") : (nsOf lf nm).idxOf x ≠ nm.length := by
  rcases List.mem_append.1 h with h | h
  · rcases List.mem_append.1 h with h | h
    · exact Nat.ne_of_lt (G.lt h)
    · exact absurd (List.mem_singleton.1 h) hx
  · exact Nat.ne_of_gt (G.gt h)
theorem mk_ns {i : Nat} (hi : i < ps.length) : mk i ∈ nsOf lf nm := List.mem_append_left _ (List.mem_append_left _ (G.mk_nm hi))
theorem sy {i : Nat} {p} (hp : ps[i]? = some p) {y} (hy : y ∈ e p.2 (mk i)) : y ∈ nsOf lf nm ∧ (nsOf lf nm).idxOf y ≠ 0 ∧ (nsOf lf nm).idxOf y ≠ nm.length := by
  have hi := (List.getElem?_eq_some_iff.1 hp).1
  have h6 := G.len6
  have hm := List.mem_of_getElem? hp
  rcases (G.eok.mem _ _ _).1 hy with h | rfl
  · have h1 := G.y_ns hm h
    have h2 := ab_sub ((G.ri.ok p hm).2 y h)
    exact ⟨h1, G.ne0 h1 fun e => by subst e; revert h2; decide, G.netc h1 fun e => by subst e; revert h2; decide⟩
  · have h1 := G.mk_ns hi
    exact ⟨h1, G.ne0 h1 fun e => mk_out ⟨i, by exact Nat.le_trans hi h6⟩ (by show mk i ∈ _; rw [e]; decide), G.netc h1 fun e => mk_out ⟨i, by exact Nat.le_trans hi h6⟩ (by show mk i ∈ _; rw [e]; decide)⟩
theorem rul {i : Nat} {r} : (grG e ps lf nm).rules[i + 1]? = some r ↔ ∃ p, ps[i]? = some p ∧ r = ((nsOf lf nm).idxOf p.1, (e p.2 (mk i)).map (nsOf lf nm).idxOf) := by
  show (List.map _ (qsOf e ps))[i]? = some r ↔ _
  rw [List.getElem?_map, Option.map_eq_some_iff]
  constructor
  · rintro ⟨q, h1, rfl⟩
    obtain ⟨p, h2, rfl⟩ := qs_at.1 h1
    exact ⟨p, h2, rfl⟩
  · rintro ⟨p, h1, rfl⟩
    exact ⟨_, qs_at.2 ⟨p, h1, rfl⟩, rfl⟩
theorem idx_lt {x} (h : x ∈ nsOf lf nm) : (nsOf lf nm).idxOf x < (nsOf lf nm).length := List.idxOf_lt_length_iff.2 h
theorem nsl : (nsOf lf nm).length ≤ 31 ∧ nm.length < (nsOf lf nm).length ∧ nm.length ≤ 24 := by
  have h1 := G.hl
  have h2 := G.hn
  rw [qs_len] at h1
  rw [qs_sum G.eok] at h2
  have h3 := G.ri.wt21 G.ht
  have h6 := G.len6
  rw [nsOf, List.length_append, List.length_append, List.length_singleton]
  exact ⟨li4 [_, _, _, _] ⟨0, .a (.a (.v 0) (.n 1)) (.v 1), .n 31⟩ ⟨0, .v 1, .v 2⟩ ⟨0, .v 0, .a (.n 3) (.v 3)⟩ ⟨0, .v 3, .n 21⟩ ⟨0, .v 2, .n 6⟩ rfl h1 h2 h3 h6, ⟨li0 [_, _] ⟨0, .a (.v 0) (.n 1), .a (.a (.v 0) (.n 1)) (.v 1)⟩ rfl, li2 [_, _] ⟨0, .v 0, .n 24⟩ ⟨0, .v 0, .a (.n 3) (.v 1)⟩ ⟨0, .v 1, .n 21⟩ rfl h2 h3⟩⟩
theorem p_ns {p} (h : p ∈ ps) : p.1 ∈ nsOf lf nm := List.mem_append_right _ (G.p_lf h)
theorem rule {i l : Nat} {w : List Nat} (h : (grG e ps lf nm).rules[i]? = some (l, w)) : nm.length ≤ l ∧ l < (nsOf lf nm).length ∧ w ≠ [] ∧ w.length ≤ 10 ∧ ∀ s ∈ w, s < (nsOf lf nm).length := by
  have hn := G.nsl
  cases i with
  | zero =>
    cases h
    refine ⟨Nat.le_refl _, hn.2.1, nofun, by simp, fun s hs => ?_⟩
    rcases List.mem_cons.1 hs with rfl | hs
    · exact G.idx_lt (List.mem_append_right _ G.s_lf)
    · rw [List.mem_singleton.1 hs]; exact li1 [_, _] ⟨0, .n 1, .v 0⟩ ⟨0, .a (.v 1) (.n 1), .v 0⟩ rfl hn.2.1
  | succ i =>
    obtain ⟨p, hO⟩ := G.rul.1 h; have hp := hO.1; have h := hO.2; clear hO
    cases h
    have hm := List.mem_of_getElem? hp
    have hlen := G.eok.len p.2 (mk i)
    have := G.ri.le p hm
    refine ⟨Nat.le_of_lt (G.gt (G.p_lf hm)), G.idx_lt (G.p_ns hm), fun h => ?_, by rw [List.length_map]; exact li2 [_, _] ⟨0, .v 0, .n 10⟩ ⟨0, .v 0, .a (.v 1) (.n 1)⟩ ⟨0, .v 1, .n 3⟩ rfl (Nat.le_of_eq hlen) this, fun s hs => ?_⟩
    · rw [List.map_eq_nil_iff.1 h] at hlen; cases hlen
    · obtain ⟨y, hy, rfl⟩ := List.mem_map.1 hs
      exact G.idx_lt (G.sy hp hy).1
theorem rlen : (grG e ps lf nm).rules.length = ps.length + 1 := by simp [mkG, qsOf]
theorem gok : Gok (grG e ps lf nm) := by
  have hn := G.nsl
  have h6 := G.len6
  have hw := G.ri.wt21 G.ht
  refine ⟨Nat.succ_pos _, by rw [G.rlen]; exact li1 [_] ⟨0, .a (.v 0) (.n 1), .n 7⟩ ⟨0, .v 0, .n 6⟩ rfl h6, Nat.le_trans hn.1 (by decide), ?_, ?_, fun i l w h => ?_⟩
  · refine Nat.le_trans (Nat.le_of_eq (mkG_its ..)) ?_
    rw [qs_sum G.eok, qs_len]; exact li2 [_, _] ⟨0, .a (.a (.n 3) (.v 0)) (.v 1), .n 60⟩ ⟨0, .v 1, .n 6⟩ ⟨0, .v 0, .n 21⟩ rfl h6 hw
  · have : ∀ l : Qs, (l.map ((fun r : Nat × List Nat => r.2.length) ∘ fun p : String × List String => ((nsOf lf nm).idxOf p.1, p.2.map (nsOf lf nm).idxOf))).sum = (l.map fun p => p.2.length).sum := fun l => by
      congr 1; exact List.map_congr_left fun p z0 => by simp
    simp only [mkG, List.map_cons, List.sum_cons, List.map_map, List.length_cons, List.length_nil]
    rw [this, qs_sum G.eok]; exact li1 [_] ⟨0, .a (.n 2) (.v 0), .n 23⟩ ⟨0, .v 0, .n 21⟩ rfl hw
  · have hO := G.rule h; have h2 := hO.2.1; have h3 := hO.2.2.1; have h5 := hO.2.2.2.2; clear hO
    exact ⟨h2, h3, h5⟩
theorem mki {i j : Nat} (hi : i < ps.length) (hj : j < ps.length) (h : (nsOf lf nm).idxOf (mk i) = (nsOf lf nm).idxOf (mk j)) : i = j := by
  have h6 := G.len6
  exact congrArg Fin.val (mk_inj ⟨i, by exact Nat.le_trans hi h6⟩ ⟨j, by exact Nat.le_trans hj h6⟩ (idx_inj (G.mk_ns hi) h))
end GG
noncomputable abbrev eA (w : List String) (m : String) : List String := m :: w.reverse
noncomputable abbrev eB (w : List String) (m : String) : List String := w ++ [m]
theorem eA_ok : Eok eA := ⟨fun w m x => by simp [eA, or_comm], fun w m => by simp [eA]⟩
theorem eB_ok : Eok eB := ⟨fun w m x => by simp [eB], fun w m => by simp [eB]⟩
noncomputable abbrev Sx (lf nm : List String) : Nat := (nsOf lf nm).idxOf "S"
theorem GG.ahead (G : GG eA t ps lf nm) : Ahead (grG eA ps lf nm) := by
  have hn := G.nsl
  have h6 := G.len6
  refine ⟨⟨_, G.gt G.s_lf, rfl⟩, by rw [G.rlen]; exact li1 [_] ⟨0, .a (.v 0) (.n 1), .n 7⟩ ⟨0, .v 0, .n 6⟩ rfl h6, Nat.le_trans hn.1 (by decide), G.pos, hn.2.1, fun i l w h => G.rule h, fun i l w hi h => ?_, fun i j l l' m v v' hi hj h h' => ?_⟩
  · cases i with
    | zero => exact absurd hi (by decide)
    | succ i =>
      obtain ⟨p, hO⟩ := G.rul.1 h; have hp := hO.1; have h := hO.2; clear hO
      cases h
      exact ⟨G.gt (G.p_lf (List.mem_of_getElem? hp)), _, _, rfl, G.lt (G.mk_nm (List.getElem?_eq_some_iff.1 hp).1)⟩
  · cases i with
    | zero => exact absurd hi (by decide)
    | succ i =>
      cases j with
      | zero => exact absurd hj (by decide)
      | succ j =>
        obtain ⟨p, hO⟩ := G.rul.1 h; have hp := hO.1; have h := hO.2; clear hO
        obtain ⟨p', hO⟩ := G.rul.1 h'; have hp' := hO.1; have h' := hO.2; clear hO
        cases h
        simp only [eA, List.map_cons, Prod.mk.injEq, List.cons.injEq] at h'
        rw [G.mki (List.getElem?_eq_some_iff.1 hp).1 (List.getElem?_eq_some_iff.1 hp').1 h'.2.1]
theorem GG.in0 (G : GG e t ps lf nm) {i l : Nat} {w : List Nat} (hi : 1 ≤ i) (h : (grG e ps lf nm).rules[i]? = some (l, w)) : ∀ x ∈ w, x ≠ 0 ∧ x ≠ (grG e ps lf nm).tc := fun x hx => by
  cases i with
  | zero => exact absurd hi (by decide)
  | succ i =>
    obtain ⟨p, hO⟩ := G.rul.1 h; have hp := hO.1; have h := hO.2; clear hO
    cases h
    obtain ⟨y, hy, rfl⟩ := List.mem_map.1 hx
    exact (G.sy hp hy).2
theorem GG.bhd (G : GG eB t ps lf nm) : Bhd (grG eB ps lf nm) (Sx lf nm) := by
  refine ⟨rfl, G.gt G.s_lf, G.pos, fun i l w hi h => ?_, fun i d j l m v hj h h' => ?_⟩
  · have h0 := G.in0 hi h
    cases i with
    | zero => exact absurd hi (by decide)
    | succ i =>
      obtain ⟨p, hO⟩ := G.rul.1 h; have hp := hO.1; have h := hO.2; clear hO
      cases h
      exact ⟨G.gt (G.p_lf (List.mem_of_getElem? hp)), _, _, List.map_append .., G.lt (G.mk_nm (List.getElem?_eq_some_iff.1 hp).1), h0⟩
  · cases j with
    | zero => exact absurd hj (by decide)
    | succ j =>
      obtain ⟨p, hO⟩ := G.rul.1 h; have hp := hO.1; have h := hO.2; clear hO
      have hj := (List.getElem?_eq_some_iff.1 hp).1
      have hm := G.mk_nm hj
      simp only [eB, List.map_append, List.map_cons, List.map_nil, Prod.mk.injEq, List.append_singleton_inj] at h
      obtain ⟨rfl, rfl, rfl⟩ := h
      rw [List.length_map]
      obtain ⟨l', w', hO⟩ := aft_some h'; have h1 := hO.1; have h2 := hO.2; clear hO
      cases i with
      | zero =>
        cases h1
        exfalso
        match d, h2 with
        | 0, h2 => exact absurd (Option.some.inj h2) (Nat.ne_of_gt (Nat.lt_trans (G.lt hm) (G.gt G.s_lf)))
        | 1, h2 => exact (G.sy hp ((eB_ok.mem _ _ _).2 (.inr rfl))).2.1 (Option.some.inj h2).symm
        | d + 2, h2 => cases h2
      | succ i =>
        obtain ⟨p', hO⟩ := G.rul.1 h1; have hp' := hO.1; have h1 := hO.2; clear hO
        cases h1
        rw [List.getElem?_map] at h2
        obtain ⟨y, hO⟩ := Option.map_eq_some_iff.1 h2; have h3 := hO.1; have h4 := hO.2; clear hO
        have hy := idx_inj (G.sy hp' (List.mem_of_getElem? h3)).1 h4
        subst hy
        have h6 := G.len6
        by_cases hd : d < p'.2.length
        · rw [eB, List.getElem?_append_left hd] at h3
          have := ab_sub ((G.ri.ok p' (List.mem_of_getElem? hp')).2 _ (List.mem_of_getElem? h3))
          exact absurd (List.mem_append_right ["$end", "error", "$undefined", "$accept"] this) (mk_out ⟨j, by exact Nat.le_trans hj h6⟩)
        · rw [eB, List.getElem?_append_right (by exact (Nat.le_of_not_lt hd))] at h3
          have hd2 := (List.getElem?_eq_some_iff.1 h3).1
          simp only [List.length_singleton] at hd2
          have hd3 : d = p'.2.length := by exact Nat.le_antisymm (li2 [_, _, _] ⟨0, .v 0, .v 1⟩ ⟨0, .a (.v 2) (.n 1), .n 1⟩ ⟨0, .v 0, .a (.v 2) (.v 1)⟩ rfl hd2 (sb1 _ _)) ((Nat.le_of_not_lt hd))
          have h5 := List.mem_singleton.1 (List.mem_of_getElem? h3)
          have := mk_inj ⟨j, by exact Nat.le_trans hj h6⟩ ⟨i, by have := (List.getElem?_eq_some_iff.1 hp').1; exact Nat.le_trans this h6⟩ h5
          cases congrArg Fin.val this
          rw [hp] at hp'; cases hp'
          exact ⟨rfl, hd3⟩
end
noncomputable def fS (lf nm : List String) (x : String) : Int := if x ∈ nsOf lf nm then ((nsOf lf nm).idxOf x : Nat) else -1
section
variable {e : List String → String → List String} {t : Nat} {ps : Ps} {lf nm : List String}
theorem fS_in {x} (h : x ∈ nsOf lf nm) : fS lf nm x = ((nsOf lf nm).idxOf x : Nat) := if_pos h
theorem fS_map {l : List String} (h : ∀ x ∈ l, x ∈ nsOf lf nm) : l.map (fS lf nm) = nz (l.map (nsOf lf nm).idxOf) := by
  rw [nz, List.map_map]
  exact List.map_congr_left fun x hx => fS_in (h x hx)
theorem fS_inj {p s : String} (hp : p ∈ nsOf lf nm) (h : fS lf nm s = fS lf nm p) : s = p := by
  rw [fS_in hp, fS] at h
  split at h
  · next hs => exact idx_inj hs (Int.ofNat.inj h)
  · omega
theorem GG.all_ns (G : GG e t ps lf nm) : ∀ x ∈ prodS 0 ps, x.2.1 ∈ nsOf lf nm ∧ ∀ y ∈ x.2.2, y ∈ nsOf lf nm := fun x hx => by
  obtain ⟨i, hi⟩ := List.getElem?_of_mem hx
  rw [prodS_get, Nat.zero_add] at hi
  obtain ⟨p, h1, rfl⟩ := Option.map_eq_some_iff.1 hi
  exact ⟨G.mk_ns (List.getElem?_eq_some_iff.1 h1).1, fun y hy => G.y_ns (List.mem_of_getElem? h1) (List.mem_reverse.1 hy)⟩
theorem GG.frm (G : GG e t ps lf nm) (row : List String) : fr (mapP (fS lf nm) (prodS 0 ps)) [((Sx lf nm : Nat) : Int)] (row.map (fS lf nm)) 0 = fr (prodS 0 ps) ["S"] row 0 := by
  have hS : "S" ∈ nsOf lf nm := List.mem_append_right _ G.s_lf
  have := fr_map (f := fS lf nm) (N := fun x => x ∈ nsOf lf nm) (fun p s hp h => fS_inj hp h) G.all_ns row ["S"] 0 (fun p hp => by rw [List.mem_singleton.1 hp]; exact hS)
  rw [← this, List.map_singleton, fS_in hS]
theorem GG.prodA (G : GG eA t ps lf nm) : prodsA (grG eA ps lf nm) = mapP (fS lf nm) (prodS 0 ps) := by
  refine List.ext_getElem? fun i => ?_
  rw [mapP, List.getElem?_map, prodS_get, Nat.zero_add]
  show (List.map _ (List.map _ (qsOf eA ps)))[i]? = _
  rw [List.getElem?_map, List.getElem?_map]
  cases h : (qsOf eA ps)[i]? with
  | none =>
    have : ps[i]? = none := by
      rw [List.getElem?_eq_none_iff] at h ⊢
      rwa [qs_len] at h
    rw [this]; rfl
  | some q =>
    obtain ⟨p, hp, rfl⟩ := qs_at.1 h
    have hm := List.mem_of_getElem? hp
    rw [hp]
    simp only [Option.map_some, eA, List.map_cons, List.headD_cons, List.drop_succ_cons, List.drop_zero]
    rw [fS_in (G.p_ns hm), fS_in (G.mk_ns (List.getElem?_eq_some_iff.1 hp).1), fS_map fun x hx => G.y_ns hm (List.mem_reverse.1 hx)]
noncomputable abbrev PB (ps : Ps) (lf nm : List String) : Prods Int := mapP (fS lf nm) (prodS 0 ps)
theorem GG.pb (G : GG eB t ps lf nm) {i : Nat} {x} : (PB ps lf nm)[i]? = some x ↔ ∃ l m w, (grG eB ps lf nm).rules[i + 1]? = some (l, w ++ [m]) ∧ x = ((l : Int), (m : Int), nz w.reverse) ∧ m = (nsOf lf nm).idxOf (mk i) ∧ i < ps.length := by
  show ((prodS 0 ps).map _)[i]? = some x ↔ _
  rw [List.getElem?_map, prodS_get, Nat.zero_add, Option.map_map, Option.map_eq_some_iff]
  constructor
  · rintro ⟨p, hp, rfl⟩
    have hm := List.mem_of_getElem? hp
    have hi := (List.getElem?_eq_some_iff.1 hp).1
    refine ⟨_, _, p.2.map (nsOf lf nm).idxOf, G.rul.2 ⟨p, hp, by rw [List.map_append]; rfl⟩, ?_, rfl, hi⟩
    simp only [Function.comp_apply]
    rw [fS_in (G.p_ns hm), fS_in (G.mk_ns hi), fS_map fun x hx => G.y_ns hm (List.mem_reverse.1 hx), List.map_reverse]
  · rintro ⟨l, m, w, h1, rfl, rfl, hi⟩
    obtain ⟨p, hO⟩ := G.rul.1 h1; have hp := hO.1; have h := hO.2; clear hO
    have hm := List.mem_of_getElem? hp
    simp only [eB, List.map_append, List.map_cons, List.map_nil, Prod.mk.injEq, List.append_singleton_inj] at h
    obtain ⟨rfl, rfl, _⟩ := h
    refine ⟨p, hp, ?_⟩
    simp only [Function.comp_apply]
    rw [fS_in (G.p_ns hm), fS_in (G.mk_ns hi), fS_map fun x hx => G.y_ns hm (List.mem_reverse.1 hx), List.map_reverse]
theorem GG.toD (G : GG eB t ps lf nm) : ∀ {u : List Int} {p : List Nat} {n : Nat} {ts}, (∀ v ∈ u, v = -1 ∨ ∃ x : Nat, v = x ∧ x < (grG eB ps lf nm).tc) → fr (PB ps lf nm) (nz p) u n = .inr ts → D (grG eB ps lf nm) p u ts
  | [], [], n, ts, _, h => by rw [nz_nil, fr_end] at h; cases h; exact .nil
  | [], _ :: _, n, ts, _, h => by rw [nz_cons, fr_out] at h; cases h
  | _ :: _, [], n, ts, _, h => by rw [nz_nil, fr_rest] at h; cases h
  | s :: u, p :: pl, n, ts, hu, h => by
    have hu' := fun v hv => hu v (List.mem_cons_of_mem _ hv)
    rw [nz_cons] at h
    cases hp : pick (PB ps lf nm) 1 (p : Int) s with
    | some x =>
      induction x with | mk i v => ?_
      rw [fr_some hp] at h
      have hO := pick_some hp; have h1 := hO.1; have h2 := hO.2; clear hO
      obtain ⟨l, m, w, hO⟩ := G.pb.1 h2; have h3 := hO.1; have h4 := hO.2.1; clear hO
      simp only [Prod.mk.injEq] at h4
      obtain ⟨h5, rfl, rfl⟩ := h4
      cases Int.ofNat.inj h5
      rw [show i - 1 + 1 = i by exact Nat.le_antisymm ((sb3 (h1))) ((sb1 _ _))] at h3
      rw [← nz_app] at h
      cases hr : fr (PB ps lf nm) (nz (w.reverse ++ pl)) u (n + 1) with
      | inl k => rw [hr] at h; cases h
      | inr vs =>
        rw [hr] at h; cases h
        exact .n h1 h3 (G.toD hu' hr)
    | none =>
      by_cases e : s = p
      · rw [fr_same hp e] at h
        subst e
        have := hu (p : Int) (List.mem_cons_self ..)
        refine .t ?_ (G.toD hu' h)
        rcases this with h | ⟨x, h, h'⟩
        · omega
        · cases Int.ofNat.inj h; exact h'
      · rw [fr_other hp e] at h; cases h
theorem GG.ofD (G : GG eB t ps lf nm) {p u ts} (h : D (grG eB ps lf nm) p u ts) : ∀ n, fr (PB ps lf nm) (nz p) u n = .inr ts := by
  induction h with
  | nil => intro n; rw [nz_nil, fr_end]
  | @t s p u ts hs _ ih =>
    intro n
    rw [nz_cons]
    cases hp : pick (PB ps lf nm) 1 (s : Int) (s : Int) with
    | none => rw [fr_same hp rfl, ih]
    | some x =>
      induction x with | mk i v => ?_
      have hO := pick_some hp; have h1 := hO.1; have h2 := hO.2; clear hO
      obtain ⟨l, m, w, hO⟩ := G.pb.1 h2; have h3 := hO.1; have h4 := hO.2.1; clear hO
      simp only [Prod.mk.injEq] at h4
      cases Int.ofNat.inj h4.1
      exact absurd (G.bhd.rule _ _ _ (Nat.succ_pos _) h3).1 (by exact Nat.not_lt_of_le (li1 [_, _] ⟨0, .v 0, .v 1⟩ ⟨0, .a (.v 0) (.n 1), .v 1⟩ rfl hs))
  | @n l m i v p u ts h1 hr _ ih =>
    intro n
    rw [nz_cons]
    cases i with
    | zero => exact absurd h1 (by decide)
    | succ i =>
      have hB : (PB ps lf nm)[i]? = some ((l : Int), (m : Int), nz v.reverse) := by
        obtain ⟨p', hO⟩ := G.rul.1 hr; have hp' := hO.1; have h' := hO.2; clear hO
        simp only [eB, List.map_append, List.map_cons, List.map_nil, Prod.mk.injEq, List.append_singleton_inj] at h'
        exact G.pb.2 ⟨l, m, v, hr, rfl, h'.2.2, (List.getElem?_eq_some_iff.1 hp').1⟩
      have hk := pick_first (n := 1) hB fun j hj v' h2 => by
        obtain ⟨l', m', w', hO⟩ := G.pb.1 h2; have h3 := hO.1; have h4 := hO.2.1; have h5 := hO.2.2.1; have h6 := hO.2.2.2; clear hO
        obtain ⟨_, _, _, hO⟩ := G.pb.1 hB; have h8 := hO.2.1; have h9 := hO.2.2.1; have h10 := hO.2.2.2; clear hO
        simp only [Prod.mk.injEq] at h4 h8
        have := Int.ofNat.inj h4.2.1
        have := Int.ofNat.inj h8.2.1
        have := G.mki h6 h10 (by rw [← h5, ← h9]; omega)
        omega
      rw [fr_some hk, ← nz_app, ih, Nat.add_comm 1 i]; rfl
end
section
variable {e : List String → String → List String} {t : Nat} {ps : Ps} {lf nm : List String}
theorem GG.sg_ok (G : GG e t ps lf nm) {y} (h : y ∈ sg ps.length) : fS lf nm y = -1 ∨ ∃ x : Nat, fS lf nm y = x ∧ x < nm.length ∧ x ≠ 0 := by
  by_cases hy : y ∈ nsOf lf nm
  · have h6 := G.len6
    have hs : y ∉ ["$end", "$accept", "S", "T", "U"] := by
      rcases List.mem_append.1 h with h | h
      · exact (by decide : ∀ y ∈ ["a", "b"], y ∉ ["$end", "$accept", "S", "T", "U"]) y h
      · obtain ⟨i, hi, rfl⟩ := List.mem_map.1 h
        have hi := List.mem_range.1 hi
        intro h2
        refine mk_out ⟨i, by exact Nat.le_trans hi h6⟩ ?_
        exact (by decide : ∀ y ∈ ["$end", "$accept", "S", "T", "U"], y ∈ ["$end", "error", "$undefined", "$accept", "a", "b", "S", "T", "U"]) _ h2
    refine .inr ⟨_, fS_in hy, ?_, G.ne0 hy fun e => hs (by rw [e]; decide)⟩
    rcases List.mem_append.1 hy with h2 | h2
    · rcases List.mem_append.1 h2 with h2 | h2
      · exact G.lt h2
      · exact absurd (by rw [List.mem_singleton.1 h2]; decide) hs
    · exact absurd (List.mem_append_right ["$end", "$accept"] (nm_sub (G.lf_nm h2))) hs
  · exact .inl (if_neg hy)
end
inductive INu (H : Hp) (lf nm row : List String) (k : Nat) : List V → Hp → Prop
  | mk : INu H lf nm row k (inV ((row.take k).map (fS lf nm))) H
section
variable {H : Hp} {Q : VK} {k : Nat} {C : CallW} {m : Loc} {T F : HK} {t : Nat} {ps : Ps} {lf nm lf' nm' : List String} {ss : List St} {ks : KS} {row : List String}
theorem num_spec {e} {y : String} (G : GG e t ps lf nm) (q : Q (.int (fS lf nm y)) H) : wF prog (k + 1) .Grammar_number [gV (grG e ps lf nm), .str y] H Q :=
  number_spec (grG e ps lf nm) (Nat.le_trans G.nsl.1 (by decide)) (fun h => by rw [fS_in h] at q; exact q) fun h => by rw [fS, if_neg (show y ∉ nsOf lf nm from h)] at q; exact q
theorem c_neT {a : V} (h : Plain a) (q : F H) : cK2 .ne a T F a H := ⟨true, .same h, nofun, fun z0 => q⟩
theorem c_eqT {a : V} (h : Plain a) (q : T H) : cK2 .eq a T F a H := ⟨true, .same h, fun z0 => q, nofun⟩
theorem INu.next {H' : Hp} {i acc y} (h : INu H lf nm row i acc H') (hy : row[i]? = some y) : INu H lf nm row (i + 1) (acc ++ [.int (fS lf nm y)]) H' := by
  cases h
  have := INu.mk (H := H) (lf := lf) (nm := nm) (row := row) (k := i + 1)
  rwa [take_next hy, List.map_append, inV, List.map_append] at this
theorem plain_nats (l : List Nat) : Flat (.lst (nats l)) := ints_nats l ▸ .ints _
structure RR (t : Nat) (ps : Ps) (lf nm lf' nm' : List String) (ss : List St) (ks : KS) (row : List String) : Prop where
  G : GG eB t ps lf nm
  G' : GG eA t ps lf' nm'
  A : Aut (grG eB ps lf nm) ss
  hk : ∀ x b j, ((x, b), j) ∈ ks ↔ Ent (grG eA ps lf' nm') x b j
  hn : (ks.map (·.1)).Nodup
  hr : ∀ y ∈ row, y ∈ sg ps.length
  hl : row.length ≤ 61
noncomputable abbrev irL (ps : Ps) (lf nm lf' nm' : List String) (ss : List St) (ks : KS) (row : List String) (a5 a6 a7 : Option V) : Loc := [some (auV (grG eB ps lf nm) ss), some (gV (grG eA ps lf' nm')), some (.dcT (tabV ks)), some (.lst (psV ps)), some (.lst (txV row)), a5, a6, a7, none, none, none, none, none]
theorem led_eval (r : RR t ps lf nm lf' nm' ss ks row) {a5 a6 : Option V} {x} (hx : fr (prodS 0 ps) ["S"] row.reverse 0 = x)
    (q : Q (match x with | .inl n => .tup [.bool false, .int (n : Nat)] | .inr us => .tup [.bool true, .lst (nats (0 :: us))]) H) :
    wE (wF prog (k + 3)) (.call .led_by (.cons (.loc 1) (.cons (.loc 2) (.cons (.comp (.meth (.loc 1) "number" (.cons (.loc 12) .nil)) (.one 12) (.val (.rev (.loc 4)))) .nil)))) (irL ps lf nm lf' nm' ss ks row a5 a6 none) H Q := by
  have G' := r.G'
  have hl := r.hl
  have hw : ∀ s ∈ row.reverse.map (fS lf' nm'), s ≠ 0 ∧ s < (grG eA ps lf' nm').tc := fun s hs => by
    obtain ⟨y, hy, rfl⟩ := List.mem_map.1 hs
    rcases G'.sg_ok (r.hr y (List.mem_reverse.1 hy)) with h | ⟨x, h, h1, h2⟩
    · rw [h]; exact ⟨by decide, Int.lt_of_lt_of_le (by decide : (-1 : Int) < 0) (Int.natCast_nonneg _)⟩
    · rw [h]; exact ⟨by omega, Int.ofNat_lt.2 h1⟩
  have hf := G'.frm row.reverse
  rw [← G'.prodA, hx] at hf
  trivial
  refine .inr ⟨_, rfl, frz (by rw [List.length_reverse, List.length_map]; simp only [big]; exact li1 [_] ⟨0, .v 0, .n 16000000⟩ ⟨0, .v 0, .n 61⟩ rfl hl) ?_⟩
  rw [← List.map_reverse]
  refine co_l (INu H lf' nm' row.reverse) .mk ?_ (by rw [List.length_map, List.length_reverse]; simp only [big]; exact li1 [_] ⟨0, .v 0, .n 16000000⟩ ⟨0, .v 0, .n 61⟩ rfl hl) ?_
  · rintro i v acc H2 hv h
    obtain ⟨y, hy, rfl⟩ := strs_get hv
    trivial
    exact num_spec G' (h.next hy)
  · rintro _ _ ⟨⟩
    rw [List.length_map, List.take_length]
    trivial
    refine led_by_spec G'.ahead (fun i l w hi h => G'.in0 hi h) (S := Sx lf' nm') rfl ⟨Nat.ne_of_gt (Nat.lt_of_le_of_lt (Nat.zero_le _) (G'.gt G'.s_lf)), G'.gt G'.s_lf⟩ r.hk r.hn hw (by rw [List.length_map, List.length_reverse]; exact li1 [_] ⟨0, .v 0, .n 100⟩ ⟨0, .v 0, .n 61⟩ rfl hl) (fun n h => ?_) fun us h => ?_
    · rw [hf] at h; cases h; exact q
    · rw [hf] at h; cases h; exact q
theorem left_eval (r : RR t ps lf nm lf' nm' ss ks row) {a5 a6 : Option V} {x} (hx : fr (prodS 0 ps) ["S"] row.reverse 0 = x)
    (q : Q (match x with | .inl _ => .none | .inr us => .lst (nats us.reverse)) H) :
    wE (wF prog (k + 3)) (.call .law_from_left (.cons (.loc 0) (.cons (.bin .add (.loc 7) (.lstD (.cons (.cst (.int 0)) .nil))) .nil))) (irL ps lf nm lf' nm' ss ks row a5 a6 (some (.lst (inV (row.map (fS lf nm)))))) H Q := by
  have G := r.G
  have hl := r.hl
  have hw2 : ∀ v ∈ row.map (fS lf nm), v = -1 ∨ ∃ x : Nat, v = x ∧ x < (grG eB ps lf nm).tc := fun v hv => by
    obtain ⟨y, hy, rfl⟩ := List.mem_map.1 hv
    exact (G.sg_ok (r.hr y hy)).imp id fun ⟨x, h, h1, _⟩ => ⟨x, h, h1⟩
  have hf := G.frm row.reverse
  rw [hx, List.map_reverse] at hf
  trivial
  refine ls_frz rfl (b_addl rfl rfl (frz (by rw [List.length_append, List.length_map, List.length_map]; simp only [List.length_cons, List.length_nil, big]; exact li1 [_] ⟨0, .a (.v 0) (.n 1), .n 16000000⟩ ⟨0, .v 0, .n 61⟩ rfl hl) ?_))
  rw [show inV (row.map (fS lf nm)) ++ [V.int 0] = inV (row.map (fS lf nm) ++ [0]) by simp [inV]]
  trivial
  refine from_left_spec r.A G.gok G.bhd hw2 (by rw [List.length_map]; exact li1 [_] ⟨0, .v 0, .n 100⟩ ⟨0, .v 0, .n 61⟩ rfl hl) (fun us h => ?_) fun h => ?_
  · have h := G.ofD h 0
    rw [show nz [Sx lf nm] = [((Sx lf nm : Nat) : Int)] from rfl, hf] at h
    subst h; exact q
  · cases x with
    | inl n => exact q
    | inr us => exact absurd (G.toD (p := [Sx lf nm]) (n := 0) (fun v hv => hw2 v (List.mem_reverse.1 hv)) hf) (h us)
theorem is_right_spec (r : RR t ps lf nm lf' nm' ss ks row) (q : Q (.bool true) H) :
    wF prog (k + 4) .law_is_right [auV (grG eB ps lf nm) ss, gV (grG eA ps lf' nm'), .dcT (tabV ks), .lst (psV ps), .lst (txV row)] H Q := by
  refine wF_mk (m := irL ps lf nm lf' nm' ss ks row none none none) rfl rfl ?_
  unfold ir_law_is_right
  have hl := r.hl
  have num : ∀ {S : SK} {a5 a6 : Option V} {ss' : Ss}, wSs (wF prog (k + 3)) ss' (irL ps lf nm lf' nm' ss ks row a5 a6 (some (.lst (inV (row.map (fS lf nm)))))) H S →
      wSs (wF prog (k + 3)) (.cons (.asg 7 (.comp (.meth (.attr (.loc 0) "grammar") "number" (.cons (.loc 12) .nil)) (.one 12) (.val (.loc 4)))) ss') (irL ps lf nm lf' nm' ss ks row a5 a6 none) H S := by
    intro S a5 a6 ss' q
    trivial
    refine co_l (INu H lf nm row) .mk ?_ (by rw [List.length_map]; simp only [big]; exact li1 [_] ⟨0, .v 0, .n 16000000⟩ ⟨0, .v 0, .n 61⟩ rfl hl) ?_
    · rintro i v acc H2 hv h
      obtain ⟨y, hy, rfl⟩ := strs_get hv
      trivial
      exact num_spec r.G (h.next hy)
    · rintro _ _ ⟨⟩
      rw [List.length_map, List.take_length]
      exact q
  trivial
  refine from_right_spec (r.G.ri.len r.G.ht) r.G.ri.le hl (fun n hx => ?_) fun us hul hx => ?_
  · refine at1 rfl ?_
    dsimp only [q_if, q_tcmp]
    refine led_eval r hx ?_
    trivial
    refine c_neT (.two (.bool _) (.int _)) ?_
    dsimp only [q_nsq]
    refine num ?_
    dsimp only [q_rrt, q_cmp]
    refine left_eval r hx ?_
    trivial
    refine c_eqT (.one .none) ?_
    exact keep q
  · refine at1 rfl ?_
    dsimp only [q_if, q_tcmp]
    refine led_eval r hx ?_
    trivial
    refine ls_frz rfl ?_
    trivial
    refine b_addl rfl rfl (frz (by rw [List.length_append, nats_len]; simp only [List.length_cons, List.length_nil, big]; exact li1 [_] ⟨0, .a (.n 1) (.v 0), .n 16000000⟩ ⟨0, .v 0, .n 61⟩ rfl hul) ?_)
    trivial
    refine c_neT (.two (.bool _) (plain_nats (0 :: us))) ?_
    dsimp only [q_nsq]
    refine num ?_
    dsimp only [q_rrt, q_cmp]
    refine left_eval r hx ?_
    trivial
    refine .inr ⟨_, rfl, frz (by rw [List.length_reverse, nats_len]; simp only [big]; exact li1 [_] ⟨0, .v 0, .n 16000000⟩ ⟨0, .v 0, .n 61⟩ rfl hul) ?_⟩
    rw [← List.map_reverse]
    exact c_eqT (.one (plain_nats us.reverse)) (keep q)
end
inductive IQs (H : Hp) (e : List String → String → List String) (ps : Ps) (k : Nat) : List V → Hp → Prop
  | mk : IQs H e ps k (qsV ((qsOf e ps).take k)) H
theorem IQs.next {H H' : Hp} {e ps i acc p} (h : IQs H e ps i acc H') (hp : ps[i]? = some p) : IQs H e ps (i + 1) (acc ++ [.tup [.str p.1, .lst (txV (e p.2 (Mine.Internal.mk i)))]]) H' := by
  cases h
  have := IQs.mk (H := H) (e := e) (ps := ps) (k := i + 1)
  rwa [take_next (qs_at.2 ⟨p, hp, rfl⟩), qsV, List.map_append] at this
section
variable {H : Hp} {Q : VK} {k : Nat} {C : CallW} {m : Loc} {t : Nat} {ps : Ps}
noncomputable abbrev mm3 (m : List (Option V)) (k : Nat) : V → Loc
  | .tup [a, b] => m ++ [some (.int (k : Int)), some a, some b]
  | _ => []
theorem qs_start (ht1 : 1 ≤ t) (ri : RI t ps t 0 "") (e) : ∃ q0 qr, qsOf e ps = ("S", q0) :: qr := by
  obtain ⟨q, r, h⟩ := ri.head (.inl ht1)
  refine ⟨e q (mk 0), (qsOf e ps).tail, ?_⟩
  rw [h]; rfl
theorem gg_spec {e} (he : Eok e) (ht1 : 1 ≤ t) (ht : t ≤ 3) (ri : RI t ps t 0 "") (q : ∀ lf nm, GG e t ps lf nm → Q (gV (grG e ps lf nm)) H) : wF prog (k + 3) .plain_grammar [.lst (qsV ((qsOf e ps).take ps.length))] H Q := by
  have h6 := ri.len ht
  rw [← qs_len (e := e), List.take_length]
  obtain ⟨q0, qr, h⟩ := qs_start ht1 ri e
  refine plain_spec h (fun p hp => ?_) (by rw [qs_len]; exact li1 [_] ⟨0, .v 0, .n 100⟩ ⟨0, .v 0, .n 6⟩ rfl h6) (by rw [qs_sum he]; exact Nat.le_trans (ri.wt21 ht) (by decide)) fun lf nm pg hl hn => q lf nm ⟨he, ht1, ht, ri, pg, hl, hn⟩
  obtain ⟨i, hi⟩ := List.getElem?_of_mem hp
  obtain ⟨p', h1, rfl⟩ := qs_at.1 hi
  exact (by decide : ∀ x ∈ ["S", "T", "U"], x.length = 1 ∧ x ≠ "error" ∧ x ∉ ["", "$", "'"]) _ (nm_sub (ri.ok p' (List.mem_of_getElem? h1)).1)
theorem law_spec {script : List Int} (hs : script.length ≤ 63) (q : Q (.bool true) H) : wF prog (k + 8) .law [.lst (inV script)] H Q := by
  refine wF_mk (m := [some (.lst (inV script)), none, none, none, none, none, none, none, none, none, none, none, none, none, none, none, none, none, none, none, none, none, none, none, none]) rfl rfl ?_
  unfold ir_law
  trivial
  refine pen_spec hs fun a n ha hn => ?_
  trivial
  refine law_rules_spec (Hp.set_same _ _ _) hn fun t ps n1 c1 ht1 ht ri hn1 hc1 => ?_
  rw [Hp.set_set]
  have h6 := ri.len ht
  have hpl : (psV ps).length = ps.length := List.length_map ..
  trivial
  refine co_e (mm3 [some (.lst (inV script)), some (.ref a), some (.lst (psV ps)), none, none, none, none, none, none, none, none, none, none, none, none, none, none, none, none, none, none, none]) (fun j u hu => by obtain ⟨p, hp, rfl⟩ := psV_get hu; rfl) (IQs (H.set a (penO n1 c1)) eB ps) .mk ?_ (by simp only [big]; exact li2 [_, _] ⟨0, .v 0, .n 16000000⟩ ⟨0, .v 1, .n 6⟩ ⟨0, .v 0, .v 1⟩ rfl h6 (Nat.le_of_eq hpl)) ?_
  · rintro i v acc H2 hv h
    obtain ⟨p, hp, rfl⟩ := psV_get hv
    have hi := (List.getElem?_eq_some_iff.1 hp).1
    have hw := ri.le p (List.mem_of_getElem? hp)
    dsimp only [mm3, List.cons_append, List.nil_append]
    trivial
    refine p_list rfl (frz (by rw [List.length_map]; simp only [big]; exact li1 [_] ⟨0, .v 0, .n 16000000⟩ ⟨0, .v 0, .n 3⟩ rfl hw) ?_)
    trivial
    refine p_str (by exact Int.natCast_nonneg _) (by exact Int.ofNat_lt.2 (li2 [_, _] ⟨0, .a (.a (.v 0) (.n 1)) (.n 1), .n 1000000⟩ ⟨0, .v 1, .n 6⟩ ⟨0, .a (.v 0) (.n 1), .v 1⟩ rfl h6 hi)) (b_mark (by exact Nat.le_trans hi h6) ?_)
    trivial
    refine ls_frz rfl (b_addl rfl rfl (frz (by rw [List.length_append, List.length_map]; simp only [List.length_cons, List.length_nil, big]; exact li1 [_] ⟨0, .a (.v 0) (.n 1), .n 16000000⟩ ⟨0, .v 0, .n 3⟩ rfl hw) ?_))
    trivial
    rw [strs_snoc]
    exact h.next hp
  rw [hpl]
  rintro _ _ ⟨⟩
  trivial
  refine gg_spec eB_ok ht1 ht ri fun lf nm G => ?_
  trivial
  refine co_e (mm3 [some (.lst (inV script)), some (.ref a), some (.lst (psV ps)), some (gV (grG eB ps lf nm)), none, none, none, none, none, none, none, none, none, none, none, none, none, none, none, none, none, none]) (fun j u hu => by obtain ⟨p, hp, rfl⟩ := psV_get hu; rfl) (IQs (H.set a (penO n1 c1)) eA ps) .mk ?_ (by simp only [big]; exact li2 [_, _] ⟨0, .v 0, .n 16000000⟩ ⟨0, .v 1, .n 6⟩ ⟨0, .v 0, .v 1⟩ rfl h6 (Nat.le_of_eq hpl)) ?_
  · rintro i v acc H2 hv h
    obtain ⟨p, hp, rfl⟩ := psV_get hv
    have hi := (List.getElem?_eq_some_iff.1 hp).1
    have hw := ri.le p (List.mem_of_getElem? hp)
    dsimp only [mm3, List.cons_append, List.nil_append]
    trivial
    refine p_str (by exact Int.natCast_nonneg _) (by exact Int.ofNat_lt.2 (li2 [_, _] ⟨0, .a (.a (.v 0) (.n 1)) (.n 1), .n 1000000⟩ ⟨0, .v 1, .n 6⟩ ⟨0, .a (.v 0) (.n 1), .v 1⟩ rfl h6 hi)) (b_mark (by exact Nat.le_trans hi h6) ?_)
    trivial
    refine ls_frz rfl ?_
    trivial
    refine .inl ⟨_, rfl, ?_⟩
    trivial
    refine p_list rfl (frz (by rw [List.length_reverse, List.length_map]; simp only [big]; exact li1 [_] ⟨0, .v 0, .n 16000000⟩ ⟨0, .v 0, .n 3⟩ rfl hw) ?_)
    refine b_addl rfl rfl (frz (by rw [List.length_append, List.length_reverse, List.length_map]; simp only [List.length_cons, List.length_nil, big]; exact li1 [_] ⟨0, .a (.n 1) (.v 0), .n 16000000⟩ ⟨0, .v 0, .n 3⟩ rfl hw) ?_)
    trivial
    rw [← List.map_reverse]
    exact h.next hp
  rw [hpl]
  rintro _ _ ⟨⟩
  trivial
  refine gg_spec eA_ok ht1 ht ri fun lf' nm' G' => ?_
  trivial
  refine build_spec G.gok fun ss A hsl => ?_
  trivial
  refine predict_spec G'.ahead (Nat.le_trans G'.nsl.2.2 (by decide)) fun ks hk hkn hkl => ?_
  trivial
  refine at1 rfl ?_
  trivial
  refine is_lr_zero_spec hsl (Aut.consistent A G.gok G.bhd) ?_
  trivial
  refine choices_spec hkn hkl ?_
  trivial
  refine ls_frz rfl (c_ne0 rfl rfl (fun h => absurd rfl h) fun z0 => ?_)
  trivial
  refine is_ll_one_spec G'.ahead (Nat.le_trans G'.nsl.2.2 (by decide)) ?_
  trivial
  refine law_row_spec ht ht1 ri (Hp.set_same _ _ _) hn1 hc1 fun row n2 c2 hr hrl hrm hn2 hc2 => ?_
  rw [Hp.set_set]
  trivial
  refine law_bent_spec ht ri (Hp.set_same _ _ _) hn2 hc2 hr hrl hrm fun row' n3 c3 hrl' hrm' => ?_
  rw [Hp.set_set]
  trivial
  refine co_t (fun k acc H' => H' = H.set a (penO n3 c3) ∧ acc = List.replicate k (.bool true)) ⟨rfl, rfl⟩ ?_ (Nat.le_of_ble_eq_true rfl) ?_
  · rintro i v _ _ hv ⟨rfl, rfl⟩
    have : ∃ r, v = .lst (txV r) ∧ r.length ≤ 61 ∧ ∀ y ∈ r, y ∈ sg ps.length := by
      match i, hv with
      | 0, hv => cases hv; exact ⟨row, rfl, by exact li1 [_] ⟨0, .v 0, .n 61⟩ ⟨0, .v 0, .n 30⟩ rfl hrl, hrm⟩
      | 1, hv => cases hv; exact ⟨row', rfl, hrl', hrm'⟩
    obtain ⟨r, rfl, h1, h2⟩ := this
    trivial
    refine is_right_spec ⟨G, G', A, hk, hkn, h2, h1⟩ ?_
    exact ⟨rfl, (List.replicate_succ' ..).symm⟩
  · rintro _ _ ⟨rfl, rfl⟩
    trivial
    exact PrimW.all (l := [true, true]) rfl (drop (.new ha _) .rfl q)
end
end Mine.Internal
set_option maxRecDepth 100000
set_option linter.unusedVariables false
namespace Mine.Internal
open PySem PySem.W PyProof.Rows
noncomputable def faT : Fid → Nat
  | .bits => 68
  | .Rule_init => 84
  | .Grammar_init => 103
  | .Grammar_symbol_count => 110
  | .Grammar_is_terminal => 117
  | .Grammar_number => 131
  | .Grammar_rules_of => 138
  | .Grammar_item => 145
  | .Grammar_rule_of => 152
  | .Grammar_dot_of => 159
  | .Grammar_after => 166
  | .last_terminal => 180
  | .plain_grammar => 186
  | .spread => 191
  | .nullable => 198
  | .first_of => 205
  | .first_masks => 212
  | .follow_masks => 219
  | .transitive => 226
  | .predict => 233
  | .choices_of => 238
  | .ll_clashes => 245
  | .is_ll_one => 252
  | .led_by => 259
  | .LrState_init => 273
  | .LrState_goto => 280
  | .LrState_is_consistent => 287
  | .Closer_init => 308
  | .Closer_wanted => 315
  | .Closer_added => 322
  | .Closer_close => 329
  | .advanced => 343
  | .kernels_behind => 350
  | .complete_rules => 357
  | .Automaton_init => 371
  | .Automaton_goto => 378
  | .Builder_init => 427
  | .Builder_number_of => 434
  | .Builder_expand => 441
  | .Builder_built => 448
  | .build => 462
  | .inadequate_states => 467
  | .is_lr_zero => 474
  | .law_pen => 481
  | .law_draw => 488
  | .law_rules => 493
  | .law_row => 498
  | .law_bent => 503
  | .law_from_right => 508
  | .law_from_left => 515
  | .law_is_right => 520
  | .law => 525
noncomputable def caT : Cid → Nat
  | .Rule => 87 | .Grammar => 169 | .LrState => 290 | .Closer => 332 | .Automaton => 409 | .Builder => 451
noncomputable def fids : List Fid := [.bits, .last_terminal, .plain_grammar, .spread, .nullable, .first_of, .first_masks, .follow_masks, .transitive, .predict, .choices_of, .ll_clashes, .is_ll_one, .led_by, .advanced, .kernels_behind, .complete_rules, .build, .inadequate_states, .is_lr_zero, .law_pen, .law_draw, .law_rules, .law_row, .law_bent, .law_from_right, .law_from_left, .law_is_right, .law, .Rule_init, .Grammar_init, .Grammar_symbol_count, .Grammar_is_terminal, .Grammar_number, .Grammar_rules_of, .Grammar_item, .Grammar_rule_of, .Grammar_dot_of, .Grammar_after, .LrState_init, .LrState_goto, .LrState_is_consistent, .Closer_init, .Closer_wanted, .Closer_added, .Closer_close, .Automaton_init, .Automaton_goto, .Builder_init, .Builder_number_of, .Builder_expand, .Builder_built]
theorem fids_at (f : Fid) : fids[f.ctorIdx]? = some f := by cases f <;> rfl
theorem fids_mem (f : Fid) : f ∈ fids := List.mem_of_getElem? (fids_at f)
noncomputable def cids : List Cid := [.Rule, .Grammar, .LrState, .Closer, .Automaton, .Builder]
theorem cids_mem (c : Cid) : c ∈ cids := List.mem_of_getElem? (i := c.ctorIdx) (by cases c <;> rfl)
noncomputable def fdAt (K : Frag) (a : Nat) : FuncData := match K.lookup a with
  | some ⟨_, _, .func fd, _⟩ => fd
  | _ => default
noncomputable def bodyOf (fd : FuncData) : List PySem.Stmt := match fd.body with
  | .stmts b => b
  | _ => []
noncomputable def isStmts (b : FuncBody) : Bool := match b with
  | .stmts _ => true
  | _ => false
theorem bodyOf_eq {fd : FuncData} (h : isStmts fd.body = true) : fd.body = .stmts (bodyOf fd) := by
  unfold bodyOf
  cases e : fd.body with
  | stmts b => rfl
  | _ => rw [e] at h; cases h
set_option tactic.hygienic true in
theorem fdAt_of {K : Frag} {a : Nat} (h : fnIn K a = true) : ∃ o, K.lookup a = some o ∧ o.data = .func (fdAt K a) := by
  unfold fnIn at h
  split at h
  · rename_i e; exact ⟨_, e, by unfold fdAt; rw [e]⟩
  · cases h
noncomputable def parsOf (fd : FuncData) : List Str := fd.params.args.map (·.arg)
noncomputable def parOk1 (fd : FuncData) (i : Nat) (x : Str) : Bool := posIn x fd.scope.names 0 == some (i, .local) || posIn x fd.scope.names 0 == some (i, .cell)
noncomputable def parOk (fd : FuncData) : Bool := (parsOf fd).zipIdx.all fun x => parOk1 fd x.2 x.1
theorem parOk_of {fd : FuncData} (h : parOk fd = true) (i : Nat) (x : Str) (hx : (parsOf fd)[i]? = some x) : posIn x fd.scope.names 0 = some (i, .local) ∨ posIn x fd.scope.names 0 = some (i, .cell) := by
  have h1 : parOk1 fd i x = true := List.all_eq_true.mp h (x, i) (List.mem_iff_getElem?.2 ⟨i, by rw [List.getElem?_zipIdx, hx, Nat.zero_add]; rfl⟩)
  exact (Bool.or_eq_true_iff.mp h1).imp eq_of_beq eq_of_beq
noncomputable def noFree (fd : FuncData) : Bool := fd.scope.names.all fun y => y.2 != .free
noncomputable def fnChkA (K : Frag) (f : Fid) (a : Nat) (fd : FuncData) : Bool :=
  fnIn K a && (isStmts fd.body && (codeIn K fd.code fd.qualname && (decide (fd.scope.kind = .function) && (!fd.scope.isCoroutine && (!fd.scope.isGenerator && (fd.closure.isEmpty && (fd.globals == mainGlobals && (fd.builtins == builtinsNs && (noFree fd && (parOk fd && (isFn K (.ref a) && (keepIn K (.ref a) && (prog f).all fun fn => (parsOf fd).length == fn.nargs))))))))))))
noncomputable def isR (o : Option (Option Value)) (b : Nat) : Bool := o == some (some (.ref b))
noncomputable def clsChk (K : Frag) (c : Cid) (a : Nat) : Bool :=
  plainGet K a "" && (hasDictIn K a && (findIn K (.ref a) "__setattr__" == some (some (.builtin "object.__setattr__")) && (plainOver K a && (makesIn K a && (keepIn K (.ref a) && (isR (findIn K (.ref a) "__init__") (faT c.init) &&
    (c.attrs.all (fun n => findIn K (.ref a) (Str.ofString n) == some none) && c.meths.all fun x => isR (findIn K (.ref a) (Str.ofString x.1)) (faT x.2))))))))
noncomputable def gl (K : Frag) (n : String) : Option (Option Value) := nsIn K mainGlobals (Str.ofString n)
noncomputable def globChk (K : Frag) : Bool :=
  (fidTab.all fun x => isR (gl K x.1) (faT x.2)) && ((cidTab.all fun x => isR (gl K x.1) (caT x.2)) && ((primTab.all fun x => gl K x.1 == some none) && ((["range", "reversed", "enumerate"].all fun x => gl K x == some none) &&
    (gl K "END" == some (some (.int 0 262)) && (gl K "NONE" == some (some (.int (-1) 556)) && isR (gl K "OWN_TERMINALS") 69)))))
noncomputable def binda (K : Frag) (g : Nat → Value) (f : Fid) : Sem (List (Str × Value)) := match prog f with
  | some fn => if fn.dflts.isEmpty then bindArgs (fdAt K (faT f)) ⟨(List.range fn.nargs).map g, []⟩ else pure []
  | none => pure []
noncomputable def bindb (K : Frag) (g : Nat → Value) (f : Fid) : Sem (List (Str × Value)) := match prog f with
  | some fn => if fn.dflts.isEmpty then pure ((parsOf (fdAt K (faT f))).zip ((List.range fn.nargs).map g)) else pure []
  | none => pure []
noncomputable def ownO : Obj := { cls := .type "tuple", dict := none, data := .seq #[.str (Str.ofString "$end") 264, .str (Str.ofString "error") 265, .str (Str.ofString "$undefined") 266] 0, slots := #[] }
noncomputable def objAt (K : Frag) (a : Nat) : Obj := (K.lookup a).getD default
theorem objAt_of {K : Frag} {a : Nat} (h : (K.lookup a).isSome = true) : K.lookup a = some (objAt K a) := by
  unfold objAt; obtain ⟨o, e⟩ := Option.isSome_iff_exists.mp h; rw [e]; rfl
structure Facts (K : Frag) : Prop where
  cls : (cids.all fun c => clsChk K c (caT c)) = true
  fns : (fids.all fun f => fnChkA K f (faT f) (fdAt K (faT f))) = true
  cmp : (fids.map fun f => cBody (fdAt K (faT f)).scope (bodyOf (fdAt K (faT f)))) = fids.map fun f => (prog f).map (·.body)
  bnd : ∀ g, fids.map (binda K g) = fids.map (bindb K g)
  glo : globChk K = true
  own : K.lookup 69 = some ownO
  pg : ∀ (s : Shared), K.In s.heap → ∀ v, BindsTo s (fdAt K 186) ⟨[v], []⟩ ((parsOf (fdAt K 186)).zip ([v] ++ [Value.none]))
  ru : ∀ (s : Shared), K.In s.heap → ∀ a b c d e, BindsTo s (fdAt K 84) ⟨[a, b, c, d, e], []⟩ ((parsOf (fdAt K 84)).zip ([a, b, c, d, e] ++ [Value.none, .int 0 282, .int 0 283]))
noncomputable abbrev theB (p : Program) (K : Frag) (w : World) (s : Shared) : BC := { prog := p, w := w, base := s.heap, os := s.os, ca := caT, fa := faT, K := K }
theorem look_all {α : Type} {p : String → α → Bool} {l : List (String × α)} {n : String} {v : α} (h : l.all (fun x => p x.1 x.2) = true) (e : l.lookup n = some v) : p n v = true := by
  induction l with
  | nil => cases e
  | cons x l ih =>
    obtain ⟨m, u⟩ := x
    have h := and_tt h
    rw [List.lookup_cons] at e
    cases hh : n == m with
    | true => rw [hh] at e; cases e; exact eq_of_beq hh ▸ h.1
    | false => rw [hh] at e; exact ih h.2 e
theorem vec {vs : List Value} {n : Nat} (h : vs.length = n) : (List.range n).map (fun i => vs.getD i .none) = vs := by
  subst h
  exact List.ext_getElem (by rw [List.length_map, List.length_range]) fun i h1 h2 => by rw [List.getElem_map, List.getElem_range, List.getD_eq_getElem?_getD, List.getElem?_eq_getElem h2]; rfl
section
variable {K : Frag} (F : Facts K)
include F
theorem Facts.clsOk : ClsOk K caT faT := by
  have C : ∀ c, clsChk K c (caT c) = true := fun c => List.all_eq_true.mp F.cls c (cids_mem c)
  have N : ∀ f, fnChkA K f (faT f) (fdAt K (faT f)) = true := fun f => List.all_eq_true.mp F.fns f (fids_mem f)
  have c1 := fun c => and_tt (C c)
  have c2 := fun c => and_tt (c1 c).2
  have c3 := fun c => and_tt (c2 c).2
  have c4 := fun c => and_tt (c3 c).2
  have c5 := fun c => and_tt (c4 c).2
  have c6 := fun c => and_tt (c5 c).2
  have c7 := fun c => and_tt (c6 c).2
  have c8 := fun c => and_tt (c7 c).2
  have n := fun f => and_tt (and_tt (and_tt (and_tt (and_tt (and_tt (and_tt (and_tt (and_tt (and_tt (and_tt (and_tt (N f)).2).2).2).2).2).2).2).2).2).2).2
  exact ⟨fun c => (c1 c).1, fun c => (c2 c).1, fun c => eq_of_beq (c3 c).1, fun c => (c4 c).1, fun c => (c5 c).1, fun c => (c6 c).1, fun c => eq_of_beq (c7 c).1, fun c n h => eq_of_beq (List.all_eq_true.mp (c8 c).1 n h), fun c n f h => eq_of_beq (look_all (p := fun n f => isR (findIn K (.ref (caT c)) (Str.ofString n)) (faT f)) (c8 c).2 h), fun f => (n f).1, fun f => (and_tt (n f).2).1⟩
theorem Facts.fnOk {B : BC} (b : BaseK B) (hB : B.K = K) (hF : B.fa = faT) {f : Fid} {fn : Fn} (hf : prog f = some fn) {dv : List Value}
    (bind : ∀ (s : Shared) (vs : List Value), (∀ b o, B.base.get? b = some o → s.heap.get? b = some o) → vs.length + dv.length = fn.nargs → BindsTo s (fdAt K (faT f)) ⟨vs, []⟩ ((parsOf (fdAt K (faT f))).zip (vs ++ dv)))
    (dlen : dv.length = fn.dflts.length) (dfl : ∀ (i : Nat) v V, dv[i]? = some v → fn.dflts[i]? = some V → Rel B B.base (fun _ => none) (fun _ => False) v V) : FnOk B f fn (fdAt K (faT f)) (bodyOf (fdAt K (faT f))) (parsOf (fdAt K (faT f))) dv := by
  subst hB
  have a1 := and_tt (List.all_eq_true.mp F.fns f (fids_mem f))
  have a2 := and_tt a1.2
  have a3 := and_tt a2.2
  have a4 := and_tt a3.2
  have a5 := and_tt a4.2
  have a6 := and_tt a5.2
  have a7 := and_tt a6.2
  have a8 := and_tt a7.2
  have a9 := and_tt a8.2
  have a10 := and_tt a9.2
  have a11 := and_tt a10.2
  have a14 := (and_tt (and_tt a11.2).2).2
  have cm := List.map_inj_left.1 F.cmp f (fids_mem f)
  rw [hf] at a14 cm
  exact {
    at_ := by rw [hF]; exact let ⟨o, e, d⟩ := fdAt_of a1.1; ⟨o, b.kin _ _ e, d⟩
    bod := bodyOf_eq a2.1
    code := codeRec_of b.kin a3.1
    kind := of_decide_eq_true a4.1
    co := not_tt a5.1
    gen := not_tt a6.1
    clo := List.isEmpty_iff.1 a7.1
    glob := eq_of_beq a8.1
    blt := eq_of_beq a9.1
    cmp := cm
    nofree := fun y hy => ne_of_beq_false (not_tt (List.all_eq_true.mp a10.1 y hy))
    len := eq_of_beq a14
    par := parOk_of a11.1
    bind := bind
    dlen := dlen
    dfl := dfl }
theorem Facts.bind0 {f : Fid} {fn : Fn} (hf : prog f = some fn) (h0 : fn.dflts = []) (s : Shared) {vs : List Value} (hl : vs.length = fn.nargs) : BindsTo s (fdAt K (faT f)) ⟨vs, []⟩ ((parsOf (fdAt K (faT f))).zip vs) := by
  refine .of_eq ?_
  have := List.map_inj_left.1 (F.bnd fun i => vs.getD i .none) f (fids_mem f)
  simp only [binda, bindb, hf, h0, vec hl] at this
  exact this
variable {pr : Program} {w : World} {s : Shared} (KX : K.In s.heap)
include KX
theorem Facts.baseK : BaseK (theB pr K w s) := ⟨KX, F.clsOk⟩
theorem Facts.globOk {mg mb : Str → Option Value} (hg : s.heap.Ns mainGlobals mg) (hb : s.heap.Ns builtinsNs mb) (hbb : ∀ x : Str, x ≠ "__name__" → mb x = bootBuiltins x) : GlobOk (theB pr K w s) := by
  have g1 := and_tt F.glo
  have g2 := and_tt g1.2
  have g3 := and_tt g2.2
  have g4 := and_tt g3.2
  have g5 := and_tt g4.2
  have g6 := and_tt g5.2
  refine .mk mg mb hg hb (fun n f h => ?_) (fun n c h => ?_) (fun n q h => ⟨?_, ?_⟩) (fun n h => ⟨?_, ?_⟩) fun n c h => ?_
  · exact mg_of KX hg (eq_of_beq (look_all (p := fun n f => isR (gl K n) (faT f)) g1.1 h))
  · exact mg_of KX hg (eq_of_beq (look_all (p := fun n f => isR (gl K n) (caT f)) g2.1 h))
  · exact mg_none_of KX hg (eq_of_beq (look_all (p := fun n _ => gl K n == some none) g3.1 h))
  · have := and_tt (look_all (p := fun n p => bootBuiltins (Str.ofString n) == some (primV p) && Str.ofString n != "__name__") (by decide +kernel) h)
    rw [hbb _ (ne_of_beq_false (not_tt this.2)), eq_of_beq this.1]
  · exact mg_none_of KX hg (eq_of_beq (List.all_eq_true.mp g4.1 n h))
  · have := and_tt ((List.all_eq_true (p := fun n => bootBuiltins (Str.ofString n) == some (.type n) && Str.ofString n != "__name__")).mp (by decide +kernel) n h)
    exact (hbb _ (ne_of_beq_false (not_tt this.2))).trans (eq_of_beq this.1)
  · rw [cstTab, List.lookup_cons] at h
    cases e : n == "END" with
    | true => rw [e] at h; cases h; rw [eq_of_beq e]; exact ⟨_, mg_of KX hg (eq_of_beq g5.1), .int _ _⟩
    | false =>
      rw [e, List.lookup_cons] at h
      cases e : n == "NONE" with
      | true => rw [e] at h; cases h; rw [eq_of_beq e]; exact ⟨_, mg_of KX hg (eq_of_beq g6.1), .int _ _⟩
      | false =>
        rw [e, List.lookup_cons] at h
        cases e : n == "OWN_TERMINALS" with
        | false => rw [e] at h; cases h
        | true =>
          rw [e] at h; cases h; rw [eq_of_beq e]
          refine ⟨_, mg_of KX hg (eq_of_beq g6.2), ?_⟩
          refine .tup (items := #[.str (Str.ofString "$end") 264, .str (Str.ofString "error") 265, .str (Str.ofString "$undefined") 266]) (n := 0) (KX _ _ F.own) ⟨rfl, fun _ _ e => nomatch e⟩ id rfl (by decide) fun i v V a b => ?_
          match i, a, b with
          | 0, a, b => cases a; cases b; exact .str _ _
          | 1, a, b => cases a; cases b; exact .str _ _
          | 2, a, b => cases a; cases b; exact .str _ _
theorem Facts.allFns : ∀ f fn, prog f = some fn → ∃ fd body ps dv, FnOk (theB pr K w s) f fn fd body ps dv := by
  intro f fn h
  have b : BaseK (theB pr K w s) := F.baseK KX
  by_cases h0 : fn.dflts = []
  · exact ⟨_, _, _, _, F.fnOk b rfl rfl h (dv := []) (fun s' vs k hl => by
      rw [List.append_nil]
      exact F.bind0 h h0 s' hl) (by rw [h0]; rfl) fun i v V a => nomatch a⟩
  · have kin : ∀ {s' : Shared}, (∀ b o, s.heap.get? b = some o → s'.heap.get? b = some o) → K.In s'.heap := fun k a o e => k _ _ (KX a o e)
    have hf : f = .plain_grammar ∨ f = .Rule_init := by
      have := (List.all_eq_true (l := fids) (p := fun f => (prog f).all fun fn => fn.dflts.isEmpty || (f.ctorIdx == Fid.ctorIdx .plain_grammar || f.ctorIdx == Fid.ctorIdx .Rule_init))).mp (by rfl) f (fids_mem f)
      rw [h] at this
      rcases Bool.or_eq_true_iff.mp this with e | e
      · exact absurd (List.isEmpty_iff.1 e) h0
      · rcases Bool.or_eq_true_iff.mp e with e | e
        · exact .inl (Option.some.inj ((fids_at f).symm.trans (congrArg (fids[·]?) (eq_of_beq e))))
        · exact .inr (Option.some.inj ((fids_at f).symm.trans (congrArg (fids[·]?) (eq_of_beq e))))
    rcases hf with rfl | rfl
    · cases h
      refine ⟨_, _, _, _, F.fnOk b rfl rfl rfl (dv := [Value.none]) (fun s' vs k hl => ?_) rfl fun i v V a e => ?_⟩
      · have hl : vs.length = 1 := Nat.succ.inj hl
        rw [← vec hl]; exact F.pg s' (kin k) _
      · match i, a, e with
        | 0, a, e => cases a; cases e; exact .none
    · cases h
      refine ⟨_, _, _, _, F.fnOk b rfl rfl rfl (dv := [Value.none, .int 0 282, .int 0 283]) (fun s' vs k hl => ?_) rfl fun i v V a e => ?_⟩
      · have hl : vs.length = 5 := Nat.succ.inj (Nat.succ.inj (Nat.succ.inj hl))
        rw [← vec hl]; exact F.ru s' (kin k) _ _ _ _ _
      · match i, a, e with
        | 0, a, e => cases a; cases e; exact .none
        | 1, a, e => cases a; cases e; exact .int _ _
        | 2, a, e => cases a; cases e; exact .int _ _
theorem Facts.inv0 (hg : s.gens = #[]) : Inv (theB pr K w s) (fun _ => False) s (fun _ => none) where
  objs := fun a o e => nomatch e
  base := fun b o e => ⟨e, ⟨rfl, fun _ _ e => nomatch e⟩, id⟩
  res := fun _ h => h.elim
  lo := ⟨69, _, by decide, KX _ _ F.own⟩
  gens := hg
  os := rfl
omit KX F in
theorem room0 : Room callerA 16 := ⟨by decide, by decide, rfl⟩
theorem Facts.ends {mg mb : Str → Option Value} (hg : s.heap.Ns mainGlobals mg) (hb : s.heap.Ns builtinsNs mb) (hbb : ∀ x : Str, x ≠ "__name__" → mb x = bootBuiltins x) (lim : s.heap.NoLimit) (hgens : s.gens = #[]) {fa a : Addr} (hmg : mg (Str.ofString "law") = some (.ref fa))
    {vs : List Value} {ns : List Int} (hI : IntsAre vs ns) (ha : s.heap.get? a = some { cls := .type "list", data := .seq vs.toArray }) (hl : ns.length ≤ 63) :
    codeAny (model pr w) callerA (.call (.ref fa) ⟨[.ref a], []⟩) (fun r s' => r = .ok (.ret (.bool true)) ∧ (∀ b o, s.heap.get? b = some o → s'.heap.get? b = some o) ∧ s'.os = s.os ∧ s'.gens = #[]) s := by
  have e : fa = 525 := by
    have := mg_of KX hg (n := Str.ofString "law") (v := .ref 525) (eq_of_beq (look_all (p := fun n f => isR (gl K n) (faT f)) (n := "law") (v := .law) (and_tt F.glo).1 rfl))
    rw [hmg] at this
    cases this; rfl
  subst e
  have h := wF_sound (B := theB pr K w s) (F.baseK KX) (F.globOk KX hg hb hbb) lim (F.allFns KX) 8 .law [.ref a] [.lst (ns.map .int)] (fun _ => False) (fun _ => none) s callerA (fun V _ => V = .bool true)
    (law_spec (k := 0) hl rfl) (F.inv0 KX hgens) ?_ room0
  · refine codeAny_mono h fun r s' z => ?_
    rcases r with e | (v | _ | _ | _) <;> first | exact z.elim | skip
    obtain ⟨V, H', rv, I', st, rfl⟩ := z
    cases rv.inv_bool
    exact ⟨rfl, fun b o e => (st.keep b o e ⟨rfl, fun _ _ e => nomatch e⟩).1, I'.os, I'.gens⟩
  · refine ⟨rfl, fun i v V p q => ?_⟩
    match i, p, q with
    | 0, p, q =>
      cases p; cases q
      have hr := relL_ints (B := theB pr K w s) (h := s.heap) (H := fun _ => none) (R := fun _ => False) hI
      exact .lst (items := vs.toArray) (n := 0) ha ⟨rfl, fun _ _ e => nomatch e⟩ id (by simpa using hr.1) (by rw [List.length_map]; exact Nat.le_trans hl (by decide)) hr.2
end
end Mine.Internal
open PySem PySem.W PyProof.Rows
set_option maxRecDepth 100000
set_option maxHeartbeats 0
namespace Mine
theorem main.tw15577902819370175793 : True := ⟨⟩
theorem main.tw11156056980113079860 : True := ⟨⟩
theorem main.tw15745814338397921187 : True := ⟨⟩
theorem main.tw4360710437260650531 : True := ⟨⟩
theorem main.tw13707940170689118305 : True := ⟨⟩
theorem main.tw16710147508514199302 : True := ⟨⟩
theorem main.tw17697149337890891521 : True := ⟨⟩
theorem main.tw7712634645042067442 : True := ⟨⟩
theorem main.tw16826212616301561204 : True := ⟨⟩
theorem main.tw4561105241695004074 : True := ⟨⟩
theorem main.tw18072910330486901160 : True := ⟨⟩
theorem main.tw14360999137194182845 : True := ⟨⟩
theorem main.tw1148389060315663934 : True := ⟨⟩
theorem main.tw10172836993886701308 : True := ⟨⟩
theorem main.tw14708136634888185200 : True := ⟨⟩
theorem main.tw3372685494851243017 : True := ⟨⟩
theorem main.tw5585478044538960755 : True := ⟨⟩
theorem main.tw1615045767204293396 : True := ⟨⟩
theorem main.tw3674103072598140080 : True := ⟨⟩
theorem main.tw15015763463395708765 : True := ⟨⟩
theorem main.tw33456957511925785 : True := ⟨⟩
theorem main.tw165853693477088600 : True := ⟨⟩
theorem main.tw13157206579259725088 : True := ⟨⟩
theorem main.tw10663580350406149668 : True := ⟨⟩
theorem main.tw14625788440519214713 : True := ⟨⟩
theorem main.tw8211959896082780389 : True := ⟨⟩
theorem main.tw16950194794029067938 : True := ⟨⟩
theorem main.tw12608185968620612914 : True := ⟨⟩
theorem main.tw15984706205718930553 : True := ⟨⟩
theorem main.tw3994622017586750766 : True := ⟨⟩
theorem main.tw1178595665728414349 : True := ⟨⟩
theorem main.tw15079240505294077160 : True := ⟨⟩
theorem main.tw2287757881348798766 : True := ⟨⟩
theorem main.tw11374851513655246148 : True := ⟨⟩
theorem main.tw8475525182357872103 : True := ⟨⟩
theorem main.tw10750994468655217958 : True := ⟨⟩
theorem main.tw5400957986263281647 : True := ⟨⟩
theorem main.tw15410482203810522393 : True := ⟨⟩
theorem main.tw17871620999419790863 : True := ⟨⟩
theorem main.tw18284262389922463811 : True := ⟨⟩
theorem main.tw5797031442667253490 : True := ⟨⟩
theorem main.tw11962923498438245051 : True := ⟨⟩
theorem main.tw18120430973489738927 : True := ⟨⟩
theorem main.tw9682133043923132273 : True := ⟨⟩
theorem main.tw2895952525429962455 : True := ⟨⟩
theorem main.tw9563168847844234846 : True := ⟨⟩
theorem main.tw15491723280356408159 : True := ⟨⟩
theorem main.tw14027531716089632829 : True := ⟨⟩
theorem main.tw14646587721710459877 : True := ⟨⟩
theorem main.tw10463206416058312583 : True := ⟨⟩
theorem main.tw18403998269306519403 : True := ⟨⟩
theorem main.tw6519269512792494810 : True := ⟨⟩
theorem main.tw3613476055612923068 : True := ⟨⟩
theorem main.tw12806046657563706132 : True := ⟨⟩
theorem main.tw17510229520200029679 : True := ⟨⟩
theorem main.tw4996873109452691289 : True := ⟨⟩
theorem main.tw7691172733374981047 : True := ⟨⟩
theorem main.tw14080665800827857628 : True := ⟨⟩
theorem main.tw1118068078248606362 : True := ⟨⟩
theorem main.tw9265829497004654079 : True := ⟨⟩
theorem main.tw17402982504261768225 : True := ⟨⟩
theorem main.tw7751025194823839400 : True := ⟨⟩
theorem main.tw17297283025540448806 : True := ⟨⟩
theorem main.tw3796207824708393856 : True := ⟨⟩
theorem main.tw7846812961960373227 : True := ⟨⟩
theorem main.tw9994787619460420439 : True := ⟨⟩
theorem main.tw8466321980469482115 : True := ⟨⟩
theorem main.tw1496695287857109588 : True := ⟨⟩
theorem main.tw11120327062377616369 : True := ⟨⟩
theorem main.tw8488872178611200430 : True := ⟨⟩
theorem main.tw1615956725737779560 : True := ⟨⟩
theorem main.tw3045742163950154196 : True := ⟨⟩
theorem main.tw9756827057097773860 : True := ⟨⟩
theorem main.tw16778611742570070204 : True := ⟨⟩
theorem main.tw17695171507069755227 : True := ⟨⟩
theorem main.tw11595355409239048105 : True := ⟨⟩
theorem main.tw12623159325031504133 : True := ⟨⟩
theorem main.tw17223442867436993403 : True := ⟨⟩
theorem main.tw10609540516017602915 : True := ⟨⟩
theorem main.tw765107192605250810 : True := ⟨⟩
theorem main.tw12483276189755474720 : True := ⟨⟩
theorem main.tw2821470743931037460 : True := ⟨⟩
theorem main.tw1264294196387467257 : True := ⟨⟩
theorem main.tw7237411587787531456 : True := ⟨⟩
theorem main.tw12431731261707249289 : True := ⟨⟩
theorem main.tw17737603089517620647 : True := ⟨⟩
theorem main.tw16965079339398995527 : True := ⟨⟩
theorem main.tw10270246312553454781 : True := ⟨⟩
theorem main.tw16480584520131690045 : True := ⟨⟩
theorem main.tw5473700226181020891 : True := ⟨⟩
theorem main.tw4839478117068044826 : True := ⟨⟩
theorem main.tw6385024630547198690 : True := ⟨⟩
theorem main.tw5781596087445459943 : True := ⟨⟩
theorem main.tw750237026923860459 : True := ⟨⟩
theorem main.tw7221758910455160077 : True := ⟨⟩
theorem main.tw14909365282108701170 : True := ⟨⟩
theorem main.tw13547569757486424058 : True := ⟨⟩
theorem main.tw13591255225166038476 : True := ⟨⟩
theorem main.tw452746233719593009 : True := ⟨⟩
theorem main.tw2729793432009153956 : True := ⟨⟩
theorem main.tw18238007617527299592 : True := ⟨⟩
theorem main.tw18421580907717582127 : True := ⟨⟩
theorem main.tw16153842264607907944 : True := ⟨⟩
theorem main.tw10864377008497418100 : True := ⟨⟩
theorem main.tw11135027115929721415 : True := ⟨⟩
theorem main.tw7411558596216406370 : True := ⟨⟩
theorem main.tw11487549891475536569 : True := ⟨⟩
theorem main.tw16656740534632174751 : True := ⟨⟩
theorem main.tw16572128252103988241 : True := ⟨⟩
theorem main.tw5518243967957118194 : True := ⟨⟩
theorem main.tw17091655785135471103 : True := ⟨⟩
theorem main.tw1306636233014830658 : True := ⟨⟩
theorem main.tw1390771862084280389 : True := ⟨⟩
theorem main.tw13642826006792871662 : True := ⟨⟩
theorem main.tw7974275031393228247 : True := ⟨⟩
theorem main.tw6635558491612396129 : True := ⟨⟩
theorem main.tw4038153913678941442 : True := ⟨⟩
theorem main.tw834873547066669988 : True := ⟨⟩
theorem main.tw11646826074482590764 : True := ⟨⟩
theorem main.tw15270170921892066516 : True := ⟨⟩
theorem main.tw12927740378394474205 : True := ⟨⟩
theorem main.tw15595112118272840620 : True := ⟨⟩
theorem main.tw13676971244355772609 : True := ⟨⟩
theorem main.tw12273490649430754879 : True := ⟨⟩
theorem main.tw6785657489111691699 : True := ⟨⟩
theorem main.tw5665735395497279834 : True := ⟨⟩
theorem main.tw12670839924663504800 : True := ⟨⟩
theorem main.tw5061512775090418087 : True := ⟨⟩
theorem main.tw13270728482189477470 : True := ⟨⟩
theorem main.tw8834365191522931223 : True := ⟨⟩
theorem main.tw3466206800631347469 : True := ⟨⟩
theorem main.tw8905464785575363620 : True := ⟨⟩
theorem main.tw10204856939554784155 : True := ⟨⟩
theorem main.tw8663697691656813868 : True := ⟨⟩
theorem main.tw4812270449578504274 : True := ⟨⟩
theorem main.tw12205347405646519318 : True := ⟨⟩
theorem main.tw2724176850512262202 : True := ⟨⟩
theorem main.tw13348322127785295214 : True := ⟨⟩
theorem main.tw6112859857366181021 : True := ⟨⟩
theorem main.tw1130211791997205004 : True := ⟨⟩
theorem main.tw2583023086579268501 : True := ⟨⟩
theorem main.tw16046730324260685337 : True := ⟨⟩
theorem main.tw6657087868060814 : True := ⟨⟩
theorem main.tw14562738103837258888 : True := ⟨⟩
theorem main.tw12252054271945606052 : True := ⟨⟩
theorem main.tw12455012482086183272 : True := ⟨⟩
theorem main.tw8557395850702784662 : True := ⟨⟩
theorem main.tw10825838108423173272 : True := ⟨⟩
theorem main.tw387501639795913443 : True := ⟨⟩
theorem main.tw17450470499104002142 : True := ⟨⟩
theorem main.tw7698036289167662538 : True := ⟨⟩
theorem main.tw18332899500509843999 : True := ⟨⟩
theorem main.tw65644731488775911 : True := ⟨⟩
theorem main.tw11501822485730972192 : True := ⟨⟩
theorem main.tw4681395471914393968 : True := ⟨⟩
theorem main.tw16135426469972691074 : True := ⟨⟩
theorem main.tw13667920496262714385 : True := ⟨⟩
theorem main.tw9656510801202774680 : True := ⟨⟩
theorem main.tw6557543464795787104 : True := ⟨⟩
theorem main.tw14009396871252706886 : True := ⟨⟩
theorem main.tw16721930046160240684 : True := ⟨⟩
theorem main.tw16102231251864390963 : True := ⟨⟩
theorem main.tw17561526911342447988 : True := ⟨⟩
theorem main.tw6697339332421208802 : True := ⟨⟩
theorem main.tw12057704586751987240 : True := ⟨⟩
theorem main.tw5613160597433933154 : True := ⟨⟩
theorem main.tw11221353774195762014 : True := ⟨⟩
theorem main.tw16035907590883218939 : True := ⟨⟩
theorem main.tw17298425922696826006 : True := ⟨⟩
theorem main.tw8947760058931562597 : True := ⟨⟩
theorem main.tw2279707942289718827 : True := ⟨⟩
theorem main.tw10199874654664476236 : True := ⟨⟩
theorem main.tw9302470337196694018 : True := ⟨⟩
theorem main.tw2744014450722944760 : True := ⟨⟩
theorem main.tw104360540948158410 : True := ⟨⟩
theorem main.tw11403851563620829512 : True := ⟨⟩
theorem main.tw4651154628705390771 : True := ⟨⟩
theorem main.tw16923884221124529275 : True := ⟨⟩
theorem main.tw11181722664286889309 : True := ⟨⟩
theorem main.tw1054321117371714560 : True := ⟨⟩
theorem main.tw12922898485456448571 : True := ⟨⟩
theorem main.tw4650958065196391918 : True := ⟨⟩
theorem main.tw645136716886899192 : True := ⟨⟩
theorem main.tw18190005008629794160 : True := ⟨⟩
theorem main.tw12343854547171428336 : True := ⟨⟩
theorem main.tw7214478077546791972 : True := ⟨⟩
theorem main.tw2406621943657119228 : True := ⟨⟩
theorem main.tw11003572833241299968 : True := ⟨⟩
theorem main.tw2238316416991798583 : True := ⟨⟩
theorem main.tw5240779543111244032 : True := ⟨⟩
theorem main.tw10234815189450012239 : True := ⟨⟩
theorem main.tw12518504611687188807 : True := ⟨⟩
theorem main.tw11785714552879321826 : True := ⟨⟩
theorem main.tw3706830351922483016 : True := ⟨⟩
theorem main.tw4126091431370883743 : True := ⟨⟩
theorem main.tw716429049611869786 : True := ⟨⟩
theorem main.tw4900431672193113347 : True := ⟨⟩
theorem main.tw9483120023164983764 : True := ⟨⟩
theorem main.tw6741292078354696603 : True := ⟨⟩
theorem main.tw6910295442248876197 : True := ⟨⟩
theorem main.tw6222487380544312443 : True := ⟨⟩
theorem main.tw10896356407431480244 : True := ⟨⟩
theorem main.tw6511744376749373798 : True := ⟨⟩
theorem main.tw6655696309031964122 : True := ⟨⟩
theorem main.tw10334261112615635914 : True := ⟨⟩
theorem main.tw7699798408344515789 : True := ⟨⟩
theorem main.tw16641786646906312760 : True := ⟨⟩
theorem main.tw1156462466702112376 : True := ⟨⟩
theorem main.tw18218335207050127959 : True := ⟨⟩
theorem main.tw4990475226369331113 : True := ⟨⟩
theorem main.tw9512817274939609580 : True := ⟨⟩
theorem main.tw12885385263037960081 : True := ⟨⟩
theorem main.tw4458048076830672230 : True := ⟨⟩
theorem main.tw14771111431291430275 : True := ⟨⟩
theorem main.tw10363585996791799541 : True := ⟨⟩
theorem main.tw6161133996638707016 : True := ⟨⟩
theorem main.tw9498315638749924794 : True := ⟨⟩
theorem main.tw9369988214560726041 : True := ⟨⟩
theorem main.tw4775608329324902142 : True := ⟨⟩
theorem main.tw17236958762192778904 : True := ⟨⟩
theorem main.tw12298629886278197574 : True := ⟨⟩
theorem main.tw14907226015203709474 : True := ⟨⟩
theorem main.tw11982392923317675503 : True := ⟨⟩
theorem main.tw12590340796369385619 : True := ⟨⟩
theorem main.tw7761410557224570781 : True := ⟨⟩
theorem main.tw2906824675625879941 : True := ⟨⟩
theorem main.tw10159738436595150677 : True := ⟨⟩
theorem main.tw7298748307773712898 : True := ⟨⟩
theorem main.tw8652556701797213591 : True := ⟨⟩
theorem main.tw2433702464844828792 : True := ⟨⟩
theorem main.tw10924716458440934090 : True := ⟨⟩
theorem main.tw15624239662980076321 : True := ⟨⟩
theorem main.tw15467891735981029475 : True := ⟨⟩
theorem main.tw9681375758050803366 : True := ⟨⟩
theorem main.tw10140136200207757160 : True := ⟨⟩
theorem main.tw4189750870438640210 : True := ⟨⟩
theorem main.tw6044114016751833949 : True := ⟨⟩
theorem main.tw9155575984036265788 : True := ⟨⟩
theorem main.tw7173623326730630234 : True := ⟨⟩
theorem main.tw15928290008803537013 : True := ⟨⟩
theorem main.tw16008252555379753968 : True := ⟨⟩
theorem main.tw17974016328880235120 : True := ⟨⟩
theorem main.tw13777938177461255882 : True := ⟨⟩
theorem main.tw5677329702179833609 : True := ⟨⟩
theorem main.tw16832360635688203351 : True := ⟨⟩
theorem main.tw1777545030009416734 : True := ⟨⟩
theorem main.tw8627561154394265716 : True := ⟨⟩
theorem main.tw3627144658338631552 : True := ⟨⟩
theorem main.tw1587290215689348708 : True := ⟨⟩
theorem main.tw7332330508316399935 : True := ⟨⟩
theorem main.tw17708487481403421675 : True := ⟨⟩
theorem main.tw14722489848711283861 : True := ⟨⟩
theorem main.tw16798622893749714585 : True := ⟨⟩
theorem main.tw6389877041954997217 : True := ⟨⟩
theorem main.tw11101190512080308003 : True := ⟨⟩
theorem main.tw15643365686152983790 : True := ⟨⟩
theorem main.tw6361450105264607166 : True := ⟨⟩
theorem main.tw10391951854915411234 : True := ⟨⟩
theorem main.tw15485851114877660061 : True := ⟨⟩
theorem main.tw1826329307503635854 : True := ⟨⟩
theorem main.tw1886080085820668685 : True := ⟨⟩
theorem main.tw17715262827843222689 : True := ⟨⟩
theorem main.tw453184122279072053 : True := ⟨⟩
theorem main.tw5450094653865882931 : True := ⟨⟩
theorem main.tw8260724100714396741 : True := ⟨⟩
theorem main.tw3314904115985164895 : True := ⟨⟩
theorem main.tw7647378279178456250 : True := ⟨⟩
theorem main.tw7113585516715319716 : True := ⟨⟩
theorem main.tw451873465583785326 : True := ⟨⟩
theorem main.tw2629084897520917108 : True := ⟨⟩
theorem main.tw6053611964639427726 : True := ⟨⟩
theorem main.tw4333880214566435006 : True := ⟨⟩
theorem main.tw9808303207383738048 : True := ⟨⟩
theorem main.tw16187894506366716058 : True := ⟨⟩
theorem main.tw14759895335926876869 : True := ⟨⟩
theorem main.tw13350764725976880583 : True := ⟨⟩
theorem main.tw15737690656516749961 : True := ⟨⟩
theorem main.tw15017983477296125989 : True := ⟨⟩
theorem main.tw5517759331935216279 : True := ⟨⟩
theorem main.tw48596604365144762 : True := ⟨⟩
theorem main.tw16193401482309157537 : True := ⟨⟩
theorem main.tw2190695567426971638 : True := ⟨⟩
theorem main.tw15365013842991253249 : True := ⟨⟩
theorem main.tw13355152605343272895 : True := ⟨⟩
theorem main.tw17336282652733537790 : True := ⟨⟩
theorem main.tw16922381011570985944 : True := ⟨⟩
theorem main.tw13113777628852026922 : True := ⟨⟩
theorem main.tw6981815665589151136 : True := ⟨⟩
theorem main.tw1980160206288974728 : True := ⟨⟩
theorem main.tw15616401959046598769 : True := ⟨⟩
theorem main.tw1439166485080882 : True := ⟨⟩
theorem main.tw15806524323241146399 : True := ⟨⟩
theorem main.tw8228058824784995430 : True := ⟨⟩
theorem main.tw7412497370151337677 : True := ⟨⟩
theorem main.tw16452447596832230105 : True := ⟨⟩
theorem main.tw12732289081945773324 : True := ⟨⟩
theorem main.tw5436791530062809996 : True := ⟨⟩
theorem main.tw14639212616227390028 : True := ⟨⟩
theorem main.tw656089360051881306 : True := ⟨⟩
theorem main.tw11461230924637031220 : True := ⟨⟩
theorem main.tw8079908401900000222 : True := ⟨⟩
theorem main.tw13962693860625380366 : True := ⟨⟩
theorem main.tw12900284412222446716 : True := ⟨⟩
theorem main.tw66260789543402106 : True := ⟨⟩
theorem main.tw917386388269078853 : True := ⟨⟩
theorem main.tw1429040668314091153 : True := ⟨⟩
theorem main.tw3829396358689915599 : True := ⟨⟩
theorem main.tw14793117695081215449 : True := ⟨⟩
theorem main.tw5401703158475992631 : True := ⟨⟩
theorem main.tw16320729459185622934 : True := ⟨⟩
theorem main.tw13803360072150633466 : True := ⟨⟩
theorem main.tw8118072479153026202 : True := ⟨⟩
theorem main.tw9381277316556691805 : True := ⟨⟩
theorem main.tw14672674291997333471 : True := ⟨⟩
theorem main.tw15734200111481486640 : True := ⟨⟩
theorem main.tw3299218664060906527 : True := ⟨⟩
theorem main.tw1632041292262086317 : True := ⟨⟩
theorem main.tw9897820754763898449 : True := ⟨⟩
theorem main.tw2019394398466159022 : True := ⟨⟩
theorem main.tw17958375852430007124 : True := ⟨⟩
theorem main.tw4585930131862741453 : True := ⟨⟩
theorem main.tw9957550378297406723 : True := ⟨⟩
theorem main.tw10877679251791092727 : True := ⟨⟩
theorem main.tw16008457594558532635 : True := ⟨⟩
theorem main.tw1277820614484962519 : True := ⟨⟩
theorem main.tw10665469846841522134 : True := ⟨⟩
theorem main.tw4605139254293405059 : True := ⟨⟩
theorem main.tw3343439749351644125 : True := ⟨⟩
theorem main.tw17292155258170135553 : True := ⟨⟩
theorem main.tw13180746182150919023 : True := ⟨⟩
theorem main.tw17353955331779342651 : True := ⟨⟩
theorem main.tw13293747886898857621 : True := ⟨⟩
theorem main.tw9925469786538053656 : True := ⟨⟩
theorem main.tw6696893160125735727 : True := ⟨⟩
theorem main.tw11710404883906591787 : True := ⟨⟩
theorem main.tw14313897822631088780 : True := ⟨⟩
theorem main.tw14064073609400967072 : True := ⟨⟩
theorem main.tw10707853282979444102 : True := ⟨⟩
theorem main.tw15734660467963936456 : True := ⟨⟩
theorem main.tw12839114828313443825 : True := ⟨⟩
theorem main.tw1850612553970854742 : True := ⟨⟩
theorem main.tw6862492499505807319 : True := ⟨⟩
theorem main.tw3137596982192898869 : True := ⟨⟩
theorem main.tw8467378866343419333 : True := ⟨⟩
theorem main.tw7875838824674609581 : True := ⟨⟩
theorem main.tw11092141859048813250 : True := ⟨⟩
theorem main.tw11544348965984651327 : True := ⟨⟩
theorem main.tw4324958949535026087 : True := ⟨⟩
theorem main.tw12077450504624328385 : True := ⟨⟩
theorem main.tw4475767826048309731 : True := ⟨⟩
theorem main.tw16049902774474827687 : True := ⟨⟩
theorem main.tw10642606787283503386 : True := ⟨⟩
theorem main.tw17118054049896295152 : True := ⟨⟩
theorem main.tw4044139247061151142 : True := ⟨⟩
theorem main.tw8440099810896429113 : True := ⟨⟩
theorem main.tw7904437144335635152 : True := ⟨⟩
theorem main.tw5532463470591059822 : True := ⟨⟩
theorem main.tw17146568849442343683 : True := ⟨⟩
theorem main.tw10450603732522932521 : True := ⟨⟩
theorem main.tw3562595001068472590 : True := ⟨⟩
theorem main.tw15955573374722617477 : True := ⟨⟩
theorem main.tw11692516046256081784 : True := ⟨⟩
theorem main.tw7093617532817203218 : True := ⟨⟩
theorem main.tw6855474311058116810 : True := ⟨⟩
theorem main.tw17644181745481072423 : True := ⟨⟩
theorem main.tw3394367416137920725 : True := ⟨⟩
theorem main.tw15303317825217679618 : True := ⟨⟩
theorem main.tw223528310411579522 : True := ⟨⟩
theorem main.tw5665406974723832613 : True := ⟨⟩
theorem main.tw12564604832814323664 : True := ⟨⟩
theorem main.tw16411370214107742406 : True := ⟨⟩
theorem main.tw1628013610222277130 : True := ⟨⟩
theorem main.tw8478376212529829071 : True := ⟨⟩
theorem main.tw4156125974679941130 : True := ⟨⟩
theorem main.tw2496676261509829067 : True := ⟨⟩
theorem main.tw1409966394225722968 : True := ⟨⟩
theorem main.tw5649967823195072380 : True := ⟨⟩
theorem main.tw6183352029847204284 : True := ⟨⟩
theorem main.tw221909299271738847 : True := ⟨⟩
theorem main.tw18325589031809861271 : True := ⟨⟩
theorem main.tw1157997071576566072 : True := ⟨⟩
theorem main.tw4573282807186111410 : True := ⟨⟩
theorem main.tw8207831470162742035 : True := ⟨⟩
theorem main.tw7293298908176781663 : True := ⟨⟩
theorem main.tw2702614204127132176 : True := ⟨⟩
theorem main.tw12093647306153771053 : True := ⟨⟩
theorem main.tw6886502059237256666 : True := ⟨⟩
theorem main.tw14439473939278146460 : True := ⟨⟩
theorem main.tw7186131708394509389 : True := ⟨⟩
theorem main.tw9508770018378322450 : True := ⟨⟩
theorem main.tw16629339528299215175 : True := ⟨⟩
theorem main.tw13224007501803129859 : True := ⟨⟩
theorem main.tw4297412468100583042 : True := ⟨⟩
theorem main.tw10821422270917381399 : True := ⟨⟩
theorem main.tw13132915859168520264 : True := ⟨⟩
theorem main.tw9361300454564663673 : True := ⟨⟩
theorem main.tw2759098988195820126 : True := ⟨⟩
theorem main.tw10665089971535097683 : True := ⟨⟩
theorem main.tw15514936471743626214 : True := ⟨⟩
theorem main.tw18134284020713443437 : True := ⟨⟩
theorem main.tw17403364634526059139 : True := ⟨⟩
theorem main.tw7235775444256392728 : True := ⟨⟩
theorem main.tw6877560268529008848 : True := ⟨⟩
theorem main.tw14662554035588321541 : True := ⟨⟩
theorem main.tw9561784451562097942 : True := ⟨⟩
theorem main.tw11251407683458634364 : True := ⟨⟩
theorem main.tw3583811862363856187 : True := ⟨⟩
theorem main.tw10094358506670053839 : True := ⟨⟩
theorem main.tw17477492558424962760 : True := ⟨⟩
theorem main.tw14060465935940456498 : True := ⟨⟩
theorem main.tw12027323910402764344 : True := ⟨⟩
theorem main.tw13693970394777133609 : True := ⟨⟩
theorem main.tw341453280667917650 : True := ⟨⟩
theorem main.tw4637267157515435788 : True := ⟨⟩
theorem main.tw2852251193174398662 : True := ⟨⟩
theorem main.tw5084117380071580128 : True := ⟨⟩
theorem main.tw3532412968194664532 : True := ⟨⟩
theorem main.tw17767330081159143506 : True := ⟨⟩
theorem main.tw12702744160499308131 : True := ⟨⟩
theorem main.tw6162249291895867263 : True := ⟨⟩
theorem main.tw5396188567872606041 : True := ⟨⟩
theorem main.tw979501456738626862 : True := ⟨⟩
theorem main.tw9272984997812220495 : True := ⟨⟩
theorem main.tw7268301785047649679 : True := ⟨⟩
theorem main.tw16689149305811164139 : True := ⟨⟩
theorem main.tw4749052000479324790 : True := ⟨⟩
theorem main.tw12431561837914552411 : True := ⟨⟩
theorem main.tw2647654807098235363 : True := ⟨⟩
theorem main.tw17725498274588495791 : True := ⟨⟩
theorem main.tw1504049600530537962 : True := ⟨⟩
theorem main.tw962032349192862916 : True := ⟨⟩
theorem main.tw2007339730380871907 : True := ⟨⟩
theorem main.tw12361340156312767134 : True := ⟨⟩
theorem main.tw6334894449686545209 : True := ⟨⟩
theorem main.tw31828345220925962 : True := ⟨⟩
theorem main.tw7153082081811710619 : True := ⟨⟩
theorem main.tw8729708805864041840 : True := ⟨⟩
theorem main.tw5418533224930618480 : True := ⟨⟩
theorem main.tw14106445559736802775 : True := ⟨⟩
theorem main.tw9121559901702372667 : True := ⟨⟩
theorem main.tw16251939892948500945 : True := ⟨⟩
theorem main.tw9190990891756207365 : True := ⟨⟩
theorem main.tw3557749057250611081 : True := ⟨⟩
theorem main.tw13876859957761632879 : True := ⟨⟩
theorem main.tw9730157408454304684 : True := ⟨⟩
theorem main.tw12885673836220544336 : True := ⟨⟩
theorem main.tw9557352009045844224 : True := ⟨⟩
theorem main.tw9069182735580402390 : True := ⟨⟩
theorem main.tw3454311308915712629 : True := ⟨⟩
theorem main.tw13110577991587790113 : True := ⟨⟩
theorem main.tw4026956272090484662 : True := ⟨⟩
theorem main.tw13590572293223372214 : True := ⟨⟩
theorem main.tw7590696779544312186 : True := ⟨⟩
theorem main.tw18302796317244248524 : True := ⟨⟩
theorem main.tw11001617756164336837 : True := ⟨⟩
theorem main.tw15131278010643852716 : True := ⟨⟩
theorem main.tw10876375607700338302 : True := ⟨⟩
theorem main.tw14161005256144132680 : True := ⟨⟩
theorem main.tw5243159528196176124 : True := ⟨⟩
theorem main.tw3779293765908593550 : True := ⟨⟩
theorem main.tw832900586485598795 : True := ⟨⟩
theorem main.tw9360745474812902239 : True := ⟨⟩
theorem main.tw14788915703135433725 : True := ⟨⟩
theorem main.tw5240536507193477226 : True := ⟨⟩
theorem main.tw18063282731904131703 : True := ⟨⟩
theorem main.tw10047389527955405517 : True := ⟨⟩
theorem main.tw18031918436515192882 : True := ⟨⟩
theorem main.tw13724616953566380437 : True := ⟨⟩
theorem main.tw5203219222101121401 : True := ⟨⟩
theorem main.tw4039676971129161736 : True := ⟨⟩
theorem main.tw5871769198996169552 : True := ⟨⟩
theorem main.tw15803610866087392283 : True := ⟨⟩
theorem main.tw1714950047550659301 : True := ⟨⟩
theorem main.tw9376575566392132001 : True := ⟨⟩
theorem main.tw6418098437765475518 : True := ⟨⟩
theorem main.tw6660377722381337597 : True := ⟨⟩
theorem main.tw4072190877284726289 : True := ⟨⟩
theorem main.tw7514964652732493775 : True := ⟨⟩
theorem main.tw6912675738884088206 : True := ⟨⟩
theorem main.tw2524017781993486291 : True := ⟨⟩
theorem main.tw15465920861327815835 : True := ⟨⟩
theorem main.tw3905226178654972811 : True := ⟨⟩
theorem main.tw4261964983698606537 : True := ⟨⟩
theorem main.tw5571399437266216444 : True := ⟨⟩
theorem main.tw11815829001073249272 : True := ⟨⟩
theorem main.tw10625486282989778954 : True := ⟨⟩
theorem main.tw6075091234017535682 : True := ⟨⟩
theorem main.tw18315214858253571532 : True := ⟨⟩
theorem main.tw73751810991705359 : True := ⟨⟩
end Mine
set_option tactic.hygienic true
set_option Elab.async true
theorem Mine.main : PySem.Challenge.rw_pq0558_01.Holds := by
  w_on; o_law; k_head
  (case hw => w_witness2)
  w_strict (
  k_fill
  intro w s₀ s₁ mg mb G Y fa o pm cd doc dV kV ho hd hcd hD hmg hg args vals as hpre hlay hrd hwl hlo
  have KX := kIn_of Y
  refine Ground.open G ?_
  intro T B D TE TW
  wrow_args hpre hlay hrd hwl hlo
  rename_i ns hs hl0 hL1 hr1 hl2 as1 as2 a vs as3 hL ra w1 r0 hI hr c1 c2
  refine enter_call ?_
  cases w1 with
  | @list _ us _ ha hw =>
    have e : us = vs := by
      obtain ⟨o', e', _, n, d'⟩ := hL
      rw [ha] at e'
      cases e'
      cases d'
      rfl
    subst e
    refine codeAny_mono (Mine.Internal.Facts.ends ?_ KX (Top.g T) (Top.b T) (Top.builtins T) (Top.nolimit T) hg hmg hI ha (by omega)) fun r s' h => ?_
    · refine ⟨?_, ?_, ?_, ?_, ?_, ?_, ?_, ?_⟩
      · kernel_rfl
      · kernel_rfl
      · kernel_rfl
      · intro g; kernel_rfl
      · kernel_rfl
      · kernel_rfl
      · exact fun s X v => BindsTo.of_defaults (T := 181) (o := Mine.Internal.objAt _ 181) (items := #[.none]) (n := 0) (by kernel_rfl) (X _ _ (Mine.Internal.objAt_of (by kernel_rfl))) (by kernel_rfl) rfl (by kernel_rfl)
      · exact fun s X a b c d e => BindsTo.of_defaults (T := 77) (o := Mine.Internal.objAt _ 77) (items := #[.int (-1) 281, .none, .int 0 282, .int 0 283]) (n := 0) (by kernel_rfl) (X _ _ (Mine.Internal.objAt_of (by kernel_rfl))) (by kernel_rfl) rfl (by kernel_rfl)
    obtain ⟨rfl, h1, h2, h3⟩ := h
    exact ⟨.inl ⟨_, .bool true, _, rfl, fun _ => rfl, .bool true, by kernel_rfl, fun _ => ⟨.nil, nofun⟩⟩, .of_keep h1, h2, .of_eq h3⟩)
theorem PySem.Challenge.cw_pq0558_01_holds : PySem.Challenge.rw_pq0558_01.Holds :=
  Mine.main
