import PyProof.Rows.All
import Wide.All
import OpenK.AllK
import Wide.FinOn
import PySem.Challenge.RW_xm0152_01
set_option Elab.async false
section
open PySem
namespace Mine

/-- values as trees -/
inductive V where
  | int (i : Int)
  | bool (b : Bool)
  | none
  | list (l : List V)
  | tup (l : List V)

/-- a slot of a frame: a value that nothing changes, or a list that this frame alone holds -/
inductive Sl where
  | sh (v : V)
  | ow (l : List V)

abbrev Rho := List (Nat × Sl)

noncomputable def get : Rho → Nat → Option Sl
  | [], _ => .none
  | p :: r, i => match Nat.beq p.1 i with
    | true => some p.2
    | false => get r i
noncomputable def put : Rho → Nat → Sl → Rho
  | [], i, x => [(i, x)]
  | p :: r, i, x => match Nat.beq p.1 i with
    | true => (i, x) :: r
    | false => p :: put r i x
noncomputable def del : Rho → Nat → Rho
  | [], _ => []
  | p :: r, i => match Nat.beq p.1 i with
    | true => del r i
    | false => p :: del r i
noncomputable def Sl.frz : Sl → Sl
  | .sh v => .sh v
  | .ow l => .sh (.list l)
noncomputable def frz : Rho → Rho
  | [] => []
  | p :: r => (p.1, p.2.frz) :: frz r

theorem beq_eq (i j : Nat) : Nat.beq i j = decide (i = j) := by
  cases e : Nat.beq i j with
  | true => simp [Nat.eq_of_beq_eq_true e]
  | false => simp [Nat.ne_of_beq_eq_false e]

theorem get_cons (p : Nat × Sl) (r : Rho) (i : Nat) : get (p :: r) i = if p.1 = i then some p.2 else get r i := by
  show (match Nat.beq p.1 i with | true => some p.2 | false => get r i) = _
  rw [beq_eq]
  by_cases h : p.1 = i <;> simp [h]
theorem get_put (r : Rho) (i j : Nat) (x : Sl) : get (put r i x) j = if i = j then some x else get r j := by
  induction r with
  | nil => unfold put; rw [get_cons]
  | cons p r ih =>
    unfold put
    rw [beq_eq]
    by_cases h : p.1 = i
    · simp only [h, decide_true, get_cons]
      by_cases q : i = j <;> simp [q]
    · simp only [h, decide_false, get_cons, ih]
      by_cases q : i = j
      · subst q; simp [h]
      · simp [q]
theorem get_del (r : Rho) (i j : Nat) : get (del r i) j = if i = j then .none else get r j := by
  induction r with
  | nil => unfold del get; simp
  | cons p r ih =>
    unfold del
    rw [beq_eq]
    by_cases h : p.1 = i
    · simp only [h, decide_true, ih, get_cons]
      by_cases q : i = j <;> simp [q]
    · simp only [h, decide_false, get_cons, ih]
      by_cases q : i = j
      · subst q; simp [h]
      · simp [q]
theorem get_frz (r : Rho) (i : Nat) : get (frz r) i = (get r i).map Sl.frz := by
  induction r with
  | nil => rfl
  | cons p r ih =>
    unfold frz
    rw [get_cons, get_cons, ih]
    by_cases h : p.1 = i <;> simp [h]

/-- everything that stands in h stands so in h' -/
noncomputable def Le (h h' : Heap) : Prop := ∀ b o, h.get? b = some o → h'.get? b = some o
theorem Le.refl (h : Heap) : Le h h := fun _ _ e => e
theorem Le.trans {h₁ h₂ h₃ : Heap} (a : Le h₁ h₂) (b : Le h₂ h₃) : Le h₁ h₃ := fun x o e => b x o (a x o e)
theorem Le.push (h : Heap) (o : Obj) : Le h (h.push o) := fun _ _ e => Heap.get?_push_of_some o e
theorem Le.ext {h h' : Heap} {a : Addr} (x : Heap.ExtBut a h h') (n : h.get? a = .none) : Le h h' := fun b o e => x b o (fun q => by subst q; rw [n] at e; cases e) e
theorem none_of_le {h h' : Heap} {a : Addr} (l : Le h h') (e : h'.get? a = .none) : h.get? a = .none := by
  cases q : h.get? a with
  | none => rfl
  | some o => rw [l a o q] at e; cases e
theorem size_none (h : Heap) : h.get? h.objs.size = .none := by
  cases q : h.get? h.objs.size with
  | none => rfl
  | some o => exact absurd (Heap.lt_size q) (Nat.lt_irrefl _)

theorem isList_le {h h' : Heap} (l : Le h h') {a : Addr} {vs : Array Value} (x : h.IsList a vs) : h'.IsList a vs := let ⟨o, e, r⟩ := x; ⟨o, l _ _ e, r⟩
theorem isTup_le {h h' : Heap} (l : Le h h') {a : Addr} {vs : Array Value} (x : h.IsTuple a vs) : h'.IsTuple a vs := let ⟨o, e, r⟩ := x; ⟨o, l _ _ e, r⟩

mutual
/-- the value v reads as the tree in h; every address on the way is ok -/
noncomputable def Rd (ok : Addr → Prop) (h : Heap) : V → Value → Prop
  | .int i, v => ∃ t, v = .int i t
  | .bool b, v => v = .bool b
  | .none, v => v = .none
  | .list xs, v => ∃ a vs, v = .ref a ∧ ok a ∧ h.IsList a (List.toArray vs) ∧ RdL ok h xs vs
  | .tup xs, v => ∃ a vs, v = .ref a ∧ ok a ∧ h.IsTuple a (List.toArray vs) ∧ RdL ok h xs vs
noncomputable def RdL (ok : Addr → Prop) (h : Heap) : List V → List Value → Prop
  | [], vs => vs = []
  | x :: xs, vs => ∃ v r, vs = v :: r ∧ Rd ok h x v ∧ RdL ok h xs r
end

section
variable {ok ok' : Addr → Prop} {h h' : Heap}
mutual
theorem Rd.mono (k : ∀ a o, ok a → h.get? a = some o → ok' a ∧ ((∃ vs n, o.data = .seq vs n) → h'.get? a = some o)) : ∀ {x : V} {v : Value}, Rd ok h x v → Rd ok' h' x v
  | .int _, _, r => by simpa only [Rd] using r
  | .bool _, _, r => by simpa only [Rd] using r
  | .none, _, r => by simpa only [Rd] using r
  | .list xs, v, r => by
    rw [Rd] at r ⊢
    obtain ⟨a, vs, e, q, l, m⟩ := r
    obtain ⟨o, ho, hc, n, hd⟩ := l
    have z := k a o q ho
    exact ⟨a, vs, e, z.1, ⟨o, z.2 ⟨_, _, hd⟩, hc, n, hd⟩, RdL.mono k m⟩
  | .tup xs, v, r => by
    rw [Rd] at r ⊢
    obtain ⟨a, vs, e, q, l, m⟩ := r
    obtain ⟨o, ho, hc, n, hd⟩ := l
    have z := k a o q ho
    exact ⟨a, vs, e, z.1, ⟨o, z.2 ⟨_, _, hd⟩, hc, n, hd⟩, RdL.mono k m⟩
theorem RdL.mono (k : ∀ a o, ok a → h.get? a = some o → ok' a ∧ ((∃ vs n, o.data = .seq vs n) → h'.get? a = some o)) : ∀ {xs : List V} {vs : List Value}, RdL ok h xs vs → RdL ok' h' xs vs
  | [], _, r => by simpa only [RdL] using r
  | x :: xs, vs, r => by
    rw [RdL] at r ⊢
    obtain ⟨v, t, e, a, b⟩ := r
    exact ⟨v, t, e, Rd.mono k a, RdL.mono k b⟩
end
theorem Rd.le (l : Le h h') {x : V} {v : Value} (r : Rd ok h x v) : Rd ok h' x v := r.mono fun _ _ q e => ⟨q, fun _ => l _ _ e⟩
theorem RdL.le (l : Le h h') {x : List V} {v : List Value} (r : RdL ok h x v) : RdL ok h' x v := r.mono fun _ _ q e => ⟨q, fun _ => l _ _ e⟩
theorem Rd.wk (k : ∀ a, ok a → ok' a) {x : V} {v : Value} (r : Rd ok h x v) : Rd ok' h x v := r.mono fun a _ q e => ⟨k a q, fun _ => e⟩
theorem RdL.wk (k : ∀ a, ok a → ok' a) {x : List V} {v : List Value} (r : RdL ok h x v) : RdL ok' h x v := r.mono fun a _ q e => ⟨k a q, fun _ => e⟩
/-- it stands on what is there -/
theorem Rd.dom {x : V} {v : Value} (r : Rd ok h x v) : Rd (fun a => ok a ∧ ∃ o, h.get? a = some o) h x v := r.mono fun a o q e => ⟨⟨q, o, e⟩, fun _ => e⟩
theorem RdL.dom {x : List V} {v : List Value} (r : RdL ok h x v) : RdL (fun a => ok a ∧ ∃ o, h.get? a = some o) h x v := r.mono fun a o q e => ⟨⟨q, o, e⟩, fun _ => e⟩
theorem RdL.nil : RdL ok h [] [] := by rw [RdL]
theorem RdL.cons {x : V} {xs : List V} {v : Value} {vs : List Value} (a : Rd ok h x v) (b : RdL ok h xs vs) : RdL ok h (x :: xs) (v :: vs) := by rw [RdL]; exact ⟨v, vs, rfl, a, b⟩
theorem RdL.uncons {x : V} {xs : List V} {vs : List Value} (r : RdL ok h (x :: xs) vs) : ∃ v t, vs = v :: t ∧ Rd ok h x v ∧ RdL ok h xs t := by rw [RdL] at r; exact r
theorem RdL.unnil {vs : List Value} (r : RdL ok h [] vs) : vs = [] := by rw [RdL] at r; exact r
theorem RdL.length : ∀ {xs : List V} {vs : List Value}, RdL ok h xs vs → vs.length = xs.length
  | [], _, r => by rw [r.unnil]; rfl
  | x :: xs, _, r => by obtain ⟨v, t, rfl, _, b⟩ := r.uncons; simp [b.length]
theorem RdL.append : ∀ {xs ys : List V} {vs ws : List Value}, RdL ok h xs vs → RdL ok h ys ws → RdL ok h (xs ++ ys) (vs ++ ws)
  | [], _, _, _, r, q => by rw [r.unnil]; exact q
  | x :: xs, _, _, _, r, q => by obtain ⟨v, t, rfl, a, b⟩ := r.uncons; exact .cons a (b.append q)
theorem RdL.take : ∀ (n : Nat) {xs : List V} {vs : List Value}, RdL ok h xs vs → RdL ok h (xs.take n) (vs.take n)
  | 0, _, _, _ => by simp only [List.take_zero]; exact .nil
  | n + 1, [], _, r => by rw [r.unnil]; exact .nil
  | n + 1, x :: xs, _, r => by obtain ⟨v, t, rfl, a, b⟩ := r.uncons; exact .cons a (b.take n)
theorem RdL.drop : ∀ (n : Nat) {xs : List V} {vs : List Value}, RdL ok h xs vs → RdL ok h (xs.drop n) (vs.drop n)
  | 0, _, _, r => r
  | n + 1, [], _, r => by rw [r.unnil]; exact .nil
  | n + 1, x :: xs, _, r => by obtain ⟨v, t, rfl, _, b⟩ := r.uncons; exact b.drop n
theorem RdL.at : ∀ {xs : List V} {vs : List Value} {i : Nat} {x : V}, RdL ok h xs vs → xs[i]? = some x → ∃ v, vs[i]? = some v ∧ Rd ok h x v
  | [], _, _, _, _, e => by simp at e
  | y :: xs, _, 0, x, r, e => by obtain ⟨v, t, rfl, a, b⟩ := r.uncons; simp at e; subst e; exact ⟨v, rfl, a⟩
  | y :: xs, _, i + 1, x, r, e => by obtain ⟨v, t, rfl, _, b⟩ := r.uncons; simpa using b.at (i := i) (by simpa using e)
theorem RdL.set : ∀ {xs : List V} {vs : List Value} (i : Nat) {x : V} {v : Value}, RdL ok h xs vs → Rd ok h x v → RdL ok h (xs.set i x) (vs.set i v)
  | [], _, _, _, _, r, _ => by rw [r.unnil]; exact .nil
  | y :: xs, _, 0, x, v, r, q => by obtain ⟨w, t, rfl, a, b⟩ := r.uncons; exact .cons q b
  | y :: xs, _, i + 1, x, v, r, q => by obtain ⟨w, t, rfl, a, b⟩ := r.uncons; exact .cons a (b.set i q)
theorem RdL.reverse : ∀ {xs : List V} {vs : List Value}, RdL ok h xs vs → RdL ok h xs.reverse vs.reverse
  | [], _, r => by rw [r.unnil]; exact .nil
  | x :: xs, _, r => by obtain ⟨v, t, rfl, a, b⟩ := r.uncons; simp only [List.reverse_cons]; exact b.reverse.append (.cons a .nil)
end

/-- nothing that is new is shut out -/
noncomputable def OkF (ok : Addr → Prop) (h : Heap) : Prop := ∀ a, h.get? a = .none → ok a
theorem OkF.le {ok : Addr → Prop} {h h' : Heap} (o : OkF ok h) (l : Le h h') : OkF ok h' := fun a e => o a (none_of_le l e)
end Mine
end
section
open PySem
namespace Mine

inductive Bop where
  | add | sub | mul | fdiv | mod | pow
noncomputable def Bop.un : Bop → Operator
  | .add => .Add
  | .sub => .Sub
  | .mul => .Mult
  | .fdiv => .FloorDiv
  | .mod => .Mod
  | .pow => .Pow
inductive Cop where
  | lt | le | gt | ge | eq | ne | isin | notin
noncomputable def Cop.un : Cop → CmpOp
  | .lt => .Lt
  | .le => .LtE
  | .gt => .Gt
  | .ge => .GtE
  | .eq => .Eq
  | .ne => .NotEq
  | .isin => .In
  | .notin => .NotIn
inductive Bi where
  | len | list | sum | max | abs | int
inductive SrK where
  | list | range | enum | zip
/-- the numbers of the built-ins' names -/
noncomputable def Bi.code : Bi → Nat
  | .len => 0
  | .list => 1
  | .sum => 5
  | .max => 6
  | .abs => 7
  | .int => 8
inductive Tg where
  | one (i : Nat) (p : Pos)
  | two (i j : Nat) (pi pj : Pos) (k : Nat) (p : Pos)

inductive Ex where
  | int (i : Int) (p : Pos)
  | bool (b : Bool) (p : Pos)
  | non (p : Pos)
  | name (i : Nat) (p : Pos)
  | bin (o : Bop) (l r : Ex) (p : Pos)
  | neg (e : Ex) (p : Pos)
  | cmp (o : Cop) (l r : Ex) (p : Pos)
  | bo (a : Bool) (es : List Ex) (p : Pos)
  | ite (t a b : Ex) (p : Pos)
  | call (f : Nat) (fr : Bool) (pf : Pos) (args : List Ex) (p : Pos)
  | bi (b : Bi) (pf : Pos) (args : List Ex) (p : Pos)
  | sub (c i : Ex) (p : Pos)
  | slTo (c e : Ex) (ps p : Pos)
  | slFrom (c e : Ex) (ps p : Pos)
  | slRev (c : Ex) (p1 p2 ps p : Pos)
  | tup (es : List Ex) (k : Nat) (p : Pos)
  | lst (es : List Ex) (p : Pos)
  | comp (elt : Ex) (tg : Tg) (k : SrK) (pf : Pos) (args : List Ex) (ps : Pos) (sc : List (Nat × NameKind)) (fv : List Nat) (p : Pos)

inductive Tgt where
  | name (i : Nat) (own : Bool) (p : Pos)
  | item (i : Nat) (ix : Ex) (pn p : Pos)

inductive St where
  | asg1 (t : Tgt) (e : Ex) (p : Pos)
  | asgD (ts : List Tgt) (kt : Nat) (pt : Pos) (es : List Ex) (ke : Nat) (pe p : Pos)
  | asgU (ts : List Tgt) (kt : Nat) (pt : Pos) (e : Ex) (p : Pos)
  | aug (i : Nat) (pn : Pos) (o : Bop) (e : Ex) (p : Pos)
  | app (i : Nat) (pn pa : Pos) (e : Ex) (pc p : Pos)
  | inout (f : Nat) (pf : Pos) (i : Nat) (pi : Pos) (es : List Ex) (pc p : Pos)
  | ifs (t : Ex) (b1 b2 : List St) (p : Pos)
  | wh (t : Ex) (b : List St) (p : Pos)
  | fr (tg : Tg) (k : SrK) (pf : Pos) (args : List Ex) (ps : Pos) (b : List St) (p : Pos)
  | ret (e : Ex) (p : Pos)
  | ex (e : Ex) (p : Pos)
  | other (s : Stmt)

section
variable (nm : Nat → Str)
noncomputable def Tg.un : Tg → Expr
  | .one i p => .Name (nm i) p
  | .two i j pi pj k p => .Tuple [.Name (nm i) pi, .Name (nm j) pj] k p
noncomputable def unNames (sc : List (Nat × NameKind)) : List (Str × NameKind) := sc.map fun q => (nm q.1, q.2)
noncomputable def unScope (sc : List (Nat × NameKind)) : Scope := { kind := .function, names := unNames nm sc, isGenerator := false, isCoroutine := false, more := [] }
noncomputable def srcUn (k : SrK) (pf : Pos) (es : List Expr) (ps : Pos) : Expr := match k with
  | .list => match es with
    | [e] => e
    | _ => .Tuple es 0 ps
  | .range => .Call (.Name (nm 2) pf) es [] ps
  | .enum => .Call (.Name (nm 3) pf) es [] ps
  | .zip => .Call (.Name (nm 4) pf) es [] ps
mutual
noncomputable def Ex.un : Ex → Expr
  | .int i p => .Constant (.int i) 0 p
  | .bool b p => .Constant (.bool b) 0 p
  | .non p => .Constant .none 0 p
  | .name i p => .Name (nm i) p
  | .bin o l r p => .BinOp l.un o.un r.un p
  | .neg e p => .UnaryOp .USub e.un p
  | .cmp o l r p => .Compare l.un [o.un] [r.un] p
  | .bo a es p => .BoolOp (if a then .And else .Or) (unL es) p
  | .ite t a b p => .IfExp t.un a.un b.un p
  | .call f _ pf args p => .Call (.Name (nm f) pf) (unL args) [] p
  | .bi b pf args p => .Call (.Name (nm b.code) pf) (unL args) [] p
  | .sub c i p => .Subscript c.un i.un p
  | .slTo c e ps p => .Subscript c.un (.Slice .none (some e.un) .none ps) p
  | .slFrom c e ps p => .Subscript c.un (.Slice (some e.un) .none .none ps) p
  | .slRev c p1 p2 ps p => .Subscript c.un (.Slice .none .none (some (.UnaryOp .USub (.Constant (.int 1) 0 p1) p2)) ps) p
  | .tup es k p => .Tuple (unL es) k p
  | .lst es p => .List (unL es) p
  | .comp elt tg k pf args ps sc _ p => .ListComp elt.un [⟨tg.un nm, srcUn nm k pf (unL args) ps, [], 0⟩] (unScope nm sc) p
noncomputable def unL : List Ex → List Expr
  | [] => []
  | e :: r => e.un :: unL r
end
noncomputable def Tgt.un : Tgt → Expr
  | .name i _ p => .Name (nm i) p
  | .item i ix pn p => .Subscript (.Name (nm i) pn) (ix.un nm) p
noncomputable def unT : List Tgt → List Expr
  | [] => []
  | t :: r => t.un nm :: unT r
mutual
noncomputable def St.un : St → Stmt
  | .asg1 t e p => .Assign [t.un nm] (e.un nm) p
  | .asgD ts kt pt es ke pe p => .Assign [.Tuple (unT nm ts) kt pt] (.Tuple (unL nm es) ke pe) p
  | .asgU ts kt pt e p => .Assign [.Tuple (unT nm ts) kt pt] (e.un nm) p
  | .aug i pn o e p => .AugAssign (.Name (nm i) pn) o.un (e.un nm) p
  | .app i pn pa e pc p => .Expr (.Call (.Attribute (.Name (nm i) pn) "append" pa) [e.un nm] [] pc) p
  | .inout f pf i pi es pc p => .Expr (.Call (.Name (nm f) pf) (.Name (nm i) pi :: unL nm es) [] pc) p
  | .ifs t b1 b2 p => .If (t.un nm) (unS b1) (unS b2) p
  | .wh t b p => .While (t.un nm) (unS b) [] p
  | .fr tg k pf args ps b p => .For (tg.un nm) (srcUn nm k pf (unL nm args) ps) (unS b) [] p
  | .ret e p => .Return (some (e.un nm)) p
  | .ex e p => .Expr (e.un nm) p
  | .other s => s
noncomputable def unS : List St → List Stmt
  | [] => []
  | s :: r => s.un :: unS r
end
end

/-! ## reckoning -/
noncomputable def small (a : Int) : Bool := Nat.ble a.natAbs.log2 8000
noncomputable def few (n : Nat) : Bool := Nat.ble n 4096
noncomputable def rep (l : List V) : Nat → List V
  | 0 => []
  | n + 1 => l ++ rep l n
noncomputable def bop : Bop → V → V → Option V
  | .add, .int a, .int b => some (.int (a + b))
  | .add, .list a, .list b => match few (a.length + b.length) with
    | true => some (.list (a ++ b))
    | false => .none
  | .sub, .int a, .int b => some (.int (a - b))
  | .mul, .int a, .int b => match small a && small b with
    | true => some (.int (a * b))
    | false => .none
  | .mul, .list a, .int b => match few (a.length * b.toNat) && few b.natAbs with
    | true => some (.list (rep a b.toNat))
    | false => .none
  | .fdiv, .int a, .int b => match W.Z.eqB b 0 || !(small a && small b) with
    | true => .none
    | false => some (.int (a.fdiv b))
  | .mod, .int a, .int b => match W.Z.eqB b 0 with
    | true => .none
    | false => some (.int (a.fmod b))
  | .pow, .int a, .int b => match W.Z.leB 0 b && small a && few b.toNat with
    | true => some (.int (a ^ b.toNat))
    | false => .none
  | _, _, _ => .none
noncomputable def intsOf : List V → Option (List Int)
  | [] => some []
  | .int i :: r => match intsOf r with
    | some l => some (i :: l)
    | .none => .none
  | _ :: _ => .none
noncomputable def eqL : List Int → List Int → Bool
  | [], [] => true
  | a :: l, b :: r => match W.Z.eqB a b with
    | true => eqL l r
    | false => false
  | _, _ => false
noncomputable def elemL (x : Int) : List Int → Bool
  | [] => false
  | a :: l => match W.Z.eqB a x with
    | true => true
    | false => elemL x l
noncomputable def eqBool (a b : Bool) : Bool := match a with
  | true => b
  | false => !b
noncomputable def eqV : V → V → Option Bool
  | .int a, .int b => some (W.Z.eqB a b)
  | .bool a, .bool b => some (eqBool a b)
  | .list a, .list b => match intsOf a with
    | some l => match intsOf b with
      | some r => some (eqL l r)
      | .none => .none
    | .none => .none
  | .tup a, .tup b => match intsOf a with
    | some l => match intsOf b with
      | some r => some (eqL l r)
      | .none => .none
    | .none => .none
  | _, _ => .none
noncomputable def inV : V → V → Option Bool
  | .int a, .list b => match intsOf b with
    | some r => some (elemL a r)
    | .none => .none
  | .int a, .tup b => match intsOf b with
    | some r => some (elemL a r)
    | .none => .none
  | _, _ => .none
noncomputable def cop : Cop → V → V → Option Bool
  | .lt, .int a, .int b => some (W.Z.ltB a b)
  | .le, .int a, .int b => some (W.Z.leB a b)
  | .gt, .int a, .int b => some (W.Z.ltB b a)
  | .ge, .int a, .int b => some (W.Z.leB b a)
  | .eq, a, b => eqV a b
  | .ne, a, b => match eqV a b with
    | some c => some (!c)
    | .none => .none
  | .isin, a, b => inV a b
  | .notin, a, b => match inV a b with
    | some c => some (!c)
    | .none => .none
  | _, _, _ => .none
noncomputable def sumL : List Int → Int
  | [] => 0
  | a :: r => a + sumL r
noncomputable def biV : Bi → List V → Option V
  | .len, [.list l] => match few l.length with
    | true => some (.int l.length)
    | false => .none
  | .list, [.list l] => match few l.length with
    | true => some (.list l)
    | false => .none
  | .sum, [.list l] => match intsOf l with
    | some r => some (.int (sumL r))
    | .none => .none
  | .max, [.int a, .int b] => some (.int (match W.Z.ltB a b with | true => b | false => a))
  | .abs, [.int a] => some (.int (match W.Z.ltB a 0 with | true => -a | false => a))
  | .int, [.int a] => some (.int a)
  | .int, [.bool b] => some (.int (match b with | true => 1 | false => 0))
  | _, _ => .none
/-- where an index lies -/
noncomputable def idx (k : Int) (n : Nat) : Option Nat := match k with
  | .ofNat i => match Nat.blt i n && few i with
    | true => some i
    | false => .none
  | .negSucc i => match Nat.blt i n && few i with
    | true => some (n - 1 - i)
    | false => .none
noncomputable def nth : List V → Nat → Option V
  | [], _ => .none
  | x :: _, 0 => some x
  | _ :: r, n + 1 => nth r n
noncomputable def subV : V → V → Option V
  | .list l, .int k => match idx k l.length with
    | some j => nth l j
    | .none => .none
  | .tup l, .int k => match idx k l.length with
    | some j => nth l j
    | .none => .none
  | _, _ => .none
/-- a bound of a slice, clipped -/
noncomputable def clip (k : Int) (n : Nat) : Nat := match k with
  | .ofNat i => match Nat.ble i n with
    | true => i
    | false => n
  | .negSucc i => n - (i + 1)
noncomputable def rangeV (a c : Int) : Nat → List V
  | 0 => []
  | n + 1 => .int a :: rangeV (a + c) c n
noncomputable def cntUp (a b : Int) : Nat := (b - a).toNat
noncomputable def enumV (i : Int) : List V → List V
  | [] => []
  | x :: r => .tup [.int i, x] :: enumV (i + 1) r
noncomputable def zipV : List V → List V → List V
  | x :: r, y :: t => .tup [x, y] :: zipV r t
  | _, _ => []
noncomputable def srcV : SrK → List V → Option (List V)
  | .list, [.list l] => match few l.length with
    | true => some l
    | false => .none
  | .range, [.int b] => match few b.natAbs with
    | true => some (rangeV 0 1 (cntUp 0 b))
    | false => .none
  | .range, [.int a, .int b] => match few a.natAbs && few b.natAbs with
    | true => some (rangeV a 1 (cntUp a b))
    | false => .none
  | .range, [.int a, .int b, .int c] => match few a.natAbs && few b.natAbs && W.Z.eqB c (-1) with
    | true => some (rangeV a (-1) (cntUp b a))
    | false => .none
  | .enum, [.list l] => match few l.length with
    | true => some (enumV 0 l)
    | false => .none
  | .zip, [.list a, .list b] => match few (a.length + b.length) with
    | true => some (zipV a b)
    | false => .none
  | _, _ => .none
noncomputable def pick (r : Rho) : List Nat → Rho
  | [] => []
  | i :: fv => match get r i with
    | some s => (i, s) :: pick r fv
    | .none => pick r fv
noncomputable def Tg.bind (r : Rho) : Tg → V → Option Rho
  | .one i _, v => some ((i, .sh v) :: r)
  | .two i j _ _ _ _, .tup [a, b] => some ((i, .sh a) :: (j, .sh b) :: r)
  | _, _ => .none
/-- the same by stores, in a statement -/
noncomputable def Tg.store (r : Rho) : Tg → V → Option Rho
  | .one i _, v => some (put r i (.sh v))
  | .two i j _ _ _ _, .tup [a, b] => some (put (put r i (.sh a)) j (.sh b))
  | _, _ => .none
noncomputable def atomic : V → Bool
  | .int _ => true
  | .bool _ => true
  | .none => true
  | _ => false

section
variable (Φ : Nat → List V → Option V)
abbrev EvFn := Rho → Ex → Option V
noncomputable def evs (ih : EvFn) (r : Rho) : List Ex → Option (List V)
  | [] => some []
  | e :: t => match ih r e with
    | some v => match evs ih r t with
      | some vs => some (v :: vs)
      | .none => .none
    | .none => .none
noncomputable def mapE (ih : EvFn) (elt : Ex) (tg : Tg) (r : Rho) : List V → Option (List V)
  | [] => some []
  | x :: t => match tg.bind r x with
    | some r' => match ih r' elt with
      | some v => match mapE ih elt tg r t with
        | some vs => some (v :: vs)
        | .none => .none
      | .none => .none
    | .none => .none
noncomputable def evAll (tst : Rho → Ex → Option Bool) (r : Rho) (a : Bool) : List Ex → Option Bool
  | [] => some a
  | e :: t => match tst r e with
    | some true => match a with
      | true => evAll tst r a t
      | false => some true
    | some false => match a with
      | true => some false
      | false => evAll tst r a t
    | .none => .none
noncomputable def tsCmp (ih : EvFn) (r : Rho) (o : Cop) (a b : Ex) : Option Bool := match ih r a with
  | some x => match ih r b with
    | some y => cop o x y
    | .none => .none
  | .none => .none
/-- a test -/
noncomputable def tstStep (ih : EvFn) (tst : Rho → Ex → Option Bool) (r : Rho) : Ex → Option Bool
  | .cmp o a b _ => tsCmp ih r o a b
  | .bo a es _ => evAll tst r a es
  | _ => .none
/-- a list that is read alone: an own one too -/
noncomputable def evC (ih : EvFn) (r : Rho) (c : Ex) : Option V := match c with
  | .name i _ => match get r i with
    | some (.sh v) => some v
    | some (.ow l) => some (.list l)
    | .none => .none
  | _ => ih r c
noncomputable def evName (r : Rho) (i : Nat) : Option V := match get r i with
  | some (.sh v) => some v
  | _ => .none
noncomputable def evBin (ih : EvFn) (r : Rho) (o : Bop) (a b : Ex) : Option V := match ih r a with
  | some x => match ih r b with
    | some y => bop o x y
    | .none => .none
  | .none => .none
noncomputable def evNeg (ih : EvFn) (r : Rho) (e : Ex) : Option V := match ih r e with
  | some (.int i) => some (.int (-i))
  | _ => .none
noncomputable def evCmp (ih : EvFn) (r : Rho) (o : Cop) (a b : Ex) : Option V := match ih r a with
  | some x => match ih r b with
    | some y => match cop o x y with
      | some c => some (.bool c)
      | .none => .none
    | .none => .none
  | .none => .none
noncomputable def evIte (ih : EvFn) (tst : Rho → Ex → Option Bool) (r : Rho) (t a b : Ex) : Option V := match tst r t with
  | some true => ih r a
  | some false => ih r b
  | .none => .none
noncomputable def evCall (ih : EvFn) (r : Rho) (f : Nat) (fr : Bool) (args : List Ex) : Option V := match fr with
  | true => match evs ih (frz r) args with
    | some vs => match Φ f vs with
      | some v => match atomic v with
        | true => some v
        | false => .none
      | .none => .none
    | .none => .none
  | false => match evs ih r args with
    | some vs => Φ f vs
    | .none => .none
noncomputable def evBi (ih : EvFn) (r : Rho) (b : Bi) (args : List Ex) : Option V := match b, args with
  | .len, [c] => match evC ih r c with
    | some v => biV .len [v]
    | .none => .none
  | _, _ => match evs ih r args with
    | some vs => biV b vs
    | .none => .none
noncomputable def evSub (ih : EvFn) (r : Rho) (c i : Ex) : Option V := match evC ih r c with
  | some x => match ih r i with
    | some y => subV x y
    | .none => .none
  | .none => .none
noncomputable def evTo (ih : EvFn) (r : Rho) (c e : Ex) : Option V := match evC ih r c with
  | some (.list l) => match ih r e with
    | some (.int k) => match few l.length with
      | true => some (.list (l.take (clip k l.length)))
      | false => .none
    | _ => .none
  | _ => .none
noncomputable def evFrom (ih : EvFn) (r : Rho) (c e : Ex) : Option V := match evC ih r c with
  | some (.list l) => match ih r e with
    | some (.int k) => match few l.length with
      | true => some (.list (l.drop (clip k l.length)))
      | false => .none
    | _ => .none
  | _ => .none
noncomputable def evRev (ih : EvFn) (r : Rho) (c : Ex) : Option V := match evC ih r c with
  | some (.list l) => match few l.length with
    | true => some (.list l.reverse)
    | false => .none
  | _ => .none
noncomputable def evTup (ih : EvFn) (r : Rho) (es : List Ex) : Option V := match evs ih r es with
  | some vs => match few vs.length with
    | true => some (.tup vs)
    | false => .none
  | .none => .none
noncomputable def evLst (ih : EvFn) (r : Rho) (es : List Ex) : Option V := match evs ih r es with
  | some vs => match few vs.length with
    | true => some (.list vs)
    | false => .none
  | .none => .none
noncomputable def evComp (ih : EvFn) (r : Rho) (elt : Ex) (tg : Tg) (k : SrK) (args : List Ex) (fv : List Nat) : Option V := match evs ih r args with
  | some vs => match srcV k vs with
    | some items => match mapE ih elt tg (pick r fv) items with
      | some l => some (.list l)
      | .none => .none
    | .none => .none
  | .none => .none
noncomputable def evStep (ih : EvFn) (tst : Rho → Ex → Option Bool) (r : Rho) : Ex → Option V
  | .int i _ => some (.int i)
  | .bool b _ => some (.bool b)
  | .non _ => some .none
  | .name i _ => evName r i
  | .bin o a b _ => evBin ih r o a b
  | .neg e _ => evNeg ih r e
  | .cmp o a b _ => evCmp ih r o a b
  | .bo _ _ _ => .none
  | .ite t a b _ => evIte ih tst r t a b
  | .call f fr _ args _ => evCall Φ ih r f fr args
  | .bi b _ args _ => evBi ih r b args
  | .sub c i _ => evSub ih r c i
  | .slTo c e _ _ => evTo ih r c e
  | .slFrom c e _ _ => evFrom ih r c e
  | .slRev c _ _ _ _ => evRev ih r c
  | .tup es _ _ => evTup ih r es
  | .lst es _ => evLst ih r es
  | .comp elt tg k _ args _ _ fv _ => evComp ih r elt tg k args fv
/-- both at once: values and tests -/
structure Both where
  e : EvFn
  t : Rho → Ex → Option Bool
noncomputable def both (n : Nat) : Both := Nat.rec (motive := fun _ => Both) ⟨fun _ _ => .none, fun _ _ => .none⟩ (fun _ b => ⟨evStep Φ b.e b.t, tstStep b.e b.t⟩) n
noncomputable def ev (n : Nat) : EvFn := (both Φ n).e
noncomputable def tst (n : Nat) : Rho → Ex → Option Bool := (both Φ n).t
end
mutual
/-- how deep an expression is -/
noncomputable def dep : Ex → Nat
  | .int _ _ => 1
  | .bool _ _ => 1
  | .non _ => 1
  | .name _ _ => 1
  | .bin _ l r _ => dep l + dep r + 1
  | .neg e _ => dep e + 1
  | .cmp _ l r _ => dep l + dep r + 1
  | .bo _ es _ => depL es + 1
  | .ite t a b _ => dep t + dep a + dep b + 1
  | .call _ _ _ args _ => depL args + 1
  | .bi _ _ args _ => depL args + 1
  | .sub c i _ => dep c + dep i + 1
  | .slTo c e _ _ => dep c + dep e + 1
  | .slFrom c e _ _ => dep c + dep e + 1
  | .slRev c _ _ _ _ => dep c + 1
  | .tup es _ _ => depL es + 1
  | .lst es _ => depL es + 1
  | .comp elt _ _ _ args _ _ _ _ => dep elt + depL args + 1
noncomputable def depL : List Ex → Nat
  | [] => 0
  | e :: t => dep e + depL t
end
noncomputable def evD (Φ : Nat → List V → Option V) (r : Rho) (e : Ex) : Option V := ev Φ (dep e) r e
noncomputable def tsD (Φ : Nat → List V → Option V) (r : Rho) (e : Ex) : Option Bool := tst Φ (dep e) r e

inductive Res where
  | next (r : Rho)
  | ret (v : V)

section
variable (Φ : Nat → List V → Option V) (Ψ : Nat → List V → List V → Option (List V))
abbrev StFn := Rho → List St → Option Res
noncomputable def slotOf (own : Bool) (v : V) : Option Sl := match own with
  | false => some (.sh v)
  | true => match v with
    | .list l => some (.ow l)
    | _ => .none
noncomputable def asgT (ev : EvFn) (r : Rho) (t : Tgt) (v : V) : Option Rho := match t with
  | .name i own _ => match slotOf own v with
    | some s => some (put r i s)
    | .none => .none
  | .item i ix _ _ => match get r i with
    | some (.ow l) => match ev r ix with
      | some (.int k) => match k with
        | .ofNat j => match Nat.blt j l.length && few j with
          | true => some (put r i (.ow (l.set j v)))
          | false => .none
        | .negSucc _ => .none
      | _ => .none
    | _ => .none
noncomputable def asgTs (ev : EvFn) (r : Rho) : List Tgt → List V → Option Rho
  | [], [] => some r
  | t :: ts, v :: vs => match asgT ev r t v with
    | some r' => asgTs ev r' ts vs
    | .none => .none
  | _, _ => .none
noncomputable def wloop (t : Rho → Option Bool) (b : Rho → Option Res) : Nat → Rho → Option Res
  | 0, _ => .none
  | n + 1, r => match t r with
    | some true => match b r with
      | some (.next r') => wloop t b n r'
      | some (.ret v) => some (.ret v)
      | .none => .none
    | some false => some (.next r)
    | .none => .none
noncomputable def floop (tg : Tg) (b : Rho → Option Res) : List V → Rho → Option Res
  | [], r => some (.next r)
  | x :: xs, r => match tg.store r x with
    | some r₁ => match b r₁ with
      | some (.next r') => floop tg b xs r'
      | some (.ret v) => some (.ret v)
      | .none => .none
    | .none => .none
noncomputable def sAsg1 (ev : EvFn) (r : Rho) (t : Tgt) (e : Ex) : Option Res := match ev r e with
  | some v => match asgT ev r t v with
    | some r' => some (.next r')
    | .none => .none
  | .none => .none
noncomputable def sAsgD (ev : EvFn) (r : Rho) (ts : List Tgt) (es : List Ex) : Option Res := match evs ev r es with
  | some vs => match asgTs ev r ts vs with
    | some r' => some (.next r')
    | .none => .none
  | .none => .none
noncomputable def sAsgU (ev : EvFn) (r : Rho) (ts : List Tgt) (e : Ex) : Option Res := match ev r e with
  | some (.tup vs) => match asgTs ev r ts vs with
    | some r' => some (.next r')
    | .none => .none
  | _ => .none
noncomputable def sAug (ev : EvFn) (r : Rho) (i : Nat) (o : Bop) (e : Ex) : Option Res := match get r i with
  | some (.sh x) => match ev r e with
    | some y => match x, y with
      | .int a, .int b => match o with
        | .sub => some (.next (put r i (.sh (.int (a - b)))))
        | .add => some (.next (put r i (.sh (.int (a + b)))))
        | _ => .none
      | _, _ => .none
    | .none => .none
  | _ => .none
noncomputable def sApp (ev : EvFn) (r : Rho) (i : Nat) (e : Ex) : Option Res := match get r i with
  | some (.ow l) => match few l.length with
    | true => match e with
      | .name j _ => match Nat.beq i j with
        | true => .none
        | false => match get r j with
          | some (.sh v) => some (.next (put r i (.ow (l ++ [v]))))
          | some (.ow m) => some (.next (put (del r j) i (.ow (l ++ [.list m]))))
          | .none => .none
      | _ => match ev r e with
        | some v => some (.next (put r i (.ow (l ++ [v]))))
        | .none => .none
    | false => .none
  | _ => .none
noncomputable def sInout (ev : EvFn) (r : Rho) (f i : Nat) (es : List Ex) : Option Res := match get r i with
  | some (.ow l) => match evs ev r es with
    | some vs => match Ψ f l vs with
      | some l' => some (.next (put r i (.ow l')))
      | .none => .none
    | .none => .none
  | _ => .none
noncomputable def sIfs (tst : Rho → Ex → Option Bool) (ih : StFn) (r : Rho) (t : Ex) (b1 b2 : List St) : Option Res := match tst r t with
  | some true => ih r b1
  | some false => ih r b2
  | .none => .none
noncomputable def sFor (ev : EvFn) (ih : StFn) (r : Rho) (tg : Tg) (k : SrK) (args : List Ex) (b : List St) : Option Res := match evs ev r args with
  | some vs => match srcV k vs with
    | some items => floop tg (fun r => ih r b) items r
    | .none => .none
  | .none => .none
noncomputable def sRet (ev : EvFn) (r : Rho) (e : Ex) : Option Res := match ev (frz r) e with
  | some v => some (.ret v)
  | .none => .none
noncomputable def sEx (ev : EvFn) (r : Rho) (e : Ex) : Option Res := match ev r e with
  | some v => match atomic v with
    | true => some (.next r)
    | false => .none
  | .none => .none
noncomputable def stStep (ev : EvFn) (tst : Rho → Ex → Option Bool) (ih : StFn) (r : Rho) : St → Option Res
  | .asg1 t e _ => sAsg1 ev r t e
  | .asgD ts _ _ es _ _ _ => sAsgD ev r ts es
  | .asgU ts _ _ e _ => sAsgU ev r ts e
  | .aug i _ o e _ => sAug ev r i o e
  | .app i _ _ e _ _ => sApp ev r i e
  | .inout f _ i _ es _ _ => sInout Ψ ev r f i es
  | .ifs t b1 b2 _ => sIfs tst ih r t b1 b2
  | .wh t b _ => wloop (fun r => tst r t) (fun r => ih r b) 4096 r
  | .fr tg k _ args _ b _ => sFor ev ih r tg k args b
  | .ret e _ => sRet ev r e
  | .ex e _ => sEx ev r e
  | .other _ => .none
noncomputable def exs (step : Rho → St → Option Res) (r : Rho) : List St → Option Res
  | [] => some (.next r)
  | s :: t => match step r s with
    | some (.next r') => exs step r' t
    | some (.ret v) => some (.ret v)
    | .none => .none
/-- blocks: n is the nesting -/
noncomputable def run (n : Nat) : StFn := Nat.rec (motive := fun _ => StFn) (fun _ _ => .none) (fun _ ih => exs (stStep Ψ (evD Φ) (tsD Φ) ih)) n
end
end Mine
end
section
open PySem
namespace Mine
noncomputable def nmT : List Str := [Str.ofString "len", Str.ofString "list", Str.ofString "range", Str.ofString "enumerate", Str.ofString "zip", Str.ofString "sum", Str.ofString "max", Str.ofString "abs", Str.ofString "int", Str.ofString ".0", Str.ofString "unit_rows", Str.ofString "whole_mul", Str.ofString "next_number", Str.ofString "recurrence_row", Str.ofString "step_matrix", Str.ofString "matrix_raised", Str.ofString "number_at", Str.ofString "gcd", Str.ofString "gcd_all", Str.ofString "extended", Str.ofString "power_mod", Str.ofString "inverse_mod", Str.ofString "mtrim", Str.ofString "mdegree", Str.ofString "mmul", Str.ofString "mdivmod", Str.ofString "mrest", Str.ofString "mpower_mod", Str.ofString "berlekamp_matrix", Str.ofString "null_space", Str.ofString "pivot_row", Str.ofString "clear_below", Str.ofString "count_factors", Str.ofString "ztrim", Str.ofString "zdegree", Str.ofString "zlead", Str.ofString "zadd", Str.ofString "zneg", Str.ofString "zsub", Str.ofString "zscale", Str.ofString "zraise", Str.ofString "zcontent", Str.ofString "zderive", Str.ofString "check_bottom", Str.ofString "pseudo", Str.ofString "divided", Str.ofString "full_rest", Str.ofString "row_resultant", Str.ofString "resultant", Str.ofString "discriminant", Str.ofString "_law_draw", Str.ofString "_law_row", Str.ofString "_law_prime_right", Str.ofString "law", Str.ofString "n", Str.ofString "row", Str.ofString "column", Str.ofString "a", Str.ofString "b", Str.ofString "width", Str.ofString "at", Str.ofString "steps", Str.ofString "step", Str.ofString "first", Str.ofString "many", Str.ofString "found", Str.ofString "CasFail", Str.ofString "size", Str.ofString "spot", Str.ofString "square", Str.ofString "raised", Str.ofString "number", Str.ofString "one", Str.ofString "numbers", Str.ofString "other", Str.ofString "times", Str.ofString "rest", Str.ofString "m", Str.ofString "g", Str.ofString "s", Str.ofString "t", Str.ofString "p", Str.ofString "quotient", Str.ofString "turn", Str.ofString "f", Str.ofString "power", Str.ofString "rows", Str.ofString "work", Str.ofString "wide", Str.ofString "done", Str.ofString "pivot", Str.ofString "k", Str.ofString "left", Str.ofString "more", Str.ofString "coefficient", Str.ofString "lacking", Str.ofString "sign", Str.ofString "h", Str.ofString "gap", Str.ofString "shared", Str.ofString "pool", Str.ofString "told", Str.ofString "again", Str.ofString "script", Str.ofString "turned", Str.ofString "behind", Str.ofString "own", Str.ofString "back", Str.ofString "here", Str.ofString "there", Str.ofString "cell"]
noncomputable def nm (i : Nat) : Str := match nmT[i]? with
  | some s => s
  | .none => ⟨#[3000000 + i]⟩
/- 0 len, 1 list, 2 range, 3 enumerate, 4 zip, 5 sum, 6 max, 7 abs, 8 int, 9 .0, 10 unit_rows, 11 whole_mul, 12 next_number, 13 recurrence_row, 14 step_matrix, 15 matrix_raised, 16 number_at, 17 gcd, 18 gcd_all, 19 extended, 20 power_mod, 21 inverse_mod, 22 mtrim, 23 mdegree, 24 mmul, 25 mdivmod, 26 mrest, 27 mpower_mod, 28 berlekamp_matrix, 29 null_space, 30 pivot_row, 31 clear_below, 32 count_factors, 33 ztrim, 34 zdegree, 35 zlead, 36 zadd, 37 zneg, 38 zsub, 39 zscale, 40 zraise, 41 zcontent, 42 zderive, 43 check_bottom, 44 pseudo, 45 divided, 46 full_rest, 47 row_resultant, 48 resultant, 49 discriminant, 50 _law_draw, 51 _law_row, 52 _law_prime_right, 53 law, 54 n, 55 row, 56 column, 57 a, 58 b, 59 width, 60 at, 61 steps, 62 step, 63 first, 64 many, 65 found, 66 CasFail, 67 size, 68 spot, 69 square, 70 raised, 71 number, 72 one, 73 numbers, 74 other, 75 times, 76 rest, 77 m, 78 g, 79 s, 80 t, 81 p, 82 quotient, 83 turn, 84 f, 85 power, 86 rows, 87 work, 88 wide, 89 done, 90 pivot, 91 k, 92 left, 93 more, 94 coefficient, 95 lacking, 96 sign, 97 h, 98 gap, 99 shared, 100 pool, 101 told, 102 again, 103 script, 104 turned, 105 behind, 106 own, 107 back, 108 here, 109 there, 110 cell -/
noncomputable def s_unit_rows : List (Nat × NameKind) := [(54, .cell), (2, .globalImplicit)]
noncomputable def p_unit_rows : List Nat := [54]
noncomputable def b_unit_rows : List St := [
  .ret (.comp (.comp (.ite (.cmp .eq (.name 55 ⟨10, 18, 10, 21⟩) (.name 56 ⟨10, 25, 10, 31⟩) ⟨10, 18, 10, 31⟩) (.int 1 ⟨10, 13, 10, 14⟩) (.int 0 ⟨10, 37, 10, 38⟩) ⟨10, 13, 10, 38⟩) (.one 56 ⟨10, 43, 10, 49⟩) .range ⟨10, 53, 10, 58⟩ [(.name 54 ⟨10, 59, 10, 60⟩)] ⟨10, 53, 10, 61⟩ [(9, .local), (56, .local), (55, .free)] [55] ⟨10, 12, 10, 62⟩) (.one 55 ⟨10, 67, 10, 70⟩) .range ⟨10, 74, 10, 79⟩ [(.name 54 ⟨10, 80, 10, 81⟩)] ⟨10, 74, 10, 82⟩ [(9, .local), (55, .cell), (2, .globalImplicit), (54, .free)] [54] ⟨10, 11, 10, 83⟩) ⟨10, 4, 10, 83⟩]
noncomputable def s_whole_mul : List (Nat × NameKind) := [(57, .local), (58, .cell), (59, .cell), (0, .globalImplicit)]
noncomputable def p_whole_mul : List Nat := [57, 58]
noncomputable def b_whole_mul : List St := [
  .asg1 (.name 59 false ⟨12, 4, 12, 9⟩) (.ite (.cmp .gt (.bi .len ⟨12, 25, 12, 28⟩ [(.name 58 ⟨12, 29, 12, 30⟩)] ⟨12, 25, 12, 31⟩) (.int 0 ⟨12, 34, 12, 35⟩) ⟨12, 25, 12, 35⟩) (.bi .len ⟨12, 12, 12, 15⟩ [(.sub (.name 58 ⟨12, 16, 12, 17⟩) (.int 0 ⟨12, 18, 12, 19⟩) ⟨12, 16, 12, 20⟩)] ⟨12, 12, 12, 21⟩) (.int 0 ⟨12, 41, 12, 42⟩) ⟨12, 12, 12, 42⟩) ⟨12, 4, 12, 42⟩,
  .ret (.comp (.comp (.bi .sum ⟨13, 13, 13, 16⟩ [(.comp (.bin .mul (.sub (.name 55 ⟨13, 18, 13, 21⟩) (.name 60 ⟨13, 22, 13, 24⟩) ⟨13, 18, 13, 25⟩) (.sub (.sub (.name 58 ⟨13, 28, 13, 29⟩) (.name 60 ⟨13, 30, 13, 32⟩) ⟨13, 28, 13, 33⟩) (.name 56 ⟨13, 34, 13, 40⟩) ⟨13, 28, 13, 41⟩) ⟨13, 18, 13, 41⟩) (.one 60 ⟨13, 46, 13, 48⟩) .range ⟨13, 52, 13, 57⟩ [(.bi .len ⟨13, 58, 13, 61⟩ [(.name 58 ⟨13, 62, 13, 63⟩)] ⟨13, 58, 13, 64⟩)] ⟨13, 52, 13, 65⟩ [(9, .local), (60, .local), (58, .free), (56, .free), (55, .free)] [58, 56, 55] ⟨13, 17, 13, 66⟩)] ⟨13, 13, 13, 67⟩) (.one 56 ⟨13, 72, 13, 78⟩) .range ⟨13, 82, 13, 87⟩ [(.name 59 ⟨13, 88, 13, 93⟩)] ⟨13, 82, 13, 94⟩ [(9, .local), (56, .cell), (5, .globalImplicit), (2, .globalImplicit), (0, .globalImplicit), (58, .free), (55, .free)] [58, 55] ⟨13, 12, 13, 95⟩) (.one 55 ⟨13, 100, 13, 103⟩) .list ⟨0, 0, 0, 0⟩ [(.name 57 ⟨13, 107, 13, 108⟩)] ⟨0, 0, 0, 0⟩ [(9, .local), (55, .cell), (2, .globalImplicit), (58, .free), (59, .free)] [58, 59] ⟨13, 11, 13, 109⟩) ⟨13, 4, 13, 109⟩]
noncomputable def s_next_number : List (Nat × NameKind) := [(61, .local), (55, .cell), (5, .globalImplicit), (3, .globalImplicit)]
noncomputable def p_next_number : List Nat := [61, 55]
noncomputable def b_next_number : List St := [
  .ret (.bi .sum ⟨16, 11, 16, 14⟩ [(.comp (.bin .mul (.name 62 ⟨16, 16, 16, 20⟩) (.sub (.name 55 ⟨16, 23, 16, 26⟩) (.bin .sub (.bin .sub (.bi .len ⟨16, 27, 16, 30⟩ [(.name 55 ⟨16, 31, 16, 34⟩)] ⟨16, 27, 16, 35⟩) (.int 1 ⟨16, 38, 16, 39⟩) ⟨16, 27, 16, 39⟩) (.name 60 ⟨16, 42, 16, 44⟩) ⟨16, 27, 16, 44⟩) ⟨16, 23, 16, 45⟩) ⟨16, 16, 16, 45⟩) (.two 60 62 ⟨16, 50, 16, 52⟩ ⟨16, 54, 16, 58⟩ 0 ⟨16, 50, 16, 58⟩) .enum ⟨16, 62, 16, 71⟩ [(.name 61 ⟨16, 72, 16, 77⟩)] ⟨16, 62, 16, 78⟩ [(9, .local), (60, .local), (62, .local), (0, .globalImplicit), (55, .free)] [55] ⟨16, 15, 16, 79⟩)] ⟨16, 11, 16, 80⟩) ⟨16, 4, 16, 80⟩]
noncomputable def s_recurrence_row : List (Nat × NameKind) := [(61, .local), (63, .local), (64, .local), (65, .local), (0, .globalImplicit), (66, .globalImplicit), (1, .globalImplicit), (12, .globalImplicit)]
noncomputable def p_recurrence_row : List Nat := [61, 63, 64]
noncomputable def b_recurrence_row : List St := [
  .ifs (.cmp .ne (.bi .len ⟨18, 7, 18, 10⟩ [(.name 63 ⟨18, 11, 18, 16⟩)] ⟨18, 7, 18, 17⟩) (.bi .len ⟨18, 21, 18, 24⟩ [(.name 61 ⟨18, 25, 18, 30⟩)] ⟨18, 21, 18, 31⟩) ⟨18, 7, 18, 31⟩) [.other (.Raise (some (.Call (.Name (nm 66) ⟨19, 14, 19, 21⟩) [.Constant (.str "shape") 0 ⟨19, 22, 19, 29⟩, .Constant (.str "as many first numbers as steps are wanted") 0 ⟨19, 31, 19, 74⟩] [] ⟨19, 14, 19, 75⟩)) .none ⟨19, 8, 19, 75⟩)] [] ⟨18, 4, 19, 75⟩,
  .asg1 (.name 65 true ⟨20, 4, 20, 9⟩) (.bi .list ⟨20, 12, 20, 16⟩ [(.name 63 ⟨20, 17, 20, 22⟩)] ⟨20, 12, 20, 23⟩) ⟨20, 4, 20, 23⟩,
  .wh (.cmp .lt (.bi .len ⟨21, 10, 21, 13⟩ [(.name 65 ⟨21, 14, 21, 19⟩)] ⟨21, 10, 21, 20⟩) (.name 64 ⟨21, 23, 21, 27⟩) ⟨21, 10, 21, 27⟩) [.app 65 ⟨22, 8, 22, 13⟩ ⟨22, 8, 22, 20⟩ (.call 12 true ⟨22, 21, 22, 32⟩ [(.name 61 ⟨22, 33, 22, 38⟩), (.name 65 ⟨22, 40, 22, 45⟩)] ⟨22, 21, 22, 46⟩) ⟨22, 8, 22, 47⟩ ⟨22, 8, 22, 47⟩] ⟨21, 4, 22, 47⟩,
  .ret (.slTo (.name 65 ⟨23, 11, 23, 16⟩) (.name 64 ⟨23, 18, 23, 22⟩) ⟨23, 17, 23, 22⟩ ⟨23, 11, 23, 23⟩) ⟨23, 4, 23, 23⟩]
noncomputable def s_step_matrix : List (Nat × NameKind) := [(61, .local), (67, .local), (65, .local), (60, .cell), (0, .globalImplicit), (1, .globalImplicit), (2, .globalImplicit)]
noncomputable def p_step_matrix : List Nat := [61]
noncomputable def b_step_matrix : List St := [
  .asg1 (.name 67 false ⟨25, 4, 25, 8⟩) (.bi .len ⟨25, 11, 25, 14⟩ [(.name 61 ⟨25, 15, 25, 20⟩)] ⟨25, 11, 25, 21⟩) ⟨25, 4, 25, 21⟩,
  .asg1 (.name 65 true ⟨26, 4, 26, 9⟩) (.ite (.cmp .gt (.name 67 ⟨26, 29, 26, 33⟩) (.int 0 ⟨26, 36, 26, 37⟩) ⟨26, 29, 26, 37⟩) (.lst [(.bi .list ⟨26, 13, 26, 17⟩ [(.name 61 ⟨26, 18, 26, 23⟩)] ⟨26, 13, 26, 24⟩)] ⟨26, 12, 26, 25⟩) (.lst [] ⟨26, 43, 26, 45⟩) ⟨26, 12, 26, 45⟩) ⟨26, 4, 26, 45⟩,
  .fr (.one 60 ⟨27, 8, 27, 10⟩) .range ⟨27, 14, 27, 19⟩ [(.bin .sub (.name 67 ⟨27, 20, 27, 24⟩) (.int 1 ⟨27, 27, 27, 28⟩) ⟨27, 20, 27, 28⟩)] ⟨27, 14, 27, 29⟩ [.app 65 ⟨28, 8, 28, 13⟩ ⟨28, 8, 28, 20⟩ (.comp (.ite (.cmp .eq (.name 68 ⟨28, 27, 28, 31⟩) (.name 60 ⟨28, 35, 28, 37⟩) ⟨28, 27, 28, 37⟩) (.int 1 ⟨28, 22, 28, 23⟩) (.int 0 ⟨28, 43, 28, 44⟩) ⟨28, 22, 28, 44⟩) (.one 68 ⟨28, 49, 28, 53⟩) .range ⟨28, 57, 28, 62⟩ [(.name 67 ⟨28, 63, 28, 67⟩)] ⟨28, 57, 28, 68⟩ [(9, .local), (68, .local), (60, .free)] [60] ⟨28, 21, 28, 69⟩) ⟨28, 8, 28, 70⟩ ⟨28, 8, 28, 70⟩] ⟨27, 4, 28, 70⟩,
  .ret (.name 65 ⟨29, 11, 29, 16⟩) ⟨29, 4, 29, 16⟩]
noncomputable def s_matrix_raised : List (Nat × NameKind) := [(57, .local), (54, .local), (65, .local), (69, .local), (10, .globalImplicit), (0, .globalImplicit), (11, .globalImplicit)]
noncomputable def p_matrix_raised : List Nat := [57, 54]
noncomputable def b_matrix_raised : List St := [
  .asgD [(.name 65 false ⟨31, 4, 31, 9⟩), (.name 69 false ⟨31, 11, 31, 17⟩)] 0 ⟨31, 4, 31, 17⟩ [(.call 10 false ⟨31, 21, 31, 30⟩ [(.bi .len ⟨31, 31, 31, 34⟩ [(.name 57 ⟨31, 35, 31, 36⟩)] ⟨31, 31, 31, 37⟩)] ⟨31, 21, 31, 38⟩), (.name 57 ⟨31, 40, 31, 41⟩)] 0 ⟨31, 20, 31, 42⟩ ⟨31, 4, 31, 42⟩,
  .wh (.cmp .gt (.name 54 ⟨32, 10, 32, 11⟩) (.int 0 ⟨32, 14, 32, 15⟩) ⟨32, 10, 32, 15⟩) [.ifs (.cmp .eq (.bin .mod (.name 54 ⟨33, 11, 33, 12⟩) (.int 2 ⟨33, 15, 33, 16⟩) ⟨33, 11, 33, 16⟩) (.int 1 ⟨33, 20, 33, 21⟩) ⟨33, 11, 33, 21⟩) [.asg1 (.name 65 false ⟨34, 12, 34, 17⟩) (.call 11 false ⟨34, 20, 34, 29⟩ [(.name 65 ⟨34, 30, 34, 35⟩), (.name 69 ⟨34, 37, 34, 43⟩)] ⟨34, 20, 34, 44⟩) ⟨34, 12, 34, 44⟩] [] ⟨33, 8, 34, 44⟩, .asg1 (.name 54 false ⟨35, 8, 35, 9⟩) (.bin .fdiv (.name 54 ⟨35, 12, 35, 13⟩) (.int 2 ⟨35, 17, 35, 18⟩) ⟨35, 12, 35, 18⟩) ⟨35, 8, 35, 18⟩, .asg1 (.name 69 false ⟨36, 8, 36, 14⟩) (.ite (.cmp .gt (.name 54 ⟨36, 46, 36, 47⟩) (.int 0 ⟨36, 50, 36, 51⟩) ⟨36, 46, 36, 51⟩) (.call 11 false ⟨36, 17, 36, 26⟩ [(.name 69 ⟨36, 27, 36, 33⟩), (.name 69 ⟨36, 35, 36, 41⟩)] ⟨36, 17, 36, 42⟩) (.name 69 ⟨36, 57, 36, 63⟩) ⟨36, 17, 36, 63⟩) ⟨36, 8, 36, 63⟩] ⟨32, 4, 36, 63⟩,
  .ret (.name 65 ⟨37, 11, 37, 16⟩) ⟨37, 4, 37, 16⟩]
noncomputable def s_number_at : List (Nat × NameKind) := [(61, .local), (63, .local), (54, .local), (70, .local), (0, .globalImplicit), (15, .globalImplicit), (14, .globalImplicit), (5, .globalImplicit), (4, .globalImplicit)]
noncomputable def p_number_at : List Nat := [61, 63, 54]
noncomputable def b_number_at : List St := [
  .ifs (.cmp .lt (.name 54 ⟨39, 7, 39, 8⟩) (.bi .len ⟨39, 11, 39, 14⟩ [(.name 61 ⟨39, 15, 39, 20⟩)] ⟨39, 11, 39, 21⟩) ⟨39, 7, 39, 21⟩) [.ret (.sub (.name 63 ⟨40, 15, 40, 20⟩) (.name 54 ⟨40, 21, 40, 22⟩) ⟨40, 15, 40, 23⟩) ⟨40, 8, 40, 23⟩] [] ⟨39, 4, 40, 23⟩,
  .ifs (.cmp .eq (.bi .len ⟨41, 7, 41, 10⟩ [(.name 61 ⟨41, 11, 41, 16⟩)] ⟨41, 7, 41, 17⟩) (.int 0 ⟨41, 21, 41, 22⟩) ⟨41, 7, 41, 22⟩) [.ret (.int 0 ⟨42, 15, 42, 16⟩) ⟨42, 8, 42, 16⟩] [] ⟨41, 4, 42, 16⟩,
  .asg1 (.name 70 false ⟨43, 4, 43, 10⟩) (.call 15 false ⟨43, 13, 43, 26⟩ [(.call 14 false ⟨43, 27, 43, 38⟩ [(.name 61 ⟨43, 39, 43, 44⟩)] ⟨43, 27, 43, 45⟩), (.bin .add (.bin .sub (.name 54 ⟨43, 47, 43, 48⟩) (.bi .len ⟨43, 51, 43, 54⟩ [(.name 61 ⟨43, 55, 43, 60⟩)] ⟨43, 51, 43, 61⟩) ⟨43, 47, 43, 61⟩) (.int 1 ⟨43, 64, 43, 65⟩) ⟨43, 47, 43, 65⟩)] ⟨43, 13, 43, 66⟩) ⟨43, 4, 43, 66⟩,
  .ret (.bi .sum ⟨44, 11, 44, 14⟩ [(.comp (.bin .mul (.name 71 ⟨44, 16, 44, 22⟩) (.name 72 ⟨44, 25, 44, 28⟩) ⟨44, 16, 44, 28⟩) (.two 71 72 ⟨44, 33, 44, 39⟩ ⟨44, 41, 44, 44⟩ 0 ⟨44, 33, 44, 44⟩) .zip ⟨44, 48, 44, 51⟩ [(.sub (.name 70 ⟨44, 52, 44, 58⟩) (.int 0 ⟨44, 59, 44, 60⟩) ⟨44, 52, 44, 61⟩), (.slRev (.name 63 ⟨44, 63, 44, 68⟩) ⟨44, 72, 44, 73⟩ ⟨44, 71, 44, 73⟩ ⟨44, 69, 44, 73⟩ ⟨44, 63, 44, 74⟩)] ⟨44, 48, 44, 75⟩ [(9, .local), (71, .local), (72, .local)] [] ⟨44, 15, 44, 76⟩)] ⟨44, 11, 44, 77⟩) ⟨44, 4, 44, 77⟩]
noncomputable def s_gcd : List (Nat × NameKind) := [(57, .local), (58, .local), (7, .globalImplicit)]
noncomputable def p_gcd : List Nat := [57, 58]
noncomputable def b_gcd : List St := [
  .asgD [(.name 57 false ⟨47, 4, 47, 5⟩), (.name 58 false ⟨47, 7, 47, 8⟩)] 0 ⟨47, 4, 47, 8⟩ [(.bi .abs ⟨47, 12, 47, 15⟩ [(.name 57 ⟨47, 16, 47, 17⟩)] ⟨47, 12, 47, 18⟩), (.bi .abs ⟨47, 20, 47, 23⟩ [(.name 58 ⟨47, 24, 47, 25⟩)] ⟨47, 20, 47, 26⟩)] 0 ⟨47, 11, 47, 27⟩ ⟨47, 4, 47, 27⟩,
  .wh (.cmp .ne (.name 58 ⟨48, 10, 48, 11⟩) (.int 0 ⟨48, 15, 48, 16⟩) ⟨48, 10, 48, 16⟩) [.asgD [(.name 57 false ⟨49, 8, 49, 9⟩), (.name 58 false ⟨49, 11, 49, 12⟩)] 0 ⟨49, 8, 49, 12⟩ [(.name 58 ⟨49, 16, 49, 17⟩), (.bin .mod (.name 57 ⟨49, 19, 49, 20⟩) (.name 58 ⟨49, 23, 49, 24⟩) ⟨49, 19, 49, 24⟩)] 0 ⟨49, 15, 49, 25⟩ ⟨49, 8, 49, 25⟩] ⟨48, 4, 49, 25⟩,
  .ret (.name 57 ⟨50, 11, 50, 12⟩) ⟨50, 4, 50, 12⟩]
noncomputable def s_gcd_all : List (Nat × NameKind) := [(73, .local), (65, .local), (71, .local), (17, .globalImplicit)]
noncomputable def p_gcd_all : List Nat := [73]
noncomputable def b_gcd_all : List St := [
  .asg1 (.name 65 false ⟨52, 4, 52, 9⟩) (.int 0 ⟨52, 12, 52, 13⟩) ⟨52, 4, 52, 13⟩,
  .fr (.one 71 ⟨53, 8, 53, 14⟩) .list ⟨0, 0, 0, 0⟩ [(.name 73 ⟨53, 18, 53, 25⟩)] ⟨0, 0, 0, 0⟩ [.asg1 (.name 65 false ⟨54, 8, 54, 13⟩) (.call 17 false ⟨54, 16, 54, 19⟩ [(.name 65 ⟨54, 20, 54, 25⟩), (.name 71 ⟨54, 27, 54, 33⟩)] ⟨54, 16, 54, 34⟩) ⟨54, 8, 54, 34⟩] ⟨53, 4, 54, 34⟩,
  .ret (.name 65 ⟨55, 11, 55, 16⟩) ⟨55, 4, 55, 16⟩]
noncomputable def s_extended : List (Nat × NameKind) := [(57, .local), (58, .local), (72, .local), (74, .local), (75, .local), (76, .local)]
noncomputable def p_extended : List Nat := [57, 58]
noncomputable def b_extended : List St := [
  .asgD [(.name 72 false ⟨57, 4, 57, 7⟩), (.name 74 false ⟨57, 9, 57, 14⟩)] 0 ⟨57, 4, 57, 14⟩ [(.tup [(.name 57 ⟨57, 19, 57, 20⟩), (.int 1 ⟨57, 22, 57, 23⟩), (.int 0 ⟨57, 25, 57, 26⟩)] 0 ⟨57, 18, 57, 27⟩), (.tup [(.name 58 ⟨57, 30, 57, 31⟩), (.int 0 ⟨57, 33, 57, 34⟩), (.int 1 ⟨57, 36, 57, 37⟩)] 0 ⟨57, 29, 57, 38⟩)] 0 ⟨57, 17, 57, 39⟩ ⟨57, 4, 57, 39⟩,
  .wh (.cmp .ne (.sub (.name 74 ⟨58, 10, 58, 15⟩) (.int 0 ⟨58, 16, 58, 17⟩) ⟨58, 10, 58, 18⟩) (.int 0 ⟨58, 22, 58, 23⟩) ⟨58, 10, 58, 23⟩) [.asg1 (.name 75 false ⟨59, 8, 59, 13⟩) (.bin .fdiv (.sub (.name 72 ⟨59, 16, 59, 19⟩) (.int 0 ⟨59, 20, 59, 21⟩) ⟨59, 16, 59, 22⟩) (.sub (.name 74 ⟨59, 26, 59, 31⟩) (.int 0 ⟨59, 32, 59, 33⟩) ⟨59, 26, 59, 34⟩) ⟨59, 16, 59, 34⟩) ⟨59, 8, 59, 34⟩, .asg1 (.name 76 false ⟨60, 8, 60, 12⟩) (.tup [(.bin .sub (.sub (.name 72 ⟨60, 16, 60, 19⟩) (.int 0 ⟨60, 20, 60, 21⟩) ⟨60, 16, 60, 22⟩) (.bin .mul (.name 75 ⟨60, 25, 60, 30⟩) (.sub (.name 74 ⟨60, 33, 60, 38⟩) (.int 0 ⟨60, 39, 60, 40⟩) ⟨60, 33, 60, 41⟩) ⟨60, 25, 60, 41⟩) ⟨60, 16, 60, 41⟩), (.bin .sub (.sub (.name 72 ⟨60, 43, 60, 46⟩) (.int 1 ⟨60, 47, 60, 48⟩) ⟨60, 43, 60, 49⟩) (.bin .mul (.name 75 ⟨60, 52, 60, 57⟩) (.sub (.name 74 ⟨60, 60, 60, 65⟩) (.int 1 ⟨60, 66, 60, 67⟩) ⟨60, 60, 60, 68⟩) ⟨60, 52, 60, 68⟩) ⟨60, 43, 60, 68⟩), (.bin .sub (.sub (.name 72 ⟨60, 70, 60, 73⟩) (.int 2 ⟨60, 74, 60, 75⟩) ⟨60, 70, 60, 76⟩) (.bin .mul (.name 75 ⟨60, 79, 60, 84⟩) (.sub (.name 74 ⟨60, 87, 60, 92⟩) (.int 2 ⟨60, 93, 60, 94⟩) ⟨60, 87, 60, 95⟩) ⟨60, 79, 60, 95⟩) ⟨60, 70, 60, 95⟩)] 0 ⟨60, 15, 60, 96⟩) ⟨60, 8, 60, 96⟩, .asgD [(.name 72 false ⟨61, 8, 61, 11⟩), (.name 74 false ⟨61, 13, 61, 18⟩)] 0 ⟨61, 8, 61, 18⟩ [(.name 74 ⟨61, 22, 61, 27⟩), (.name 76 ⟨61, 29, 61, 33⟩)] 0 ⟨61, 21, 61, 34⟩ ⟨61, 8, 61, 34⟩] ⟨58, 4, 61, 34⟩,
  .ret (.ite (.cmp .ge (.sub (.name 72 ⟨62, 18, 62, 21⟩) (.int 0 ⟨62, 22, 62, 23⟩) ⟨62, 18, 62, 24⟩) (.int 0 ⟨62, 28, 62, 29⟩) ⟨62, 18, 62, 29⟩) (.name 72 ⟨62, 11, 62, 14⟩) (.tup [(.bin .sub (.int 0 ⟨62, 36, 62, 37⟩) (.sub (.name 72 ⟨62, 40, 62, 43⟩) (.int 0 ⟨62, 44, 62, 45⟩) ⟨62, 40, 62, 46⟩) ⟨62, 36, 62, 46⟩), (.bin .sub (.int 0 ⟨62, 48, 62, 49⟩) (.sub (.name 72 ⟨62, 52, 62, 55⟩) (.int 1 ⟨62, 56, 62, 57⟩) ⟨62, 52, 62, 58⟩) ⟨62, 48, 62, 58⟩), (.bin .sub (.int 0 ⟨62, 60, 62, 61⟩) (.sub (.name 72 ⟨62, 64, 62, 67⟩) (.int 2 ⟨62, 68, 62, 69⟩) ⟨62, 64, 62, 70⟩) ⟨62, 60, 62, 70⟩)] 0 ⟨62, 35, 62, 71⟩) ⟨62, 11, 62, 71⟩) ⟨62, 4, 62, 71⟩]
noncomputable def s_power_mod : List (Nat × NameKind) := [(57, .local), (54, .local), (77, .local), (65, .local), (69, .local)]
noncomputable def p_power_mod : List Nat := [57, 54, 77]
noncomputable def b_power_mod : List St := [
  .asgD [(.name 65 false ⟨64, 4, 64, 9⟩), (.name 69 false ⟨64, 11, 64, 17⟩)] 0 ⟨64, 4, 64, 17⟩ [(.bin .mod (.int 1 ⟨64, 21, 64, 22⟩) (.name 77 ⟨64, 25, 64, 26⟩) ⟨64, 21, 64, 26⟩), (.bin .mod (.name 57 ⟨64, 28, 64, 29⟩) (.name 77 ⟨64, 32, 64, 33⟩) ⟨64, 28, 64, 33⟩)] 0 ⟨64, 20, 64, 34⟩ ⟨64, 4, 64, 34⟩,
  .wh (.cmp .gt (.name 54 ⟨65, 10, 65, 11⟩) (.int 0 ⟨65, 14, 65, 15⟩) ⟨65, 10, 65, 15⟩) [.ifs (.cmp .eq (.bin .mod (.name 54 ⟨66, 11, 66, 12⟩) (.int 2 ⟨66, 15, 66, 16⟩) ⟨66, 11, 66, 16⟩) (.int 1 ⟨66, 20, 66, 21⟩) ⟨66, 11, 66, 21⟩) [.asg1 (.name 65 false ⟨67, 12, 67, 17⟩) (.bin .mod (.bin .mul (.name 65 ⟨67, 20, 67, 25⟩) (.name 69 ⟨67, 28, 67, 34⟩) ⟨67, 20, 67, 34⟩) (.name 77 ⟨67, 37, 67, 38⟩) ⟨67, 20, 67, 38⟩) ⟨67, 12, 67, 38⟩] [] ⟨66, 8, 67, 38⟩, .asg1 (.name 69 false ⟨68, 8, 68, 14⟩) (.bin .mod (.bin .mul (.name 69 ⟨68, 17, 68, 23⟩) (.name 69 ⟨68, 26, 68, 32⟩) ⟨68, 17, 68, 32⟩) (.name 77 ⟨68, 35, 68, 36⟩) ⟨68, 17, 68, 36⟩) ⟨68, 8, 68, 36⟩, .asg1 (.name 54 false ⟨69, 8, 69, 9⟩) (.bin .fdiv (.name 54 ⟨69, 12, 69, 13⟩) (.int 2 ⟨69, 17, 69, 18⟩) ⟨69, 12, 69, 18⟩) ⟨69, 8, 69, 18⟩] ⟨65, 4, 69, 18⟩,
  .ret (.name 65 ⟨70, 11, 70, 16⟩) ⟨70, 4, 70, 16⟩]
noncomputable def s_inverse_mod : List (Nat × NameKind) := [(57, .local), (77, .local), (78, .local), (79, .local), (80, .local), (19, .globalImplicit)]
noncomputable def p_inverse_mod : List Nat := [57, 77]
noncomputable def b_inverse_mod : List St := [
  .asgU [(.name 78 false ⟨72, 4, 72, 5⟩), (.name 79 false ⟨72, 7, 72, 8⟩), (.name 80 false ⟨72, 10, 72, 11⟩)] 0 ⟨72, 4, 72, 11⟩ (.call 19 false ⟨72, 14, 72, 22⟩ [(.bin .mod (.name 57 ⟨72, 23, 72, 24⟩) (.name 77 ⟨72, 27, 72, 28⟩) ⟨72, 23, 72, 28⟩), (.name 77 ⟨72, 30, 72, 31⟩)] ⟨72, 14, 72, 32⟩) ⟨72, 4, 72, 32⟩,
  .ret (.ite (.cmp .eq (.name 78 ⟨73, 20, 73, 21⟩) (.int 1 ⟨73, 25, 73, 26⟩) ⟨73, 20, 73, 26⟩) (.bin .mod (.name 79 ⟨73, 11, 73, 12⟩) (.name 77 ⟨73, 15, 73, 16⟩) ⟨73, 11, 73, 16⟩) (.non ⟨73, 32, 73, 36⟩) ⟨73, 11, 73, 36⟩) ⟨73, 4, 73, 36⟩]
noncomputable def s_mtrim : List (Nat × NameKind) := [(57, .local), (64, .local), (0, .globalImplicit), (1, .globalImplicit)]
noncomputable def p_mtrim : List Nat := [57]
noncomputable def b_mtrim : List St := [
  .asg1 (.name 64 false ⟨76, 4, 76, 8⟩) (.bi .len ⟨76, 11, 76, 14⟩ [(.name 57 ⟨76, 15, 76, 16⟩)] ⟨76, 11, 76, 17⟩) ⟨76, 4, 76, 17⟩,
  .wh (.bo true [(.cmp .gt (.name 64 ⟨77, 10, 77, 14⟩) (.int 0 ⟨77, 17, 77, 18⟩) ⟨77, 10, 77, 18⟩), (.cmp .eq (.sub (.name 57 ⟨77, 23, 77, 24⟩) (.bin .sub (.name 64 ⟨77, 25, 77, 29⟩) (.int 1 ⟨77, 32, 77, 33⟩) ⟨77, 25, 77, 33⟩) ⟨77, 23, 77, 34⟩) (.int 0 ⟨77, 38, 77, 39⟩) ⟨77, 23, 77, 39⟩)] ⟨77, 10, 77, 39⟩) [.asg1 (.name 64 false ⟨78, 8, 78, 12⟩) (.bin .sub (.name 64 ⟨78, 15, 78, 19⟩) (.int 1 ⟨78, 22, 78, 23⟩) ⟨78, 15, 78, 23⟩) ⟨78, 8, 78, 23⟩] ⟨77, 4, 78, 23⟩,
  .ret (.bi .list ⟨79, 11, 79, 15⟩ [(.slTo (.name 57 ⟨79, 16, 79, 17⟩) (.name 64 ⟨79, 19, 79, 23⟩) ⟨79, 18, 79, 23⟩ ⟨79, 16, 79, 24⟩)] ⟨79, 11, 79, 25⟩) ⟨79, 4, 79, 25⟩]
noncomputable def s_mdegree : List (Nat × NameKind) := [(57, .local), (0, .globalImplicit)]
noncomputable def p_mdegree : List Nat := [57]
noncomputable def b_mdegree : List St := [
  .ret (.bin .sub (.bi .len ⟨81, 11, 81, 14⟩ [(.name 57 ⟨81, 15, 81, 16⟩)] ⟨81, 11, 81, 17⟩) (.int 1 ⟨81, 20, 81, 21⟩) ⟨81, 11, 81, 21⟩) ⟨81, 4, 81, 21⟩]
noncomputable def s_mmul : List (Nat × NameKind) := [(57, .local), (58, .local), (81, .local), (65, .local), (60, .local), (72, .local), (68, .local), (74, .local), (0, .globalImplicit), (3, .globalImplicit), (22, .globalImplicit)]
noncomputable def p_mmul : List Nat := [57, 58, 81]
noncomputable def b_mmul : List St := [
  .ifs (.bo false [(.cmp .eq (.bi .len ⟨83, 7, 83, 10⟩ [(.name 57 ⟨83, 11, 83, 12⟩)] ⟨83, 7, 83, 13⟩) (.int 0 ⟨83, 17, 83, 18⟩) ⟨83, 7, 83, 18⟩), (.cmp .eq (.bi .len ⟨83, 22, 83, 25⟩ [(.name 58 ⟨83, 26, 83, 27⟩)] ⟨83, 22, 83, 28⟩) (.int 0 ⟨83, 32, 83, 33⟩) ⟨83, 22, 83, 33⟩)] ⟨83, 7, 83, 33⟩) [.ret (.lst [] ⟨84, 15, 84, 17⟩) ⟨84, 8, 84, 17⟩] [] ⟨83, 4, 84, 17⟩,
  .asg1 (.name 65 true ⟨85, 4, 85, 9⟩) (.bin .mul (.lst [(.int 0 ⟨85, 13, 85, 14⟩)] ⟨85, 12, 85, 15⟩) (.bin .sub (.bin .add (.bi .len ⟨85, 19, 85, 22⟩ [(.name 57 ⟨85, 23, 85, 24⟩)] ⟨85, 19, 85, 25⟩) (.bi .len ⟨85, 28, 85, 31⟩ [(.name 58 ⟨85, 32, 85, 33⟩)] ⟨85, 28, 85, 34⟩) ⟨85, 19, 85, 34⟩) (.int 1 ⟨85, 37, 85, 38⟩) ⟨85, 19, 85, 38⟩) ⟨85, 12, 85, 39⟩) ⟨85, 4, 85, 39⟩,
  .fr (.two 60 72 ⟨86, 8, 86, 10⟩ ⟨86, 12, 86, 15⟩ 0 ⟨86, 8, 86, 15⟩) .enum ⟨86, 19, 86, 28⟩ [(.name 57 ⟨86, 29, 86, 30⟩)] ⟨86, 19, 86, 31⟩ [.ifs (.cmp .ne (.name 72 ⟨87, 11, 87, 14⟩) (.int 0 ⟨87, 18, 87, 19⟩) ⟨87, 11, 87, 19⟩) [.fr (.two 68 74 ⟨88, 16, 88, 20⟩ ⟨88, 22, 88, 27⟩ 0 ⟨88, 16, 88, 27⟩) .enum ⟨88, 31, 88, 40⟩ [(.name 58 ⟨88, 41, 88, 42⟩)] ⟨88, 31, 88, 43⟩ [.asg1 (.item 65 (.bin .add (.name 60 ⟨89, 22, 89, 24⟩) (.name 68 ⟨89, 27, 89, 31⟩) ⟨89, 22, 89, 31⟩) ⟨89, 16, 89, 21⟩ ⟨89, 16, 89, 32⟩) (.bin .mod (.bin .add (.sub (.name 65 ⟨89, 36, 89, 41⟩) (.bin .add (.name 60 ⟨89, 42, 89, 44⟩) (.name 68 ⟨89, 47, 89, 51⟩) ⟨89, 42, 89, 51⟩) ⟨89, 36, 89, 52⟩) (.bin .mul (.name 72 ⟨89, 55, 89, 58⟩) (.name 74 ⟨89, 61, 89, 66⟩) ⟨89, 55, 89, 66⟩) ⟨89, 36, 89, 66⟩) (.name 81 ⟨89, 70, 89, 71⟩) ⟨89, 35, 89, 71⟩) ⟨89, 16, 89, 71⟩] ⟨88, 12, 89, 71⟩] [] ⟨87, 8, 89, 71⟩] ⟨86, 4, 89, 71⟩,
  .ret (.call 22 false ⟨90, 11, 90, 16⟩ [(.name 65 ⟨90, 17, 90, 22⟩)] ⟨90, 11, 90, 23⟩) ⟨90, 4, 90, 23⟩]
noncomputable def s_mdivmod : List (Nat × NameKind) := [(57, .local), (58, .local), (81, .local), (76, .local), (82, .local), (83, .local), (60, .local), (71, .local), (68, .local), (74, .local), (1, .globalImplicit), (6, .globalImplicit), (0, .globalImplicit), (21, .globalImplicit), (2, .globalImplicit), (3, .globalImplicit), (22, .globalImplicit)]
noncomputable def p_mdivmod : List Nat := [57, 58, 81]
noncomputable def b_mdivmod : List St := [
  .asgD [(.name 76 true ⟨92, 4, 92, 8⟩), (.name 82 true ⟨92, 10, 92, 18⟩)] 0 ⟨92, 4, 92, 18⟩ [(.bi .list ⟨92, 22, 92, 26⟩ [(.name 57 ⟨92, 27, 92, 28⟩)] ⟨92, 22, 92, 29⟩), (.bin .mul (.lst [(.int 0 ⟨92, 32, 92, 33⟩)] ⟨92, 31, 92, 34⟩) (.bi .max ⟨92, 37, 92, 40⟩ [(.int 0 ⟨92, 41, 92, 42⟩), (.bin .add (.bin .sub (.bi .len ⟨92, 44, 92, 47⟩ [(.name 57 ⟨92, 48, 92, 49⟩)] ⟨92, 44, 92, 50⟩) (.bi .len ⟨92, 53, 92, 56⟩ [(.name 58 ⟨92, 57, 92, 58⟩)] ⟨92, 53, 92, 59⟩) ⟨92, 44, 92, 59⟩) (.int 1 ⟨92, 62, 92, 63⟩) ⟨92, 44, 92, 63⟩)] ⟨92, 37, 92, 64⟩) ⟨92, 31, 92, 64⟩)] 0 ⟨92, 21, 92, 65⟩ ⟨92, 4, 92, 65⟩,
  .asg1 (.name 83 false ⟨93, 4, 93, 8⟩) (.call 21 false ⟨93, 11, 93, 22⟩ [(.sub (.name 58 ⟨93, 23, 93, 24⟩) (.neg (.int 1 ⟨93, 26, 93, 27⟩) ⟨93, 25, 93, 27⟩) ⟨93, 23, 93, 28⟩), (.name 81 ⟨93, 30, 93, 31⟩)] ⟨93, 11, 93, 32⟩) ⟨93, 4, 93, 32⟩,
  .fr (.one 60 ⟨94, 8, 94, 10⟩) .range ⟨94, 14, 94, 19⟩ [(.bin .sub (.bi .len ⟨94, 20, 94, 23⟩ [(.name 57 ⟨94, 24, 94, 25⟩)] ⟨94, 20, 94, 26⟩) (.bi .len ⟨94, 29, 94, 32⟩ [(.name 58 ⟨94, 33, 94, 34⟩)] ⟨94, 29, 94, 35⟩) ⟨94, 20, 94, 35⟩), (.neg (.int 1 ⟨94, 38, 94, 39⟩) ⟨94, 37, 94, 39⟩), (.neg (.int 1 ⟨94, 42, 94, 43⟩) ⟨94, 41, 94, 43⟩)] ⟨94, 14, 94, 44⟩ [.asg1 (.name 71 false ⟨95, 8, 95, 14⟩) (.bin .mod (.bin .mul (.sub (.name 76 ⟨95, 17, 95, 21⟩) (.bin .sub (.bin .add (.name 60 ⟨95, 22, 95, 24⟩) (.bi .len ⟨95, 27, 95, 30⟩ [(.name 58 ⟨95, 31, 95, 32⟩)] ⟨95, 27, 95, 33⟩) ⟨95, 22, 95, 33⟩) (.int 1 ⟨95, 36, 95, 37⟩) ⟨95, 22, 95, 37⟩) ⟨95, 17, 95, 38⟩) (.name 83 ⟨95, 41, 95, 45⟩) ⟨95, 17, 95, 45⟩) (.name 81 ⟨95, 48, 95, 49⟩) ⟨95, 17, 95, 49⟩) ⟨95, 8, 95, 49⟩, .asg1 (.item 82 (.name 60 ⟨96, 17, 96, 19⟩) ⟨96, 8, 96, 16⟩ ⟨96, 8, 96, 20⟩) (.name 71 ⟨96, 23, 96, 29⟩) ⟨96, 8, 96, 29⟩, .ifs (.cmp .ne (.name 71 ⟨97, 11, 97, 17⟩) (.int 0 ⟨97, 21, 97, 22⟩) ⟨97, 11, 97, 22⟩) [.fr (.two 68 74 ⟨98, 16, 98, 20⟩ ⟨98, 22, 98, 27⟩ 0 ⟨98, 16, 98, 27⟩) .enum ⟨98, 31, 98, 40⟩ [(.name 58 ⟨98, 41, 98, 42⟩)] ⟨98, 31, 98, 43⟩ [.asg1 (.item 76 (.bin .add (.name 60 ⟨99, 21, 99, 23⟩) (.name 68 ⟨99, 26, 99, 30⟩) ⟨99, 21, 99, 30⟩) ⟨99, 16, 99, 20⟩ ⟨99, 16, 99, 31⟩) (.bin .mod (.bin .sub (.sub (.name 76 ⟨99, 35, 99, 39⟩) (.bin .add (.name 60 ⟨99, 40, 99, 42⟩) (.name 68 ⟨99, 45, 99, 49⟩) ⟨99, 40, 99, 49⟩) ⟨99, 35, 99, 50⟩) (.bin .mul (.name 71 ⟨99, 53, 99, 59⟩) (.name 74 ⟨99, 62, 99, 67⟩) ⟨99, 53, 99, 67⟩) ⟨99, 35, 99, 67⟩) (.name 81 ⟨99, 71, 99, 72⟩) ⟨99, 34, 99, 72⟩) ⟨99, 16, 99, 72⟩] ⟨98, 12, 99, 72⟩] [] ⟨97, 8, 99, 72⟩] ⟨94, 4, 99, 72⟩,
  .ret (.tup [(.call 22 false ⟨100, 12, 100, 17⟩ [(.name 82 ⟨100, 18, 100, 26⟩)] ⟨100, 12, 100, 27⟩), (.call 22 false ⟨100, 29, 100, 34⟩ [(.slTo (.name 76 ⟨100, 35, 100, 39⟩) (.bin .sub (.bi .len ⟨100, 41, 100, 44⟩ [(.name 58 ⟨100, 45, 100, 46⟩)] ⟨100, 41, 100, 47⟩) (.int 1 ⟨100, 50, 100, 51⟩) ⟨100, 41, 100, 51⟩) ⟨100, 40, 100, 51⟩ ⟨100, 35, 100, 52⟩)] ⟨100, 29, 100, 53⟩)] 0 ⟨100, 11, 100, 54⟩) ⟨100, 4, 100, 54⟩]
noncomputable def s_mrest : List (Nat × NameKind) := [(57, .local), (58, .local), (81, .local), (25, .globalImplicit)]
noncomputable def p_mrest : List Nat := [57, 58, 81]
noncomputable def b_mrest : List St := [
  .ret (.sub (.call 25 false ⟨102, 11, 102, 18⟩ [(.name 57 ⟨102, 19, 102, 20⟩), (.name 58 ⟨102, 22, 102, 23⟩), (.name 81 ⟨102, 25, 102, 26⟩)] ⟨102, 11, 102, 27⟩) (.int 1 ⟨102, 28, 102, 29⟩) ⟨102, 11, 102, 30⟩) ⟨102, 4, 102, 30⟩]
noncomputable def s_mpower_mod : List (Nat × NameKind) := [(57, .local), (54, .local), (84, .local), (81, .local), (65, .local), (69, .local), (26, .globalImplicit), (24, .globalImplicit)]
noncomputable def p_mpower_mod : List Nat := [57, 54, 84, 81]
noncomputable def b_mpower_mod : List St := [
  .asgD [(.name 65 false ⟨104, 4, 104, 9⟩), (.name 69 false ⟨104, 11, 104, 17⟩)] 0 ⟨104, 4, 104, 17⟩ [(.call 26 false ⟨104, 21, 104, 26⟩ [(.lst [(.int 1 ⟨104, 28, 104, 29⟩)] ⟨104, 27, 104, 30⟩), (.name 84 ⟨104, 32, 104, 33⟩), (.name 81 ⟨104, 35, 104, 36⟩)] ⟨104, 21, 104, 37⟩), (.call 26 false ⟨104, 39, 104, 44⟩ [(.name 57 ⟨104, 45, 104, 46⟩), (.name 84 ⟨104, 48, 104, 49⟩), (.name 81 ⟨104, 51, 104, 52⟩)] ⟨104, 39, 104, 53⟩)] 0 ⟨104, 20, 104, 54⟩ ⟨104, 4, 104, 54⟩,
  .wh (.cmp .gt (.name 54 ⟨105, 10, 105, 11⟩) (.int 0 ⟨105, 14, 105, 15⟩) ⟨105, 10, 105, 15⟩) [.ifs (.cmp .eq (.bin .mod (.name 54 ⟨106, 11, 106, 12⟩) (.int 2 ⟨106, 15, 106, 16⟩) ⟨106, 11, 106, 16⟩) (.int 1 ⟨106, 20, 106, 21⟩) ⟨106, 11, 106, 21⟩) [.asg1 (.name 65 false ⟨107, 12, 107, 17⟩) (.call 26 false ⟨107, 20, 107, 25⟩ [(.call 24 false ⟨107, 26, 107, 30⟩ [(.name 65 ⟨107, 31, 107, 36⟩), (.name 69 ⟨107, 38, 107, 44⟩), (.name 81 ⟨107, 46, 107, 47⟩)] ⟨107, 26, 107, 48⟩), (.name 84 ⟨107, 50, 107, 51⟩), (.name 81 ⟨107, 53, 107, 54⟩)] ⟨107, 20, 107, 55⟩) ⟨107, 12, 107, 55⟩] [] ⟨106, 8, 107, 55⟩, .asg1 (.name 54 false ⟨108, 8, 108, 9⟩) (.bin .fdiv (.name 54 ⟨108, 12, 108, 13⟩) (.int 2 ⟨108, 17, 108, 18⟩) ⟨108, 12, 108, 18⟩) ⟨108, 8, 108, 18⟩, .ifs (.cmp .gt (.name 54 ⟨109, 11, 109, 12⟩) (.int 0 ⟨109, 15, 109, 16⟩) ⟨109, 11, 109, 16⟩) [.asg1 (.name 69 false ⟨110, 12, 110, 18⟩) (.call 26 false ⟨110, 21, 110, 26⟩ [(.call 24 false ⟨110, 27, 110, 31⟩ [(.name 69 ⟨110, 32, 110, 38⟩), (.name 69 ⟨110, 40, 110, 46⟩), (.name 81 ⟨110, 48, 110, 49⟩)] ⟨110, 27, 110, 50⟩), (.name 84 ⟨110, 52, 110, 53⟩), (.name 81 ⟨110, 55, 110, 56⟩)] ⟨110, 21, 110, 57⟩) ⟨110, 12, 110, 57⟩] [] ⟨109, 8, 110, 57⟩] ⟨105, 4, 110, 57⟩,
  .ret (.name 65 ⟨111, 11, 111, 16⟩) ⟨111, 4, 111, 16⟩]
noncomputable def s_berlekamp_matrix : List (Nat × NameKind) := [(84, .local), (81, .local), (64, .local), (62, .local), (85, .local), (86, .local), (60, .local), (55, .local), (23, .globalImplicit), (27, .globalImplicit), (26, .globalImplicit), (2, .globalImplicit), (0, .globalImplicit), (24, .globalImplicit)]
noncomputable def p_berlekamp_matrix : List Nat := [84, 81]
noncomputable def b_berlekamp_matrix : List St := [
  .asg1 (.name 64 false ⟨114, 4, 114, 8⟩) (.call 23 false ⟨114, 11, 114, 18⟩ [(.name 84 ⟨114, 19, 114, 20⟩)] ⟨114, 11, 114, 21⟩) ⟨114, 4, 114, 21⟩,
  .asgD [(.name 62 false ⟨115, 4, 115, 8⟩), (.name 85 false ⟨115, 10, 115, 15⟩), (.name 86 true ⟨115, 17, 115, 21⟩)] 0 ⟨115, 4, 115, 21⟩ [(.call 27 false ⟨115, 25, 115, 35⟩ [(.lst [(.int 0 ⟨115, 37, 115, 38⟩), (.int 1 ⟨115, 40, 115, 41⟩)] ⟨115, 36, 115, 42⟩), (.name 81 ⟨115, 44, 115, 45⟩), (.name 84 ⟨115, 47, 115, 48⟩), (.name 81 ⟨115, 50, 115, 51⟩)] ⟨115, 25, 115, 52⟩), (.call 26 false ⟨115, 54, 115, 59⟩ [(.lst [(.int 1 ⟨115, 61, 115, 62⟩)] ⟨115, 60, 115, 63⟩), (.name 84 ⟨115, 65, 115, 66⟩), (.name 81 ⟨115, 68, 115, 69⟩)] ⟨115, 54, 115, 70⟩), (.lst [] ⟨115, 72, 115, 74⟩)] 0 ⟨115, 24, 115, 75⟩ ⟨115, 4, 115, 75⟩,
  .fr (.one 60 ⟨116, 8, 116, 10⟩) .range ⟨116, 14, 116, 19⟩ [(.name 64 ⟨116, 20, 116, 24⟩)] ⟨116, 14, 116, 25⟩ [.asg1 (.name 55 true ⟨117, 8, 117, 11⟩) (.bin .add (.name 85 ⟨117, 14, 117, 19⟩) (.bin .mul (.lst [(.int 0 ⟨117, 23, 117, 24⟩)] ⟨117, 22, 117, 25⟩) (.bin .sub (.name 64 ⟨117, 29, 117, 33⟩) (.bi .len ⟨117, 36, 117, 39⟩ [(.name 85 ⟨117, 40, 117, 45⟩)] ⟨117, 36, 117, 46⟩) ⟨117, 29, 117, 46⟩) ⟨117, 22, 117, 47⟩) ⟨117, 14, 117, 47⟩) ⟨117, 8, 117, 47⟩, .asg1 (.item 55 (.name 60 ⟨118, 12, 118, 14⟩) ⟨118, 8, 118, 11⟩ ⟨118, 8, 118, 15⟩) (.bin .mod (.bin .sub (.sub (.name 55 ⟨118, 19, 118, 22⟩) (.name 60 ⟨118, 23, 118, 25⟩) ⟨118, 19, 118, 26⟩) (.int 1 ⟨118, 29, 118, 30⟩) ⟨118, 19, 118, 30⟩) (.name 81 ⟨118, 34, 118, 35⟩) ⟨118, 18, 118, 35⟩) ⟨118, 8, 118, 35⟩, .app 86 ⟨119, 8, 119, 12⟩ ⟨119, 8, 119, 19⟩ (.name 55 ⟨119, 20, 119, 23⟩) ⟨119, 8, 119, 24⟩ ⟨119, 8, 119, 24⟩, .asg1 (.name 85 false ⟨120, 8, 120, 13⟩) (.call 26 false ⟨120, 16, 120, 21⟩ [(.call 24 false ⟨120, 22, 120, 26⟩ [(.name 85 ⟨120, 27, 120, 32⟩), (.name 62 ⟨120, 34, 120, 38⟩), (.name 81 ⟨120, 40, 120, 41⟩)] ⟨120, 22, 120, 42⟩), (.name 84 ⟨120, 44, 120, 45⟩), (.name 81 ⟨120, 47, 120, 48⟩)] ⟨120, 16, 120, 49⟩) ⟨120, 8, 120, 49⟩] ⟨116, 4, 120, 49⟩,
  .ret (.name 86 ⟨121, 11, 121, 15⟩) ⟨121, 4, 121, 15⟩]
noncomputable def s_null_space : List (Nat × NameKind) := [(86, .local), (81, .local), (64, .cell), (87, .local), (88, .cell), (89, .local), (56, .local), (90, .local), (0, .globalImplicit), (3, .globalImplicit), (2, .globalImplicit), (30, .globalImplicit), (31, .globalImplicit)]
noncomputable def p_null_space : List Nat := [86, 81]
noncomputable def b_null_space : List St := [
  .asg1 (.name 64 false ⟨123, 4, 123, 8⟩) (.bi .len ⟨123, 11, 123, 14⟩ [(.name 86 ⟨123, 15, 123, 19⟩)] ⟨123, 11, 123, 20⟩) ⟨123, 4, 123, 20⟩,
  .asg1 (.name 87 true ⟨124, 4, 124, 8⟩) (.comp (.bin .add (.bi .list ⟨124, 12, 124, 16⟩ [(.name 55 ⟨124, 17, 124, 20⟩)] ⟨124, 12, 124, 21⟩) (.comp (.bi .int ⟨124, 25, 124, 28⟩ [(.cmp .eq (.name 68 ⟨124, 29, 124, 33⟩) (.name 60 ⟨124, 37, 124, 39⟩) ⟨124, 29, 124, 39⟩)] ⟨124, 25, 124, 40⟩) (.one 68 ⟨124, 45, 124, 49⟩) .range ⟨124, 53, 124, 58⟩ [(.name 64 ⟨124, 59, 124, 63⟩)] ⟨124, 53, 124, 64⟩ [(9, .local), (68, .local), (8, .globalImplicit), (60, .free)] [60] ⟨124, 24, 124, 65⟩) ⟨124, 12, 124, 65⟩) (.two 60 55 ⟨124, 70, 124, 72⟩ ⟨124, 74, 124, 77⟩ 0 ⟨124, 70, 124, 77⟩) .enum ⟨124, 81, 124, 90⟩ [(.name 86 ⟨124, 91, 124, 95⟩)] ⟨124, 81, 124, 96⟩ [(9, .local), (60, .cell), (55, .local), (1, .globalImplicit), (2, .globalImplicit), (64, .free)] [64] ⟨124, 11, 124, 97⟩) ⟨124, 4, 124, 97⟩,
  .asgD [(.name 88 false ⟨125, 4, 125, 8⟩), (.name 89 false ⟨125, 10, 125, 14⟩)] 0 ⟨125, 4, 125, 14⟩ [(.ite (.cmp .gt (.name 64 ⟨125, 34, 125, 38⟩) (.int 0 ⟨125, 41, 125, 42⟩) ⟨125, 34, 125, 42⟩) (.bi .len ⟨125, 18, 125, 21⟩ [(.sub (.name 86 ⟨125, 22, 125, 26⟩) (.int 0 ⟨125, 27, 125, 28⟩) ⟨125, 22, 125, 29⟩)] ⟨125, 18, 125, 30⟩) (.int 0 ⟨125, 48, 125, 49⟩) ⟨125, 18, 125, 49⟩), (.int 0 ⟨125, 51, 125, 52⟩)] 0 ⟨125, 17, 125, 53⟩ ⟨125, 4, 125, 53⟩,
  .fr (.one 56 ⟨126, 8, 126, 14⟩) .range ⟨126, 18, 126, 23⟩ [(.name 88 ⟨126, 24, 126, 28⟩)] ⟨126, 18, 126, 29⟩ [.asg1 (.name 90 false ⟨127, 8, 127, 13⟩) (.call 30 true ⟨127, 16, 127, 25⟩ [(.name 87 ⟨127, 26, 127, 30⟩), (.name 89 ⟨127, 32, 127, 36⟩), (.name 56 ⟨127, 38, 127, 44⟩)] ⟨127, 16, 127, 45⟩) ⟨127, 8, 127, 45⟩, .ifs (.cmp .ge (.name 90 ⟨128, 11, 128, 16⟩) (.int 0 ⟨128, 20, 128, 21⟩) ⟨128, 11, 128, 21⟩) [.asgD [(.item 87 (.name 89 ⟨129, 17, 129, 21⟩) ⟨129, 12, 129, 16⟩ ⟨129, 12, 129, 22⟩), (.item 87 (.name 90 ⟨129, 29, 129, 34⟩) ⟨129, 24, 129, 28⟩ ⟨129, 24, 129, 35⟩)] 0 ⟨129, 12, 129, 35⟩ [(.sub (.name 87 ⟨129, 39, 129, 43⟩) (.name 90 ⟨129, 44, 129, 49⟩) ⟨129, 39, 129, 50⟩), (.sub (.name 87 ⟨129, 52, 129, 56⟩) (.name 89 ⟨129, 57, 129, 61⟩) ⟨129, 52, 129, 62⟩)] 0 ⟨129, 38, 129, 63⟩ ⟨129, 12, 129, 63⟩, .inout 31 ⟨130, 12, 130, 23⟩ 87 ⟨130, 24, 130, 28⟩ [(.name 89 ⟨130, 30, 130, 34⟩), (.name 56 ⟨130, 36, 130, 42⟩), (.name 81 ⟨130, 44, 130, 45⟩)] ⟨130, 12, 130, 46⟩ ⟨130, 12, 130, 46⟩, .asg1 (.name 89 false ⟨131, 12, 131, 16⟩) (.bin .add (.name 89 ⟨131, 19, 131, 23⟩) (.int 1 ⟨131, 26, 131, 27⟩) ⟨131, 19, 131, 27⟩) ⟨131, 12, 131, 27⟩] [] ⟨128, 8, 131, 27⟩] ⟨126, 4, 131, 27⟩,
  .ret (.comp (.slFrom (.name 55 ⟨132, 12, 132, 15⟩) (.name 88 ⟨132, 16, 132, 20⟩) ⟨132, 16, 132, 21⟩ ⟨132, 12, 132, 22⟩) (.one 55 ⟨132, 27, 132, 30⟩) .list ⟨0, 0, 0, 0⟩ [(.slFrom (.name 87 ⟨132, 34, 132, 38⟩) (.name 89 ⟨132, 39, 132, 43⟩) ⟨132, 39, 132, 44⟩ ⟨132, 34, 132, 45⟩)] ⟨0, 0, 0, 0⟩ [(9, .local), (55, .local), (88, .free)] [88] ⟨132, 11, 132, 46⟩) ⟨132, 4, 132, 46⟩]
noncomputable def s_pivot_row : List (Nat × NameKind) := [(87, .local), (89, .local), (56, .local), (60, .local), (2, .globalImplicit), (0, .globalImplicit)]
noncomputable def p_pivot_row : List Nat := [87, 89, 56]
noncomputable def b_pivot_row : List St := [
  .fr (.one 60 ⟨134, 8, 134, 10⟩) .range ⟨134, 14, 134, 19⟩ [(.name 89 ⟨134, 20, 134, 24⟩), (.bi .len ⟨134, 26, 134, 29⟩ [(.name 87 ⟨134, 30, 134, 34⟩)] ⟨134, 26, 134, 35⟩)] ⟨134, 14, 134, 36⟩ [.ifs (.cmp .ne (.sub (.sub (.name 87 ⟨135, 11, 135, 15⟩) (.name 60 ⟨135, 16, 135, 18⟩) ⟨135, 11, 135, 19⟩) (.name 56 ⟨135, 20, 135, 26⟩) ⟨135, 11, 135, 27⟩) (.int 0 ⟨135, 31, 135, 32⟩) ⟨135, 11, 135, 32⟩) [.ret (.name 60 ⟨136, 19, 136, 21⟩) ⟨136, 12, 136, 21⟩] [] ⟨135, 8, 136, 21⟩] ⟨134, 4, 136, 21⟩,
  .ret (.neg (.int 1 ⟨137, 12, 137, 13⟩) ⟨137, 11, 137, 13⟩) ⟨137, 4, 137, 13⟩]
noncomputable def s_clear_below : List (Nat × NameKind) := [(87, .local), (89, .local), (56, .local), (81, .cell), (83, .local), (60, .local), (71, .cell), (21, .globalImplicit), (2, .globalImplicit), (0, .globalImplicit), (4, .globalImplicit)]
noncomputable def p_clear_below : List Nat := [87, 89, 56, 81]
noncomputable def b_clear_below : List St := [
  .asg1 (.name 83 false ⟨139, 4, 139, 8⟩) (.call 21 false ⟨139, 11, 139, 22⟩ [(.sub (.sub (.name 87 ⟨139, 23, 139, 27⟩) (.name 89 ⟨139, 28, 139, 32⟩) ⟨139, 23, 139, 33⟩) (.name 56 ⟨139, 34, 139, 40⟩) ⟨139, 23, 139, 41⟩), (.name 81 ⟨139, 43, 139, 44⟩)] ⟨139, 11, 139, 45⟩) ⟨139, 4, 139, 45⟩,
  .fr (.one 60 ⟨140, 8, 140, 10⟩) .range ⟨140, 14, 140, 19⟩ [(.bin .add (.name 89 ⟨140, 20, 140, 24⟩) (.int 1 ⟨140, 27, 140, 28⟩) ⟨140, 20, 140, 28⟩), (.bi .len ⟨140, 30, 140, 33⟩ [(.name 87 ⟨140, 34, 140, 38⟩)] ⟨140, 30, 140, 39⟩)] ⟨140, 14, 140, 40⟩ [.asg1 (.name 71 false ⟨141, 8, 141, 14⟩) (.bin .mod (.bin .mul (.sub (.sub (.name 87 ⟨141, 17, 141, 21⟩) (.name 60 ⟨141, 22, 141, 24⟩) ⟨141, 17, 141, 25⟩) (.name 56 ⟨141, 26, 141, 32⟩) ⟨141, 17, 141, 33⟩) (.name 83 ⟨141, 36, 141, 40⟩) ⟨141, 17, 141, 40⟩) (.name 81 ⟨141, 43, 141, 44⟩) ⟨141, 17, 141, 44⟩) ⟨141, 8, 141, 44⟩, .ifs (.cmp .ne (.name 71 ⟨142, 11, 142, 17⟩) (.int 0 ⟨142, 21, 142, 22⟩) ⟨142, 11, 142, 22⟩) [.asg1 (.item 87 (.name 60 ⟨143, 17, 143, 19⟩) ⟨143, 12, 143, 16⟩ ⟨143, 12, 143, 20⟩) (.comp (.bin .mod (.bin .sub (.name 72 ⟨143, 25, 143, 28⟩) (.bin .mul (.name 71 ⟨143, 31, 143, 37⟩) (.name 74 ⟨143, 40, 143, 45⟩) ⟨143, 31, 143, 45⟩) ⟨143, 25, 143, 45⟩) (.name 81 ⟨143, 49, 143, 50⟩) ⟨143, 24, 143, 50⟩) (.two 72 74 ⟨143, 55, 143, 58⟩ ⟨143, 60, 143, 65⟩ 0 ⟨143, 55, 143, 65⟩) .zip ⟨143, 69, 143, 72⟩ [(.sub (.name 87 ⟨143, 73, 143, 77⟩) (.name 60 ⟨143, 78, 143, 80⟩) ⟨143, 73, 143, 81⟩), (.sub (.name 87 ⟨143, 83, 143, 87⟩) (.name 89 ⟨143, 88, 143, 92⟩) ⟨143, 83, 143, 93⟩)] ⟨143, 69, 143, 94⟩ [(9, .local), (72, .local), (74, .local), (71, .free), (81, .free)] [71, 81] ⟨143, 23, 143, 95⟩) ⟨143, 12, 143, 95⟩] [] ⟨142, 8, 143, 95⟩] ⟨140, 4, 143, 95⟩]
noncomputable def s_count_factors : List (Nat × NameKind) := [(84, .local), (81, .local), (0, .globalImplicit), (29, .globalImplicit), (28, .globalImplicit)]
noncomputable def p_count_factors : List Nat := [84, 81]
noncomputable def b_count_factors : List St := [
  .ret (.bi .len ⟨145, 11, 145, 14⟩ [(.call 29 false ⟨145, 15, 145, 25⟩ [(.call 28 false ⟨145, 26, 145, 42⟩ [(.name 84 ⟨145, 43, 145, 44⟩), (.name 81 ⟨145, 46, 145, 47⟩)] ⟨145, 26, 145, 48⟩), (.name 81 ⟨145, 50, 145, 51⟩)] ⟨145, 15, 145, 52⟩)] ⟨145, 11, 145, 53⟩) ⟨145, 4, 145, 53⟩]
noncomputable def s_ztrim : List (Nat × NameKind) := [(55, .local), (67, .local), (0, .globalImplicit), (1, .globalImplicit)]
noncomputable def p_ztrim : List Nat := [55]
noncomputable def b_ztrim : List St := [
  .asg1 (.name 67 false ⟨148, 4, 148, 8⟩) (.bi .len ⟨148, 11, 148, 14⟩ [(.name 55 ⟨148, 15, 148, 18⟩)] ⟨148, 11, 148, 19⟩) ⟨148, 4, 148, 19⟩,
  .wh (.bo true [(.cmp .gt (.name 67 ⟨149, 10, 149, 14⟩) (.int 0 ⟨149, 17, 149, 18⟩) ⟨149, 10, 149, 18⟩), (.cmp .eq (.sub (.name 55 ⟨149, 23, 149, 26⟩) (.bin .sub (.name 67 ⟨149, 27, 149, 31⟩) (.int 1 ⟨149, 34, 149, 35⟩) ⟨149, 27, 149, 35⟩) ⟨149, 23, 149, 36⟩) (.int 0 ⟨149, 40, 149, 41⟩) ⟨149, 23, 149, 41⟩)] ⟨149, 10, 149, 41⟩) [.aug 67 ⟨150, 8, 150, 12⟩ .sub (.int 1 ⟨150, 16, 150, 17⟩) ⟨150, 8, 150, 17⟩] ⟨149, 4, 150, 17⟩,
  .ret (.bi .list ⟨151, 11, 151, 15⟩ [(.slTo (.name 55 ⟨151, 16, 151, 19⟩) (.name 67 ⟨151, 21, 151, 25⟩) ⟨151, 20, 151, 25⟩ ⟨151, 16, 151, 26⟩)] ⟨151, 11, 151, 27⟩) ⟨151, 4, 151, 27⟩]
noncomputable def s_zdegree : List (Nat × NameKind) := [(81, .local), (0, .globalImplicit)]
noncomputable def p_zdegree : List Nat := [81]
noncomputable def b_zdegree : List St := [
  .ret (.bin .sub (.bi .len ⟨153, 11, 153, 14⟩ [(.name 81 ⟨153, 15, 153, 16⟩)] ⟨153, 11, 153, 17⟩) (.int 1 ⟨153, 20, 153, 21⟩) ⟨153, 11, 153, 21⟩) ⟨153, 4, 153, 21⟩]
noncomputable def s_zlead : List (Nat × NameKind) := [(81, .local), (0, .globalImplicit)]
noncomputable def p_zlead : List Nat := [81]
noncomputable def b_zlead : List St := [
  .ret (.ite (.cmp .gt (.bi .len ⟨155, 20, 155, 23⟩ [(.name 81 ⟨155, 24, 155, 25⟩)] ⟨155, 20, 155, 26⟩) (.int 0 ⟨155, 29, 155, 30⟩) ⟨155, 20, 155, 30⟩) (.sub (.name 81 ⟨155, 11, 155, 12⟩) (.neg (.int 1 ⟨155, 14, 155, 15⟩) ⟨155, 13, 155, 15⟩) ⟨155, 11, 155, 16⟩) (.int 0 ⟨155, 36, 155, 37⟩) ⟨155, 11, 155, 37⟩) ⟨155, 4, 155, 37⟩]
noncomputable def s_zadd : List (Nat × NameKind) := [(57, .cell), (58, .cell), (67, .local), (6, .globalImplicit), (0, .globalImplicit), (33, .globalImplicit), (2, .globalImplicit)]
noncomputable def p_zadd : List Nat := [57, 58]
noncomputable def b_zadd : List St := [
  .asg1 (.name 67 false ⟨157, 4, 157, 8⟩) (.bi .max ⟨157, 11, 157, 14⟩ [(.bi .len ⟨157, 15, 157, 18⟩ [(.name 57 ⟨157, 19, 157, 20⟩)] ⟨157, 15, 157, 21⟩), (.bi .len ⟨157, 23, 157, 26⟩ [(.name 58 ⟨157, 27, 157, 28⟩)] ⟨157, 23, 157, 29⟩)] ⟨157, 11, 157, 30⟩) ⟨157, 4, 157, 30⟩,
  .ret (.call 33 false ⟨158, 11, 158, 16⟩ [(.comp (.bin .add (.ite (.cmp .lt (.name 60 ⟨158, 28, 158, 30⟩) (.bi .len ⟨158, 33, 158, 36⟩ [(.name 57 ⟨158, 37, 158, 38⟩)] ⟨158, 33, 158, 39⟩) ⟨158, 28, 158, 39⟩) (.sub (.name 57 ⟨158, 19, 158, 20⟩) (.name 60 ⟨158, 21, 158, 23⟩) ⟨158, 19, 158, 24⟩) (.int 0 ⟨158, 45, 158, 46⟩) ⟨158, 19, 158, 46⟩) (.ite (.cmp .lt (.name 60 ⟨158, 60, 158, 62⟩) (.bi .len ⟨158, 65, 158, 68⟩ [(.name 58 ⟨158, 69, 158, 70⟩)] ⟨158, 65, 158, 71⟩) ⟨158, 60, 158, 71⟩) (.sub (.name 58 ⟨158, 51, 158, 52⟩) (.name 60 ⟨158, 53, 158, 55⟩) ⟨158, 51, 158, 56⟩) (.int 0 ⟨158, 77, 158, 78⟩) ⟨158, 51, 158, 78⟩) ⟨158, 18, 158, 79⟩) (.one 60 ⟨158, 84, 158, 86⟩) .range ⟨158, 90, 158, 95⟩ [(.name 67 ⟨158, 96, 158, 100⟩)] ⟨158, 90, 158, 101⟩ [(9, .local), (60, .local), (0, .globalImplicit), (57, .free), (58, .free)] [57, 58] ⟨158, 17, 158, 102⟩)] ⟨158, 11, 158, 103⟩) ⟨158, 4, 158, 103⟩]
noncomputable def s_zneg : List (Nat × NameKind) := [(81, .local)]
noncomputable def p_zneg : List Nat := [81]
noncomputable def b_zneg : List St := [
  .ret (.comp (.neg (.name 71 ⟨160, 13, 160, 19⟩) ⟨160, 12, 160, 19⟩) (.one 71 ⟨160, 24, 160, 30⟩) .list ⟨0, 0, 0, 0⟩ [(.name 81 ⟨160, 34, 160, 35⟩)] ⟨0, 0, 0, 0⟩ [(9, .local), (71, .local)] [] ⟨160, 11, 160, 36⟩) ⟨160, 4, 160, 36⟩]
noncomputable def s_zsub : List (Nat × NameKind) := [(57, .local), (58, .local), (36, .globalImplicit), (37, .globalImplicit)]
noncomputable def p_zsub : List Nat := [57, 58]
noncomputable def b_zsub : List St := [
  .ret (.call 36 false ⟨162, 11, 162, 15⟩ [(.name 57 ⟨162, 16, 162, 17⟩), (.call 37 false ⟨162, 19, 162, 23⟩ [(.name 58 ⟨162, 24, 162, 25⟩)] ⟨162, 19, 162, 26⟩)] ⟨162, 11, 162, 27⟩) ⟨162, 4, 162, 27⟩]
noncomputable def s_zscale : List (Nat × NameKind) := [(81, .local), (91, .cell)]
noncomputable def p_zscale : List Nat := [81, 91]
noncomputable def b_zscale : List St := [
  .ret (.ite (.cmp .ne (.name 91 ⟨164, 43, 164, 44⟩) (.int 0 ⟨164, 48, 164, 49⟩) ⟨164, 43, 164, 49⟩) (.comp (.bin .mul (.name 71 ⟨164, 12, 164, 18⟩) (.name 91 ⟨164, 21, 164, 22⟩) ⟨164, 12, 164, 22⟩) (.one 71 ⟨164, 27, 164, 33⟩) .list ⟨0, 0, 0, 0⟩ [(.name 81 ⟨164, 37, 164, 38⟩)] ⟨0, 0, 0, 0⟩ [(9, .local), (71, .local), (91, .free)] [91] ⟨164, 11, 164, 39⟩) (.lst [] ⟨164, 55, 164, 57⟩) ⟨164, 11, 164, 57⟩) ⟨164, 4, 164, 57⟩]
noncomputable def s_zraise : List (Nat × NameKind) := [(81, .local), (64, .local), (0, .globalImplicit), (1, .globalImplicit)]
noncomputable def p_zraise : List Nat := [81, 64]
noncomputable def b_zraise : List St := [
  .ret (.ite (.cmp .gt (.bi .len ⟨166, 35, 166, 38⟩ [(.name 81 ⟨166, 39, 166, 40⟩)] ⟨166, 35, 166, 41⟩) (.int 0 ⟨166, 44, 166, 45⟩) ⟨166, 35, 166, 45⟩) (.bin .add (.bin .mul (.lst [(.int 0 ⟨166, 12, 166, 13⟩)] ⟨166, 11, 166, 14⟩) (.name 64 ⟨166, 17, 166, 21⟩) ⟨166, 11, 166, 21⟩) (.bi .list ⟨166, 24, 166, 28⟩ [(.name 81 ⟨166, 29, 166, 30⟩)] ⟨166, 24, 166, 31⟩) ⟨166, 11, 166, 31⟩) (.lst [] ⟨166, 51, 166, 53⟩) ⟨166, 11, 166, 53⟩) ⟨166, 4, 166, 53⟩]
noncomputable def s_zcontent : List (Nat × NameKind) := [(81, .local), (18, .globalImplicit)]
noncomputable def p_zcontent : List Nat := [81]
noncomputable def b_zcontent : List St := [
  .ret (.call 18 false ⟨168, 11, 168, 18⟩ [(.name 81 ⟨168, 19, 168, 20⟩)] ⟨168, 11, 168, 21⟩) ⟨168, 4, 168, 21⟩]
noncomputable def s_zderive : List (Nat × NameKind) := [(81, .local), (3, .globalImplicit)]
noncomputable def p_zderive : List Nat := [81]
noncomputable def b_zderive : List St := [
  .ret (.slFrom (.comp (.bin .mul (.name 71 ⟨170, 12, 170, 18⟩) (.name 85 ⟨170, 21, 170, 26⟩) ⟨170, 12, 170, 26⟩) (.two 85 71 ⟨170, 31, 170, 36⟩ ⟨170, 38, 170, 44⟩ 0 ⟨170, 31, 170, 44⟩) .enum ⟨170, 48, 170, 57⟩ [(.name 81 ⟨170, 58, 170, 59⟩)] ⟨170, 48, 170, 60⟩ [(9, .local), (85, .local), (71, .local)] [] ⟨170, 11, 170, 61⟩) (.int 1 ⟨170, 62, 170, 63⟩) ⟨170, 62, 170, 64⟩ ⟨170, 11, 170, 65⟩) ⟨170, 4, 170, 65⟩]
noncomputable def s_check_bottom : List (Nat × NameKind) := [(81, .local), (0, .globalImplicit), (66, .globalImplicit)]
noncomputable def p_check_bottom : List Nat := [81]
noncomputable def b_check_bottom : List St := [
  .ifs (.cmp .eq (.bi .len ⟨173, 7, 173, 10⟩ [(.name 81 ⟨173, 11, 173, 12⟩)] ⟨173, 7, 173, 13⟩) (.int 0 ⟨173, 17, 173, 18⟩) ⟨173, 7, 173, 18⟩) [.other (.Raise (some (.Call (.Name (nm 66) ⟨174, 14, 174, 21⟩) [.Constant (.str "division by zero") 0 ⟨174, 22, 174, 40⟩, .Constant (.str "a polynomial is divided by 0") 0 ⟨174, 42, 174, 72⟩] [] ⟨174, 14, 174, 73⟩)) .none ⟨174, 8, 174, 73⟩)] [] ⟨173, 4, 174, 73⟩]
noncomputable def s_pseudo : List (Nat × NameKind) := [(57, .local), (58, .local), (64, .local), (76, .local), (65, .local), (92, .local), (63, .local), (71, .local), (85, .local), (93, .local), (43, .globalImplicit), (6, .globalImplicit), (0, .globalImplicit), (1, .globalImplicit), (35, .globalImplicit), (38, .globalImplicit), (39, .globalImplicit), (40, .globalImplicit)]
noncomputable def p_pseudo : List Nat := [57, 58]
noncomputable def b_pseudo : List St := [
  .ex (.call 43 false ⟨176, 4, 176, 16⟩ [(.name 58 ⟨176, 17, 176, 18⟩)] ⟨176, 4, 176, 19⟩) ⟨176, 4, 176, 19⟩,
  .asg1 (.name 64 false ⟨177, 4, 177, 8⟩) (.bi .max ⟨177, 11, 177, 14⟩ [(.int 0 ⟨177, 15, 177, 16⟩), (.bin .add (.bin .sub (.bi .len ⟨177, 18, 177, 21⟩ [(.name 57 ⟨177, 22, 177, 23⟩)] ⟨177, 18, 177, 24⟩) (.bi .len ⟨177, 27, 177, 30⟩ [(.name 58 ⟨177, 31, 177, 32⟩)] ⟨177, 27, 177, 33⟩) ⟨177, 18, 177, 33⟩) (.int 1 ⟨177, 36, 177, 37⟩) ⟨177, 18, 177, 37⟩)] ⟨177, 11, 177, 38⟩) ⟨177, 4, 177, 38⟩,
  .asgD [(.name 76 false ⟨178, 4, 178, 8⟩), (.name 65 false ⟨178, 10, 178, 15⟩), (.name 92 false ⟨178, 17, 178, 21⟩), (.name 63 false ⟨178, 23, 178, 28⟩)] 0 ⟨178, 4, 178, 28⟩ [(.bi .list ⟨178, 32, 178, 36⟩ [(.name 57 ⟨178, 37, 178, 38⟩)] ⟨178, 32, 178, 39⟩), (.lst [] ⟨178, 41, 178, 43⟩), (.name 64 ⟨178, 45, 178, 49⟩), (.call 35 false ⟨178, 51, 178, 56⟩ [(.name 58 ⟨178, 57, 178, 58⟩)] ⟨178, 51, 178, 59⟩)] 0 ⟨178, 31, 178, 60⟩ ⟨178, 4, 178, 60⟩,
  .wh (.cmp .ge (.bi .len ⟨179, 10, 179, 13⟩ [(.name 76 ⟨179, 14, 179, 18⟩)] ⟨179, 10, 179, 19⟩) (.bi .len ⟨179, 23, 179, 26⟩ [(.name 58 ⟨179, 27, 179, 28⟩)] ⟨179, 23, 179, 29⟩) ⟨179, 10, 179, 29⟩) [.asgD [(.name 71 false ⟨180, 8, 180, 14⟩), (.name 85 false ⟨180, 16, 180, 21⟩)] 0 ⟨180, 8, 180, 21⟩ [(.sub (.name 76 ⟨180, 25, 180, 29⟩) (.neg (.int 1 ⟨180, 31, 180, 32⟩) ⟨180, 30, 180, 32⟩) ⟨180, 25, 180, 33⟩), (.bin .sub (.bi .len ⟨180, 35, 180, 38⟩ [(.name 76 ⟨180, 39, 180, 43⟩)] ⟨180, 35, 180, 44⟩) (.bi .len ⟨180, 47, 180, 50⟩ [(.name 58 ⟨180, 51, 180, 52⟩)] ⟨180, 47, 180, 53⟩) ⟨180, 35, 180, 53⟩)] 0 ⟨180, 24, 180, 54⟩ ⟨180, 8, 180, 54⟩, .asg1 (.name 65 false ⟨181, 8, 181, 13⟩) (.call 38 false ⟨181, 16, 181, 20⟩ [(.call 39 false ⟨181, 21, 181, 27⟩ [(.name 65 ⟨181, 28, 181, 33⟩), (.name 63 ⟨181, 35, 181, 40⟩)] ⟨181, 21, 181, 41⟩), (.call 40 false ⟨181, 43, 181, 49⟩ [(.lst [(.neg (.name 71 ⟨181, 52, 181, 58⟩) ⟨181, 51, 181, 58⟩)] ⟨181, 50, 181, 59⟩), (.name 85 ⟨181, 61, 181, 66⟩)] ⟨181, 43, 181, 67⟩)] ⟨181, 16, 181, 68⟩) ⟨181, 8, 181, 68⟩, .asg1 (.name 76 false ⟨182, 8, 182, 12⟩) (.call 38 false ⟨182, 15, 182, 19⟩ [(.call 39 false ⟨182, 20, 182, 26⟩ [(.name 76 ⟨182, 27, 182, 31⟩), (.name 63 ⟨182, 33, 182, 38⟩)] ⟨182, 20, 182, 39⟩), (.call 40 false ⟨182, 41, 182, 47⟩ [(.call 39 false ⟨182, 48, 182, 54⟩ [(.name 58 ⟨182, 55, 182, 56⟩), (.name 71 ⟨182, 58, 182, 64⟩)] ⟨182, 48, 182, 65⟩), (.name 85 ⟨182, 67, 182, 72⟩)] ⟨182, 41, 182, 73⟩)] ⟨182, 15, 182, 74⟩) ⟨182, 8, 182, 74⟩, .aug 92 ⟨183, 8, 183, 12⟩ .sub (.int 1 ⟨183, 16, 183, 17⟩) ⟨183, 8, 183, 17⟩] ⟨179, 4, 183, 17⟩,
  .asg1 (.name 93 false ⟨184, 4, 184, 8⟩) (.bin .pow (.name 63 ⟨184, 11, 184, 16⟩) (.name 92 ⟨184, 20, 184, 24⟩) ⟨184, 11, 184, 24⟩) ⟨184, 4, 184, 24⟩,
  .ret (.tup [(.call 39 false ⟨185, 12, 185, 18⟩ [(.name 65 ⟨185, 19, 185, 24⟩), (.name 93 ⟨185, 26, 185, 30⟩)] ⟨185, 12, 185, 31⟩), (.call 39 false ⟨185, 33, 185, 39⟩ [(.name 76 ⟨185, 40, 185, 44⟩), (.name 93 ⟨185, 46, 185, 50⟩)] ⟨185, 33, 185, 51⟩), (.name 64 ⟨185, 53, 185, 57⟩)] 0 ⟨185, 11, 185, 58⟩) ⟨185, 4, 185, 58⟩]
noncomputable def s_divided : List (Nat × NameKind) := [(81, .local), (71, .cell)]
noncomputable def p_divided : List Nat := [81, 71]
noncomputable def b_divided : List St := [
  .ret (.comp (.bin .fdiv (.name 94 ⟨188, 12, 188, 23⟩) (.name 71 ⟨188, 27, 188, 33⟩) ⟨188, 12, 188, 33⟩) (.one 94 ⟨188, 38, 188, 49⟩) .list ⟨0, 0, 0, 0⟩ [(.name 81 ⟨188, 53, 188, 54⟩)] ⟨0, 0, 0, 0⟩ [(9, .local), (94, .local), (71, .free)] [71] ⟨188, 11, 188, 55⟩) ⟨188, 4, 188, 55⟩]
noncomputable def s_full_rest : List (Nat × NameKind) := [(57, .local), (58, .cell), (82, .local), (76, .local), (85, .local), (95, .cell), (44, .globalImplicit), (34, .globalImplicit)]
noncomputable def p_full_rest : List Nat := [57, 58]
noncomputable def b_full_rest : List St := [
  .asgU [(.name 82 false ⟨190, 4, 190, 12⟩), (.name 76 false ⟨190, 14, 190, 18⟩), (.name 85 false ⟨190, 20, 190, 25⟩)] 0 ⟨190, 4, 190, 25⟩ (.call 44 false ⟨190, 28, 190, 34⟩ [(.name 57 ⟨190, 35, 190, 36⟩), (.name 58 ⟨190, 38, 190, 39⟩)] ⟨190, 28, 190, 40⟩) ⟨190, 4, 190, 40⟩,
  .asg1 (.name 95 false ⟨191, 4, 191, 11⟩) (.bin .sub (.bin .add (.bin .sub (.call 34 false ⟨191, 14, 191, 21⟩ [(.name 57 ⟨191, 22, 191, 23⟩)] ⟨191, 14, 191, 24⟩) (.call 34 false ⟨191, 27, 191, 34⟩ [(.name 58 ⟨191, 35, 191, 36⟩)] ⟨191, 27, 191, 37⟩) ⟨191, 14, 191, 37⟩) (.int 1 ⟨191, 40, 191, 41⟩) ⟨191, 14, 191, 41⟩) (.name 85 ⟨191, 44, 191, 49⟩) ⟨191, 14, 191, 49⟩) ⟨191, 4, 191, 49⟩,
  .ret (.comp (.bin .mul (.name 94 ⟨192, 12, 192, 23⟩) (.bin .pow (.call 35 false ⟨192, 26, 192, 31⟩ [(.name 58 ⟨192, 32, 192, 33⟩)] ⟨192, 26, 192, 34⟩) (.name 95 ⟨192, 38, 192, 45⟩) ⟨192, 26, 192, 45⟩) ⟨192, 12, 192, 45⟩) (.one 94 ⟨192, 50, 192, 61⟩) .list ⟨0, 0, 0, 0⟩ [(.name 76 ⟨192, 65, 192, 69⟩)] ⟨0, 0, 0, 0⟩ [(9, .local), (94, .local), (35, .globalImplicit), (58, .free), (95, .free)] [58, 95] ⟨192, 11, 192, 70⟩) ⟨192, 4, 192, 70⟩]
noncomputable def s_row_resultant : List (Nat × NameKind) := [(57, .local), (58, .local), (96, .local), (78, .local), (97, .local), (98, .local), (76, .local), (64, .local), (34, .globalImplicit), (46, .globalImplicit), (45, .globalImplicit), (35, .globalImplicit)]
noncomputable def p_row_resultant : List Nat := [57, 58, 96]
noncomputable def b_row_resultant : List St := [
  .asgD [(.name 78 false ⟨194, 4, 194, 5⟩), (.name 97 false ⟨194, 7, 194, 8⟩)] 0 ⟨194, 4, 194, 8⟩ [(.int 1 ⟨194, 12, 194, 13⟩), (.int 1 ⟨194, 15, 194, 16⟩)] 0 ⟨194, 11, 194, 17⟩ ⟨194, 4, 194, 17⟩,
  .wh (.cmp .gt (.call 34 false ⟨195, 10, 195, 17⟩ [(.name 58 ⟨195, 18, 195, 19⟩)] ⟨195, 10, 195, 20⟩) (.int 0 ⟨195, 23, 195, 24⟩) ⟨195, 10, 195, 24⟩) [.asg1 (.name 98 false ⟨196, 8, 196, 11⟩) (.bin .sub (.call 34 false ⟨196, 14, 196, 21⟩ [(.name 57 ⟨196, 22, 196, 23⟩)] ⟨196, 14, 196, 24⟩) (.call 34 false ⟨196, 27, 196, 34⟩ [(.name 58 ⟨196, 35, 196, 36⟩)] ⟨196, 27, 196, 37⟩) ⟨196, 14, 196, 37⟩) ⟨196, 8, 196, 37⟩, .ifs (.bo true [(.cmp .eq (.bin .mod (.call 34 false ⟨197, 11, 197, 18⟩ [(.name 57 ⟨197, 19, 197, 20⟩)] ⟨197, 11, 197, 21⟩) (.int 2 ⟨197, 24, 197, 25⟩) ⟨197, 11, 197, 25⟩) (.int 1 ⟨197, 29, 197, 30⟩) ⟨197, 11, 197, 30⟩), (.cmp .eq (.bin .mod (.call 34 false ⟨197, 35, 197, 42⟩ [(.name 58 ⟨197, 43, 197, 44⟩)] ⟨197, 35, 197, 45⟩) (.int 2 ⟨197, 48, 197, 49⟩) ⟨197, 35, 197, 49⟩) (.int 1 ⟨197, 53, 197, 54⟩) ⟨197, 35, 197, 54⟩)] ⟨197, 11, 197, 54⟩) [.asg1 (.name 96 false ⟨198, 12, 198, 16⟩) (.neg (.name 96 ⟨198, 20, 198, 24⟩) ⟨198, 19, 198, 24⟩) ⟨198, 12, 198, 24⟩] [] ⟨197, 8, 198, 24⟩, .asg1 (.name 76 false ⟨199, 8, 199, 12⟩) (.call 46 false ⟨199, 15, 199, 24⟩ [(.name 57 ⟨199, 25, 199, 26⟩), (.name 58 ⟨199, 28, 199, 29⟩)] ⟨199, 15, 199, 30⟩) ⟨199, 8, 199, 30⟩, .asgD [(.name 57 false ⟨200, 8, 200, 9⟩), (.name 58 false ⟨200, 11, 200, 12⟩)] 0 ⟨200, 8, 200, 12⟩ [(.name 58 ⟨200, 16, 200, 17⟩), (.call 45 false ⟨200, 19, 200, 26⟩ [(.name 76 ⟨200, 27, 200, 31⟩), (.bin .mul (.name 78 ⟨200, 33, 200, 34⟩) (.bin .pow (.name 97 ⟨200, 37, 200, 38⟩) (.name 98 ⟨200, 42, 200, 45⟩) ⟨200, 37, 200, 45⟩) ⟨200, 33, 200, 45⟩)] ⟨200, 19, 200, 46⟩)] 0 ⟨200, 15, 200, 47⟩ ⟨200, 8, 200, 47⟩, .asg1 (.name 78 false ⟨201, 8, 201, 9⟩) (.call 35 false ⟨201, 12, 201, 17⟩ [(.name 57 ⟨201, 18, 201, 19⟩)] ⟨201, 12, 201, 20⟩) ⟨201, 8, 201, 20⟩, .ifs (.cmp .gt (.name 98 ⟨202, 11, 202, 14⟩) (.int 0 ⟨202, 17, 202, 18⟩) ⟨202, 11, 202, 18⟩) [.asg1 (.name 97 false ⟨203, 12, 203, 13⟩) (.bin .fdiv (.bin .pow (.name 78 ⟨203, 16, 203, 17⟩) (.name 98 ⟨203, 21, 203, 24⟩) ⟨203, 16, 203, 24⟩) (.bin .pow (.name 97 ⟨203, 28, 203, 29⟩) (.bin .sub (.name 98 ⟨203, 34, 203, 37⟩) (.int 1 ⟨203, 40, 203, 41⟩) ⟨203, 34, 203, 41⟩) ⟨203, 28, 203, 42⟩) ⟨203, 16, 203, 42⟩) ⟨203, 12, 203, 42⟩] [] ⟨202, 8, 203, 42⟩] ⟨195, 4, 203, 42⟩,
  .ifs (.cmp .eq (.name 58 ⟨204, 7, 204, 8⟩) (.lst [] ⟨204, 12, 204, 14⟩) ⟨204, 7, 204, 14⟩) [.ret (.int 0 ⟨205, 15, 205, 16⟩) ⟨205, 8, 205, 16⟩] [] ⟨204, 4, 205, 16⟩,
  .asg1 (.name 64 false ⟨206, 4, 206, 8⟩) (.call 34 false ⟨206, 11, 206, 18⟩ [(.name 57 ⟨206, 19, 206, 20⟩)] ⟨206, 11, 206, 21⟩) ⟨206, 4, 206, 21⟩,
  .ret (.bin .mul (.name 96 ⟨207, 11, 207, 15⟩) (.ite (.cmp .gt (.name 64 ⟨207, 54, 207, 58⟩) (.int 0 ⟨207, 61, 207, 62⟩) ⟨207, 54, 207, 62⟩) (.bin .fdiv (.bin .pow (.sub (.name 58 ⟨207, 19, 207, 20⟩) (.int 0 ⟨207, 21, 207, 22⟩) ⟨207, 19, 207, 23⟩) (.name 64 ⟨207, 27, 207, 31⟩) ⟨207, 19, 207, 31⟩) (.bin .pow (.name 97 ⟨207, 35, 207, 36⟩) (.bin .sub (.name 64 ⟨207, 41, 207, 45⟩) (.int 1 ⟨207, 48, 207, 49⟩) ⟨207, 41, 207, 49⟩) ⟨207, 35, 207, 50⟩) ⟨207, 19, 207, 50⟩) (.int 1 ⟨207, 68, 207, 69⟩) ⟨207, 19, 207, 69⟩) ⟨207, 11, 207, 70⟩) ⟨207, 4, 207, 70⟩]
noncomputable def s_resultant : List (Nat × NameKind) := [(57, .local), (58, .local), (96, .local), (72, .local), (74, .local), (99, .local), (34, .globalImplicit), (41, .globalImplicit), (47, .globalImplicit), (45, .globalImplicit)]
noncomputable def p_resultant : List Nat := [57, 58]
noncomputable def b_resultant : List St := [
  .ifs (.bo false [(.cmp .eq (.name 57 ⟨209, 7, 209, 8⟩) (.lst [] ⟨209, 12, 209, 14⟩) ⟨209, 7, 209, 14⟩), (.cmp .eq (.name 58 ⟨209, 18, 209, 19⟩) (.lst [] ⟨209, 23, 209, 25⟩) ⟨209, 18, 209, 25⟩)] ⟨209, 7, 209, 25⟩) [.ret (.int 0 ⟨210, 15, 210, 16⟩) ⟨210, 8, 210, 16⟩] [] ⟨209, 4, 210, 16⟩,
  .asg1 (.name 96 false ⟨211, 4, 211, 8⟩) (.int 1 ⟨211, 11, 211, 12⟩) ⟨211, 4, 211, 12⟩,
  .ifs (.cmp .lt (.call 34 false ⟨212, 7, 212, 14⟩ [(.name 57 ⟨212, 15, 212, 16⟩)] ⟨212, 7, 212, 17⟩) (.call 34 false ⟨212, 20, 212, 27⟩ [(.name 58 ⟨212, 28, 212, 29⟩)] ⟨212, 20, 212, 30⟩) ⟨212, 7, 212, 30⟩) [.asgD [(.name 57 false ⟨213, 8, 213, 9⟩), (.name 58 false ⟨213, 11, 213, 12⟩)] 0 ⟨213, 8, 213, 12⟩ [(.name 58 ⟨213, 16, 213, 17⟩), (.name 57 ⟨213, 19, 213, 20⟩)] 0 ⟨213, 15, 213, 21⟩ ⟨213, 8, 213, 21⟩, .asg1 (.name 96 false ⟨214, 8, 214, 12⟩) (.ite (.bo true [(.cmp .eq (.bin .mod (.call 34 false ⟨214, 21, 214, 28⟩ [(.name 57 ⟨214, 29, 214, 30⟩)] ⟨214, 21, 214, 31⟩) (.int 2 ⟨214, 34, 214, 35⟩) ⟨214, 21, 214, 35⟩) (.int 1 ⟨214, 39, 214, 40⟩) ⟨214, 21, 214, 40⟩), (.cmp .eq (.bin .mod (.call 34 false ⟨214, 45, 214, 52⟩ [(.name 58 ⟨214, 53, 214, 54⟩)] ⟨214, 45, 214, 55⟩) (.int 2 ⟨214, 58, 214, 59⟩) ⟨214, 45, 214, 59⟩) (.int 1 ⟨214, 63, 214, 64⟩) ⟨214, 45, 214, 64⟩)] ⟨214, 21, 214, 64⟩) (.neg (.int 1 ⟨214, 16, 214, 17⟩) ⟨214, 15, 214, 17⟩) (.int 1 ⟨214, 70, 214, 71⟩) ⟨214, 15, 214, 71⟩) ⟨214, 8, 214, 71⟩] [] ⟨212, 4, 214, 71⟩,
  .asgD [(.name 72 false ⟨215, 4, 215, 7⟩), (.name 74 false ⟨215, 9, 215, 14⟩)] 0 ⟨215, 4, 215, 14⟩ [(.call 41 false ⟨215, 18, 215, 26⟩ [(.name 57 ⟨215, 27, 215, 28⟩)] ⟨215, 18, 215, 29⟩), (.call 41 false ⟨215, 31, 215, 39⟩ [(.name 58 ⟨215, 40, 215, 41⟩)] ⟨215, 31, 215, 42⟩)] 0 ⟨215, 17, 215, 43⟩ ⟨215, 4, 215, 43⟩,
  .asg1 (.name 99 false ⟨216, 4, 216, 10⟩) (.bin .mul (.bin .pow (.name 72 ⟨216, 13, 216, 16⟩) (.call 34 false ⟨216, 20, 216, 27⟩ [(.name 58 ⟨216, 28, 216, 29⟩)] ⟨216, 20, 216, 30⟩) ⟨216, 13, 216, 30⟩) (.bin .pow (.name 74 ⟨216, 33, 216, 38⟩) (.call 34 false ⟨216, 42, 216, 49⟩ [(.name 57 ⟨216, 50, 216, 51⟩)] ⟨216, 42, 216, 52⟩) ⟨216, 33, 216, 52⟩) ⟨216, 13, 216, 52⟩) ⟨216, 4, 216, 52⟩,
  .ret (.bin .mul (.name 99 ⟨217, 11, 217, 17⟩) (.call 47 false ⟨217, 20, 217, 33⟩ [(.call 45 false ⟨217, 34, 217, 41⟩ [(.name 57 ⟨217, 42, 217, 43⟩), (.name 72 ⟨217, 45, 217, 48⟩)] ⟨217, 34, 217, 49⟩), (.call 45 false ⟨217, 51, 217, 58⟩ [(.name 58 ⟨217, 59, 217, 60⟩), (.name 74 ⟨217, 62, 217, 67⟩)] ⟨217, 51, 217, 68⟩), (.name 96 ⟨217, 70, 217, 74⟩)] ⟨217, 20, 217, 75⟩) ⟨217, 11, 217, 75⟩) ⟨217, 4, 217, 75⟩]
noncomputable def s_discriminant : List (Nat × NameKind) := [(84, .local), (64, .local), (65, .local), (34, .globalImplicit), (66, .globalImplicit), (48, .globalImplicit), (42, .globalImplicit), (35, .globalImplicit)]
noncomputable def p_discriminant : List Nat := [84]
noncomputable def b_discriminant : List St := [
  .asg1 (.name 64 false ⟨219, 4, 219, 8⟩) (.call 34 false ⟨219, 11, 219, 18⟩ [(.name 84 ⟨219, 19, 219, 20⟩)] ⟨219, 11, 219, 21⟩) ⟨219, 4, 219, 21⟩,
  .ifs (.cmp .lt (.name 64 ⟨220, 7, 220, 11⟩) (.int 1 ⟨220, 14, 220, 15⟩) ⟨220, 7, 220, 15⟩) [.other (.Raise (some (.Call (.Name (nm 66) ⟨221, 14, 221, 21⟩) [.Constant (.str "domain") 0 ⟨221, 22, 221, 30⟩, .Constant (.str "a discriminant wants a degree of 1 at least") 0 ⟨221, 32, 221, 77⟩] [] ⟨221, 14, 221, 78⟩)) .none ⟨221, 8, 221, 78⟩)] [] ⟨220, 4, 221, 78⟩,
  .asg1 (.name 65 false ⟨222, 4, 222, 9⟩) (.bin .fdiv (.call 48 false ⟨222, 12, 222, 21⟩ [(.name 84 ⟨222, 22, 222, 23⟩), (.call 42 false ⟨222, 25, 222, 32⟩ [(.name 84 ⟨222, 33, 222, 34⟩)] ⟨222, 25, 222, 35⟩)] ⟨222, 12, 222, 36⟩) (.call 35 false ⟨222, 40, 222, 45⟩ [(.name 84 ⟨222, 46, 222, 47⟩)] ⟨222, 40, 222, 48⟩) ⟨222, 12, 222, 48⟩) ⟨222, 4, 222, 48⟩,
  .ret (.ite (.cmp .eq (.bin .mod (.bin .fdiv (.bin .mul (.name 64 ⟨223, 21, 223, 25⟩) (.bin .sub (.name 64 ⟨223, 29, 223, 33⟩) (.int 1 ⟨223, 36, 223, 37⟩) ⟨223, 29, 223, 37⟩) ⟨223, 21, 223, 38⟩) (.int 2 ⟨223, 42, 223, 43⟩) ⟨223, 21, 223, 43⟩) (.int 2 ⟨223, 46, 223, 47⟩) ⟨223, 21, 223, 47⟩) (.int 1 ⟨223, 51, 223, 52⟩) ⟨223, 21, 223, 52⟩) (.neg (.name 65 ⟨223, 12, 223, 17⟩) ⟨223, 11, 223, 17⟩) (.name 65 ⟨223, 58, 223, 63⟩) ⟨223, 11, 223, 63⟩) ⟨223, 4, 223, 63⟩]
noncomputable def s_law_draw : List (Nat × NameKind) := [(100, .local), (64, .local), (68, .local), (0, .globalImplicit), (7, .globalImplicit)]
noncomputable def p_law_draw : List Nat := [100, 64]
noncomputable def b_law_draw : List St := [
  .asg1 (.name 68 false ⟨226, 4, 226, 8⟩) (.sub (.name 100 ⟨226, 11, 226, 15⟩) (.int 1 ⟨226, 16, 226, 17⟩) ⟨226, 11, 226, 18⟩) ⟨226, 4, 226, 18⟩,
  .asg1 (.item 100 (.int 1 ⟨227, 9, 227, 10⟩) ⟨227, 4, 227, 8⟩ ⟨227, 4, 227, 11⟩) (.bin .add (.name 68 ⟨227, 14, 227, 18⟩) (.int 1 ⟨227, 21, 227, 22⟩) ⟨227, 14, 227, 22⟩) ⟨227, 4, 227, 22⟩,
  .ifs (.cmp .lt (.name 68 ⟨228, 7, 228, 11⟩) (.bi .len ⟨228, 14, 228, 17⟩ [(.sub (.name 100 ⟨228, 18, 228, 22⟩) (.int 0 ⟨228, 23, 228, 24⟩) ⟨228, 18, 228, 25⟩)] ⟨228, 14, 228, 26⟩) ⟨228, 7, 228, 26⟩) [.ret (.bin .mod (.bi .abs ⟨229, 15, 229, 18⟩ [(.sub (.sub (.name 100 ⟨229, 19, 229, 23⟩) (.int 0 ⟨229, 24, 229, 25⟩) ⟨229, 19, 229, 26⟩) (.name 68 ⟨229, 27, 229, 31⟩) ⟨229, 19, 229, 32⟩)] ⟨229, 15, 229, 33⟩) (.name 64 ⟨229, 36, 229, 40⟩) ⟨229, 15, 229, 40⟩) ⟨229, 8, 229, 40⟩] [] ⟨228, 4, 229, 40⟩,
  .ret (.bin .mod (.sub (.tup [(.int 2 ⟨230, 12, 230, 13⟩), (.int 3 ⟨230, 15, 230, 16⟩), (.int 2 ⟨230, 18, 230, 19⟩), (.int 3 ⟨230, 21, 230, 22⟩)] 0 ⟨230, 11, 230, 23⟩) (.bin .mod (.name 68 ⟨230, 24, 230, 28⟩) (.int 4 ⟨230, 31, 230, 32⟩) ⟨230, 24, 230, 32⟩) ⟨230, 11, 230, 33⟩) (.name 64 ⟨230, 36, 230, 40⟩) ⟨230, 11, 230, 40⟩) ⟨230, 4, 230, 40⟩]
noncomputable def s_law_row : List (Nat × NameKind) := [(61, .local), (63, .local), (64, .local), (65, .local), (1, .globalImplicit), (0, .globalImplicit)]
noncomputable def p_law_row : List Nat := [61, 63, 64]
noncomputable def b_law_row : List St := [
  .asg1 (.name 65 true ⟨232, 4, 232, 9⟩) (.bi .list ⟨232, 12, 232, 16⟩ [(.name 63 ⟨232, 17, 232, 22⟩)] ⟨232, 12, 232, 23⟩) ⟨232, 4, 232, 23⟩,
  .wh (.cmp .lt (.bi .len ⟨233, 10, 233, 13⟩ [(.name 65 ⟨233, 14, 233, 19⟩)] ⟨233, 10, 233, 20⟩) (.name 64 ⟨233, 23, 233, 27⟩) ⟨233, 10, 233, 27⟩) [.app 65 ⟨234, 8, 234, 13⟩ ⟨234, 8, 234, 20⟩ (.bin .add (.bin .add (.bin .mul (.sub (.name 61 ⟨234, 21, 234, 26⟩) (.int 0 ⟨234, 27, 234, 28⟩) ⟨234, 21, 234, 29⟩) (.sub (.name 65 ⟨234, 32, 234, 37⟩) (.neg (.int 1 ⟨234, 39, 234, 40⟩) ⟨234, 38, 234, 40⟩) ⟨234, 32, 234, 41⟩) ⟨234, 21, 234, 41⟩) (.bin .mul (.sub (.name 61 ⟨234, 44, 234, 49⟩) (.int 1 ⟨234, 50, 234, 51⟩) ⟨234, 44, 234, 52⟩) (.sub (.name 65 ⟨234, 55, 234, 60⟩) (.neg (.int 2 ⟨234, 62, 234, 63⟩) ⟨234, 61, 234, 63⟩) ⟨234, 55, 234, 64⟩) ⟨234, 44, 234, 64⟩) ⟨234, 21, 234, 64⟩) (.bin .mul (.sub (.name 61 ⟨234, 67, 234, 72⟩) (.int 2 ⟨234, 73, 234, 74⟩) ⟨234, 67, 234, 75⟩) (.sub (.name 65 ⟨234, 78, 234, 83⟩) (.neg (.int 3 ⟨234, 85, 234, 86⟩) ⟨234, 84, 234, 86⟩) ⟨234, 78, 234, 87⟩) ⟨234, 67, 234, 87⟩) ⟨234, 21, 234, 87⟩) ⟨234, 8, 234, 88⟩ ⟨234, 8, 234, 88⟩] ⟨233, 4, 234, 88⟩,
  .ret (.name 65 ⟨235, 11, 235, 16⟩) ⟨235, 4, 235, 16⟩]
noncomputable def s_law_prime_right : List (Nat × NameKind) := [(57, .cell), (58, .cell), (81, .cell), (101, .local), (64, .local), (69, .local), (102, .cell), (63, .cell), (49, .globalImplicit), (32, .globalImplicit), (2, .globalImplicit), (20, .globalImplicit)]
noncomputable def p_law_prime_right : List Nat := [57, 58, 81]
noncomputable def b_law_prime_right : List St := [
  .asg1 (.name 101 false ⟨237, 4, 237, 8⟩) (.call 49 false ⟨237, 11, 237, 23⟩ [(.lst [(.neg (.int 1 ⟨237, 26, 237, 27⟩) ⟨237, 25, 237, 27⟩), (.bin .sub (.int 0 ⟨237, 29, 237, 30⟩) (.name 58 ⟨237, 33, 237, 34⟩) ⟨237, 29, 237, 34⟩), (.bin .sub (.int 0 ⟨237, 36, 237, 37⟩) (.name 57 ⟨237, 40, 237, 41⟩) ⟨237, 36, 237, 41⟩), (.int 1 ⟨237, 43, 237, 44⟩)] ⟨237, 24, 237, 45⟩)] ⟨237, 11, 237, 46⟩) ⟨237, 4, 237, 46⟩,
  .ifs (.cmp .ne (.name 101 ⟨238, 7, 238, 11⟩) (.bin .sub (.bin .sub (.bin .sub (.bin .add (.bin .mul (.bin .mul (.bin .mul (.name 57 ⟨238, 15, 238, 16⟩) (.name 57 ⟨238, 19, 238, 20⟩) ⟨238, 15, 238, 20⟩) (.name 58 ⟨238, 23, 238, 24⟩) ⟨238, 15, 238, 24⟩) (.name 58 ⟨238, 27, 238, 28⟩) ⟨238, 15, 238, 28⟩) (.bin .mul (.int 4 ⟨238, 31, 238, 32⟩) (.bin .pow (.name 58 ⟨238, 35, 238, 36⟩) (.int 3 ⟨238, 40, 238, 41⟩) ⟨238, 35, 238, 41⟩) ⟨238, 31, 238, 41⟩) ⟨238, 15, 238, 41⟩) (.bin .mul (.int 4 ⟨238, 44, 238, 45⟩) (.bin .pow (.name 57 ⟨238, 48, 238, 49⟩) (.int 3 ⟨238, 53, 238, 54⟩) ⟨238, 48, 238, 54⟩) ⟨238, 44, 238, 54⟩) ⟨238, 15, 238, 54⟩) (.bin .mul (.bin .mul (.int 18 ⟨238, 57, 238, 59⟩) (.name 57 ⟨238, 62, 238, 63⟩) ⟨238, 57, 238, 63⟩) (.name 58 ⟨238, 66, 238, 67⟩) ⟨238, 57, 238, 67⟩) ⟨238, 15, 238, 67⟩) (.int 27 ⟨238, 70, 238, 72⟩) ⟨238, 15, 238, 72⟩) ⟨238, 7, 238, 72⟩) [.ret (.bool false ⟨239, 15, 239, 20⟩) ⟨239, 8, 239, 20⟩] [] ⟨238, 4, 239, 20⟩,
  .ifs (.cmp .eq (.bin .mod (.name 101 ⟨240, 7, 240, 11⟩) (.name 81 ⟨240, 14, 240, 15⟩) ⟨240, 7, 240, 15⟩) (.int 0 ⟨240, 19, 240, 20⟩) ⟨240, 7, 240, 20⟩) [.ret (.bool true ⟨241, 15, 241, 19⟩) ⟨241, 8, 241, 19⟩] [] ⟨240, 4, 241, 19⟩,
  .asg1 (.name 64 false ⟨242, 4, 242, 8⟩) (.call 32 false ⟨242, 11, 242, 24⟩ [(.lst [(.bin .sub (.name 81 ⟨242, 26, 242, 27⟩) (.int 1 ⟨242, 30, 242, 31⟩) ⟨242, 26, 242, 31⟩), (.bin .mod (.bin .sub (.int 0 ⟨242, 34, 242, 35⟩) (.name 58 ⟨242, 38, 242, 39⟩) ⟨242, 34, 242, 39⟩) (.name 81 ⟨242, 43, 242, 44⟩) ⟨242, 33, 242, 44⟩), (.bin .mod (.bin .sub (.int 0 ⟨242, 47, 242, 48⟩) (.name 57 ⟨242, 51, 242, 52⟩) ⟨242, 47, 242, 52⟩) (.name 81 ⟨242, 56, 242, 57⟩) ⟨242, 46, 242, 57⟩), (.int 1 ⟨242, 59, 242, 60⟩)] ⟨242, 25, 242, 61⟩), (.name 81 ⟨242, 63, 242, 64⟩)] ⟨242, 11, 242, 65⟩) ⟨242, 4, 242, 65⟩,
  .asg1 (.name 69 false ⟨243, 4, 243, 10⟩) (.cmp .isin (.bin .mod (.name 101 ⟨243, 13, 243, 17⟩) (.name 81 ⟨243, 20, 243, 21⟩) ⟨243, 13, 243, 21⟩) (.comp (.bin .mod (.bin .mul (.name 72 ⟨243, 26, 243, 29⟩) (.name 72 ⟨243, 32, 243, 35⟩) ⟨243, 26, 243, 35⟩) (.name 81 ⟨243, 38, 243, 39⟩) ⟨243, 26, 243, 39⟩) (.one 72 ⟨243, 44, 243, 47⟩) .range ⟨243, 51, 243, 56⟩ [(.int 1 ⟨243, 57, 243, 58⟩), (.name 81 ⟨243, 60, 243, 61⟩)] ⟨243, 51, 243, 62⟩ [(9, .local), (72, .local), (81, .free)] [81] ⟨243, 25, 243, 63⟩) ⟨243, 13, 243, 63⟩) ⟨243, 4, 243, 63⟩,
  .ifs (.bo false [(.cmp .ne (.cmp .eq (.call 20 false ⟨244, 8, 244, 17⟩ [(.name 101 ⟨244, 18, 244, 22⟩), (.bin .fdiv (.bin .sub (.name 81 ⟨244, 25, 244, 26⟩) (.int 1 ⟨244, 29, 244, 30⟩) ⟨244, 25, 244, 30⟩) (.int 2 ⟨244, 35, 244, 36⟩) ⟨244, 24, 244, 36⟩), (.name 81 ⟨244, 38, 244, 39⟩)] ⟨244, 8, 244, 40⟩) (.int 1 ⟨244, 44, 244, 45⟩) ⟨244, 8, 244, 45⟩) (.name 69 ⟨244, 50, 244, 56⟩) ⟨244, 7, 244, 56⟩), (.cmp .eq (.cmp .eq (.name 64 ⟨244, 61, 244, 65⟩) (.int 2 ⟨244, 69, 244, 70⟩) ⟨244, 61, 244, 70⟩) (.name 69 ⟨244, 75, 244, 81⟩) ⟨244, 60, 244, 81⟩), (.cmp .notin (.name 64 ⟨244, 85, 244, 89⟩) (.tup [(.int 1 ⟨244, 98, 244, 99⟩), (.int 2 ⟨244, 101, 244, 102⟩), (.int 3 ⟨244, 104, 244, 105⟩)] 0 ⟨244, 97, 244, 106⟩) ⟨244, 85, 244, 106⟩)] ⟨244, 7, 244, 106⟩) [.ret (.bool false ⟨245, 15, 245, 20⟩) ⟨245, 8, 245, 20⟩] [] ⟨244, 4, 245, 20⟩,
  .asg1 (.name 102 false ⟨246, 4, 246, 9⟩) (.sub (.tup [(.bin .add (.bin .add (.bin .mul (.name 81 ⟨246, 13, 246, 14⟩) (.name 81 ⟨246, 17, 246, 18⟩) ⟨246, 13, 246, 18⟩) (.name 81 ⟨246, 21, 246, 22⟩) ⟨246, 13, 246, 22⟩) (.int 1 ⟨246, 25, 246, 26⟩) ⟨246, 13, 246, 26⟩), (.bin .sub (.bin .mul (.name 81 ⟨246, 28, 246, 29⟩) (.name 81 ⟨246, 32, 246, 33⟩) ⟨246, 28, 246, 33⟩) (.int 1 ⟨246, 36, 246, 37⟩) ⟨246, 28, 246, 37⟩), (.bin .sub (.name 81 ⟨246, 39, 246, 40⟩) (.int 1 ⟨246, 43, 246, 44⟩) ⟨246, 39, 246, 44⟩)] 0 ⟨246, 12, 246, 45⟩) (.bin .sub (.name 64 ⟨246, 46, 246, 50⟩) (.int 1 ⟨246, 53, 246, 54⟩) ⟨246, 46, 246, 54⟩) ⟨246, 12, 246, 55⟩) ⟨246, 4, 246, 55⟩,
  .asg1 (.name 63 false ⟨247, 4, 247, 9⟩) (.lst [(.int 3 ⟨247, 13, 247, 14⟩), (.name 57 ⟨247, 16, 247, 17⟩), (.bin .add (.bin .mul (.name 57 ⟨247, 19, 247, 20⟩) (.name 57 ⟨247, 23, 247, 24⟩) ⟨247, 19, 247, 24⟩) (.bin .mul (.int 2 ⟨247, 27, 247, 28⟩) (.name 58 ⟨247, 31, 247, 32⟩) ⟨247, 27, 247, 32⟩) ⟨247, 19, 247, 32⟩)] ⟨247, 12, 247, 33⟩) ⟨247, 4, 247, 33⟩,
  .ret (.cmp .eq (.comp (.bin .mod (.bin .sub (.call 16 false ⟨248, 13, 248, 22⟩ [(.lst [(.name 57 ⟨248, 24, 248, 25⟩), (.name 58 ⟨248, 27, 248, 28⟩), (.int 1 ⟨248, 30, 248, 31⟩)] ⟨248, 23, 248, 32⟩), (.name 63 ⟨248, 34, 248, 39⟩), (.bin .add (.name 102 ⟨248, 41, 248, 46⟩) (.name 60 ⟨248, 49, 248, 51⟩) ⟨248, 41, 248, 51⟩)] ⟨248, 13, 248, 52⟩) (.sub (.name 63 ⟨248, 55, 248, 60⟩) (.name 60 ⟨248, 61, 248, 63⟩) ⟨248, 55, 248, 64⟩) ⟨248, 13, 248, 64⟩) (.name 81 ⟨248, 68, 248, 69⟩) ⟨248, 12, 248, 69⟩) (.one 60 ⟨248, 74, 248, 76⟩) .range ⟨248, 80, 248, 85⟩ [(.int 3 ⟨248, 86, 248, 87⟩)] ⟨248, 80, 248, 88⟩ [(9, .local), (60, .local), (16, .globalImplicit), (57, .free), (102, .free), (58, .free), (63, .free), (81, .free)] [57, 102, 58, 63, 81] ⟨248, 11, 248, 89⟩) (.lst [(.int 0 ⟨248, 94, 248, 95⟩), (.int 0 ⟨248, 97, 248, 98⟩), (.int 0 ⟨248, 100, 248, 101⟩)] ⟨248, 93, 248, 102⟩) ⟨248, 11, 248, 102⟩) ⟨248, 4, 248, 102⟩]
noncomputable def s_law : List (Nat × NameKind) := [(103, .local), (100, .local), (57, .local), (58, .local), (81, .local), (54, .local), (61, .local), (63, .local), (104, .local), (105, .local), (106, .local), (107, .local), (108, .local), (109, .local), (50, .globalImplicit), (51, .globalImplicit), (13, .globalImplicit), (16, .globalImplicit), (52, .globalImplicit)]
noncomputable def p_law : List Nat := [103]
noncomputable def b_law0 : List St := [
  .asg1 (.name 100 true ⟨250, 4, 250, 8⟩) (.lst [(.comp (.bi .int ⟨250, 13, 250, 16⟩ [(.name 110 ⟨250, 17, 250, 21⟩)] ⟨250, 13, 250, 22⟩) (.one 110 ⟨250, 27, 250, 31⟩) .list ⟨0, 0, 0, 0⟩ [(.slTo (.name 103 ⟨250, 35, 250, 41⟩) (.int 4 ⟨250, 43, 250, 44⟩) ⟨250, 42, 250, 44⟩ ⟨250, 35, 250, 45⟩)] ⟨0, 0, 0, 0⟩ [(9, .local), (110, .local), (8, .globalImplicit)] [] ⟨250, 12, 250, 46⟩), (.int 0 ⟨250, 48, 250, 49⟩)] ⟨250, 11, 250, 50⟩) ⟨250, 4, 250, 50⟩,
  .asgD [(.name 57 false ⟨251, 4, 251, 5⟩), (.name 58 false ⟨251, 7, 251, 8⟩)] 0 ⟨251, 4, 251, 8⟩ [(.bin .sub (.call 50 true ⟨251, 12, 251, 21⟩ [(.name 100 ⟨251, 22, 251, 26⟩), (.int 5 ⟨251, 28, 251, 29⟩)] ⟨251, 12, 251, 30⟩) (.int 2 ⟨251, 33, 251, 34⟩) ⟨251, 12, 251, 34⟩), (.bin .sub (.call 50 true ⟨251, 36, 251, 45⟩ [(.name 100 ⟨251, 46, 251, 50⟩), (.int 5 ⟨251, 52, 251, 53⟩)] ⟨251, 36, 251, 54⟩) (.int 2 ⟨251, 57, 251, 58⟩) ⟨251, 36, 251, 58⟩)] 0 ⟨251, 11, 251, 59⟩ ⟨251, 4, 251, 59⟩,
  .asgD [(.name 81 false ⟨252, 4, 252, 5⟩), (.name 54 false ⟨252, 7, 252, 8⟩)] 0 ⟨252, 4, 252, 8⟩ [(.sub (.tup [(.int 3 ⟨252, 13, 252, 14⟩), (.int 5 ⟨252, 16, 252, 17⟩), (.int 7 ⟨252, 19, 252, 20⟩), (.int 11 ⟨252, 22, 252, 24⟩)] 0 ⟨252, 12, 252, 25⟩) (.call 50 true ⟨252, 26, 252, 35⟩ [(.name 100 ⟨252, 36, 252, 40⟩), (.int 4 ⟨252, 42, 252, 43⟩)] ⟨252, 26, 252, 44⟩) ⟨252, 12, 252, 45⟩), (.bin .add (.int 1 ⟨252, 47, 252, 48⟩) (.call 50 true ⟨252, 51, 252, 60⟩ [(.name 100 ⟨252, 61, 252, 65⟩), (.int 9 ⟨252, 67, 252, 68⟩)] ⟨252, 51, 252, 69⟩) ⟨252, 47, 252, 69⟩)] 0 ⟨252, 11, 252, 70⟩ ⟨252, 4, 252, 70⟩]
noncomputable def b_law : List St := [
  .asgD [(.name 61 false ⟨253, 4, 253, 9⟩), (.name 63 false ⟨253, 11, 253, 16⟩)] 0 ⟨253, 4, 253, 16⟩ [(.lst [(.name 57 ⟨253, 21, 253, 22⟩), (.name 58 ⟨253, 24, 253, 25⟩), (.int 1 ⟨253, 27, 253, 28⟩)] ⟨253, 20, 253, 29⟩), (.lst [(.int 3 ⟨253, 32, 253, 33⟩), (.name 57 ⟨253, 35, 253, 36⟩), (.bin .add (.bin .mul (.name 57 ⟨253, 38, 253, 39⟩) (.name 57 ⟨253, 42, 253, 43⟩) ⟨253, 38, 253, 43⟩) (.bin .mul (.int 2 ⟨253, 46, 253, 47⟩) (.name 58 ⟨253, 50, 253, 51⟩) ⟨253, 46, 253, 51⟩) ⟨253, 38, 253, 51⟩)] ⟨253, 31, 253, 52⟩)] 0 ⟨253, 19, 253, 53⟩ ⟨253, 4, 253, 53⟩,
  .asgD [(.name 104 false ⟨254, 4, 254, 10⟩), (.name 105 false ⟨254, 12, 254, 18⟩)] 0 ⟨254, 4, 254, 18⟩ [(.lst [(.bin .sub (.int 0 ⟨254, 23, 254, 24⟩) (.name 58 ⟨254, 27, 254, 28⟩) ⟨254, 23, 254, 28⟩), (.bin .sub (.int 0 ⟨254, 30, 254, 31⟩) (.name 57 ⟨254, 34, 254, 35⟩) ⟨254, 30, 254, 35⟩), (.int 1 ⟨254, 37, 254, 38⟩)] ⟨254, 22, 254, 39⟩), (.lst [(.int 3 ⟨254, 42, 254, 43⟩), (.bin .sub (.int 0 ⟨254, 45, 254, 46⟩) (.name 58 ⟨254, 49, 254, 50⟩) ⟨254, 45, 254, 50⟩), (.bin .sub (.bin .mul (.name 58 ⟨254, 52, 254, 53⟩) (.name 58 ⟨254, 56, 254, 57⟩) ⟨254, 52, 254, 57⟩) (.bin .mul (.int 2 ⟨254, 60, 254, 61⟩) (.name 57 ⟨254, 64, 254, 65⟩) ⟨254, 60, 254, 65⟩) ⟨254, 52, 254, 65⟩)] ⟨254, 41, 254, 66⟩)] 0 ⟨254, 21, 254, 67⟩ ⟨254, 4, 254, 67⟩,
  .asgD [(.name 106 false ⟨255, 4, 255, 7⟩), (.name 107 false ⟨255, 9, 255, 13⟩)] 0 ⟨255, 4, 255, 13⟩ [(.call 51 false ⟨255, 17, 255, 25⟩ [(.name 61 ⟨255, 26, 255, 31⟩), (.name 63 ⟨255, 33, 255, 38⟩), (.int 28 ⟨255, 40, 255, 42⟩)] ⟨255, 17, 255, 43⟩), (.call 51 false ⟨255, 45, 255, 53⟩ [(.name 104 ⟨255, 54, 255, 60⟩), (.name 105 ⟨255, 62, 255, 68⟩), (.int 12 ⟨255, 70, 255, 72⟩)] ⟨255, 45, 255, 73⟩)] 0 ⟨255, 16, 255, 74⟩ ⟨255, 4, 255, 74⟩,
  .ifs (.bo false [(.cmp .ne (.call 13 false ⟨256, 7, 256, 21⟩ [(.name 61 ⟨256, 22, 256, 27⟩), (.name 63 ⟨256, 29, 256, 34⟩), (.int 28 ⟨256, 36, 256, 38⟩)] ⟨256, 7, 256, 39⟩) (.name 106 ⟨256, 43, 256, 46⟩) ⟨256, 7, 256, 46⟩), (.cmp .ne (.call 13 false ⟨256, 50, 256, 64⟩ [(.name 104 ⟨256, 65, 256, 71⟩), (.name 105 ⟨256, 73, 256, 79⟩), (.int 12 ⟨256, 81, 256, 83⟩)] ⟨256, 50, 256, 84⟩) (.name 107 ⟨256, 88, 256, 92⟩) ⟨256, 50, 256, 92⟩)] ⟨256, 7, 256, 92⟩) [.ret (.bool false ⟨257, 15, 257, 20⟩) ⟨257, 8, 257, 20⟩] [] ⟨256, 4, 257, 20⟩,
  .asgD [(.name 108 false ⟨258, 4, 258, 8⟩), (.name 109 false ⟨258, 10, 258, 15⟩)] 0 ⟨258, 4, 258, 15⟩ [(.call 16 false ⟨258, 19, 258, 28⟩ [(.name 61 ⟨258, 29, 258, 34⟩), (.name 63 ⟨258, 36, 258, 41⟩), (.name 54 ⟨258, 43, 258, 44⟩)] ⟨258, 19, 258, 45⟩), (.call 16 false ⟨258, 47, 258, 56⟩ [(.name 104 ⟨258, 57, 258, 63⟩), (.name 105 ⟨258, 65, 258, 71⟩), (.name 54 ⟨258, 73, 258, 74⟩)] ⟨258, 47, 258, 75⟩)] 0 ⟨258, 18, 258, 76⟩ ⟨258, 4, 258, 76⟩,
  .ifs (.bo false [(.cmp .ne (.tup [(.name 108 ⟨259, 8, 259, 12⟩), (.name 109 ⟨259, 14, 259, 19⟩)] 0 ⟨259, 7, 259, 20⟩) (.tup [(.sub (.name 106 ⟨259, 25, 259, 28⟩) (.name 54 ⟨259, 29, 259, 30⟩) ⟨259, 25, 259, 31⟩), (.sub (.name 107 ⟨259, 33, 259, 37⟩) (.name 54 ⟨259, 38, 259, 39⟩) ⟨259, 33, 259, 40⟩)] 0 ⟨259, 24, 259, 41⟩) ⟨259, 7, 259, 41⟩), (.cmp .ne (.call 16 false ⟨259, 45, 259, 54⟩ [(.name 61 ⟨259, 55, 259, 60⟩), (.name 63 ⟨259, 62, 259, 67⟩), (.bin .mul (.int 2 ⟨259, 69, 259, 70⟩) (.name 54 ⟨259, 73, 259, 74⟩) ⟨259, 69, 259, 74⟩)] ⟨259, 45, 259, 75⟩) (.bin .sub (.bin .mul (.name 108 ⟨259, 79, 259, 83⟩) (.name 108 ⟨259, 86, 259, 90⟩) ⟨259, 79, 259, 90⟩) (.bin .mul (.int 2 ⟨259, 93, 259, 94⟩) (.name 109 ⟨259, 97, 259, 102⟩) ⟨259, 93, 259, 102⟩) ⟨259, 79, 259, 102⟩) ⟨259, 45, 259, 102⟩)] ⟨259, 7, 259, 102⟩) [.ret (.bool false ⟨260, 15, 260, 20⟩) ⟨260, 8, 260, 20⟩] [] ⟨259, 4, 260, 20⟩,
  .ifs (.cmp .ne (.call 16 false ⟨261, 7, 261, 16⟩ [(.name 61 ⟨261, 17, 261, 22⟩), (.name 63 ⟨261, 24, 261, 29⟩), (.bin .mul (.int 3 ⟨261, 31, 261, 32⟩) (.name 54 ⟨261, 35, 261, 36⟩) ⟨261, 31, 261, 36⟩)] ⟨261, 7, 261, 37⟩) (.bin .add (.bin .sub (.bin .pow (.name 108 ⟨261, 41, 261, 45⟩) (.int 3 ⟨261, 49, 261, 50⟩) ⟨261, 41, 261, 50⟩) (.bin .mul (.bin .mul (.int 3 ⟨261, 53, 261, 54⟩) (.name 108 ⟨261, 57, 261, 61⟩) ⟨261, 53, 261, 61⟩) (.name 109 ⟨261, 64, 261, 69⟩) ⟨261, 53, 261, 69⟩) ⟨261, 41, 261, 69⟩) (.int 3 ⟨261, 72, 261, 73⟩) ⟨261, 41, 261, 73⟩) ⟨261, 7, 261, 73⟩) [.ret (.bool false ⟨262, 15, 262, 20⟩) ⟨262, 8, 262, 20⟩] [] ⟨261, 4, 262, 20⟩,
  .ifs (.bo false [(.cmp .ne (.bin .mod (.bin .sub (.call 16 false ⟨263, 8, 263, 17⟩ [(.name 61 ⟨263, 18, 263, 23⟩), (.name 63 ⟨263, 25, 263, 30⟩), (.name 81 ⟨263, 32, 263, 33⟩)] ⟨263, 8, 263, 34⟩) (.name 57 ⟨263, 37, 263, 38⟩) ⟨263, 8, 263, 38⟩) (.name 81 ⟨263, 42, 263, 43⟩) ⟨263, 7, 263, 43⟩) (.int 0 ⟨263, 47, 263, 48⟩) ⟨263, 7, 263, 48⟩), (.cmp .ne (.bin .mod (.bin .add (.call 16 false ⟨263, 53, 263, 62⟩ [(.name 104 ⟨263, 63, 263, 69⟩), (.name 105 ⟨263, 71, 263, 77⟩), (.name 81 ⟨263, 79, 263, 80⟩)] ⟨263, 53, 263, 81⟩) (.name 58 ⟨263, 84, 263, 85⟩) ⟨263, 53, 263, 85⟩) (.name 81 ⟨263, 89, 263, 90⟩) ⟨263, 52, 263, 90⟩) (.int 0 ⟨263, 94, 263, 95⟩) ⟨263, 52, 263, 95⟩)] ⟨263, 7, 263, 95⟩) [.ret (.bool false ⟨264, 15, 264, 20⟩) ⟨264, 8, 264, 20⟩] [] ⟨263, 4, 264, 20⟩,
  .ret (.call 52 false ⟨265, 11, 265, 27⟩ [(.name 57 ⟨265, 28, 265, 29⟩), (.name 58 ⟨265, 31, 265, 32⟩), (.name 81 ⟨265, 34, 265, 35⟩)] ⟨265, 11, 265, 36⟩) ⟨265, 4, 265, 36⟩]
end Mine
end
section
open PySem PySem.Calls
set_option maxRecDepth 4000
namespace Mine

abbrev NoE : Value → Shared → Prop := fun _ _ => False

/-- room for n calls one in another -/
structure Room (A : Around) (n : Nat) : Prop where
  handled : A.handled = .none
  depth : A.depth + n < recursionLimit
  units : A.units + 4 * n + 100 < cLine
theorem Room.deeper {A : Around} {n : Nat} (r : Room A (n + 1)) (env : Env) : Room (A.deeper env) n :=
  ⟨r.handled, by have := r.depth; show A.depth + 1 + n < _; omega, by have := r.units; show A.units + 3 + 4 * n + 100 < _; omega⟩
theorem Room.le {A : Around} {n m : Nat} (r : Room A n) (h : m ≤ n) : Room A m :=
  ⟨r.handled, by have := r.depth; omega, by have := r.units; omega⟩

noncomputable def biVal : Nat → Option Value
  | 0 => some (.builtin "len")
  | 1 => some (.type "list")
  | 2 => some (.type "range")
  | 3 => some (.type "enumerate")
  | 4 => some (.type "zip")
  | 5 => some (.builtin "sum")
  | 6 => some (.builtin "max")
  | 7 => some (.builtin "abs")
  | 8 => some (.type "int")
  | _ => .none

/-- what is fixed: the names, the module's names, the definitions -/
structure Fix where
  prog : Program
  w : World
  nm : Nat → Str
  mg : Str → Option Value
  mb : Str → Option Value
  ds : List DefRec
  inj : ∀ i j, nm i = nm j → i = j
  bi : ∀ i v, biVal i = some v → mg (nm i) = .none ∧ mb (nm i) = some v
  dbg : ∀ i, (nm i == ("__debug__" : Str)) = false
  cld : ∀ i, (nm i == ("__classdict__" : Str)) = false

noncomputable def FnAt (mg : Str → Option Value) (h : Heap) (d : DefRec) : Prop :=
  ∃ a o pm code doc, mg d.name = some (.ref a) ∧ h.get? a = some o ∧ o.data = .func (docDef d.name d.params d.body d.scope pm code doc) ∧ h.CodeRec code d.name
theorem FnAt.le {mg : Str → Option Value} {h h' : Heap} {d : DefRec} (f : FnAt mg h d) (l : Le h h') : FnAt mg h' d :=
  let ⟨a, o, pm, code, doc, h1, h2, h3, h4⟩ := f; ⟨a, o, pm, code, doc, h1, l _ _ h2, h3, h4.keeps l⟩

structure Base (X : Fix) (h : Heap) : Prop where
  g : h.Ns mainGlobals X.mg
  b : h.Ns builtinsNs X.mb
  nolimit : h.NoLimit
  fns : ∀ d ∈ X.ds, FnAt X.mg h d
theorem Base.le {X : Fix} {h h' : Heap} (b : Base X h) (l : Le h h') : Base X h' :=
  ⟨b.g.keeps l, b.b.keeps l, b.nolimit.keeps l, fun d hd => (b.fns d hd).le l⟩

/-- the kind of a name, by its number -/
noncomputable def lk : List (Nat × NameKind) → Nat → Option NameKind
  | [], _ => .none
  | p :: r, i => match Nat.beq p.1 i with
    | true => some p.2
    | false => lk r i
theorem lk_cons (p : Nat × NameKind) (r : List (Nat × NameKind)) (i : Nat) : lk (p :: r) i = if p.1 = i then some p.2 else lk r i := by
  show (match Nat.beq p.1 i with | true => some p.2 | false => lk r i) = _
  rw [beq_eq]
  by_cases h : p.1 = i <;> simp [h]
theorem lookup_un (X : Fix) : ∀ (l : List (Nat × NameKind)) (i : Nat), (unNames X.nm l).lookup (X.nm i) = lk l i
  | [], _ => rfl
  | p :: r, i => by
    rw [lk_cons]
    show List.lookup (X.nm i) ((X.nm p.1, p.2) :: unNames X.nm r) = _
    rw [List.lookup_cons, lookup_un X r i]
    by_cases h : p.1 = i
    · simp [h]
    · have : (X.nm i == X.nm p.1) = false := by
        cases q : (X.nm i == X.nm p.1) with
        | false => rfl
        | true => exact absurd (X.inj _ _ (eq_of_beq q)).symm h
      simp [this, h]

/-- an environment whose names are these -/
structure EnvN (X : Fix) (env : Env) (nms : List (Nat × NameKind)) : Prop where
  kind : env.scope.kind = .function
  names : env.scope.names = unNames X.nm nms
  globals : env.globals = mainGlobals
  builtins : env.builtins = builtinsNs
  cells : ∀ i, lk nms i = some .cell ∨ lk nms i = some .free → ∃ c, env.cells.lookup (X.nm i) = some c
theorem EnvN.kindOf {X : Fix} {env : Env} {nms : List (Nat × NameKind)} (N : EnvN X env nms) (i : Nat) : env.kindOf (X.nm i) = lk nms i := by
  unfold Env.kindOf
  rw [N.names, lookup_un]

/-- the name stands for the value -/
noncomputable def Sees (h : Heap) (env : Env) (x : Str) (v : Value) : Prop :=
  (env.kindOf x = some .local ∧ ∃ m, h.Ns env.locals m ∧ m x = some v) ∨
  ((env.kindOf x = some .cell ∨ env.kindOf x = some .free) ∧ ∃ c, env.cells.lookup x = some c ∧ h.IsCell c (some v))
theorem Sees.le {h h' : Heap} {env : Env} {x : Str} {v : Value} (S : Sees h env x v) (l : Le h h') : Sees h' env x v := by
  rcases S with ⟨a, m, b, c⟩ | ⟨a, c, b, d⟩
  · exact .inl ⟨a, m, b.keeps l, c⟩
  · exact .inr ⟨a, c, b, d.keeps l⟩

noncomputable def SlOK (ok : Addr → Prop) (env : Env) (h : Heap) (x : Str) : Sl → Prop
  | .sh V => ∃ v, Sees h env x v ∧ Rd ok h V v
  | .ow l => ∃ a vs, Sees h env x (.ref a) ∧ h.IsList a (List.toArray vs) ∧ RdL ok h l vs
noncomputable def EnvOK (X : Fix) (ok : Addr → Prop) (env : Env) (r : Rho) (h : Heap) : Prop := ∀ i sl, get r i = some sl → SlOK ok env h (X.nm i) sl
theorem SlOK.le {ok : Addr → Prop} {env : Env} {h h' : Heap} {x : Str} {sl : Sl} (S : SlOK ok env h x sl) (l : Le h h') : SlOK ok env h' x sl := by
  cases sl with
  | sh V => obtain ⟨v, a, b⟩ := S; exact ⟨v, a.le l, b.le l⟩
  | ow xs => obtain ⟨a, vs, b, c, d⟩ := S; exact ⟨a, vs, b.le l, isList_le l c, d.le l⟩
theorem EnvOK.le {X : Fix} {ok : Addr → Prop} {env : Env} {r : Rho} {h h' : Heap} (E : EnvOK X ok env r h) (l : Le h h') : EnvOK X ok env r h' := fun i sl e => (E i sl e).le l
theorem SlOK.frz {ok : Addr → Prop} {env : Env} {h : Heap} {x : Str} {sl : Sl} (S : SlOK ok env h x sl) : SlOK (fun _ => True) env h x sl.frz := by
  cases sl with
  | sh V => obtain ⟨v, a, b⟩ := S; exact ⟨v, a, b.wk fun _ _ => trivial⟩
  | ow xs =>
    obtain ⟨a, vs, b, c, d⟩ := S
    refine ⟨.ref a, b, ?_⟩
    rw [Rd]
    exact ⟨a, vs, rfl, trivial, c, d.wk fun _ _ => trivial⟩
theorem EnvOK.frz {X : Fix} {ok : Addr → Prop} {env : Env} {r : Rho} {h : Heap} (E : EnvOK X ok env r h) : EnvOK X (fun _ => True) env (frz r) h := fun i sl e => by
  rw [get_frz] at e
  cases q : get r i with
  | none => rw [q] at e; cases e
  | some s₀ => rw [q] at e; cases e; exact (E i s₀ q).frz

/-- a new list, reached from nowhere else -/
noncomputable def FreshRoot (h₀ : Heap) (ok : Addr → Prop) (h' : Heap) (xs : List V) (v : Value) : Prop :=
  ∃ a vs, v = .ref a ∧ h₀.get? a = .none ∧ h'.PlainList a (List.toArray vs) ∧ RdL (fun b => ok b ∧ b ≠ a) h' xs vs
noncomputable def Post (fr : Bool) (ok : Addr → Prop) (s : Shared) (x : V) (Q : Value → Shared → Prop) : Prop :=
  ∀ v h' tk, Le s.heap h' → Rd ok h' x v → (fr = true → ∀ xs, x = .list xs → FreshRoot s.heap ok h' xs v) → Q v { s with heap := h', toks := tk }
noncomputable def PostL (ok : Addr → Prop) (s : Shared) (xs : List V) (Q : List Value → Shared → Prop) : Prop :=
  ∀ vs h' tk, Le s.heap h' → RdL ok h' xs vs → Q vs { s with heap := h', toks := tk }
noncomputable def PostT (s : Shared) (b : Bool) (Q : Bool → Shared → Prop) : Prop := ∀ h' tk, Le s.heap h' → Q b { s with heap := h', toks := tk }

/-- a fresh root reads -/
theorem FreshRoot.rd {h₀ h' : Heap} {ok : Addr → Prop} {xs : List V} {v : Value} (f : FreshRoot h₀ ok h' xs v) (o : OkF ok h₀) : Rd ok h' (.list xs) v := by
  obtain ⟨a, vs, rfl, n, l, r⟩ := f
  rw [Rd]
  exact ⟨a, vs, rfl, o a n, l.isList, r.wk fun _ q => q.1⟩
/-- an end by a fresh list -/
theorem Post.fresh {fr : Bool} {ok : Addr → Prop} {s : Shared} {xs : List V} {Q : Value → Shared → Prop} (P : Post fr ok s (.list xs) Q) (o : OkF ok s.heap) {v : Value} {h' : Heap} {tk : Nat} (l : Le s.heap h') (f : FreshRoot s.heap ok h' xs v) :
    Q v { s with heap := h', toks := tk } := P v h' tk l (f.rd o) fun _ ys e => by cases e; exact f
theorem Post.int {fr : Bool} {ok : Addr → Prop} {s : Shared} {i : Int} {Q : Value → Shared → Prop} (P : Post fr ok s (.int i) Q) {h' : Heap} {t tk : Nat} (l : Le s.heap h') : Q (.int i t) { s with heap := h', toks := tk } :=
  P _ h' tk l (by rw [Rd]; exact ⟨t, rfl⟩) fun _ ys e => by cases e
theorem Post.bool {fr : Bool} {ok : Addr → Prop} {s : Shared} {b : Bool} {Q : Value → Shared → Prop} (P : Post fr ok s (.bool b) Q) {h' : Heap} {tk : Nat} (l : Le s.heap h') : Q (.bool b) { s with heap := h', toks := tk } :=
  P _ h' tk l (by rw [Rd]) fun _ ys e => by cases e
/-- one list pushed -/
theorem FreshRoot.push {h : Heap} {ok : Addr → Prop} {xs : List V} {vs : List Value} (r : RdL ok h xs vs) {o : Obj} {n : Nat} (ho : o = { cls := .type "list", data := .seq (List.toArray vs) n }) :
    FreshRoot h ok (h.push o) xs (.ref h.objs.size) := by
  subst ho
  refine ⟨h.objs.size, vs, rfl, size_none h, ⟨n, Heap.get?_push_size _ rfl⟩, ?_⟩
  refine r.mono fun a o' q e => ⟨⟨q, fun z => ?_⟩, fun _ => Heap.get?_push_of_some _ e⟩
  subst z
  rw [size_none] at e; cases e
theorem FreshRoot.later {h₀ h₁ h' : Heap} {ok : Addr → Prop} {xs : List V} {v : Value} (f : FreshRoot h₁ ok h' xs v) (l : Le h₀ h₁) : FreshRoot h₀ ok h' xs v := by
  obtain ⟨a, vs, rfl, n, r⟩ := f
  exact ⟨a, vs, rfl, none_of_le l n, r⟩

noncomputable def EvE (X : Fix) (D : Nat) (nms : List (Nat × NameKind)) (fr : Bool) (r : Rho) (e : Expr) (x : V) : Prop :=
  ∀ (env : Env) (A : Around) (s : Shared) (ok : Addr → Prop) (Q : Value → Shared → Prop), EnvN X env nms → Room A D → Base X s.heap → OkF ok s.heap → EnvOK X ok env r s.heap → Post fr ok s x Q →
    wpAny (model X.prog X.w) A (eval e env) Q NoE s
noncomputable def EvT (X : Fix) (D : Nat) (nms : List (Nat × NameKind)) (r : Rho) (e : Expr) (b : Bool) : Prop :=
  ∀ (env : Env) (A : Around) (s : Shared) (ok : Addr → Prop) (whole : Sem Value) (Q : Bool → Shared → Prop), EnvN X env nms → Room A D → Base X s.heap → OkF ok s.heap → EnvOK X ok env r s.heap → PostT s b Q →
    wpAny (model X.prog X.w) A (isTrue e env whole) Q NoE s
noncomputable def EvL (X : Fix) (D : Nat) (nms : List (Nat × NameKind)) (r : Rho) (es : List Expr) (xs : List V) : Prop :=
  ∀ (env : Env) (A : Around) (s : Shared) (ok : Addr → Prop) (pos : Pos) (Q : List Value → Shared → Prop), EnvN X env nms → Room A D → Base X s.heap → OkF ok s.heap → EnvOK X ok env r s.heap → PostL ok s xs Q →
    wpAny (model X.prog X.w) A (spliced (backTo pos (starEach es env))) Q NoE s
/-- a list that is read: its root may be an own one -/
noncomputable def EvC (X : Fix) (D : Nat) (nms : List (Nat × NameKind)) (r : Rho) (e : Expr) (x : V) : Prop :=
  ∀ (env : Env) (A : Around) (s : Shared) (ok : Addr → Prop) (Q : Value → Shared → Prop), EnvN X env nms → Room A D → Base X s.heap → OkF ok s.heap → EnvOK X ok env r s.heap →
    (∀ v h' tk, Le s.heap h' → (Rd ok h' x v ∨ ∃ xs a vs, x = .list xs ∧ v = .ref a ∧ h'.IsList a (List.toArray vs) ∧ RdL ok h' xs vs) → Q v { s with heap := h', toks := tk }) →
    wpAny (model X.prog X.w) A (eval e env) Q NoE s

section
variable {X : Fix} {D : Nat} {nms : List (Nat × NameKind)} {r : Rho}
theorem name_sees {env : Env} {A : Around} {s : Shared} {i : Nat} {v : Value} {p : Pos} {Q : Value → Shared → Prop} (N : EnvN X env nms) (S : Sees s.heap env (X.nm i) v) (h : Q v s) :
    wpAny (model X.prog X.w) A (eval (.Name (X.nm i) p) env) Q NoE s := by
  rcases S with ⟨a, m, b, c⟩ | ⟨a | a, c, b, d⟩
  · exact wpAny_Name (wpAny_loadName_local N.kind a b c h) (X.dbg i)
  · exact wpAny_Name (wpAny_loadName_cell N.kind a b d h) (X.dbg i)
  · exact wpAny_Name (wpAny_loadName_free N.kind a b d h (X.cld i)) (X.dbg i)
theorem name_global {env : Env} {A : Around} {s : Shared} {i : Nat} {v : Value} {p : Pos} {Q : Value → Shared → Prop} (N : EnvN X env nms) (B : Base X s.heap) (k : lk nms i = some .globalImplicit) (e : X.mg (X.nm i) = some v) (h : Q v s) :
    wpAny (model X.prog X.w) A (eval (.Name (X.nm i) p) env) Q NoE s :=
  Name_function_global N.kind ((N.kindOf i).trans k) (loadGlobal_global (by rw [N.globals]; exact B.g) e h) (X.dbg i)
theorem name_builtin {env : Env} {A : Around} {s : Shared} {i : Nat} {v : Value} {p : Pos} {Q : Value → Shared → Prop} (N : EnvN X env nms) (B : Base X s.heap) (k : lk nms i = some .globalImplicit) (e : biVal i = some v) (h : Q v s) :
    wpAny (model X.prog X.w) A (eval (.Name (X.nm i) p) env) Q NoE s :=
  Name_function_global N.kind ((N.kindOf i).trans k) (loadGlobal_builtin (by rw [N.globals]; exact B.g) (X.bi i v e).1 (by rw [N.builtins]; exact B.b) (X.bi i v e).2 h) (X.dbg i)

theorem ev_name {i : Nat} {p : Pos} {x : V} (e : get r i = some (.sh x)) : EvE X D nms false r (.Name (X.nm i) p) x := fun env A s ok Q N R B O E P => by
  obtain ⟨v, S, d⟩ := E i _ e
  exact name_sees N S (P v s.heap s.toks (.refl _) d fun z => by cases z)
theorem ev_int {i : Int} {p : Pos} {k : Nat} {fr : Bool} : EvE X D nms fr r (.Constant (.int i) k p) (.int i) := fun env A s ok Q N R B O E P =>
  wpAny_Constant_int (P.int (h' := s.heap) (.refl _))
theorem ev_bool {b : Bool} {p : Pos} {k : Nat} {fr : Bool} : EvE X D nms fr r (.Constant (.bool b) k p) (.bool b) := fun env A s ok Q N R B O E P => by
  rw [eval_Constant]
  exact wpAny_pure (P.bool (h' := s.heap) (tk := s.toks) (.refl _))
theorem ev_none {p : Pos} {k : Nat} {fr : Bool} : EvE X D nms fr r (.Constant .none k p) .none := fun env A s ok Q N R B O E P => by
  rw [eval_Constant]
  exact wpAny_pure (P _ s.heap s.toks (.refl _) (by rw [Rd]) fun _ ys e => by cases e)
end
end Mine
end
section
open PySem PySem.Calls PyProof.Rows
set_option maxRecDepth 4000
namespace Mine

section
variable {prog : Program} {w : World} {A : Around} {E : Value → Shared → Prop} {s : Shared}

theorem w_addL {l b : Addr} {vs ws : List Value} {Q : Value → Shared → Prop} (hl : s.heap.IsList l vs.toArray) (hb : s.heap.IsList b ws.toArray)
    (h : Q (.ref s.heap.objs.size) { s with heap := s.heap.push { cls := .type "list", data := .seq (vs ++ ws).toArray } }) (hsz : vs.length + ws.length ≤ sizeLine) :
    wpAny (model prog w) A (binaryOp .Add (.ref l) (.ref b)) Q E s := by
  obtain ⟨⟨c1, d1, e1, s1⟩, ho, hc, n, hd⟩ := hl
  obtain ⟨⟨c2, d2, e2, s2⟩, ho2, hc2, n2, hd2⟩ := hb
  dsimp only at hc hd hc2 hd2
  subst hc hd hc2 hd2
  refine concat_meets ⟨_, ho, rfl⟩ ⟨_, ho2, rfl⟩ noFill_list_add seq_list_add PySem.F.slot_list_add PySem.F.entry_list_add (PySem.F.args_list_add_2 _ _)
    (list_addW l b vs.toArray ws.toArray n n2 d1 d2 s1 s2 (by simpa using hsz)) ⟨ho, ho2, ?_⟩
  simpa using h

theorem w_mulL {l : Addr} {vs : List Value} {x : Int} {u : Tok} {Q : Value → Shared → Prop} (hl : s.heap.IsList l vs.toArray)
    (hx : x.natAbs ≤ 4096) (hsz : vs.length * x.toNat ≤ 4096)
    (h : Q (.ref s.heap.objs.size) { s with heap := s.heap.push { cls := .type "list", data := .seq (List.replicate x.toNat vs).flatten.toArray } }) :
    wpAny (model prog w) A (binaryOp .Mult (.ref l) (.int x u)) Q E s := by
  obtain ⟨⟨c1, d1, e1, s1⟩, ho, hc, n, hd⟩ := hl
  dsimp only at hc hd
  subst hc hd
  have hsz' : vs.toArray.size * x.toNat ≤ 4096 := by simpa using hsz
  refine wpAny_binaryOp_repeat_ref (T := "list") (U := "int") (by decide) ⟨_, ho, rfl⟩ (fun s' => typeIs_int s' x u) noFill_list_mul PySem.F.fills_int_mul PySem.F.slot_int_rmul repeat_list PySem.F.slot_int_index.lookup
    (call_meets PySem.F.slot_int_rmul (typeIs_int s x u) PySem.F.entry_int_rmul (PySem.F.args_int_rmul_2 _ _) (lm_int_rmul_list_any x u l vs.toArray n d1 s1)
      ⟨ho, rfl, ⟨_, ho, rfl⟩, call_meets PySem.F.slot_list_mul ⟨_, ho, rfl⟩ PySem.F.entry_list_mul (PySem.F.args_list_mul_2 _ _)
        (lm_list_mul_any l vs.toArray n d1 s1 x u (by simp [Builtin.List.listFitsIndex]; omega) (by omega) (by simp [Builtin.List.listTooLong, sizeLine]; omega))
        ⟨ho, ?_⟩⟩)
  rw [listMul_foldl_if]
  simpa using h
end

theorem few_le {n : Nat} (h : few n = true) : n ≤ 4096 := Nat.le_of_ble_eq_true h
theorem few_size {n : Nat} (h : few n = true) : n ≤ sizeLine := Nat.le_trans (few_le h) (by rw [sizeLine_eq]; decide)
theorem small_log {a : Int} (h : small a = true) : a.natAbs.log2 ≤ 8000 := Nat.le_of_ble_eq_true h
theorem small_bits {a : Int} (h : small a = true) : Builtin.Int.intBits a ≤ 8001 := by
  have := small_log h
  unfold Builtin.Int.intBits
  split <;> omega

theorem rep_eq (l : List V) : ∀ n, rep l n = (List.replicate n l).flatten
  | 0 => rfl
  | n + 1 => by rw [rep, rep_eq l n, List.replicate_succ, List.flatten_cons]
theorem RdL.rep {ok : Addr → Prop} {h : Heap} {xs : List V} {vs : List Value} (r : RdL ok h xs vs) : ∀ n : Nat, RdL ok h (Mine.rep xs n) (List.replicate n vs).flatten
  | 0 => .nil
  | n + 1 => by rw [Mine.rep, List.replicate_succ, List.flatten_cons]; exact r.append (r.rep n)

theorem rd_list {ok : Addr → Prop} {h : Heap} {xs : List V} {v : Value} (r : Rd ok h (.list xs) v) : ∃ a vs, v = .ref a ∧ ok a ∧ h.IsList a (List.toArray vs) ∧ RdL ok h xs vs := by rw [Rd] at r; exact r
theorem rd_tup {ok : Addr → Prop} {h : Heap} {xs : List V} {v : Value} (r : Rd ok h (.tup xs) v) : ∃ a vs, v = .ref a ∧ ok a ∧ h.IsTuple a (List.toArray vs) ∧ RdL ok h xs vs := by rw [Rd] at r; exact r
theorem rd_int {ok : Addr → Prop} {h : Heap} {i : Int} {v : Value} (r : Rd ok h (.int i) v) : ∃ t, v = .int i t := by rw [Rd] at r; exact r
theorem rd_bool {ok : Addr → Prop} {h : Heap} {b : Bool} {v : Value} (r : Rd ok h (.bool b) v) : v = .bool b := by rw [Rd] at r; exact r
theorem rd_none {ok : Addr → Prop} {h : Heap} {v : Value} (r : Rd ok h .none v) : v = .none := by rw [Rd] at r; exact r

/-- an end by a list pushed now -/
theorem Post.pushL {fr : Bool} {ok : Addr → Prop} {s : Shared} {xs : List V} {vs : List Value} {Q : Value → Shared → Prop} (P : Post fr ok s (.list xs) Q) (o : OkF ok s.heap) (r : RdL ok s.heap xs vs) :
    Q (.ref s.heap.objs.size) { s with heap := s.heap.push { cls := .type "list", data := .seq vs.toArray } } :=
  P.fresh o (tk := s.toks) (Le.push _ _) (FreshRoot.push r rfl)

section
variable {X : Fix} {A : Around} {s : Shared} {ok : Addr → Prop}

theorem op_bop {o : Bop} {x y z : V} {v u : Value} {fr : Bool} {Q : Value → Shared → Prop} (e : bop o x y = some z) (rx : Rd ok s.heap x v) (ry : Rd ok s.heap y u) (O : OkF ok s.heap) (P : Post fr ok s z Q) :
    wpAny (model X.prog X.w) A (binaryOp o.un v u) Q NoE s := by
  unfold bop at e
  split at e
  · obtain ⟨t, rfl⟩ := rd_int rx
    obtain ⟨t', rfl⟩ := rd_int ry
    cases e
    exact wpAny_add_int (P.int (h' := s.heap) (.refl _))
  · split at e
    · rename_i hf
      cases e
      obtain ⟨a, vs, rfl, _, la, ra⟩ := rd_list rx
      obtain ⟨b, ws, rfl, _, lb, rb⟩ := rd_list ry
      exact w_addL la lb (P.pushL O (ra.append rb)) (by rw [ra.length, rb.length]; exact few_size hf)
    · cases e
  · obtain ⟨t, rfl⟩ := rd_int rx
    obtain ⟨t', rfl⟩ := rd_int ry
    cases e
    exact sub_int (P.int (h' := s.heap) (.refl _))
  · split at e
    · rename_i hs
      obtain ⟨t, rfl⟩ := rd_int rx
      obtain ⟨t', rfl⟩ := rd_int ry
      cases e
      rw [Bool.and_eq_true] at hs
      have h1 := small_bits hs.1
      have h2 := small_bits hs.2
      refine mul_int (P.int (h' := s.heap) (.refl _)) ?_
      unfold IntMulOk Builtin.Int.intTooBig bitsLine
      rw [Bool.and_eq_true, decide_eq_true_eq]
      intro z
      have := z.2
      omega
    · cases e
  · split at e
    · rename_i hf
      rw [Bool.and_eq_true] at hf
      cases e
      obtain ⟨a, vs, rfl, _, la, ra⟩ := rd_list rx
      obtain ⟨t', rfl⟩ := rd_int ry
      refine w_mulL la (few_le hf.2) (by rw [ra.length]; exact few_le hf.1) (P.pushL O (ra.rep _))
    · cases e
  · split at e
    · cases e
    · rename_i hf
      rw [Bool.or_eq_false_iff] at hf
      obtain ⟨t, rfl⟩ := rd_int rx
      obtain ⟨t', rfl⟩ := rd_int ry
      cases e
      have hs := hf.2
      rw [Bool.not_eq_false', Bool.and_eq_true] at hs
      refine floordiv_int (fun z => ?_) (P.int (h' := s.heap) (.refl _)) (.inl (PyProof.noPylong_of_log2 (by have := small_log hs.2; omega)))
      rw [(W.Z.eqB_iff _ _).mpr z] at hf; cases hf.1
  · split at e
    · cases e
    · rename_i hf
      obtain ⟨t, rfl⟩ := rd_int rx
      obtain ⟨t', rfl⟩ := rd_int ry
      cases e
      refine mod_int (fun z => ?_) (P.int (h' := s.heap) (.refl _))
      rw [(W.Z.eqB_iff _ _).mpr z] at hf; cases hf
  · rename_i a b
    split at e
    · rename_i hf
      rw [Bool.and_eq_true, Bool.and_eq_true] at hf
      obtain ⟨t, rfl⟩ := rd_int rx
      obtain ⟨t', rfl⟩ := rd_int ry
      cases e
      refine pow_int ((W.Z.leB_iff _ _).mp hf.1.1) ?_ (P.int (h' := s.heap) (.refl _))
      have h1 := small_bits hf.1.2
      have h2 := few_le hf.2
      have h0 := (W.Z.leB_iff _ _).mp hf.1.1
      have hb : b = (b.toNat : Int) := by omega
      rw [hb]
      have : Builtin.Int.intBits a * b.toNat ≤ 8001 * 4096 := Nat.mul_le_mul h1 h2
      have e2 : ((Builtin.Int.intBits a : Int) * (b.toNat : Int)) = ((Builtin.Int.intBits a * b.toNat : Nat) : Int) := by simp
      rw [e2]
      omega
    · cases e
  · cases e
end
end Mine
end
section
open PySem PySem.Calls PyProof.Rows
set_option maxRecDepth 4000
namespace Mine

theorem ints_are {ok : Addr → Prop} {h : Heap} : ∀ {xs : List V} {ns : List Int} {vs : List Value}, intsOf xs = some ns → RdL ok h xs vs → IntsAre vs ns
  | [], ns, vs, e, r => by cases e; rw [r.unnil]; exact .nil
  | .int i :: xs, ns, vs, e, r => by
    unfold intsOf at e
    split at e
    · rename_i l q
      cases e
      obtain ⟨v, t, rfl, a, b⟩ := r.uncons
      obtain ⟨tk, rfl⟩ := rd_int a
      exact .cons _ _ (ints_are q b)
    · cases e
  | .bool _ :: _, _, _, e, _ => by cases e
  | .none :: _, _, _, e, _ => by cases e
  | .list _ :: _, _, _, e, _ => by cases e
  | .tup _ :: _, _, _, e, _ => by cases e
theorem reads_ints {h : Heap} : ∀ {vs : List Value} {ns : List Int}, IntsAre vs ns → ReadsAll h vs (ns.map PyData.int) []
  | _, _, .nil => .nil
  | _, _, .cons n t r => by
    have := ReadsAll.cons (Reads.int (h := h) n t) (reads_ints r)
    simpa using this
theorem eqL_iff : ∀ (l r : List Int), PyData.eqvAll (l.map PyData.int) (r.map PyData.int) = eqL l r
  | [], [] => rfl
  | [], _ :: _ => rfl
  | _ :: _, [] => rfl
  | a :: l, b :: r => by
    show (PyData.eqv (.int a) (.int b) && PyData.eqvAll (l.map PyData.int) (r.map PyData.int)) = (match W.Z.eqB a b with | true => eqL l r | false => false)
    rw [eqL_iff l r]
    show ((a == b) && _) = _
    cases q : W.Z.eqB a b with
    | true => rw [(W.Z.eqB_iff a b).mp q]; simp
    | false =>
      have : (a == b) = false := by
        cases z : (a == b) with
        | false => rfl
        | true => rw [(W.Z.eqB_iff a b).mpr (eq_of_beq z)] at q; cases q
      simp [this]
theorem lay_ints : ∀ ns : List Int, PyData.canLayAll0 (ns.map PyData.int) = true ∧ PyData.depthAll (ns.map PyData.int) ≤ 1
  | [] => by simp [PyData.canLayAll0, PyData.depthAll]
  | n :: ns => by
    have := lay_ints ns
    simp only [List.map_cons, PyData.canLayAll0, PyData.depthAll, PyData.canLay0, PyData.depth, this.1, Bool.and_self, true_and]
    have := this.2
    omega
theorem shaped_ints (ns : List Int) : SeqAt.shaped (.list (ns.map PyData.int)) = true := by
  have h := lay_ints ns
  have h2 := h.2
  refine Bool.and_eq_true_iff.mpr ⟨?_, decide_eq_true ?_⟩
  · simp only [PyData.canLay0, h.1]
  · simp only [PyData.depth]
    omega
theorem shaped_intsT (ns : List Int) : SeqAt.shaped (.tuple (ns.map PyData.int)) = true := by
  have h := lay_ints ns
  have h2 := h.2
  refine Bool.and_eq_true_iff.mpr ⟨?_, decide_eq_true ?_⟩
  · simp only [PyData.canLay0, h.1]
  · simp only [PyData.depth]
    omega
theorem elemL_iff (x : Int) : ∀ l : List Int, elemL x l = l.any (· == x)
  | [] => rfl
  | a :: l => by
    rw [List.any_cons, ← elemL_iff x l]
    show (match W.Z.eqB a x with | true => true | false => elemL x l) = _
    cases q : W.Z.eqB a x with
    | true => rw [(W.Z.eqB_iff a x).mp q]; simp
    | false =>
      have : (a == x) = false := by
        cases z : (a == x) with
        | false => rfl
        | true => rw [(W.Z.eqB_iff a x).mpr (eq_of_beq z)] at q; cases q
      simp [this]
theorem eqB_beq (a b : Int) : W.Z.eqB a b = (a == b) := by
  cases q : W.Z.eqB a b with
  | true => rw [(W.Z.eqB_iff a b).mp q]; simp
  | false =>
    cases z : (a == b) with
    | false => rfl
    | true => rw [(W.Z.eqB_iff a b).mpr (eq_of_beq z)] at q; cases q
theorem ltB_dec (a b : Int) : W.Z.ltB a b = decide (a < b) := by
  cases q : W.Z.ltB a b with
  | true => exact (decide_eq_true ((W.Z.ltB_iff a b).mp q)).symm
  | false => exact (decide_eq_false fun z => by rw [(W.Z.ltB_iff a b).mpr z] at q; cases q).symm
theorem leB_dec (a b : Int) : W.Z.leB a b = decide (a ≤ b) := by
  cases q : W.Z.leB a b with
  | true => exact (decide_eq_true ((W.Z.leB_iff a b).mp q)).symm
  | false => exact (decide_eq_false fun z => by rw [(W.Z.leB_iff a b).mpr z] at q; cases q).symm
theorem bool_eqV (a b : Bool) : eqBool a b = (a == b) := by cases a <;> cases b <;> rfl

section
variable {X : Fix} {A : Around} {s : Shared} {ok : Addr → Prop}

theorem op_eq {x y : V} {b : Bool} {v u : Value} {Q : Value → Shared → Prop} (e : eqV x y = some b) (rx : Rd ok s.heap x v) (ry : Rd ok s.heap y u) (R : Room A 0) :
    (Q (.bool b) s → wpAny (model X.prog X.w) A (compareOp .Eq v u) Q NoE s) ∧ (Q (.bool (!b)) s → wpAny (model X.prog X.w) A (compareOp .NotEq v u) Q NoE s) := by
  have hu : A.units + 64 < cLine := by have := R.units; omega
  unfold eqV at e
  split at e
  · obtain ⟨t, rfl⟩ := rd_int rx
    obtain ⟨t', rfl⟩ := rd_int ry
    cases e
    rw [eqB_beq]
    exact ⟨fun h => eq_int h, fun h => ne_int h⟩
  · cases rd_bool rx
    cases rd_bool ry
    cases e
    rw [bool_eqV]
    refine ⟨fun h => eq_bool h, fun h => ?_⟩
    exact ne_bool h
  · split at e
    · rename_i l ql
      split at e
      · rename_i m qm
        cases e
        obtain ⟨a, vs, rfl, _, ⟨oa, ha, hca, na, hda⟩, ra⟩ := rd_list rx
        obtain ⟨c, ws, rfl, _, ⟨oc, hc, hcc, nc, hdc⟩, rc⟩ := rd_list ry
        have z : PyData.eqv (.list (l.map PyData.int)) (.list (m.map PyData.int)) = eqL l m := eqL_iff l m
        have R1 := reads_list_at ha hca hda (by simpa using reads_ints (h := s.heap) (ints_are ql ra))
        have R2 := reads_list_at hc hcc hdc (by simpa using reads_ints (h := s.heap) (ints_are qm rc))
        exact ⟨fun h => eq_dataH R1 R2 (shaped_ints l) (shaped_ints m) hu (by rw [z]; exact h), fun h => ne_dataH R1 R2 (shaped_ints l) (shaped_ints m) hu (by rw [z]; exact h)⟩
      · cases e
    · cases e
  · split at e
    · rename_i l ql
      split at e
      · rename_i m qm
        cases e
        obtain ⟨a, vs, rfl, _, ⟨oa, ha, hca, na, hda⟩, ra⟩ := rd_tup rx
        obtain ⟨c, ws, rfl, _, ⟨oc, hc, hcc, nc, hdc⟩, rc⟩ := rd_tup ry
        have z : PyData.eqv (.tuple (l.map PyData.int)) (.tuple (m.map PyData.int)) = eqL l m := eqL_iff l m
        have R1 := reads_tuple_at ha hca hda (by simpa using reads_ints (h := s.heap) (ints_are ql ra))
        have R2 := reads_tuple_at hc hcc hdc (by simpa using reads_ints (h := s.heap) (ints_are qm rc))
        exact ⟨fun h => eq_dataH R1 R2 (shaped_intsT l) (shaped_intsT m) hu (by rw [z]; exact h), fun h => ne_dataH R1 R2 (shaped_intsT l) (shaped_intsT m) hu (by rw [z]; exact h)⟩
      · cases e
    · cases e
  · cases e
theorem op_in {x y : V} {b : Bool} {v u : Value} {Q : Value → Shared → Prop} (e : inV x y = some b) (rx : Rd ok s.heap x v) (ry : Rd ok s.heap y u) :
    (Q (.bool b) s → wpAny (model X.prog X.w) A (compareOp .In v u) Q NoE s) ∧ (Q (.bool (!b)) s → wpAny (model X.prog X.w) A (compareOp .NotIn v u) Q NoE s) := by
  unfold inV at e
  split at e
  · split at e
    · rename_i l ql
      cases e
      obtain ⟨t, rfl⟩ := rd_int rx
      obtain ⟨a, vs, rfl, _, la, ra⟩ := rd_list ry
      rw [elemL_iff]
      exact ⟨fun h => in_list_ints la (ints_are ql ra) h, fun h => notin_list_ints la (ints_are ql ra) h⟩
    · cases e
  · split at e
    · rename_i l ql
      cases e
      obtain ⟨t, rfl⟩ := rd_int rx
      obtain ⟨a, vs, rfl, _, la, ra⟩ := rd_tup ry
      rw [elemL_iff]
      exact ⟨fun h => in_tuple_ints la (ints_are ql ra) h, fun h => notin_tuple_ints la (ints_are ql ra) h⟩
    · cases e
  · cases e
theorem op_cop {o : Cop} {x y : V} {b : Bool} {v u : Value} {Q : Value → Shared → Prop} (e : cop o x y = some b) (rx : Rd ok s.heap x v) (ry : Rd ok s.heap y u) (R : Room A 0) (h : Q (.bool b) s) :
    wpAny (model X.prog X.w) A (compareOp o.un v u) Q NoE s := by
  unfold cop at e
  split at e
  · obtain ⟨t, rfl⟩ := rd_int rx
    obtain ⟨t', rfl⟩ := rd_int ry
    cases e
    rw [ltB_dec] at h
    exact lt_int h
  · obtain ⟨t, rfl⟩ := rd_int rx
    obtain ⟨t', rfl⟩ := rd_int ry
    cases e
    rw [leB_dec] at h
    exact P.le_int h
  · obtain ⟨t, rfl⟩ := rd_int rx
    obtain ⟨t', rfl⟩ := rd_int ry
    cases e
    rw [ltB_dec] at h
    exact P.gt_int h
  · obtain ⟨t, rfl⟩ := rd_int rx
    obtain ⟨t', rfl⟩ := rd_int ry
    cases e
    rw [leB_dec] at h
    exact P.ge_int h
  · exact (op_eq e rx ry R).1 h
  · split at e
    · rename_i c q
      cases e
      exact (op_eq q rx ry R).2 h
    · cases e
  · exact (op_in e rx ry).1 h
  · split at e
    · rename_i c q
      cases e
      exact (op_in q rx ry).2 h
    · cases e
  · cases e
end
end Mine
end
section
open PySem PySem.Calls PyProof.Rows
set_option maxRecDepth 4000
namespace Mine

theorem idx_at {k : Int} {n j : Nat} (e : idx k n = some j) : -(2 ^ 63) ≤ k ∧ k < 2 ^ 63 ∧ j < n ∧ ((0 ≤ k ∧ k.toNat = j) ∨ (k < 0 ∧ -(n : Int) ≤ k ∧ (k + n).toNat = j)) := by
  unfold idx at e
  split at e
  · split at e
    · rename_i q
      rw [Bool.and_eq_true] at q
      cases e
      have h1 : j < n := W.Z.blt_iff.mp q.1
      have h2 := few_le q.2
      refine ⟨?_, ?_, h1, .inl ⟨Int.natCast_nonneg j, rfl⟩⟩
      · show -(2 ^ 63) ≤ (j : Int); omega
      · show (j : Int) < _; omega
    · cases e
  · rename_i i
    split at e
    · rename_i q
      rw [Bool.and_eq_true] at q
      cases e
      have h1 : i < n := W.Z.blt_iff.mp q.1
      have h2 := few_le q.2
      exact ⟨by omega, by omega, by omega, .inr ⟨by omega, by omega, by omega⟩⟩
    · cases e
theorem idx_seq {k : Int} {n j : Nat} (e : idx k n = some j) : seqIndex? k n = some j := by
  obtain ⟨_, _, h, ⟨a, b⟩ | ⟨a, b, c⟩⟩ := idx_at e
  · rw [seqIndex_of a (by omega), b]
  · rw [seqIndex_neg a b, c]
theorem nth_eq : ∀ (l : List V) (n : Nat), nth l n = l[n]?
  | [], _ => by simp [nth]
  | _ :: _, 0 => rfl
  | _ :: r, n + 1 => by rw [nth, nth_eq r n]; simp

theorem clip_eq (k : Int) (n : Nat) : clip k n = clipAt n k := by
  unfold clip
  split
  · rename_i i
    show _ = clipAt n (i : Int)
    rw [clipAt_nat]
    cases h : Nat.ble i n with
    | true => exact (Nat.min_eq_left (Nat.le_of_ble_eq_true h)).symm
    | false =>
      have : ¬ i ≤ n := fun z => by rw [Nat.ble_eq_true_of_le z] at h; cases h
      show n = min i n
      omega
  · rename_i i
    rw [show Int.negSucc i = -((i + 1 : Nat) : Int) from rfl, clipAt_neg n (i + 1) (by omega)]

theorem pick_to (vs : List Value) (k : Int) : slicePick vs.toArray .none (some k) .none = (vs.take (clip k vs.length)).toArray := by
  rw [slicePick_plain, clip_eq]
  simp
theorem pick_from (vs : List Value) (k : Int) : slicePick vs.toArray (some k) .none .none = (vs.drop (clip k vs.length)).toArray := by
  rw [slicePick_plain, clip_eq]
  simp only [Option.elim, List.size_toArray]
  rw [List.take_of_length_le (by simp)]

theorem not_set (nm : Nat → Str) (op : CmpOp) (e : Ex) : behindInMarks op (e.un nm) = false := by
  cases e <;> first | rfl | (simp only [Ex.un]; rfl)
theorem star_cons (nm : Nat → Str) (e : Ex) (t : List Expr) (env : Env) : starEach (e.un nm :: t) env = (false, eval (e.un nm) env) :: starEach t env := by
  cases e <;> rfl
theorem sub_plain (nm : Nat → Str) (e : Ex) (o i : Value) : subscripted (e.un nm) false o i = operate [o, i] (getItem o i) := by
  cases e <;> rfl

section
variable {X : Fix} {D : Nat} {nms : List (Nat × NameKind)} {r : Rho}

theorem wk_mono {α : Type} {M : Model} {A : Around} {t : Sem α} {s : Shared} {E : Value → Shared → Prop} {Q Q' : α → Shared → Prop} (h : wpAny M A t Q NoE s) (k : ∀ a s', Q a s' → Q' a s') : wpAny M A t Q' E s :=
  wpAny_mono h k fun _ _ z => z.elim

theorem ev_bin {o : Bop} {l e : Ex} {x y z : V} {p : Pos} {fr : Bool} {f1 f2 : Bool} (hl : EvE X D nms f1 r (l.un X.nm) x) (he : EvE X D nms f2 r (e.un X.nm) y) (ez : bop o x y = some z) :
    EvE X D nms fr r (.BinOp (l.un X.nm) o.un (e.un X.nm) p) z := fun env A s ok Q N R B O E P => by
  refine wpAny_BinOp (hl env A s ok _ N R B O E fun v h₁ tk₁ l₁ r₁ _ => ?_)
  refine he env A _ ok _ N R (B.le l₁) (O.le l₁) (E.le l₁) fun u h₂ tk₂ l₂ r₂ _ => ?_
  refine op_bop (fr := true) (ok := ok) ez (r₁.le l₂) r₂ (O.le (l₁.trans l₂)) fun v' h₃ tk₃ l₃ r₃ f₃ => ?_
  exact P v' h₃ tk₃ ((l₁.trans l₂).trans l₃) r₃ fun _ xs ex => (f₃ rfl xs ex).later (l₁.trans l₂)
theorem ev_neg {e : Ex} {i : Int} {p : Pos} {fr f1 : Bool} (h : EvE X D nms f1 r (e.un X.nm) (.int i)) : EvE X D nms fr r (.UnaryOp .USub (e.un X.nm) p) (.int (-i)) := fun env A s ok Q N R B O E P => by
  show wpAny _ A (do let v ← eval (e.un X.nm) env; standAt p; holding [v] (unaryOp .USub v)) Q NoE s
  refine wpAny_bind (h env A s ok _ N R B O E fun v h₁ tk₁ l₁ r₁ _ => ?_)
  obtain ⟨t, rfl⟩ := rd_int r₁
  exact wpAny_bind (wpAny_standAt (wpAny_holding (neg_int (P.int l₁))))
theorem ev_cmp {o : Cop} {l e : Ex} {x y : V} {b : Bool} {p : Pos} {fr f1 f2 : Bool} (hl : EvE X D nms f1 r (l.un X.nm) x) (he : EvE X D nms f2 r (e.un X.nm) y) (eb : cop o x y = some b) :
    EvE X D nms fr r (.Compare (l.un X.nm) [o.un] [e.un X.nm] p) (.bool b) := fun env A s ok Q N R B O E P => by
  refine wpAny_Compare1 (hl env A s ok _ N R B O E fun v h₁ tk₁ l₁ r₁ _ => ?_) (not_set _ _ _)
  refine he env A _ ok _ N R (B.le l₁) (O.le l₁) (E.le l₁) fun u h₂ tk₂ l₂ r₂ _ => ?_
  exact op_cop (ok := ok) eb (r₁.le l₂) r₂ (R.le (Nat.zero_le _)) (P.bool (l₁.trans l₂))
theorem tst_cmp {o : Cop} {l e : Ex} {x y : V} {b : Bool} {p : Pos} {f1 f2 : Bool} (hl : EvE X D nms f1 r (l.un X.nm) x) (he : EvE X D nms f2 r (e.un X.nm) y) (eb : cop o x y = some b) :
    EvT X D nms r (.Compare (l.un X.nm) [o.un] [e.un X.nm] p) b := fun env A s ok whole Q N R B O E P => by
  refine wpAny_isTrue_Compare1 (hl env A s ok _ N R B O E fun v h₁ tk₁ l₁ r₁ _ => ?_) (not_set _ _ _)
  refine he env A _ ok _ N R (B.le l₁) (O.le l₁) (E.le l₁) fun u h₂ tk₂ l₂ r₂ _ => ?_
  exact op_cop (ok := ok) eb (r₁.le l₂) r₂ (R.le (Nat.zero_le _)) (wpAny_truthy_bool (P _ _ (l₁.trans l₂)))
theorem ev_ite {t a b : Ex} {c : Bool} {x : V} {p : Pos} {fr : Bool} (ht : EvT X D nms r (t.un X.nm) c) (hx : EvE X D nms fr r ((if c then a else b).un X.nm) x) :
    EvE X D nms fr r (.IfExp (t.un X.nm) (a.un X.nm) (b.un X.nm) p) x := fun env A s ok Q N R B O E P => by
  show wpAny _ A (do if ← isTrue (t.un X.nm) env (eval (t.un X.nm) env) then eval (a.un X.nm) env else eval (b.un X.nm) env) Q NoE s
  refine wpAny_bind (ht env A s ok _ _ N R B O E fun h₁ tk₁ l₁ => ?_)
  have fin : wpAny (model X.prog X.w) A (eval ((if c then a else b).un X.nm) env) Q NoE { s with heap := h₁, toks := tk₁ } :=
    hx env A _ ok _ N R (B.le l₁) (O.le l₁) (E.le l₁) fun v h₂ tk₂ l₂ r₂ f₂ => P v h₂ tk₂ (l₁.trans l₂) r₂ fun z xs e => (f₂ z xs e).later l₁
  cases c <;> exact fin

theorem evL_nil : EvL X D nms r [] [] := fun env A s ok pos Q N R B O E P => spliced_nil (P [] s.heap s.toks (.refl _) .nil)
theorem evL_cons {e : Ex} {t : List Expr} {x : V} {xs : List V} {f : Bool} (h : EvE X D nms f r (e.un X.nm) x) (ht : EvL X D nms r t xs) : EvL X D nms r (e.un X.nm :: t) (x :: xs) := fun env A s ok pos Q N R B O E P => by
  rw [star_cons]
  show wpAny _ A (spliced ((false, eval (e.un X.nm) env) :: backTo pos (starEach t env))) Q NoE s
  refine spliced_cons (h env A s ok _ N R B O E fun v h₁ tk₁ l₁ r₁ _ => ?_)
  exact ht env A _ ok pos _ N R (B.le l₁) (O.le l₁) (E.le l₁) fun vs h₂ tk₂ l₂ r₂ => P _ h₂ tk₂ (l₁.trans l₂) (.cons (r₁.le l₂) r₂)

theorem ev_lst {es : List Ex} {xs : List V} {p : Pos} {fr : Bool} (h : EvL X D nms r (unL X.nm es) xs) (hf : few xs.length = true) : EvE X D nms fr r (.List (unL X.nm es) p) (.list xs) := fun env A s ok Q N R B O E P => by
  refine wpAny_List_spliced (h env A s ok p _ N R B O E fun vs h₁ tk₁ l₁ r₁ => ⟨by rw [r₁.length]; exact few_size hf, ?_⟩)
  exact P.fresh O (tk := tk₁) (l₁.trans (Le.push _ _)) ((FreshRoot.push r₁ rfl).later l₁)
theorem ev_tup {es : List Ex} {k : Nat} {xs : List V} {p : Pos} {fr : Bool} (h : EvL X D nms r (unL X.nm es) xs) (hf : few xs.length = true) : EvE X D nms fr r (.Tuple (unL X.nm es) k p) (.tup xs) := fun env A s ok Q N R B O E P => by
  refine wpAny_Tuple_spliced (h env A s ok p _ N R B O E fun vs h₁ tk₁ l₁ r₁ => ⟨by rw [r₁.length]; exact few_size hf, ?_⟩)
  refine P _ _ tk₁ (l₁.trans (Le.push _ _)) ?_ fun _ xs e => by cases e
  rw [Rd]
  exact ⟨_, vs, rfl, O _ (none_of_le l₁ (size_none h₁)), ⟨_, Heap.get?_push_size _ rfl, rfl, _, rfl⟩, r₁.le (Le.push _ _)⟩

/-! tests joined -/
noncomputable def EvA (X : Fix) (D : Nat) (nms : List (Nat × NameKind)) (r : Rho) (op : BoolOp) (es : List Expr) (b : Bool) : Prop :=
  ∀ (env : Env) (A : Around) (s : Shared) (ok : Addr → Prop) (Q : Bool → Shared → Prop), EnvN X env nms → Room A D → Base X s.heap → OkF ok s.heap → EnvOK X ok env r s.heap → PostT s b Q →
    wpAny (model X.prog X.w) A (allTrue op es env) Q NoE s
theorem evA_nil {a : Bool} : EvA X D nms r (if a then .And else .Or) [] a := fun env A s ok Q N R B O E P => by
  have z : (allTrue (if a then .And else .Or) [] env : Sem Bool) = pure a := by cases a <;> rfl
  rw [z]
  exact wpAny_pure (P s.heap s.toks (.refl _))
theorem evA_stop {e : Expr} {t : List Expr} {a : Bool} (h : EvT X D nms r e (!a)) : EvA X D nms r (if a then .And else .Or) (e :: t) (!a) := fun env A s ok Q N R B O E P => by
  show wpAny _ A (do match (if a then BoolOp.And else BoolOp.Or), ← isTrue e env (eval e env) with
    | .And, false => pure false
    | .Or, true => pure true
    | _, _ => allTrue (if a then BoolOp.And else BoolOp.Or) t env) Q NoE s
  refine wpAny_bind (h env A s ok _ _ N R B O E fun h₁ tk₁ l₁ => ?_)
  cases a <;> exact wpAny_pure (P h₁ tk₁ l₁)
theorem evA_go {e : Expr} {t : List Expr} {a b : Bool} (h : EvT X D nms r e a) (ht : EvA X D nms r (if a then .And else .Or) t b) : EvA X D nms r (if a then .And else .Or) (e :: t) b := fun env A s ok Q N R B O E P => by
  show wpAny _ A (do match (if a then BoolOp.And else BoolOp.Or), ← isTrue e env (eval e env) with
    | .And, false => pure false
    | .Or, true => pure true
    | _, _ => allTrue (if a then BoolOp.And else BoolOp.Or) t env) Q NoE s
  refine wpAny_bind (h env A s ok _ _ N R B O E fun h₁ tk₁ l₁ => ?_)
  have fin := ht env A { s with heap := h₁, toks := tk₁ } ok Q N R (B.le l₁) (O.le l₁) (E.le l₁) fun h₂ tk₂ l₂ => P h₂ tk₂ (l₁.trans l₂)
  cases a <;> exact fin
theorem tst_bo {es : List Expr} {a b : Bool} {p : Pos} (h : EvA X D nms r (if a then .And else .Or) es b) : EvT X D nms r (.BoolOp (if a then .And else .Or) es p) b := fun env A s ok whole Q N R B O E P =>
  h env A s ok Q N R B O E P

/-! an item, a slice -/
theorem evC_of {e : Expr} {x : V} {f : Bool} (h : EvE X D nms f r e x) : EvC X D nms r e x := fun env A s ok Q N R B O E P => h env A s ok Q N R B O E fun v h₁ tk₁ l₁ r₁ _ => P v h₁ tk₁ l₁ (.inl r₁)
theorem evC_own {i : Nat} {p : Pos} {l : List V} (e : get r i = some (.ow l)) : EvC X D nms r (.Name (X.nm i) p) (.list l) := fun env A s ok Q N R B O E P => by
  obtain ⟨a, vs, S, il, d⟩ := E i _ e
  exact name_sees N S (P _ s.heap s.toks (.refl _) (.inr ⟨l, a, vs, rfl, rfl, il, d⟩))
/-- what a container gives: its items read -/
theorem cont_list {ok : Addr → Prop} {h' : Heap} {xs : List V} {v : Value} (c : Rd ok h' (.list xs) v ∨ ∃ ys a vs, (.list xs : V) = .list ys ∧ v = .ref a ∧ h'.IsList a (List.toArray vs) ∧ RdL ok h' ys vs) :
    ∃ a vs, v = .ref a ∧ h'.IsList a (List.toArray vs) ∧ RdL ok h' xs vs := by
  rcases c with c | ⟨ys, a, vs, e, rfl, l, q⟩
  · obtain ⟨a, vs, rfl, _, l, q⟩ := rd_list c
    exact ⟨a, vs, rfl, l, q⟩
  · cases e
    exact ⟨a, vs, rfl, l, q⟩
theorem cont_other {ok : Addr → Prop} {h' : Heap} {x : V} {v : Value} (c : Rd ok h' x v ∨ ∃ ys a vs, x = .list ys ∧ v = .ref a ∧ h'.IsList a (List.toArray vs) ∧ RdL ok h' ys vs) (n : ∀ l, x ≠ .list l) : Rd ok h' x v := by
  rcases c with c | ⟨ys, a, vs, e, _⟩
  · exact c
  · exact absurd e (n ys)

theorem ev_sub {c i : Ex} {x y z : V} {p : Pos} {f2 : Bool} (hc : EvC X D nms r (c.un X.nm) x) (hi : EvE X D nms f2 r (i.un X.nm) y) (ez : subV x y = some z) :
    EvE X D nms false r (.Subscript (c.un X.nm) (i.un X.nm) p) z := fun env A s ok Q N R B O E P => by
  refine Subscript_ (hc env A s ok _ N R B O E fun v h₁ tk₁ l₁ c₁ => ?_)
  refine hi env A _ ok _ N R (B.le l₁) (O.le l₁) (E.le l₁) fun u h₂ tk₂ l₂ r₂ g₂ => ?_
  clear g₂
  have l₁₂ := l₁.trans l₂
  unfold subV at ez
  split at ez
  · rename_i xs k
    split at ez
    · rename_i j ej
      obtain ⟨a, vs, rfl, la, ra⟩ := cont_list c₁
      obtain ⟨t, rfl⟩ := rd_int r₂
      obtain ⟨h1, h2, hj, hs⟩ := idx_at ej
      rw [nth_eq] at ez
      obtain ⟨w, hw, rw'⟩ := (ra.le l₂).at ez
      have la' := isList_le l₂ la
      refine tail_any la'.typeIs slot_list_getitem.lookup ?_ (sub_plain _ _ _ _)
      have fin : Q w { s with heap := h₂, toks := tk₂ } := P w h₂ tk₂ l₁₂ rw' fun z => by cases z
      have e0 : vs.toArray.size = xs.length := by simpa using ra.length
      rcases hs with ⟨a1, a2⟩ | ⟨a1, a2, a3⟩
      · exact wpAny_getItem_list la' a1 h2 (by rw [a2]; simpa using hw) fin
      · exact wpAny_getItem_list_neg la' a1 (by rw [e0]; exact a2) h1 (by rw [e0, a3]; simpa using hw) fin
    · cases ez
  · rename_i xs k
    split at ez
    · rename_i j ej
      have c₂ := cont_other c₁ (fun l z => by cases z)
      obtain ⟨a, vs, rfl, _, la, ra⟩ := rd_tup c₂
      obtain ⟨t, rfl⟩ := rd_int r₂
      obtain ⟨h1, h2, _, _⟩ := idx_at ej
      have hs := idx_seq ej
      rw [nth_eq] at ez
      obtain ⟨w, hw, rw'⟩ := (ra.le l₂).at ez
      refine item_tupleT (isTup_le l₂ la) h1 h2 (by rw [ra.length]; exact hs) hw (P w h₂ tk₂ l₁₂ rw' fun z => by cases z) (sub_plain _ _ _ _)
    · cases ez
  · cases ez

theorem sliced {a : Addr} {vs ws : List Value} {lo hi st : Option Int} {vl vu vt : Value} {A : Around} {s : Shared} {h₁ : Heap} {tk₁ : Nat} {ok : Addr → Prop} {ys : List V} {fr : Bool} {Q : Value → Shared → Prop} {value slice : Expr} {ops : List Value}
    (l₁ : Le s.heap h₁) (O : OkF ok s.heap) (la : h₁.IsList a vs.toArray) (hsz : vs.length ≤ 4096) (pl : IsPart vl lo) (pu : IsPart vu hi) (pt : IsPart vt st) (h0 : st ≠ some 0) (e : slicePick vs.toArray lo hi st = ws.toArray) (q : RdL ok h₁ ys ws) (P : Post fr ok s (.list ys) Q)
    (hs : subscripted slice false (.ref a) (.ref h₁.objs.size) = operate ops (getItem (.ref a) (.ref h₁.objs.size))) :
    wpAny (model X.prog X.w) A (subscriptTail value slice (.ref a) (.ref h₁.objs.size)) Q NoE { s with heap := h₁.push { cls := .type "slice", data := .fields #[vl, vu, vt] }, toks := tk₁ } := by
  have la' := isList_le (Le.push h₁ { cls := .type "slice", data := .fields #[vl, vu, vt] }) la
  refine tail_any (s := { s with heap := h₁.push { cls := .type "slice", data := .fields #[vl, vu, vt] }, toks := tk₁ }) la'.typeIs slot_list_getitem.lookup ?_ hs
  refine wpAny_getItem_list_slice la' (Heap.IsSliceOf.new ..) pl pu pt h0 ?_ (by rw [List.size_toArray, sizeLine_eq]; omega)
  rw [e]
  have l₂ := l₁.trans (Le.push h₁ { cls := .type "slice", data := .fields #[vl, vu, vt] })
  exact P.fresh O (tk := tk₁) (l₂.trans (Le.push _ _)) ((FreshRoot.push (q.le (Le.push _ _)) rfl).later l₂)

theorem ev_slTo {c i : Ex} {xs : List V} {k : Int} {ps p : Pos} {fr f2 : Bool} (hc : EvC X D nms r (c.un X.nm) (.list xs)) (hi : EvE X D nms f2 r (i.un X.nm) (.int k)) (hf : few xs.length = true) :
    EvE X D nms fr r (.Subscript (c.un X.nm) (.Slice .none (some (i.un X.nm)) .none ps) p) (.list (xs.take (clip k xs.length))) := fun env A s ok Q N R B O E P => by
  refine Subscript_ (hc env A s ok _ N R B O E fun v h₁ tk₁ l₁ c₁ => ?_)
  obtain ⟨a, vs, rfl, la, ra⟩ := cont_list c₁
  refine wpAny_Slice (wpAny_pure (hi env A _ ok _ N R (B.le l₁) (O.le l₁) (E.le l₁) fun u h₂ tk₂ l₂ r₂ _ => wpAny_pure ?_))
  obtain ⟨t, rfl⟩ := rd_int r₂
  exact sliced (s := s) (l₁.trans l₂) O (isList_le l₂ la) (by rw [ra.length]; exact few_le hf) .none (.int k t) .none (by simp) (pick_to vs k) (by rw [ra.length]; exact (ra.le l₂).take _) P rfl
theorem ev_slFrom {c i : Ex} {xs : List V} {k : Int} {ps p : Pos} {fr f2 : Bool} (hc : EvC X D nms r (c.un X.nm) (.list xs)) (hi : EvE X D nms f2 r (i.un X.nm) (.int k)) (hf : few xs.length = true) :
    EvE X D nms fr r (.Subscript (c.un X.nm) (.Slice (some (i.un X.nm)) .none .none ps) p) (.list (xs.drop (clip k xs.length))) := fun env A s ok Q N R B O E P => by
  refine Subscript_ (hc env A s ok _ N R B O E fun v h₁ tk₁ l₁ c₁ => ?_)
  obtain ⟨a, vs, rfl, la, ra⟩ := cont_list c₁
  refine wpAny_Slice (hi env A _ ok _ N R (B.le l₁) (O.le l₁) (E.le l₁) fun u h₂ tk₂ l₂ r₂ _ => wpAny_pure (wpAny_pure ?_))
  obtain ⟨t, rfl⟩ := rd_int r₂
  exact sliced (s := s) (l₁.trans l₂) O (isList_le l₂ la) (by rw [ra.length]; exact few_le hf) (.int k t) .none .none (by simp) (pick_from vs k) (by rw [ra.length]; exact (ra.le l₂).drop _) P rfl
theorem ev_slRev {c : Ex} {xs : List V} {p1 p2 ps p : Pos} {fr : Bool} (hc : EvC X D nms r (c.un X.nm) (.list xs)) (hf : few xs.length = true) :
    EvE X D nms fr r (.Subscript (c.un X.nm) (.Slice .none .none (some (.UnaryOp .USub (.Constant (.int 1) 0 p1) p2)) ps) p) (.list xs.reverse) := fun env A s ok Q N R B O E P => by
  refine Subscript_ (hc env A s ok _ N R B O E fun v h₁ tk₁ l₁ c₁ => ?_)
  obtain ⟨a, vs, rfl, la, ra⟩ := cont_list c₁
  have hi : EvE X D nms false r (.UnaryOp .USub (.Constant (.int 1) 0 p1) p2) (.int (-1)) := ev_neg (e := .int 1 p1) ev_int (f1 := false)
  refine wpAny_Slice (wpAny_pure (wpAny_pure (hi env A _ ok _ N R (B.le l₁) (O.le l₁) (E.le l₁) fun u h₂ tk₂ l₂ r₂ _ => ?_)))
  obtain ⟨t, rfl⟩ := rd_int r₂
  exact sliced (s := s) (l₁.trans l₂) O (isList_le l₂ la) (by rw [ra.length]; exact few_le hf) .none .none (.int (-1) t) (by simp) (by simpa using W.krv_pick vs.toArray) (ra.le l₂).reverse P rfl
end
end Mine
end
section
open PySem PySem.Calls PyProof.Rows
set_option maxRecDepth 4000
namespace Mine

/-- a source drawn item by item, the items as they read in a part of the heap that stays -/
structure Lp1 (X : Fix) (A : Around) (I : Addr) (wr : List Addr) (Hb : Heap) (ok : Addr → Prop) (xs : List V) (St : Nat → Heap → Prop) : Prop where
  base : ∀ i h, St i h → Le Hb h
  ex : ∀ i h, St i h → ∀ b ∈ wr, ∃ o, h.get? b = some o
  frame : ∀ i h h', St i h → Le Hb h' → (∀ b ∈ wr, ∀ o, h.get? b = some o → h'.get? b = some o) → St i h'
  item : ∀ i (s : Shared) (Q : Option Value → Shared → Prop) x, xs[i]? = some x → St i s.heap →
    (∀ v h' tk, Rd ok Hb x v → St (i + 1) h' → (∀ b o, b ∉ wr → s.heap.get? b = some o → h'.get? b = some o) → Q (some v) { s with heap := h', toks := tk }) → wpAny (model X.prog X.w) A (pyNext (.ref I)) Q NoE s
  done : ∀ (s : Shared) (Q : Option Value → Shared → Prop), St xs.length s.heap →
    (∀ h' tk, (∀ b o, b ∉ wr → s.heap.get? b = some o → h'.get? b = some o) → Q .none { s with heap := h', toks := tk }) → wpAny (model X.prog X.w) A (pyNext (.ref I)) Q NoE s
  self : ∀ i (s : Shared) (Q : Value → Shared → Prop), St i s.heap → Q (.ref I) s → wpAny (model X.prog X.w) A (pyIter (.ref I)) Q NoE s
structure Lp2 (X : Fix) (A : Around) (I : Addr) (wr : List Addr) (Hb : Heap) (ok : Addr → Prop) (xs : List V) (St : Nat → Heap → Prop) (Mid : Nat → Addr → Heap → Prop) : Prop where
  base : ∀ i h, St i h → Le Hb h
  ex : ∀ i h, St i h → ∀ b ∈ wr, ∃ o, h.get? b = some o
  frame : ∀ i h h', St i h → Le Hb h' → (∀ b ∈ wr, ∀ o, h.get? b = some o → h'.get? b = some o) → St i h'
  item : ∀ i (s : Shared) (Q : Option Value → Shared → Prop) y z, xs[i]? = some (.tup [y, z]) → St i s.heap →
    (∀ T v u h' tk, Rd ok Hb y v → Rd ok Hb z u → h'.IsTuple T #[v, u] → Mid i T h' → T ∉ wr → (∀ b o, b ∉ wr → s.heap.get? b = some o → h'.get? b = some o) → Q (some (.ref T)) { s with heap := h', toks := tk }) →
    wpAny (model X.prog X.w) A (pyNext (.ref I)) Q NoE s
  go : ∀ (elts : List Expr) (k : Nat) (pos : Pos) i T (s : Shared) (Q : Unit → Shared → Prop), Mid i T s.heap → Le Hb s.heap →
    (∀ h', St (i + 1) h' → (∀ b o, b ∉ wr → s.heap.get? b = some o → h'.get? b = some o) → Q () { s with heap := h' }) → wpAny (model X.prog X.w) A (letOwnedTupleGo (.Tuple elts k pos) (.ref I) (.ref T)) Q NoE s
  done : ∀ (s : Shared) (Q : Option Value → Shared → Prop), St xs.length s.heap →
    (∀ h' tk, (∀ b o, b ∉ wr → s.heap.get? b = some o → h'.get? b = some o) → Q .none { s with heap := h', toks := tk }) → wpAny (model X.prog X.w) A (pyNext (.ref I)) Q NoE s
  self : ∀ i (s : Shared) (Q : Value → Shared → Prop), St i s.heap → Q (.ref I) s → wpAny (model X.prog X.w) A (pyIter (.ref I)) Q NoE s

section
variable {X : Fix} {A : Around} {I : Addr} {fp wr wr' : List Addr} {Hb : Heap} {ok : Addr → Prop} {xs : List V} {n : Nat}
theorem le_but {h h' : Heap} (l : Le Hb h) (hw : ∀ b ∈ wr', Hb.get? b = .none) (k : ∀ b o, b ∉ wr → h.get? b = some o → h'.get? b = some o) (sub : ∀ b ∈ wr, b ∈ wr') : Le Hb h' :=
  fun b o e => k b o (fun hb => by rw [hw b (sub b hb)] at e; cases e) (l b o e)
theorem Lp1.of {P : Nat → Value → Prop} {St : Nat → Heap → Prop} (W : Walks X.prog X.w A I fp wr n P St) (hn : xs.length = n) (hw : ∀ b ∈ wr', Hb.get? b = .none) (sub : ∀ b ∈ wr, b ∈ wr') (hf : ∀ b ∈ fp, b ∈ wr' ∨ ∃ o, Hb.get? b = some o)
    (hst : ∀ i h, St i h → ∀ b ∈ wr', ∃ o, h.get? b = some o)
    (hP : ∀ i v x, P i v → xs[i]? = some x → Rd ok Hb x v) : Lp1 X A I wr' Hb ok xs (fun i h => Le Hb h ∧ St i h) where
  base := fun i h st => st.1
  ex := fun i h st => hst i h st.2
  frame := fun i h h' st l k => ⟨l, W.frame i h h' st.2 fun b hb o e => by
    rcases hf b hb with q | ⟨o', q⟩
    · exact k b q o e
    · have := st.1 b o' q; rw [e] at this; cases this; exact l b o q⟩
  item := fun i s Q x e st hQ => by
    have hi : i < n := by rw [← hn]; exact (List.getElem?_eq_some_iff.mp e).1
    refine W.item i s Q NoE hi st.2 fun v h' tk hp st' k => hQ v h' tk (hP i v x hp e) ⟨le_but st.1 hw k sub, st'⟩ fun b o hb q => k b o (fun z => hb (sub b z)) q
  done := fun s Q st hQ => W.done s Q NoE (hn ▸ st.2) fun h' tk k => hQ h' tk fun b o hb q => k b o (fun z => hb (sub b z)) q
  self := fun i s Q st hQ => W.self i s Q NoE st.2 hQ
theorem Lp2.of {Pt : Nat → Array Value → Prop} {St : Nat → Heap → Prop} {Mid : Nat → Addr → Heap → Prop} (W : WalksT X.prog X.w A I fp wr n Pt St Mid) (hn : xs.length = n) (hw : ∀ b ∈ wr', Hb.get? b = .none) (sub : ∀ b ∈ wr, b ∈ wr') (hf : ∀ b ∈ fp, b ∈ wr' ∨ ∃ o, Hb.get? b = some o)
    (hst : ∀ i h, St i h → ∀ b ∈ wr', ∃ o, h.get? b = some o)
    (hP : ∀ i vals y z, Pt i vals → xs[i]? = some (.tup [y, z]) → ∃ v u, vals = #[v, u] ∧ Rd ok Hb y v ∧ Rd ok Hb z u) : Lp2 X A I wr' Hb ok xs (fun i h => Le Hb h ∧ St i h) (fun i T h => Mid i T h) where
  base := fun i h st => st.1
  ex := fun i h st => hst i h st.2
  frame := fun i h h' st l k => ⟨l, W.frame i h h' st.2 fun b hb o e => by
    rcases hf b hb with q | ⟨o', q⟩
    · exact k b q o e
    · have := st.1 b o' q; rw [e] at this; cases this; exact l b o q⟩
  item := fun i s Q y z e st hQ => by
    have hi : i < n := by rw [← hn]; exact (List.getElem?_eq_some_iff.mp e).1
    refine W.item i s Q NoE hi st.2 fun T vals h' tk hp hT ht hm k => ?_
    obtain ⟨v, u, rfl, r1, r2⟩ := hP i vals y z hp e
    refine hQ T v u h' tk r1 r2 ht hm (fun hb => ?_) fun b o hb q => k b o (fun z => hb (sub b z)) q
    obtain ⟨o, q⟩ := hst i _ st.2 T hb
    exact absurd (Heap.lt_size q) (Nat.not_lt.mpr hT)
  go := fun elts k pos i T s Q hm l hQ => W.go elts k pos i T s Q NoE hm fun h' st kk => hQ h' ⟨le_but l hw kk sub, st⟩ fun b o hb q => kk b o (fun z => hb (sub b z)) q
  done := fun s Q st hQ => W.done s Q NoE (hn ▸ st.2) fun h' tk k => hQ h' tk fun b o hb q => k b o (fun z => hb (sub b z)) q
  self := fun i s Q st hQ => W.self i s Q NoE st.2 hQ
end

noncomputable def KeepsOk (ok : Addr → Prop) (h Hb : Heap) : Prop := ∀ a o, ok a → h.get? a = some o → (∃ vs n, o.data = .seq vs n) → Hb.get? a = some o
theorem RdL.kept {ok : Addr → Prop} {h Hb : Heap} {xs : List V} {vs : List Value} (k : KeepsOk ok h Hb) (r : RdL ok h xs vs) : RdL ok Hb xs vs := r.mono fun a o q e => ⟨q, fun z => k a o q e z⟩
theorem isList_kept {ok : Addr → Prop} {h Hb : Heap} {a : Addr} {vs : Array Value} (k : KeepsOk ok h Hb) (q : ok a) (l : h.IsList a vs) : Hb.IsList a vs := let ⟨o, e, c, n, d⟩ := l; ⟨o, k a o q e ⟨_, _, d⟩, c, n, d⟩

theorem some_iter {h : Heap} {a l : Addr} {k : Nat} (x : h.IsListIter a l k) : ∃ o, h.get? a = some o := by obtain ⟨o, e, _⟩ := x; exact ⟨o, e⟩
/-- what a source says of itself when it has been asked for its iterator -/
noncomputable def Src1 (X : Fix) (A : Around) (ok : Addr → Prop) (xs : List V) (h₀ : Heap) (it : Value) (s₂ : Shared) : Prop :=
  ∃ (h₁ : Heap) (I : Addr) (wr : List Addr), it = .ref I ∧ Le h₀ h₁ ∧ Le h₁ s₂.heap ∧ (∀ b ∈ wr, h₁.get? b = .none) ∧ (∀ b ∈ wr, ∃ o, s₂.heap.get? b = some o) ∧ ∀ Hb, Le Hb h₁ → KeepsOk ok h₁ Hb → ∃ St, Lp1 X A I wr Hb ok xs St ∧ St 0 s₂.heap
noncomputable def Src2 (X : Fix) (A : Around) (ok : Addr → Prop) (xs : List V) (h₀ : Heap) (it : Value) (s₂ : Shared) : Prop :=
  ∃ (h₁ : Heap) (I : Addr) (wr : List Addr), it = .ref I ∧ Le h₀ h₁ ∧ Le h₁ s₂.heap ∧ (∀ b ∈ wr, h₁.get? b = .none) ∧ (∀ b ∈ wr, ∃ o, s₂.heap.get? b = some o) ∧ ∀ Hb, Le Hb h₁ → KeepsOk ok h₁ Hb → ∃ St Mid, Lp2 X A I wr Hb ok xs St Mid ∧ St 0 s₂.heap

theorem range_at (a c : Int) : ∀ (n i : Nat) (x : V), (rangeV a c n)[i]? = some x → x = .int (a + i * c)
  | 0, _, _, e => by simp [rangeV] at e
  | n + 1, 0, x, e => by simp [rangeV] at e; rw [← e]; simp
  | n + 1, i + 1, x, e => by
    have := range_at (a + c) c n i x (by simpa [rangeV] using e)
    rw [this]
    have : a + c + (i : Int) * c = a + ((i + 1 : Nat) : Int) * c := by
      rw [Int.natCast_add, Int.add_mul]; simp; omega
    rw [this]
theorem range_len (a c : Int) : ∀ n, (rangeV a c n).length = n
  | 0 => rfl
  | n + 1 => by simp [rangeV, range_len (a + c) c n]
theorem enum_at : ∀ (l : List V) (k : Int) (i : Nat) (y z : V), (enumV k l)[i]? = some (.tup [y, z]) → y = .int (k + i) ∧ l[i]? = some z
  | [], _, _, _, _, e => by simp [enumV] at e
  | x :: r, k, 0, y, z, e => by simp [enumV] at e; obtain ⟨a, b⟩ := e; subst a b; simp
  | x :: r, k, i + 1, y, z, e => by
    obtain ⟨a, b⟩ := enum_at r (k + 1) i y z (by simpa [enumV] using e)
    refine ⟨?_, by simpa using b⟩
    rw [a]; congr 1; push_cast; omega
theorem enum_len : ∀ (l : List V) (k : Int), (enumV k l).length = l.length
  | [], _ => rfl
  | x :: r, k => by simp [enumV, enum_len r (k + 1)]
theorem zip_at : ∀ (l m : List V) (i : Nat) (y z : V), (zipV l m)[i]? = some (.tup [y, z]) → l[i]? = some y ∧ m[i]? = some z
  | [], _, _, _, _, e => by simp [zipV] at e
  | _ :: _, [], _, _, _, e => by simp [zipV] at e
  | x :: r, w :: t, 0, y, z, e => by simp [zipV] at e; obtain ⟨a, b⟩ := e; subst a b; simp
  | x :: r, w :: t, i + 1, y, z, e => by simpa using zip_at r t i y z (by simpa [zipV] using e)
theorem zip_len : ∀ (l m : List V), (zipV l m).length = min l.length m.length
  | [], _ => by simp [zipV]
  | _ :: _, [] => by simp [zipV]
  | x :: r, w :: t => by simp [zipV, zip_len r t]

section
variable {X : Fix} {A : Around} {s : Shared} {ok : Addr → Prop} {h₀ : Heap}
/-- the iterator of a list -/
theorem src_list {a : Addr} {xs : List V} {vs : List Value} {Q : Value → Shared → Prop} (hh : A.handled = .none) (l₀ : Le h₀ s.heap) (oka : ok a) (la : s.heap.IsList a (List.toArray vs)) (ra : RdL ok s.heap xs vs)
    (K : ∀ it s₂, s₂ = { s with heap := s₂.heap, toks := s₂.toks } → Src1 X A ok xs h₀ it s₂ → Q it s₂) : wpAny (model X.prog X.w) A (pyIter (.ref a)) Q NoE s := by
  refine wpAny_pyIter_list la (K _ _ rfl ⟨s.heap, s.heap.objs.size, [s.heap.objs.size], rfl, l₀, Le.push _ _, ?_, ?_, fun Hb lb kb => ?_⟩)
  · intro b hb; rw [List.mem_singleton.mp hb]; exact size_none _
  · intro b hb; rw [List.mem_singleton.mp hb]; exact ⟨_, Heap.get?_push_size _ rfl⟩
  · have hne : a ≠ s.heap.objs.size := by obtain ⟨o, e, _⟩ := la; exact Nat.ne_of_lt (Heap.lt_size e)
    have lb' := isList_kept kb oka la
    refine ⟨_, Lp1.of (Walks.list hh s.heap.objs.size a hne vs.toArray) (by simpa using ra.length.symm) ?_ (fun b hb => hb) ?_ (fun i h st b hb => by rw [List.mem_singleton.mp hb]; exact some_iter st.1) ?_, lb.trans (Le.push _ _), ⟨_, Heap.get?_push_size _ rfl, rfl, rfl⟩, isList_le (Le.push _ _) la⟩
    · intro b hb; rw [List.mem_singleton.mp hb]; exact none_of_le lb (size_none _)
    · intro b hb
      rcases List.mem_cons.mp hb with rfl | hb
      · exact .inl (List.mem_singleton.mpr rfl)
      · rw [List.mem_singleton.mp hb]
        obtain ⟨o, e, _⟩ := lb'
        exact .inr ⟨o, e⟩
    · intro i v x hp e
      obtain ⟨w, hw, q⟩ := (ra.kept kb).at e
      have : vs[i]? = some v := by simpa using hp
      rw [hw] at this; cases this
      exact q
/-- the iterator of a range -/
theorem src_range {rg : Addr} {a b c : Int} {t u v : Tok} {n : Nat} {Q : Value → Shared → Prop} (hh : A.handled = .none) (l₀ : Le h₀ s.heap) (hr : IsRange s.heap rg a b c t u v) (hs : Builtin.Range.small a b c = true) (hn : Builtin.Range.rangeSize a b c = n)
    (K : ∀ it s₂, s₂ = { s with heap := s₂.heap, toks := s₂.toks } → Src1 X A ok (rangeV a c n) h₀ it s₂ → Q it s₂) : wpAny (model X.prog X.w) A (pyIter (.ref rg)) Q NoE s := by
  refine wpAny_pyIter_range hr hs (K _ _ rfl ⟨s.heap, s.heap.objs.size, [s.heap.objs.size], rfl, l₀, Le.push _ _, ?_, ?_, fun Hb lb kb => ?_⟩)
  · intro b hb; rw [List.mem_singleton.mp hb]; exact size_none _
  · intro b hb; rw [List.mem_singleton.mp hb]; exact ⟨_, Heap.get?_push_size _ rfl⟩
  · refine ⟨_, Lp1.of (Walks.range hh s.heap.objs.size a c n) (range_len a c n) ?_ (fun b hb => hb) (fun b hb => .inl hb) (fun i h st b hb => by rw [List.mem_singleton.mp hb]; exact ⟨_, st⟩) ?_, lb.trans (Le.push _ _), ?_⟩
    · intro b hb; rw [List.mem_singleton.mp hb]; exact none_of_le lb (size_none _)
    · intro i w x hp e
      obtain ⟨t, rfl⟩ := hp
      rw [range_at a c n i x e, Rd]
      exact ⟨t, rfl⟩
    · have := Heap.get?_push_size s.heap (o := { cls := .type "range_iterator", data := .fields #[rawInt a, rawInt (Builtin.Range.rangeSize a b c), rawInt c] }) rfl
      rw [hn] at this ⊢
      simpa [IsRangeIter] using this
theorem rdl_one {xs : List V} {x : V} (h : Heap) {vs : List Value} (e : xs = [x]) (r : RdL ok h xs vs) : ∃ v, vs = [v] ∧ Rd ok h x v := by
  subst e
  obtain ⟨v, t, rfl, a, b⟩ := r.uncons
  rw [b.unnil]
  exact ⟨v, rfl, a⟩
theorem fits_few {a : Int} (h : few a.natAbs = true) : -4096 ≤ a ∧ a ≤ 4096 := by have := few_le h; omega
theorem rangeSize_up (a b : Int) : Builtin.Range.rangeSize a b 1 = (cntUp a b : Nat) := by
  rw [rangeSize_one]
  unfold cntUp
  split <;> omega
theorem rangeSize_dn (a b : Int) : Builtin.Range.rangeSize a b (-1) = (cntUp b a : Nat) := by
  unfold Builtin.Range.rangeSize cntUp
  simp only [show ¬ ((-1 : Int) > 0) by decide, if_false, show (- -1 : Int) = 1 by decide, Int.ediv_one]
  split <;> omega
theorem small_rng {a b c : Int} {n : Nat} (ha : -4096 ≤ a ∧ a ≤ 4096) (hb : -4096 ≤ b ∧ b ≤ 4096) (hc : c = 1 ∨ c = -1) (hn : Builtin.Range.rangeSize a b c = n) (h2 : n ≤ 10000) : Builtin.Range.small a b c = true := by
  unfold Builtin.Range.small
  rw [hn]
  have fl : ∀ x : Int, -20000 ≤ x → x ≤ 20000 → Builtin.Range.rangeFitsLong x = true := fun x h1 h2 => by
    unfold Builtin.Range.rangeFitsLong
    rw [Bool.and_eq_true, decide_eq_true_eq, decide_eq_true_eq]; omega
  rcases hc with rfl | rfl
  · rw [fl a (by omega) (by omega), fl b (by omega) (by omega), fl 1 (by omega) (by omega), fl (n : Int) (by omega) (by omega), if_pos (by decide), fl (b + (1 - 1)) (by omega) (by omega)]
    simp
  · rw [fl a (by omega) (by omega), fl b (by omega) (by omega), fl (-1) (by omega) (by omega), fl (n : Int) (by omega) (by omega), if_neg (by decide), fl (b + (-1 + 1)) (by omega) (by omega)]
    simp
end

theorem plain_un (nm : Nat → Str) (pos : Pos) (env : Env) : ∀ es : List Ex, (backTo pos (starEach (unL nm es) env)).any (·.1) = false
  | [] => rfl
  | e :: t => by
    show (backTo pos (starEach (e.un nm :: unL nm t) env)).any (·.1) = false
    rw [star_cons]
    show (false || (backTo pos (starEach (unL nm t) env)).any (·.1)) = false
    rw [plain_un nm pos env t]; rfl

section
variable {X : Fix} {D : Nat} {nms : List (Nat × NameKind)} {r : Rho}
/-- a call of a type by its name -/
theorem call_type {env : Env} {A : Around} {s : Shared} {ok : Addr → Prop} {Q : Value → Shared → Prop} {i : Nat} {T : String} {pf p : Pos} {e : Ex} {es : List Ex} {xs : List V}
    (hb : biVal i = some (.type T)) (k : lk nms i = some .globalImplicit) (h : EvL X D nms r (unL X.nm (e :: es)) xs) (N : EnvN X env nms) (R : Room A D) (B : Base X s.heap) (O : OkF ok s.heap) (E : EnvOK X ok env r s.heap)
    (K : ∀ vs h' tk, Le s.heap h' → RdL ok h' xs vs → wpAny (model X.prog X.w) A (call (.type T) vs) Q NoE { s with heap := h', toks := tk }) :
    wpAny (model X.prog X.w) A (eval (.Call (.Name (X.nm i) pf) (unL X.nm (e :: es)) [] p) env) Q NoE s := by
  refine Call_Name rfl (name_builtin N B k hb ?_)
  exact callWith_type1 (h env A s ok p _ N R B O E K) (star_cons _ _ _ _) (plain_un _ _ _ _)
theorem call_bi {env : Env} {A : Around} {s : Shared} {ok : Addr → Prop} {Q : Value → Shared → Prop} {i : Nat} {T : String} {pf p : Pos} {e : Ex} {es : List Ex} {xs : List V}
    (hb : biVal i = some (.builtin T)) (k : lk nms i = some .globalImplicit) (h : EvL X D nms r (unL X.nm (e :: es)) xs) (N : EnvN X env nms) (R : Room A D) (B : Base X s.heap) (O : OkF ok s.heap) (E : EnvOK X ok env r s.heap)
    (K : ∀ vs h' tk, Le s.heap h' → RdL ok h' xs vs → wpAny (model X.prog X.w) A (call (.builtin T) vs) Q NoE { s with heap := h', toks := tk }) :
    wpAny (model X.prog X.w) A (eval (.Call (.Name (X.nm i) pf) (unL X.nm (e :: es)) [] p) env) Q NoE s := by
  refine Call_Name rfl (name_builtin N B k hb ?_)
  exact callWith_builtin1 (h env A s ok p _ N R B O E K) (star_cons _ _ _ _) (plain_un _ _ _ _)

noncomputable def SrcGo (X : Fix) (D : Nat) (nms : List (Nat × NameKind)) (r : Rho) (two : Bool) (e : Expr) (items : List V) : Prop :=
  ∀ (env : Env) (A : Around) (s : Shared) (ok : Addr → Prop) (Q : Value → Shared → Prop), EnvN X env nms → Room A D → Base X s.heap → OkF ok s.heap → EnvOK X ok env r s.heap →
    (∀ it s₂, s₂ = { s with heap := s₂.heap, toks := s₂.toks } → (match two with | false => Src1 X A ok items s.heap it s₂ | true => Src2 X A ok items s.heap it s₂) → Q it s₂) →
    wpAny (model X.prog X.w) A (eval e env) (fun x s₁ => wpAny (model X.prog X.w) A (pyIter x) Q NoE s₁) NoE s

theorem go_list {e : Ex} {l : List V} {f : Bool} (h : EvE X D nms f r (e.un X.nm) (.list l)) : SrcGo X D nms r false (e.un X.nm) l := fun env A s ok Q N R B O E K => by
  refine h env A s ok _ N R B O E fun v h₁ tk₁ l₁ r₁ _ => ?_
  obtain ⟨a, vs, rfl, q, la, ra⟩ := rd_list r₁
  exact src_list (s := { s with heap := h₁, toks := tk₁ }) (h₀ := s.heap) R.handled l₁ q la ra fun it s₂ e₂ S => K it s₂ (by rw [e₂]) S
theorem go_rng {A : Around} {s : Shared} {ok : Addr → Prop} {Q : Value → Shared → Prop} {a b c : Int} {n : Nat} {h₁ : Heap} (hh : A.handled = .none) (l₁ : Le s.heap h₁) {t u v : Tok} {tk : Nat}
    (hs : Builtin.Range.small a b c = true) (hn : Builtin.Range.rangeSize a b c = n)
    (K : ∀ it s₂, s₂ = { s with heap := s₂.heap, toks := s₂.toks } → Src1 X A ok (rangeV a c n) s.heap it s₂ → Q it s₂) :
    wpAny (model X.prog X.w) A (pyIter (.ref h₁.objs.size)) Q NoE { s with heap := h₁.push { cls := .type "range", data := .fields #[.int a t, .int b u, .int c v] }, toks := tk } :=
  src_range (s := { s with heap := h₁.push { cls := .type "range", data := .fields #[.int a t, .int b u, .int c v] }, toks := tk }) (h₀ := s.heap) hh (l₁.trans (Le.push _ _)) (IsRange.new h₁ a b c t u v) hs hn fun it s₂ e₂ S => K it s₂ (by rw [e₂]) S
theorem go_range {es : List Ex} {vs items : List V} {pf p : Pos} (k : lk nms 2 = some .globalImplicit) (h : EvL X D nms r (unL X.nm es) vs) (hl : vs.length = es.length) (e : srcV .range vs = some items) : SrcGo X D nms r false (.Call (.Name (X.nm 2) pf) (unL X.nm es) [] p) items := fun env A s ok Q N R B O E K => by
  cases es with
  | nil => cases vs with
    | nil => simp [srcV] at e
    | cons => simp at hl
  | cons e₀ es =>
  refine call_type rfl k h N R B O E fun ws h₁ tk₁ l₁ r₁ => ?_
  unfold srcV at e
  split at e <;> try contradiction
  · rename_i b _
    split at e
    · rename_i q
      cases e
      obtain ⟨v, t, rfl, ra, rb⟩ := r₁.uncons
      obtain rfl := rb.unnil
      obtain ⟨u, rfl⟩ := rd_int ra
      have hb := fits_few q
      have hz : cntUp 0 b ≤ 10000 := by unfold cntUp; omega
      exact call_range_1 (go_rng R.handled l₁ (small_rng ⟨by decide, by decide⟩ hb (.inl rfl) (rangeSize_up 0 b) hz) (rangeSize_up 0 b) K)
    · cases e
  · rename_i a b _
    split at e
    · rename_i q
      rw [Bool.and_eq_true] at q
      cases e
      obtain ⟨v, t, rfl, ra, rb⟩ := r₁.uncons
      obtain ⟨v2, t, rfl, rb2, rc⟩ := rb.uncons
      obtain rfl := rc.unnil
      obtain ⟨u, rfl⟩ := rd_int ra
      obtain ⟨u2, rfl⟩ := rd_int rb2
      have ha := fits_few q.1
      have hb := fits_few q.2
      have hz : cntUp a b ≤ 10000 := by unfold cntUp; omega
      exact call_range_2 (go_rng R.handled l₁ (small_rng ha hb (.inl rfl) (rangeSize_up a b) hz) (rangeSize_up a b) K)
    · cases e
  · rename_i a b c _
    split at e
    · rename_i q
      rw [Bool.and_eq_true, Bool.and_eq_true] at q
      have hc : c = -1 := (W.Z.eqB_iff _ _).mp q.2
      subst hc
      cases e
      obtain ⟨v, t, rfl, ra, rb⟩ := r₁.uncons
      obtain ⟨v2, t, rfl, rb2, rc⟩ := rb.uncons
      obtain ⟨v3, t, rfl, rc2, rd⟩ := rc.uncons
      obtain rfl := rd.unnil
      obtain ⟨u, rfl⟩ := rd_int ra
      obtain ⟨u2, rfl⟩ := rd_int rb2
      obtain ⟨u3, rfl⟩ := rd_int rc2
      have ha := fits_few q.1.1
      have hb := fits_few q.1.2
      have hz : cntUp b a ≤ 10000 := by unfold cntUp; omega
      exact call_range_3 (by decide) (go_rng R.handled l₁ (small_rng ha hb (.inr rfl) (rangeSize_dn a b) hz) (rangeSize_dn a b) K) (.inl (PyProof.noPylong_small (by decide)))
    · cases e

theorem src2_of {A : Around} {s : Shared} {ok : Addr → Prop} {I : Addr} {wr : List Addr} {items : List V} {h₁ : Heap} {s₂ : Shared} (l₁ : Le s.heap h₁) (l₂ : Le h₁ s₂.heap) (w0 : ∀ b ∈ wr, h₁.get? b = .none) (w1 : ∀ b ∈ wr, ∃ o, s₂.heap.get? b = some o)
    (h : ∀ Hb, Le Hb h₁ → KeepsOk ok h₁ Hb → ∃ St Mid, Lp2 X A I wr Hb ok items St Mid ∧ St 0 s₂.heap) : Src2 X A ok items s.heap (.ref I) s₂ := ⟨h₁, I, wr, rfl, l₁, l₂, w0, w1, h⟩
theorem none_ge {h : Heap} {a : Addr} (q : h.objs.size ≤ a) : h.get? a = .none := by
  cases e : h.get? a with
  | none => rfl
  | some o => exact absurd (Heap.lt_size e) (Nat.not_lt.mpr q)
theorem lt_list {h : Heap} {a : Addr} {vs : Array Value} (l : h.IsList a vs) : @LT.lt Nat instLTNat a h.objs.size := by obtain ⟨o, e, _⟩ := l; exact Heap.lt_size e
theorem ane {a b : Nat} (h : a < b ∨ b < a) : a ≠ b := by omega
theorem go_enum {e : Ex} {vs items : List V} {pf p : Pos} (k : lk nms 3 = some .globalImplicit) (h : EvL X D nms r (unL X.nm [e]) vs) (hv : srcV .enum vs = some items) : SrcGo X D nms r true (.Call (.Name (X.nm 3) pf) (unL X.nm [e]) [] p) items := fun env A s ok Q N R B O E K => by
  refine call_type rfl k h N R B O E fun ws h₁ tk₁ l₁ r₁ => ?_
  unfold srcV at hv
  split at hv <;> try contradiction
  rename_i l _
  split at hv
  · rename_i q
    cases hv
    obtain ⟨v, rfl, q₁⟩ := rdl_one h₁ rfl r₁
    obtain ⟨a, us, rfl, oka, la, ra⟩ := rd_list q₁
    have hlt := lt_list la
    have e1 : h₁.objs.size + 1 ≠ h₁.objs.size := by omega
    have e2 : a ≠ h₁.objs.size + 1 := ane (.inl (by omega))
    have e3 : a ≠ h₁.objs.size := ane (.inl (by omega))
    refine call_enumerate_list la fun h₂ en it sz l₂ => wpAny_pyIter_enum en (K _ _ rfl (src2_of (wr := [h₁.objs.size + 1, h₁.objs.size]) l₁ l₂ ?_ ?_ fun Hb lb kb => ?_))
    · intro b hb
      simp at hb
      rcases hb with rfl | rfl <;> exact none_ge (by omega)
    · intro b hb
      simp at hb
      rcases hb with rfl | rfl
      · exact ⟨_, en⟩
      · exact some_iter it
    · have hw : ∀ b ∈ [h₁.objs.size + 1, h₁.objs.size], Hb.get? b = .none := fun b hb => none_of_le lb (by
        simp at hb
        rcases hb with rfl | rfl <;> exact none_ge (by omega))
      refine ⟨_, _, Lp2.of (WalksT.enumerate R.handled (h₁.objs.size + 1) h₁.objs.size a e1 e2 e3 us.toArray) ?_ hw (fun b hb => hb) ?_ ?_ ?_, lb.trans l₂, ⟨_, en⟩, it, isList_le l₂ la⟩
      · rw [enum_len]; simpa using ra.length.symm
      · intro b hb
        simp at hb
        rcases hb with rfl | rfl | rfl
        · exact .inl (by simp)
        · exact .inl (by simp)
        · obtain ⟨o, e, _⟩ := isList_kept kb oka la
          exact .inr ⟨o, e⟩
      · intro i hh st b hb
        obtain ⟨⟨old, st1⟩, st2, _⟩ := st
        simp at hb
        rcases hb with rfl | rfl
        · exact ⟨_, st1⟩
        · exact some_iter st2
      · intro i vals y z hp hx
        obtain ⟨t, x, hx', rfl⟩ := hp
        obtain ⟨rfl, hz⟩ := enum_at _ _ _ _ _ hx
        obtain ⟨w, hw, rw'⟩ := (ra.kept kb).at hz
        have : us[i]? = some x := by simpa using hx'
        rw [hw] at this; cases this
        refine ⟨_, _, rfl, ?_, rw'⟩
        rw [Rd]; exact ⟨t, by simp⟩
  · cases hv
theorem go_zip {e e2 : Ex} {vs items : List V} {pf p : Pos} (k : lk nms 4 = some .globalImplicit) (h : EvL X D nms r (unL X.nm [e, e2]) vs) (hv : srcV .zip vs = some items) : SrcGo X D nms r true (.Call (.Name (X.nm 4) pf) (unL X.nm [e, e2]) [] p) items := fun env A s ok Q N R B O E K => by
  refine call_type rfl k h N R B O E fun ws h₁ tk₁ l₁ r₁ => ?_
  unfold srcV at hv
  split at hv <;> try contradiction
  rename_i l m _
  split at hv
  · rename_i q
    cases hv
    obtain ⟨v, t, rfl, q₁, q₂⟩ := r₁.uncons
    obtain ⟨u, t, rfl, q₃, q₄⟩ := q₂.uncons
    obtain rfl := q₄.unnil
    obtain ⟨a, us, rfl, oka, la, ra⟩ := rd_list q₁
    obtain ⟨b, ts, rfl, okb, lb₀, rb⟩ := rd_list q₃
    have hla := lt_list la
    have hlb := lt_list lb₀
    have D : ZipApart (h₁.objs.size + 4) (h₁.objs.size + 2) (h₁.objs.size + 3) h₁.objs.size (h₁.objs.size + 1) a b := by constructor <;> (apply ane; omega)
    refine call_zip_2 la lb₀ fun h₂ iz p1 p2 i1 i2 sz l₂ => wpAny_pyIter_zip iz (K _ _ rfl (src2_of (wr := [h₁.objs.size + 4, h₁.objs.size + 2, h₁.objs.size + 3, h₁.objs.size, h₁.objs.size + 1]) l₁ l₂ ?_ ?_ fun Hb lb kb => ?_))
    · intro b hb
      simp at hb
      rcases hb with rfl | rfl | rfl | rfl | rfl <;> exact none_ge (by omega)
    · intro b hb
      simp at hb
      rcases hb with rfl | rfl | rfl | rfl | rfl
      · exact ⟨_, iz⟩
      · exact ⟨_, p1⟩
      · exact ⟨_, p2⟩
      · exact some_iter i1
      · exact some_iter i2
    · have hw : ∀ b ∈ [h₁.objs.size + 4, h₁.objs.size + 2, h₁.objs.size + 3, h₁.objs.size, h₁.objs.size + 1], Hb.get? b = .none := fun b hb => none_of_le lb (by
        simp at hb
        rcases hb with rfl | rfl | rfl | rfl | rfl <;> exact none_ge (by omega))
      refine ⟨_, _, Lp2.of (WalksT.zip2 R.handled _ _ _ _ _ _ _ D us.toArray ts.toArray) ?_ hw ?_ ?_ ?_ ?_, lb.trans l₂, iz, p1, ⟨_, _, p2⟩, i1, i2, isList_le l₂ la, isList_le l₂ lb₀⟩
      · rw [zip_len]; simp [ra.length, rb.length]
      · intro b hb
        simp at hb ⊢
        rcases hb with rfl | rfl | rfl | rfl <;> simp
      · intro c hc
        simp at hc
        rcases hc with rfl | rfl | rfl | rfl | rfl | rfl | rfl
        · exact .inl (by simp)
        · exact .inl (by simp)
        · exact .inl (by simp)
        · exact .inl (by simp)
        · exact .inl (by simp)
        · obtain ⟨o, e, _⟩ := isList_kept kb oka la
          exact .inr ⟨o, e⟩
        · obtain ⟨o, e, _⟩ := isList_kept kb okb lb₀
          exact .inr ⟨o, e⟩
      · intro i hh st c hc
        obtain ⟨s1, s2, ⟨_, _, s3⟩, s4, s5, _⟩ := st
        simp at hc
        rcases hc with rfl | rfl | rfl | rfl | rfl
        · exact ⟨_, s1⟩
        · exact ⟨_, s2⟩
        · exact ⟨_, s3⟩
        · exact some_iter s4
        · exact some_iter s5
      · intro i vals y z hp hx
        obtain ⟨x, x', hx', hy', rfl⟩ := hp
        obtain ⟨h1, h2⟩ := zip_at _ _ _ _ _ hx
        obtain ⟨w1, hw1, q1⟩ := (ra.kept kb).at h1
        obtain ⟨w2, hw2, q2⟩ := (rb.kept kb).at h2
        have t1 : us[i]? = some x := by simpa using hx'
        have t2 : ts[i]? = some x' := by simpa using hy'
        rw [hw1] at t1; cases t1
        rw [hw2] at t2; cases t2
        exact ⟨_, _, rfl, q1, q2⟩
  · cases hv
end
end Mine
end
section
open PySem PySem.Calls PyProof.Rows
set_option maxRecDepth 4000
namespace Mine

noncomputable def biCal : Bi → Value
  | .len => .builtin "len"
  | .list => .type "list"
  | .sum => .builtin "sum"
  | .max => .builtin "max"
  | .abs => .builtin "abs"
  | .int => .type "int"
theorem biCal_val (b : Bi) : biVal b.code = some (biCal b) := by cases b <;> rfl
theorem sumL_eq : ∀ l : List Int, sumL l = l.sum
  | [] => rfl
  | a :: r => by rw [sumL, sumL_eq r, List.sum_cons]

section
variable {X : Fix} {A : Around} {s : Shared} {ok : Addr → Prop} {fr : Bool}
theorem op_len {a : Addr} {xs : List V} {vs : List Value} {Q : Value → Shared → Prop} (la : s.heap.IsList a (List.toArray vs)) (hv : vs.length = xs.length) (hf : few xs.length = true) (P : Post fr ok s (.int xs.length) Q) :
    wpAny (model X.prog X.w) A (call (.builtin "len") [.ref a]) Q NoE s := by
  have := few_le hf
  refine call_len_list la (by rw [List.size_toArray, hv]; omega) ?_
  have := P.int (h' := s.heap) (t := s.toks + 1) (tk := s.toks + 1 + 1) (.refl _)
  simpa [hv] using this
theorem op_bi {b : Bi} {xs : List V} {vs : List Value} {z : V} {Q : Value → Shared → Prop} (hh : A.handled = .none) (e : biV b xs = some z) (r : RdL ok s.heap xs vs) (O : OkF ok s.heap) (P : Post fr ok s z Q) :
    wpAny (model X.prog X.w) A (call (biCal b) vs) Q NoE s := by
  unfold biV at e
  split at e
  · rename_i l
    split at e
    · rename_i q
      cases e
      obtain ⟨v, rfl, q₁⟩ := rdl_one s.heap rfl r
      obtain ⟨a, us, rfl, oka, la, ra⟩ := rd_list q₁
      exact op_len la ra.length q P
    · cases e
  · rename_i l
    split at e
    · rename_i q
      cases e
      obtain ⟨v, rfl, q₁⟩ := rdl_one s.heap rfl r
      obtain ⟨a, us, rfl, oka, la, ra⟩ := rd_list q₁
      obtain ⟨o, ho, hc, n, hd⟩ := la
      have hs : us.toArray.size ≤ sizeLine := by rw [List.size_toArray, ra.length]; exact few_size q
      refine call_list_seq (hsz := hs) a (.inl rfl) ho hc hd fun h' c' hk hD => ?_
      refine P.fresh O (tk := s.toks) hk ⟨s.heap.objs.size, us, rfl, size_none _, ⟨_, hD⟩, ?_⟩
      refine ra.mono fun b o q e => ⟨⟨q, fun z => ?_⟩, fun _ => hk b o e⟩
      subst z
      rw [size_none] at e; cases e
    · cases e
  · rename_i l
    split at e
    · rename_i ns q
      cases e
      obtain ⟨v, rfl, q₁⟩ := rdl_one s.heap rfl r
      obtain ⟨a, us, rfl, oka, la, ra⟩ := rd_list q₁
      have hi := ints_are q ra
      obtain ⟨ts, hx⟩ := hi.allInts.items
      have hn : numsOf us.toArray.toList = ns := by rw [show us.toArray.toList = us from rfl, hi.numsOf]
      rw [hx] at la hn
      rw [nums_intItems] at hn
      refine sum_intListG hh la fun h' tk t' hk => ?_
      rw [preSum_eq, List.take_of_length_le (by simp), hn, ← sumL_eq]
      exact P.int hk
    · cases e
  · rename_i a b
    cases e
    obtain ⟨v, t, rfl, q₁, q₂⟩ := r.uncons
    obtain ⟨u, t, rfl, q₃, q₄⟩ := q₂.uncons
    obtain rfl := q₄.unnil
    obtain ⟨t₁, rfl⟩ := rd_int q₁
    obtain ⟨t₂, rfl⟩ := rd_int q₃
    refine max_two_ints hh fun h' tk hk => ?_
    cases h : W.Z.ltB a b with
    | true =>
      rw [h] at P
      rw [if_pos ((W.Z.ltB_iff _ _).mp h)]
      exact P.int hk
    | false =>
      rw [h] at P
      rw [if_neg (fun z => by rw [(W.Z.ltB_iff _ _).mpr z] at h; cases h)]
      exact P.int hk
  · rename_i a
    cases e
    obtain ⟨v, rfl, q₁⟩ := rdl_one s.heap rfl r
    obtain ⟨t₁, rfl⟩ := rd_int q₁
    refine call_abs_int fun u tk => ?_
    cases h : W.Z.ltB a 0 with
    | true =>
      rw [h] at P
      rw [if_pos ((W.Z.ltB_iff _ _).mp h)]
      exact P.int (h' := s.heap) (.refl _)
    | false =>
      rw [h] at P
      rw [if_neg (fun z => by rw [(W.Z.ltB_iff _ _).mpr z] at h; cases h)]
      exact P.int (h' := s.heap) (.refl _)
  · rename_i a
    cases e
    obtain ⟨v, rfl, q₁⟩ := rdl_one s.heap rfl r
    obtain ⟨t₁, rfl⟩ := rd_int q₁
    exact call_int_int (P.int (h' := s.heap) (tk := s.toks) (.refl _))
  · rename_i b
    cases e
    obtain ⟨v, rfl, q₁⟩ := rdl_one s.heap rfl r
    rw [Rd] at q₁
    subst q₁
    refine call_int_bool ?_
    cases b
    · exact P.int (h' := s.heap) (.refl _)
    · exact P.int (h' := s.heap) (.refl _)
  · cases e
end

/-- a call of a function of the module, at these arguments -/
noncomputable def CallOK (X : Fix) (D : Nat) (f : Nat) (xs : List V) (x : V) : Prop :=
  (∃ d ∈ X.ds, d.name = X.nm f) ∧ ∀ (A : Around) (s : Shared) (ok : Addr → Prop) (a : Addr) (vs : List Value) (Q : Value → Shared → Prop), X.mg (X.nm f) = some (.ref a) → Room A D → Base X s.heap → OkF ok s.heap → RdL ok s.heap xs vs → Post false ok s x Q →
    wpAny (model X.prog X.w) A (call (.ref a) vs) Q NoE s

section
variable {X : Fix} {D : Nat} {nms : List (Nat × NameKind)} {r : Rho} {fr : Bool}
theorem ev_bi {b : Bi} {e : Ex} {es : List Ex} {xs : List V} {z : V} {pf p : Pos} (k : lk nms b.code = some .globalImplicit) (h : EvL X D nms r (unL X.nm (e :: es)) xs) (ez : biV b xs = some z) :
    EvE X D nms fr r (.Call (.Name (X.nm b.code) pf) (unL X.nm (e :: es)) [] p) z := fun env A s ok Q N R B O E P => by
  have fin : ∀ vs h' tk, Le s.heap h' → RdL ok h' xs vs → wpAny (model X.prog X.w) A (call (biCal b) vs) Q NoE { s with heap := h', toks := tk } := fun vs h' tk l q =>
    op_bi (fr := fr) (s := { s with heap := h', toks := tk }) R.handled ez q (O.le l) fun v h'' tk'' l' q' f' => P v h'' tk'' (l.trans l') q' fun z xs ex => (f' z xs ex).later l
  have hb := biCal_val b
  cases b with
  | len => exact call_bi hb k h N R B O E fin
  | list => exact call_type hb k h N R B O E fin
  | sum => exact call_bi hb k h N R B O E fin
  | max => exact call_bi hb k h N R B O E fin
  | abs => exact call_bi hb k h N R B O E fin
  | int => exact call_type hb k h N R B O E fin
theorem ev_len {e : Ex} {l : List V} {pf p : Pos} (k : lk nms 0 = some .globalImplicit) (h : EvC X D nms r (e.un X.nm) (.list l)) (hf : few l.length = true) :
    EvE X D nms fr r (.Call (.Name (X.nm 0) pf) [e.un X.nm] [] p) (.int l.length) := fun env A s ok Q N R B O E P => by
  refine Call_Name rfl (name_builtin N B k (biCal_val .len) ?_)
  refine callWith_builtin1 ?_ (star_cons X.nm e [] env) rfl
  rw [star_cons]
  refine spliced_cons (h env A s ok _ N R B O E fun v h₁ tk₁ l₁ c₁ => spliced_nil ?_)
  obtain ⟨a, vs, rfl, la, ra⟩ := cont_list c₁
  exact op_len (fr := fr) (ok := ok) (s := { s with heap := h₁, toks := tk₁ }) la ra.length hf fun v h'' tk'' l' q' f' => P v h'' tk'' (l₁.trans l') q' fun z xs ex => (f' z xs ex).later l₁

theorem Rd.atom {ok ok' : Addr → Prop} {h h' : Heap} {x : V} {v : Value} (ha : atomic x = true) (q : Rd ok h x v) : Rd ok' h' x v := by
  cases x <;> first | (simpa only [Rd] using q) | cases ha
theorem ev_call {f : Nat} {e : Ex} {es : List Ex} {xs : List V} {x : V} {pf p : Pos} (k : lk nms f = some .globalImplicit) (h : EvL X D nms r (unL X.nm (e :: es)) xs) (C : CallOK X D f xs x) :
    EvE X D nms false r (.Call (.Name (X.nm f) pf) (unL X.nm (e :: es)) [] p) x := fun env A s ok Q N R B O E P => by
  obtain ⟨⟨d, hd, hn⟩, go⟩ := C
  obtain ⟨a, o, pm, code, doc, h1, h2, h3, h4⟩ := B.fns d hd
  rw [hn] at h1
  refine Call_Name rfl (name_global N B k h1 ?_)
  refine callWith_def (o := o) h3 (h env A s ok p _ N R B O E fun vs h' tk l q => ⟨l _ _ h2, ?_⟩) (star_cons _ _ _ _)
  exact go A _ ok a vs Q h1 R (B.le l) (O.le l) q fun v h'' tk'' l' q' _ => P v h'' tk'' (l.trans l') q' fun z => by cases z
theorem ev_callF {f : Nat} {e : Ex} {es : List Ex} {xs : List V} {x : V} {pf p : Pos} (k : lk nms f = some .globalImplicit) (h : EvL X D nms (frz r) (unL X.nm (e :: es)) xs) (C : CallOK X D f xs x) (ha : atomic x = true) :
    EvE X D nms fr r (.Call (.Name (X.nm f) pf) (unL X.nm (e :: es)) [] p) x := fun env A s ok Q N R B O E P => by
  refine ev_call k h C env A s (fun _ => True) Q N R B (fun _ _ => trivial) E.frz fun v h' tk l q _ => P v h' tk l (q.atom ha) fun _ xs ex => ?_
  subst ex; cases ha
end
end Mine
end
section
open PySem PySem.Calls PyProof.Rows
set_option maxRecDepth 4000
namespace Mine

/-- kept but for these -/
noncomputable def Kb (T : Addr → Prop) (h h' : Heap) : Prop := ∀ b o, ¬ T b → h.get? b = some o → h'.get? b = some o
theorem Kb.refl {T : Addr → Prop} (h : Heap) : Kb T h h := fun _ _ _ e => e
theorem Kb.trans {T : Addr → Prop} {h₁ h₂ h₃ : Heap} (a : Kb T h₁ h₂) (b : Kb T h₂ h₃) : Kb T h₁ h₃ := fun x o n e => b x o n (a x o n e)
theorem Le.kb {T : Addr → Prop} {h h' : Heap} (l : Le h h') : Kb T h h' := fun b o _ e => l b o e
theorem Kb.wk {T U : Addr → Prop} {h h' : Heap} (k : Kb T h h') (s : ∀ b, T b → U b) : Kb U h h' := fun b o n e => k b o (fun t => n (s b t)) e
theorem Kb.same {T : Addr → Prop} {h h' : Heap} {a : Addr} (s : Heap.SameBut a h h') (t : T a) : Kb T h h' := fun b o n e => s.extBut b o (fun z => n (z ▸ t)) e

/-- the part of a frame that it writes: its names, its own cells -/
structure Lay (env : Env) (own : Str → Option Addr) (m cm : Str → Option Value) (h : Heap) : Prop where
  ns : h.Ns env.locals m
  cel : ∀ n c, own n = some c → h.IsCell c (cm n)
structure LayC (env : Env) (own : Str → Option Addr) : Prop where
  kind : env.scope.kind = .function
  sub : ∀ n c, own n = some c → env.cells.lookup n = some c
  dif : ∀ n c n' c', own n = some c → own n' = some c' → n ≠ n' → c ≠ c'
noncomputable def Tch (env : Env) (own : Str → Option Addr) (b : Addr) : Prop := b = env.locals ∨ ∃ n, own n = some b
noncomputable def StNm (env : Env) (own : Str → Option Addr) (n : Str) : Prop := env.kindOf n = some .local ∨ (env.kindOf n = some .cell ∧ ∃ c, own n = some c)
noncomputable def vl (env : Env) (m cm : Str → Option Value) (y : Str) : Option Value := if env.kindOf y = some .local then m y else cm y

theorem ns_ne_cell {h : Heap} {a c : Addr} {m : Str → Option Value} {v : Option Value} (n : h.Ns a m) (x : h.IsCell c v) : c ≠ a := fun z => by
  subst z
  obtain ⟨o, es, ep, e, d, _⟩ := n
  obtain ⟨o', e', d'⟩ := x
  rw [e] at e'; cases e'
  rw [d] at d'; cases d'
theorem Lay.kb {env : Env} {own : Str → Option Addr} {m cm : Str → Option Value} {h h' : Heap} {T : Addr → Prop} (L : Lay env own m cm h) (k : Kb T h h') (n : ∀ b, T b → ¬ Tch env own b) : Lay env own m cm h' :=
  ⟨L.ns.at fun o e => k _ o (fun t => n _ t (.inl rfl)) e, fun x c e => by
    obtain ⟨o, ho, hd⟩ := L.cel x c e
    exact ⟨o, k _ o (fun t => n _ t (.inr ⟨x, e⟩)) ho, hd⟩⟩
theorem Lay.le {env : Env} {own : Str → Option Addr} {m cm : Str → Option Value} {h h' : Heap} (L : Lay env own m cm h) (l : Le h h') : Lay env own m cm h' := L.kb (T := fun _ => False) l.kb fun _ z => z.elim
theorem Lay.sees {env : Env} {own : Str → Option Addr} {m cm : Str → Option Value} {h : Heap} (L : Lay env own m cm h) (C : LayC env own) {n : Str} {v : Value} (k : StNm env own n) (e : vl env m cm n = some v) : Sees h env n v := by
  rcases k with k | ⟨k, c, hc⟩
  · rw [vl, if_pos k] at e
    exact .inl ⟨k, m, L.ns, e⟩
  · rw [vl, if_neg (by rw [k]; intro z; cases z)] at e
    exact .inr ⟨.inl k, c, C.sub n c hc, e ▸ L.cel n c hc⟩

section
variable {M : Model} {A : Around} {E : Value → Shared → Prop} {s : Shared} {env : Env} {own : Str → Option Addr} {m cm : Str → Option Value}
theorem lay_store {n : Str} {v : Value} {Q : Unit → Shared → Prop} (C : LayC env own) (L : Lay env own m cm s.heap) (k : StNm env own n)
    (K : ∀ h' tk m' cm', Lay env own m' cm' h' → Kb (Tch env own) s.heap h' → (∀ y, vl env m' cm' y = if y = n then some v else vl env m cm y) → Q () { s with heap := h', toks := tk }) : wpAny M A (storeName env n v) Q E s := by
  rcases k with k | ⟨k, c, hc⟩
  · refine wpAny_storeName_local k L.ns (fun h' hn hs => K h' _ _ cm ⟨hn, fun x c e => ?_⟩ (.same hs (.inl rfl)) fun y => ?_) (by rw [C.kind]; rfl)
    · exact (L.cel x c e).sameBut hs (ns_ne_cell L.ns (L.cel x c e))
    · unfold vl
      by_cases z : y = n
      · subst z; simp [k]
      · simp [z]
  · refine wpAny_storeName_cell C.kind k (C.sub n c hc) (L.cel n c hc) fun h' hc' hs => K h' s.toks m (fun y => if y = n then some v else cm y) ⟨?_, fun x c' e => ?_⟩ (.same hs (.inr ⟨n, hc⟩)) fun y => ?_
    · exact L.ns.sameBut hs (ns_ne_cell L.ns (L.cel n c hc)).symm
    · by_cases z : x = n
      · subst z
        rw [hc] at e; cases e
        rw [if_pos rfl]; exact hc'
      · rw [if_neg z]
        exact (L.cel x c' e).sameBut hs (C.dif x c' n c e hc z)
    · unfold vl
      by_cases z : y = n
      · subst z; simp [k]
      · simp [z]
end

section
variable {prog : Program} {w : World} {A : Around} {E : Value → Shared → Prop} {s : Shared} {env : Env} {own : Str → Option Addr} {m cm : Str → Option Value}
theorem asg_one {n : Str} {p : Pos} {v : Value} {Q : Unit → Shared → Prop} (C : LayC env own) (L : Lay env own m cm s.heap) (k : StNm env own n)
    (K : ∀ h' tk m' cm', Lay env own m' cm' h' → Kb (Tch env own) s.heap h' → (∀ y, vl env m' cm' y = if y = n then some v else vl env m cm y) → Q () { s with heap := h', toks := tk }) :
    wpAny (model prog w) A (assign (.Name n p) env v) Q E s := wpAny_assign_Name (lay_store C L k K)
theorem asg_two {x y : Str} {px py p : Pos} {i : Nat} {T : Addr} {v u : Value} {Q : Unit → Shared → Prop} (hh : A.handled = .none) (hT : s.heap.IsTuple T #[v, u]) (C : LayC env own) (L : Lay env own m cm s.heap) (kx : StNm env own x) (ky : StNm env own y)
    (K : ∀ h' tk m' cm', Lay env own m' cm' h' → Kb (Tch env own) s.heap h' → (∀ z, vl env m' cm' z = if z = y then some u else if z = x then some v else vl env m cm z) → Q () { s with heap := h', toks := tk }) :
    wpAny (model prog w) A (assign (.Tuple [.Name x px, .Name y py] i p) env (.ref T)) Q E s := by
  refine wpAny_assign_Tuple hh hT (by rfl) (by rfl) fun h₁ e₁ => ?_
  have l₁ : Le s.heap h₁ := Le.ext e₁ (size_none _)
  show wpAny _ A (do holding [u] (assign (.Name x px) env v); assignInOrder [assign (.Name y py) env] [u]) Q E { s with heap := h₁ }
  refine wpAny_bind (wpAny_holding (asg_one C (L.le l₁) kx fun h₂ tk₂ m₂ cm₂ L₂ K₂ V₂ => ?_))
  show wpAny _ A (do holding [] (assign (.Name y py) env u); assignInOrder [] []) Q E _
  refine wpAny_bind (wpAny_holding (asg_one C L₂ ky fun h₃ tk₃ m₃ cm₃ L₃ K₃ V₃ => wpAny_pure ?_))
  refine K h₃ tk₃ m₃ cm₃ L₃ (fun b o n e => K₃ b o n (K₂ b o n (l₁ b o e))) fun z => ?_
  rw [V₃, V₂]
end
end Mine
end
section
open PySem PySem.Calls PyProof.Rows
set_option maxRecDepth 4000
namespace Mine

theorem cells_app : ∀ (names : List (Str × NameKind)) (n : Nat) (a b : List (Str × Addr)), cellsFrom n names (a ++ b) = cellsFrom n names a ++ b
  | [], _, _, _ => rfl
  | (x, k) :: r, n, a, b => by
    unfold cellsFrom
    split
    · exact cells_app r (n + 1) ((x, n) :: a) b
    · exact cells_app r n a b
theorem cells_has : ∀ (names : List (Str × NameKind)) (n : Nat) (acc : List (Str × Addr)) (x : Str), (acc.lookup x).isSome = true ∨ (x, NameKind.cell) ∈ names → ((cellsFrom n names acc).lookup x).isSome = true
  | [], _, _, _, h => by
    rcases h with h | h
    · exact h
    · cases h
  | (y, k) :: r, n, acc, x, h => by
    unfold cellsFrom
    split
    · rename_i hk
      refine cells_has r (n + 1) _ x ?_
      rcases h with h | h
      · left
        rw [List.lookup_cons]
        split <;> simp_all
      · rcases List.mem_cons.mp h with h | h
        · cases h; left; simp
        · exact .inr h
    · rename_i hk
      refine cells_has r n _ x ?_
      rcases h with h | h
      · exact .inl h
      · rcases List.mem_cons.mp h with h | h
        · cases h; exact absurd rfl hk
        · exact .inr h
theorem cells_mem : ∀ (names : List (Str × NameKind)) (n : Nat) (acc : List (Str × Addr)) (x : Str) (c : Addr), (x, c) ∈ cellsFrom n names acc → (x, c) ∈ acc ∨ (x, NameKind.cell) ∈ names
  | [], _, _, _, _, h => .inl h
  | (y, k) :: r, n, acc, x, c, h => by
    unfold cellsFrom at h
    split at h
    · rename_i hk
      have hk' : k = .cell := by simpa using hk
      rcases cells_mem r _ _ x c h with h | h
      · rcases List.mem_cons.mp h with h | h
        · cases h; subst hk'; exact .inr List.mem_cons_self
        · exact .inl h
      · exact .inr (List.mem_cons_of_mem _ h)
    · rcases cells_mem r _ _ x c h with h | h
      · exact .inl h
      · exact .inr (List.mem_cons_of_mem _ h)

noncomputable def closL (env : Env) : List (Str × NameKind) → List (Str × Addr) → List (Str × Addr)
  | [], acc => acc
  | (x, k) :: r, acc => if k == .free then closL env r ((x, (env.cells.lookup x).getD 0) :: acc) else closL env r acc
theorem clos_eq {scope : Scope} {env : Env} (h : ∀ x ∈ scope.names, x.2 = .free → ∃ c, env.cells.lookup x.1 = some c) : closureFor scope env = pure (closL env scope.names []) := by
  simp only [closureFor]
  have go : ∀ (l : List (Str × NameKind)) (acc : List (Str × Addr)), (∀ x ∈ l, x.2 = .free → ∃ c, env.cells.lookup x.1 = some c) →
      (forIn l acc fun (x : Str × NameKind) cs => if (x.2 == NameKind.free) = true then do let a ← cellOf env x.1; pure (ForInStep.yield ((x.1, a) :: cs)) else pure (ForInStep.yield cs) : Sem _) = pure (closL env l acc) := by
    intro l
    induction l with
    | nil => intro acc _; rfl
    | cons x r ih =>
      obtain ⟨x, k⟩ := x
      intro acc hl
      rw [List.forIn_cons]
      unfold closL
      cases hk : k == NameKind.free with
      | true =>
        obtain ⟨c, hc⟩ := hl (x, k) List.mem_cons_self (by simpa using hk)
        simp only [cellOf, hc, if_true, Option.getD_some, pure_bind]
        exact ih _ fun y hy => hl y (List.mem_cons_of_mem _ hy)
      | false =>
        simp only [Bool.false_eq_true, if_false, pure_bind]
        exact ih _ fun y hy => hl y (List.mem_cons_of_mem _ hy)
  have := go scope.names [] h
  simpa using this
theorem clos_look (env : Env) : ∀ (l : List (Str × NameKind)) (acc : List (Str × Addr)), (∀ x ∈ l, x.2 = .free → ∃ c, env.cells.lookup x.1 = some c) → (∀ y d, acc.lookup y = some d → env.cells.lookup y = some d) →
    (∀ y d, (closL env l acc).lookup y = some d → env.cells.lookup y = some d) ∧ (∀ y, (acc.lookup y).isSome = true ∨ (y, NameKind.free) ∈ l → ((closL env l acc).lookup y).isSome = true)
  | [], acc, _, ha => ⟨ha, fun y h => by
    rcases h with h | h
    · exact h
    · cases h⟩
  | (x, k) :: r, acc, hl, ha => by
    unfold closL
    have hr : ∀ x ∈ r, x.2 = .free → ∃ c, env.cells.lookup x.1 = some c := fun y hy => hl y (List.mem_cons_of_mem _ hy)
    split
    · rename_i hk
      obtain ⟨c, hc⟩ := hl (x, k) List.mem_cons_self (by simpa using hk)
      rw [show (env.cells.lookup x).getD 0 = c by rw [hc]; rfl]
      have ih := clos_look env r ((x, c) :: acc) hr fun y d e => by
        rw [List.lookup_cons] at e
        split at e
        · rename_i q
          cases e
          rw [beq_iff_eq.mp q]; exact hc
        · exact ha y d e
      refine ⟨ih.1, fun y h => ih.2 y ?_⟩
      rcases h with h | h
      · left
        rw [List.lookup_cons]
        split <;> simp_all
      · rcases List.mem_cons.mp h with h | h
        · cases h; left; simp
        · exact .inr h
    · rename_i hk
      have ih := clos_look env r acc hr ha
      refine ⟨ih.1, fun y h => ih.2 y ?_⟩
      rcases h with h | h
      · exact .inl h
      · rcases List.mem_cons.mp h with h | h
        · cases h; exact absurd rfl hk
        · exact .inr h

section
variable {M : Model} {A : Around} {E : Value → Shared → Prop} {s : Shared}
theorem comp_env {scope : Scope} {env : Env} {cl : List (Str × Addr)} {Q : Env → Shared → Prop}
    (K : ∀ h', Le s.heap h' → h'.Ns s.heap.objs.size (fun _ => .none) → CellsOk h' (s.heap.objs.size + 1) (cellsFrom (s.heap.objs.size + 1) scope.names []) →
      Q { scope := scope, locals := s.heap.objs.size, globals := env.globals, cells := cellsFrom (s.heap.objs.size + 1) scope.names [] ++ cl, qual := env.qual, func := .none, code := env.code, frame := env.frame, builtins := env.builtins } { s with heap := h' }) :
    wpAny M A (newFunctionEnv scope env.globals cl [] env.qual .none .none (some env)) Q E s := by
  simp only [newFunctionEnv, Option.isSome_some, if_true]
  refine wpAny_bind (wpAny_alloc ?_)
  refine wpAny_bind (wpAny_layCells _ (fun name kind cells => by cases hkc : kind == NameKind.cell <;> simp [hkc]) _ _ _ _ ?_)
  have ok := cellsFrom_ok scope.names (s.heap.push { cls := .type "dict", data := .dict #[] }) (s.heap.objs.size + 1) [] ⟨fun _ _ hm => (nomatch hm), List.Pairwise.nil⟩ (by rw [Heap.size_push]; exact Nat.le_refl _)
  rw [Heap.size_push] at ok
  rw [show ({ s with heap := s.heap.push { cls := .type "dict", data := .dict #[] } } : Shared).heap.objs.size = s.heap.objs.size + 1 from Heap.size_push ..]
  rw [List.forIn_nil]
  refine wpAny_bind (wpAny_pure (wpAny_pure ?_))
  have := K _ (fun b o e => pushCells_keeps _ _ b o (Heap.get?_push_of_some _ e)) ((Heap.Ns.new s.heap (.type "dict")).keeps (pushCells_keeps _ _)) ok
  rw [← cells_app, List.nil_append] at this
  exact this
end

/-- the names of a comprehension, as its enclosing frame makes them -/
noncomputable def rel (nms sc : List (Nat × NameKind)) : List (Nat × NameKind) := sc.map fun q => (q.1, match q.2 with
  | .free => (match lk nms q.1 with
    | some .cell => .cell
    | _ => .free)
  | k => k)
theorem rel_un {X : Fix} {env : Env} {nms : List (Nat × NameKind)} (N : EnvN X env nms) (sc : List (Nat × NameKind)) : (relabel (unScope X.nm sc) env).names = unNames X.nm (rel nms sc) := by
  unfold relabel unScope unNames rel
  simp only [List.map_map]
  refine List.map_congr_left fun q hq => ?_
  simp only [Function.comp]
  rw [N.kind, N.kindOf]
  obtain ⟨i, k⟩ := q
  cases k <;> simp
  cases h : lk nms i with
  | none => rfl
  | some k => cases k <;> rfl
noncomputable def relK (nms : List (Nat × NameKind)) (i : Nat) : Option NameKind → Option NameKind
  | some .free => (match lk nms i with
    | some .cell => some .cell
    | _ => some .free)
  | k => k
theorem lk_rel (nms : List (Nat × NameKind)) : ∀ (sc : List (Nat × NameKind)) (i : Nat), lk (rel nms sc) i = relK nms i (lk sc i)
  | [], _ => rfl
  | p :: r, i => by
    show lk ((p.1, _) :: rel nms r) i = _
    rw [lk_cons, lk_cons, lk_rel nms r i]
    by_cases h : p.1 = i
    · subst h
      simp only [if_pos]
      obtain ⟨j, k⟩ := p
      cases k <;> simp [relK]
      cases h : lk nms j with
      | none => rfl
      | some k => cases k <;> rfl
    · simp [h]
end Mine
end
section
open PySem PySem.Calls PyProof.Rows
set_option maxRecDepth 4000
namespace Mine

theorem lk_mem : ∀ {l : List (Nat × NameKind)} {i : Nat} {k : NameKind}, lk l i = some k → (i, k) ∈ l
  | [], _, _, e => by cases e
  | p :: r, i, k, e => by
    rw [lk_cons] at e
    by_cases h : p.1 = i
    · rw [if_pos h] at e
      cases e; subst h
      exact List.mem_cons_self
    · rw [if_neg h] at e
      exact List.mem_cons_of_mem _ (lk_mem e)
theorem mem_un {nm : Nat → Str} {l : List (Nat × NameKind)} {q : Nat × NameKind} (h : q ∈ l) : (nm q.1, q.2) ∈ unNames nm l := List.mem_map.mpr ⟨q, h, rfl⟩
theorem un_mem {nm : Nat → Str} {l : List (Nat × NameKind)} {x : Str × NameKind} (h : x ∈ unNames nm l) : ∃ q ∈ l, x = (nm q.1, q.2) := let ⟨q, a, b⟩ := List.mem_map.mp h; ⟨q, a, b.symm⟩

noncomputable def TgWF (sc : List (Nat × NameKind)) : Tg → Prop
  | .one i _ => lk sc i = some .local ∨ lk sc i = some .cell
  | .two i j _ _ _ _ => i ≠ j ∧ (lk sc i = some .local ∨ lk sc i = some .cell) ∧ (lk sc j = some .local ∨ lk sc j = some .cell)
structure CompWF (nms sc : List (Nat × NameKind)) (tg : Tg) (fv : List Nat) : Prop where
  nd : ∀ q ∈ sc, lk sc q.1 = some q.2
  fr : ∀ q ∈ sc, q.2 = .free → lk nms q.1 = some .cell ∨ lk nms q.1 = some .free
  tg : TgWF sc tg
  fv : ∀ i ∈ fv, lk sc i = some .free

noncomputable def cEnv (X : Fix) (env : Env) (sc : List (Nat × NameKind)) (C : Addr) : Env :=
  { scope := relabel (unScope X.nm sc) env, locals := C, globals := env.globals, cells := cellsFrom (C + 1) (unNames X.nm sc) [] ++ closL env (unNames X.nm sc) [], qual := env.qual, func := .none, code := env.code, frame := env.frame, builtins := env.builtins }
noncomputable def cOwn (X : Fix) (sc : List (Nat × NameKind)) (C : Addr) (n : Str) : Option Addr := (cellsFrom (C + 1) (unNames X.nm sc) []).lookup n

section
variable {X : Fix} {nms sc : List (Nat × NameKind)} {tg : Tg} {fv : List Nat} {env : Env} {C : Addr}
theorem comp_free (N : EnvN X env nms) (W : CompWF nms sc tg fv) : ∀ x ∈ unNames X.nm sc, x.2 = .free → ∃ c, env.cells.lookup x.1 = some c := fun x hx hk => by
  obtain ⟨q, hq, rfl⟩ := un_mem hx
  exact N.cells q.1 (W.fr q hq hk)
theorem cEnv_look (N : EnvN X env nms) (W : CompWF nms sc tg fv) {i : Nat} (hi : lk sc i = some .free) {c : Addr} (hc : env.cells.lookup (X.nm i) = some c) : (cEnv X env sc C).cells.lookup (X.nm i) = some c := by
  show (cellsFrom (C + 1) (unNames X.nm sc) [] ++ closL env (unNames X.nm sc) []).lookup (X.nm i) = some c
  rw [List.lookup_append]
  have h1 : (cellsFrom (C + 1) (unNames X.nm sc) []).lookup (X.nm i) = .none := by
    cases e : (cellsFrom (C + 1) (unNames X.nm sc) []).lookup (X.nm i) with
    | none => rfl
    | some d =>
      rcases cells_mem _ _ _ _ _ (mem_of_lookup e) with h | h
      · cases h
      · obtain ⟨q, hq, e⟩ := un_mem h
        obtain ⟨e1, e2⟩ := Prod.mk.inj e
        have := W.nd q hq
        rw [← X.inj _ _ e1, hi, ← e2] at this
        cases this
  have h2 := clos_look env (unNames X.nm sc) [] (comp_free N W) fun y d e => by cases e
  have h3 := h2.2 (X.nm i) (.inr (mem_un (lk_mem hi)))
  obtain ⟨d, hd⟩ := Option.isSome_iff_exists.mp h3
  have := h2.1 _ _ hd
  rw [hc] at this; cases this
  rw [h1, hd]; rfl
theorem cEnv_own {i : Nat} (hi : lk sc i = some .cell) : ∃ c, cOwn X sc C (X.nm i) = some c :=
  Option.isSome_iff_exists.mp (cells_has _ _ _ _ (.inr (mem_un (lk_mem hi))))
theorem cEnv_own_sub {n : Str} {c : Addr} (h : cOwn X sc C n = some c) : (cEnv X env sc C).cells.lookup n = some c := by
  show (cellsFrom (C + 1) (unNames X.nm sc) [] ++ closL env (unNames X.nm sc) []).lookup n = some c
  rw [List.lookup_append]
  unfold cOwn at h
  rw [h]; rfl
theorem cEnv_kind (N : EnvN X env nms) (i : Nat) : (cEnv X env sc C).kindOf (X.nm i) = lk (rel nms sc) i := by
  unfold Env.kindOf
  show (relabel (unScope X.nm sc) env).names.lookup _ = _
  rw [rel_un N, lookup_un]
theorem cEnv_N (N : EnvN X env nms) (W : CompWF nms sc tg fv) : EnvN X (cEnv X env sc C) (rel nms sc) where
  kind := rfl
  names := rel_un N sc
  globals := N.globals
  builtins := N.builtins
  cells := fun i h => by
    rw [lk_rel] at h
    have key : lk sc i = some .cell ∨ lk sc i = some .free := by
      cases e : lk sc i with
      | none => rw [e] at h; rcases h with h | h <;> cases h
      | some k => rw [e] at h; cases k <;> simp_all [relK]
    rcases key with k | k
    · obtain ⟨c, hc⟩ := cEnv_own (X := X) (C := C) k
      exact ⟨c, cEnv_own_sub hc⟩
    · obtain ⟨c, hc⟩ := N.cells i (W.fr (i, .free) (lk_mem k) rfl)
      exact ⟨c, cEnv_look N W k hc⟩
theorem cEnv_C {h : Heap} (K : CellsOk h (C + 1) (cellsFrom (C + 1) (unNames X.nm sc) [])) : LayC (cEnv X env sc C) (cOwn X sc C) where
  kind := rfl
  sub := fun n c h => cEnv_own_sub h
  dif := fun n c n' c' a b hn z => hn (name_of_addr K.apart (mem_of_lookup a) (z ▸ mem_of_lookup b))
theorem cEnv_st (N : EnvN X env nms) {i : Nat} (h : lk sc i = some .local ∨ lk sc i = some .cell) : StNm (cEnv X env sc C) (cOwn X sc C) (X.nm i) := by
  rcases h with h | h
  · exact .inl (by rw [cEnv_kind N, lk_rel, h]; rfl)
  · exact .inr ⟨by rw [cEnv_kind N, lk_rel, h]; rfl, cEnv_own h⟩
theorem cEnv_sees (N : EnvN X env nms) (W : CompWF nms sc tg fv) {i : Nat} (hi : lk sc i = some .free) {h : Heap} {v : Value} (S : Sees h env (X.nm i) v) : Sees h (cEnv X env sc C) (X.nm i) v := by
  have hk := W.fr (i, .free) (lk_mem hi) rfl
  rcases S with ⟨a, _⟩ | ⟨_, c, hc, hx⟩
  · rw [N.kindOf] at a
    rcases hk with hk | hk <;> (rw [a] at hk; cases hk)
  · refine .inr ⟨?_, c, cEnv_look N W hi hc, hx⟩
    rw [cEnv_kind N, lk_rel, hi]
    rcases hk with hk | hk
    · left; simp only [relK]; rw [hk]
    · right; simp only [relK]; rw [hk]
end

theorem get_pick {r : Rho} : ∀ {fv : List Nat} {i : Nat} {s : Sl}, get (pick r fv) i = some s → i ∈ fv ∧ get r i = some s
  | [], _, _, e => by cases e
  | j :: fv, i, s, e => by
    unfold pick at e
    split at e
    · rename_i q hq
      rw [get_cons] at e
      by_cases h : j = i
      · rw [if_pos h] at e; cases e; subst h
        exact ⟨List.mem_cons_self, hq⟩
      · rw [if_neg h] at e
        have := get_pick e
        exact ⟨List.mem_cons_of_mem _ this.1, this.2⟩
    · have := get_pick e
      exact ⟨List.mem_cons_of_mem _ this.1, this.2⟩
theorem off_dom {ok : Addr → Prop} {h : Heap} {dv : List Addr} (hD : ∀ a ∈ dv, h.get? a = .none) : ∀ a, (ok a ∧ ∃ o, h.get? a = some o) → ok a ∧ a ∉ dv := fun a q => ⟨q.1, fun z => by obtain ⟨o, e⟩ := q.2; rw [hD a z] at e; cases e⟩
theorem SlOK.dom {ok : Addr → Prop} {env : Env} {h : Heap} {x : Str} {dv : List Addr} (hD : ∀ a ∈ dv, h.get? a = .none) {sl : Sl} (S : SlOK ok env h x sl) : SlOK (fun b => ok b ∧ b ∉ dv) env h x sl := by
  cases sl with
  | sh V => obtain ⟨v, a, b⟩ := S; exact ⟨v, a, b.dom.wk (off_dom hD)⟩
  | ow xs => obtain ⟨a, vs, b, c, d⟩ := S; exact ⟨a, vs, b, c, d.dom.wk (off_dom hD)⟩
theorem rd_dom_ne {ok : Addr → Prop} {h : Heap} {dv : List Addr} (hD : ∀ a ∈ dv, h.get? a = .none) {x : V} {v : Value} (r : Rd ok h x v) : Rd (fun b => ok b ∧ b ∉ dv) h x v := r.dom.wk (off_dom hD)
theorem comp_fv {X : Fix} {nms sc : List (Nat × NameKind)} {tg : Tg} {fv : List Nat} {env : Env} {C : Addr} {dv : List Addr} {ok : Addr → Prop} {r : Rho} {h : Heap} (N : EnvN X env nms) (W : CompWF nms sc tg fv) (hD : ∀ a ∈ dv, h.get? a = .none) (E : EnvOK X ok env r h) :
    EnvOK X (fun b => ok b ∧ b ∉ dv) (cEnv X env sc C) (pick r fv) h := fun i sl e => by
  obtain ⟨hi, e⟩ := get_pick e
  have hf := W.fv i hi
  have S := (E i sl e).dom hD
  cases sl with
  | sh V => obtain ⟨v, a, b⟩ := S; exact ⟨v, cEnv_sees N W hf a, b⟩
  | ow xs => obtain ⟨a, vs, b, c, d⟩ := S; exact ⟨a, vs, cEnv_sees N W hf b, c, d⟩
theorem EnvOK.cons {X : Fix} {ok : Addr → Prop} {env : Env} {r : Rho} {h : Heap} {i : Nat} {x : V} {v : Value} (E : EnvOK X ok env r h) (S : Sees h env (X.nm i) v) (q : Rd ok h x v) : EnvOK X ok env ((i, .sh x) :: r) h := fun j sl e => by
  rw [get_cons] at e
  by_cases z : i = j
  · rw [if_pos z] at e
    cases e; subst z
    exact ⟨v, S, q⟩
  · rw [if_neg z] at e
    exact E j sl e

theorem mapE_cons {ih : EvFn} {elt : Ex} {tg : Tg} {r : Rho} {x : V} {t l : List V} (e : mapE ih elt tg r (x :: t) = some l) : ∃ r' v vs, tg.bind r x = some r' ∧ ih r' elt = some v ∧ mapE ih elt tg r t = some vs ∧ l = v :: vs := by
  unfold mapE at e
  split at e
  · rename_i r' h1
    split at e
    · rename_i v h2
      split at e
      · rename_i vs h3
        cases e
        exact ⟨r', v, vs, h1, h2, h3, rfl⟩
      · cases e
    · cases e
  · cases e
end Mine
end
section
open PySem PySem.Calls PyProof.Rows
set_option maxRecDepth 4000
namespace Mine

theorem ns_ne_list {h : Heap} {a b : Addr} {m : Str → Option Value} {vs : Array Value} (n : h.Ns a m) (x : h.IsList b vs) : b ≠ a := fun z => by
  subst z
  obtain ⟨o, es, ep, e, d, _⟩ := n
  obtain ⟨o', e', _, _, d'⟩ := x
  rw [e] at e'; cases e'
  rw [d] at d'; cases d'
theorem cell_ne_list {h : Heap} {c b : Addr} {v : Option Value} {vs : Array Value} (n : h.IsCell c v) (x : h.IsList b vs) : b ≠ c := fun z => by
  subst z
  obtain ⟨o, e, d⟩ := n
  obtain ⟨o', e', _, _, d'⟩ := x
  rw [e] at e'; cases e'
  rw [d] at d'; cases d'
theorem Lay.not_list {env : Env} {own : Str → Option Addr} {m cm : Str → Option Value} {h : Heap} (L : Lay env own m cm h) {b : Addr} {vs : Array Value} (x : h.IsList b vs) : ¬ Tch env own b := fun t => by
  rcases t with t | ⟨n, t⟩
  · exact ns_ne_list L.ns x t
  · exact cell_ne_list (L.cel n b t) x rfl

structure CI (cenv : Env) (own : Str → Option Addr) (D : Addr) (dv : List Addr) (ok : Addr → Prop) (Hb : Heap) (done : List V) (h : Heap) : Prop where
  lay : ∃ m cm, Lay cenv own m cm h
  acc : ∃ vs, h.PlainList D (List.toArray vs) ∧ RdL (fun b => ok b ∧ b ∉ dv) h done vs
  le : Le Hb h
theorem CI.kb {cenv : Env} {own : Str → Option Addr} {D : Addr} {dv : List Addr} {ok : Addr → Prop} {Hb : Heap} {done : List V} {h h' : Heap} {T : Addr → Prop} (c : CI cenv own D dv ok Hb done h) (k : Kb T h h') (hD : ¬ T D) (ht : ∀ b, T b → ¬ Tch cenv own b) (hb : Le Hb h')
    (hr : ∀ b, T b → b ∈ dv) : CI cenv own D dv ok Hb done h' where
  lay := by obtain ⟨m, cm, L⟩ := c.lay; exact ⟨m, cm, L.kb k ht⟩
  acc := by
    obtain ⟨vs, la, ra⟩ := c.acc
    exact ⟨vs, la.at fun o e => k D o hD e, ra.mono fun a o q e => ⟨q, fun _ => k a o (fun t => q.2 (hr a t)) e⟩⟩
  le := hb

section
variable {X : Fix} {A : Around} {Dp : Nat} {s : Shared} {ok : Addr → Prop} {Hb : Heap} {D : Addr} {dv : List Addr} {own : Str → Option Addr} {cenv : Env}
theorem comp_step {elt : Expr} {nms' : List (Nat × NameKind)} {r' : Rho} {x' : V} {done : List V} {Q : Shared → Prop} (N' : EnvN X cenv nms') (R : Room A Dp) (B : Base X Hb) (O : OkF ok Hb) (hD : Hb.get? D = .none) (hdv : D ∈ dv) (hex : ∀ a ∈ dv, ∃ o, s.heap.get? a = some o)
    (E : EnvOK X (fun b => ok b ∧ b ∉ dv) cenv r' s.heap) (hs : EvE X Dp nms' false r' elt x') (c : CI cenv own D dv ok Hb done s.heap) (hsz : done.length ≤ 10000)
    (K : ∀ h' tk, CI cenv own D dv ok Hb (done ++ [x']) h' → Kb (· = D) s.heap h' → Q { s with heap := h', toks := tk }) :
    wpAny (model X.prog X.w) A (eval elt cenv) (fun v s₃ => wpAny (model X.prog X.w) A (call (.builtin "list.append") [.ref D, v]) (fun _ s₄ => Q s₄) NoE s₃) NoE s := by
  obtain ⟨vs, la, ra⟩ := c.acc
  have O' : OkF (fun b => ok b ∧ b ∉ dv) s.heap := fun a e => ⟨(O.le c.le) a e, fun z => by obtain ⟨o, q⟩ := hex a z; rw [e] at q; cases q⟩
  refine hs cenv A s _ _ N' R (B.le c.le) O' E fun v h₁ tk₁ l₁ r₁ _ => ?_
  have la₁ : h₁.PlainList D vs.toArray := la.at fun o e => l₁ D o e
  refine wpAny_list_append_plain la₁ (fun h₂ la₂ s₂ => ?_) (by rw [List.size_toArray, ra.length, sizeLine_eq]; omega)
  obtain ⟨m, cm, L⟩ := c.lay
  have k₂ : Kb (· = D) h₁ h₂ := .same s₂ rfl
  refine K h₂ tk₁ ⟨⟨m, cm, (L.le l₁).kb k₂ fun b e => ?_⟩, ⟨vs ++ [v], ?_, ?_⟩, fun b o e => ?_⟩ fun b o n e => k₂ b o n (l₁ b o e)
  · subst e; exact (L.le l₁).not_list la₁.isList
  · simpa using la₂
  · exact ((ra.le l₁).append (.cons r₁ .nil)).mono fun a o q e => ⟨q, fun _ => k₂ a o (fun z => q.2 (z ▸ hdv)) e⟩
  · exact k₂ b o (fun z => by subst z; rw [hD] at e; cases e) (l₁ b o (c.le b o e))

variable {env : Env} {nms sc : List (Nat × NameKind)} {fv : List Nat} {C : Addr} {wr : List Addr} {r : Rho}
/-- what stands around a comprehension's loop -/
structure CompCtx (X : Fix) (A : Around) (Dp : Nat) (env : Env) (nms sc : List (Nat × NameKind)) (tg : Tg) (fv : List Nat) (C D : Addr) (Hb : Heap) (ok : Addr → Prop) (wr : List Addr) (r : Rho) : Prop where
  N : EnvN X env nms
  W : CompWF nms sc tg fv
  L : LayC (cEnv X env sc C) (cOwn X sc C)
  R : Room A Dp
  B : Base X Hb
  O : OkF ok Hb
  hD : Hb.get? D = .none
  w0 : ∀ b ∈ wr, Hb.get? b = .none
  wD : D ∉ wr
  wT : ∀ b ∈ wr, ¬ Tch (cEnv X env sc C) (cOwn X sc C) b
  tD : ¬ Tch (cEnv X env sc C) (cOwn X sc C) D
  hT : ∀ b, Tch (cEnv X env sc C) (cOwn X sc C) b → Hb.get? b = .none
  E : EnvOK X (fun b => ok b ∧ b ∉ D :: wr) (cEnv X env sc C) (pick r fv) Hb
end

theorem tch_data {env : Env} {own : Str → Option Addr} {m cm : Str → Option Value} {h : Heap} (L : Lay env own m cm h) {b : Addr} {o : Obj} (t : Tch env own b) (e : h.get? b = some o) : ∀ vs n, o.data ≠ .seq vs n := fun vs n z => by
  rcases t with t | ⟨n, t⟩
  · subst t
    obtain ⟨o', es, ep, e', d, _⟩ := L.ns
    rw [e] at e'; cases e'
    rw [z] at d; cases d
  · obtain ⟨o', e', d⟩ := L.cel _ _ t
    rw [e] at e'; cases e'
    rw [z] at d; cases d
theorem Kb.le_hb {T : Addr → Prop} {h h' Hb : Heap} (k : Kb T h h') (l : Le Hb h) (n : ∀ b, T b → Hb.get? b = .none) : Le Hb h' := fun b o e => k b o (fun t => by rw [n b t] at e; cases e) (l b o e)

section
variable {X : Fix} {A : Around} {Dp : Nat} {s : Shared} {ok : Addr → Prop} {Hb : Heap} {D : Addr} {env : Env} {nms sc : List (Nat × NameKind)} {fv : List Nat} {C I : Addr} {wr : List Addr} {r : Rho} {items l : List V} {St : Nat → Heap → Prop} {Mid : Nat → Addr → Heap → Prop} {ih : EvFn} {elt : Ex} {tg : Tg}
theorem CompCtx.none (K : CompCtx X A Dp env nms sc tg fv C D Hb ok wr r) : ∀ a ∈ D :: wr, Hb.get? a = .none := fun a h => by
  rcases List.mem_cons.mp h with rfl | h
  · exact K.hD
  · exact K.w0 a h
theorem CompCtx.kwr (K : CompCtx X A Dp env nms sc tg fv C D Hb ok wr r) {done : List V} {h h' : Heap} (c : CI (cEnv X env sc C) (cOwn X sc C) D (D :: wr) ok Hb done h) (k : ∀ b o, b ∉ wr → h.get? b = some o → h'.get? b = some o) :
    CI (cEnv X env sc C) (cOwn X sc C) D (D :: wr) ok Hb done h' := by
  have k' : Kb (· ∈ wr) h h' := fun b o n e => k b o n e
  exact c.kb k' K.wD K.wT (k'.le_hb c.le K.w0) fun b t => List.mem_cons_of_mem _ t
theorem CompCtx.kst (K : CompCtx X A Dp env nms sc tg fv C D Hb ok wr r) {done : List V} {h h' : Heap} {m cm m' cm' : Str → Option Value} (c : CI (cEnv X env sc C) (cOwn X sc C) D (D :: wr) ok Hb done h) (L : Lay (cEnv X env sc C) (cOwn X sc C) m cm h)
    (L' : Lay (cEnv X env sc C) (cOwn X sc C) m' cm' h') (k : Kb (Tch (cEnv X env sc C) (cOwn X sc C)) h h') : CI (cEnv X env sc C) (cOwn X sc C) D (D :: wr) ok Hb done h' := by
  refine ⟨⟨m', cm', L'⟩, ?_, k.le_hb c.le K.hT⟩
  obtain ⟨vs, la, ra⟩ := c.acc
  exact ⟨vs, la.at fun o e => k D o K.tD e, ra.mono fun a o q e => ⟨q, fun ⟨vs, n, z⟩ => k a o (fun t => tch_data L t e vs n z) e⟩⟩
/-- the state between two turns -/
noncomputable def CJ (X : Fix) (env : Env) (sc : List (Nat × NameKind)) (C D : Addr) (wr : List Addr) (ok : Addr → Prop) (Hb : Heap) (ih : EvFn) (elt : Ex) (tg : Tg) (ρ : Rho) (items l : List V) (St : Nat → Heap → Prop) (s : Shared) (k : Nat) (sh : Shared) : Prop :=
  ∃ j done rest h tk, k = items.length - j ∧ done.length = j ∧ j ≤ items.length ∧ mapE ih elt tg ρ (items.drop j) = some rest ∧ done ++ rest = l ∧ sh = { s with heap := h, toks := tk } ∧
    CI (cEnv X env sc C) (cOwn X sc C) D (D :: wr) ok Hb done h ∧ St j h
/-- the turn's end: the element is reckoned and laid down -/
theorem comp_tail {j : Nat} {done vs : List V} {x' : V} {r' : Rho} {h₂ : Heap} {tk₂ : Nat} (K : CompCtx X A Dp env nms sc tg fv C D Hb ok wr r) (fr : ∀ i h h', St i h → Le Hb h' → (∀ b ∈ wr, ∀ o, h.get? b = some o → h'.get? b = some o) → St i h') (ex : ∀ i h, St i h → ∀ b ∈ wr, ∃ o, h.get? b = some o)
    (hs : ∀ r' x, ih r' elt = some x → EvE X Dp (rel nms sc) false r' (elt.un X.nm) x) (he : ih r' elt = some x') (hsz : items.length ≤ 10000) (hd : done.length = j) (hlt : j < items.length) (hm' : mapE ih elt tg (pick r fv) (items.drop (j + 1)) = some vs) (hl : done ++ x' :: vs = l)
    (c₂ : CI (cEnv X env sc C) (cOwn X sc C) D (D :: wr) ok Hb done h₂) (st₂ : St (j + 1) h₂) (E₂ : EnvOK X (fun b => ok b ∧ b ∉ D :: wr) (cEnv X env sc C) r' h₂) {F : Value → Shared → Prop} :
    wpAny (model X.prog X.w) A (eval (elt.un X.nm) (cEnv X env sc C)) (fun v s₃ => wpAny (model X.prog X.w) A (call (.builtin "list.append") [.ref D, v]) (fun _ s₄ => ∃ m, m < items.length - j ∧ CJ X env sc C D wr ok Hb ih elt tg (pick r fv) items l St s m s₄) F s₃) F { s with heap := h₂, toks := tk₂ } := by
  refine wk_mono (comp_step (Q := fun s₄ => ∃ m, m < items.length - j ∧ CJ X env sc C D wr ok Hb ih elt tg (pick r fv) items l St s m s₄) (cEnv_N K.N K.W) K.R K.B K.O K.hD List.mem_cons_self (fun a h => ?_) E₂ (hs _ _ he) c₂ (by omega) fun h₃ tk₃ c₃ k₃ => ?_) fun _ _ z => wk_mono z fun _ _ z => z
  · rcases List.mem_cons.mp h with rfl | h
    · obtain ⟨vs, ⟨o, e⟩, _⟩ := c₂.acc; exact ⟨_, e⟩
    · exact ex _ _ st₂ a h
  · refine ⟨items.length - (j + 1), by omega, j + 1, done ++ [x'], vs, h₃, tk₃, rfl, by simp [hd], hlt, hm', by simpa using hl, rfl, c₃, ?_⟩
    exact fr _ _ _ st₂ c₃.le fun b hb o e => k₃ b o (fun z => K.wD (z ▸ hb)) e
theorem comp_loop1 {i : Nat} {px pos : Pos} {iter : Expr} {scope : Scope} {RR : Result → Shared → Prop} (K : CompCtx X A Dp env nms sc (.one i px) fv C D Hb ok wr r) (L : Lp1 X A I wr Hb ok items St)
    (hs : ∀ r' x, ih r' elt = some x → EvE X Dp (rel nms sc) false r' (elt.un X.nm) x) (hm : mapE ih elt (.one i px) (pick r fv) items = some l) (hsz : items.length ≤ 10000)
    (c : CI (cEnv X env sc C) (cOwn X sc C) D (D :: wr) ok Hb [] s.heap) (st : St 0 s.heap) (fin : ∀ h' tk, CI (cEnv X env sc C) (cOwn X sc C) D (D :: wr) ok Hb l h' → RR (.ok .next) { s with heap := h', toks := tk }) :
    codeAny (model X.prog X.w) A (.compLoop (.ListComp (elt.un X.nm) [⟨.Name (X.nm i) px, iter, [], 0⟩] scope pos) 0 (.ref I) (.ref D) (cEnv X env sc C)) RR s := by
  refine codeAny_compLoop_list (CJ X env sc C D wr ok Hb ih elt (.one i px) (pick r fv) items l St s) ?_ items.length ⟨0, [], l, s.heap, s.toks, rfl, rfl, Nat.zero_le _, hm, rfl, rfl, c, st⟩
  rintro k sh ⟨j, done, rest, h, tk, rfl, hd, hj, hm, hl, rfl, c, st⟩
  by_cases hlt : j < items.length
  · have hx : items[j]? = some items[j] := List.getElem?_eq_getElem hlt
    rw [List.drop_eq_getElem_cons hlt] at hm
    obtain ⟨r', x', vs, hb, he, hm', rfl⟩ := mapE_cons hm
    refine wk_mono (L.item j { s with heap := h, toks := tk } (fun r s₁ => ∃ v h₁ tk₁, r = some v ∧ s₁ = { s with heap := h₁, toks := tk₁ } ∧ Rd ok Hb items[j] v ∧ St (j + 1) h₁ ∧ (∀ b o, b ∉ wr → h.get? b = some o → h₁.get? b = some o))
      items[j] hx st fun v h₁ tk₁ rv st₁ k₁ => ⟨v, h₁, tk₁, rfl, rfl, rv, st₁, k₁⟩) ?_
    rintro _ _ ⟨v, h₁, tk₁, rfl, rfl, rv, st₁, k₁⟩
    have c₁ := K.kwr c k₁
    obtain ⟨m, cm, L₁⟩ := c₁.lay
    have hst := cEnv_st (X := X) (C := C) K.N K.W.tg
    refine wk_mono (asg_one (Q := fun _ s₂ => ∃ h₂ tk₂ m₂ cm₂, s₂ = { s with heap := h₂, toks := tk₂ } ∧ Lay (cEnv X env sc C) (cOwn X sc C) m₂ cm₂ h₂ ∧ Kb (Tch (cEnv X env sc C) (cOwn X sc C)) h₁ h₂ ∧ vl (cEnv X env sc C) m₂ cm₂ (X.nm i) = some v) K.L L₁ hst
      fun h₂ tk₂ m₂ cm₂ L₂ k₂ v₂ => ⟨h₂, tk₂, m₂, cm₂, rfl, L₂, k₂, by rw [v₂, if_pos rfl]⟩) ?_
    rintro _ _ ⟨h₂, tk₂, m₂, cm₂, rfl, L₂, k₂, v₂⟩
    have c₂ := K.kst c₁ L₁ L₂ k₂
    have st₂ : St (j + 1) h₂ := L.frame _ _ _ st₁ c₂.le fun b hb o e => k₂ b o (K.wT b hb) e
    simp only [Tg.bind] at hb
    cases hb
    exact comp_tail K L.frame L.ex hs he hsz hd hlt hm' hl c₂ st₂ ((K.E.le c₂.le).cons (L₂.sees K.L hst v₂) ((rd_dom_ne K.none rv).le c₂.le))
  · have : j = items.length := by omega
    subst this
    rw [List.drop_length] at hm
    cases hm
    refine wk_mono (L.done { s with heap := h, toks := tk } (fun r s₁ => ∃ h₁ tk₁, r = .none ∧ s₁ = { s with heap := h₁, toks := tk₁ } ∧ (∀ b o, b ∉ wr → h.get? b = some o → h₁.get? b = some o)) st fun h₁ tk₁ k₁ => ⟨h₁, tk₁, rfl, rfl, k₁⟩) ?_
    rintro _ _ ⟨h₁, tk₁, rfl, rfl, k₁⟩
    have := K.kwr c k₁
    rw [List.append_nil] at hl
    subst hl
    exact fin h₁ tk₁ this
theorem comp_loop2 {i i₂ kk : Nat} {px px₂ tp pos : Pos} {iter : Expr} {scope : Scope} {RR : Result → Shared → Prop} (K : CompCtx X A Dp env nms sc (.two i i₂ px px₂ kk tp) fv C D Hb ok wr r) (L : Lp2 X A I wr Hb ok items St Mid)
    (hs : ∀ r' x, ih r' elt = some x → EvE X Dp (rel nms sc) false r' (elt.un X.nm) x) (hm : mapE ih elt (.two i i₂ px px₂ kk tp) (pick r fv) items = some l) (hsz : items.length ≤ 10000)
    (c : CI (cEnv X env sc C) (cOwn X sc C) D (D :: wr) ok Hb [] s.heap) (st : St 0 s.heap) (fin : ∀ h' tk, CI (cEnv X env sc C) (cOwn X sc C) D (D :: wr) ok Hb l h' → RR (.ok .next) { s with heap := h', toks := tk }) :
    codeAny (model X.prog X.w) A (.compLoop (.ListComp (elt.un X.nm) [⟨.Tuple [.Name (X.nm i) px, .Name (X.nm i₂) px₂] kk tp, iter, [], 0⟩] scope pos) 0 (.ref I) (.ref D) (cEnv X env sc C)) RR s := by
  refine LCp.codeAny_compLoop_pair (CJ X env sc C D wr ok Hb ih elt (.two i i₂ px px₂ kk tp) (pick r fv) items l St s) ?_ items.length ⟨0, [], l, s.heap, s.toks, rfl, rfl, Nat.zero_le _, hm, rfl, rfl, c, st⟩
  rintro k sh ⟨j, done, rest, h, tk, rfl, hd, hj, hm, hl, rfl, c, st⟩
  by_cases hlt : j < items.length
  · have hx : items[j]? = some items[j] := List.getElem?_eq_getElem hlt
    rw [List.drop_eq_getElem_cons hlt] at hm
    obtain ⟨r', x', vs, hb, he, hm', rfl⟩ := mapE_cons hm
    generalize items[j] = x at hb hx
    unfold Tg.bind at hb
    split at hb <;> try contradiction
    rename_i a b c d e f y z hq
    cases hq
    cases hb
    refine wk_mono (L.item j { s with heap := h, toks := tk } (fun r s₁ => ∃ T v u h₁ tk₁, r = some (.ref T) ∧ s₁ = { s with heap := h₁, toks := tk₁ } ∧ Rd ok Hb y v ∧ Rd ok Hb z u ∧ h₁.IsTuple T #[v, u] ∧ Mid j T h₁ ∧ T ∉ wr ∧ (∀ b o, b ∉ wr → h.get? b = some o → h₁.get? b = some o))
      y z hx st fun T v u h₁ tk₁ rv ru hT hM hw k₁ => ⟨T, v, u, h₁, tk₁, rfl, rfl, rv, ru, hT, hM, hw, k₁⟩) ?_
    rintro _ _ ⟨T, v, u, h₁, tk₁, rfl, rfl, rv, ru, hT, hM, hw, k₁⟩
    have c₁ := K.kwr ‹CI (cEnv X env sc C) (cOwn X sc C) D (D :: wr) ok Hb done h› k₁
    refine wk_mono (L.go _ _ _ j T { s with heap := h₁, toks := tk₁ } (fun _ s₂ => ∃ h₂, s₂ = { s with heap := h₂, toks := tk₁ } ∧ St (j + 1) h₂ ∧ (∀ b o, b ∉ wr → h₁.get? b = some o → h₂.get? b = some o)) hM c₁.le fun h₂ st₂ k₂ => ⟨h₂, rfl, st₂, k₂⟩) ?_
    rintro _ _ ⟨h₂, rfl, st₂, k₂⟩
    have c₂ := K.kwr c₁ k₂
    have hT₂ : h₂.IsTuple T #[v, u] := by obtain ⟨o, e, q⟩ := hT; exact ⟨o, k₂ T o hw e, q⟩
    obtain ⟨m, cm, L₂⟩ := c₂.lay
    obtain ⟨hne, ti, tj⟩ := K.W.tg
    have hsti := cEnv_st (X := X) (C := C) K.N ti
    have hstj := cEnv_st (X := X) (C := C) K.N tj
    refine wk_mono (asg_two (Q := fun _ s₃ => ∃ h₃ tk₃ m₃ cm₃, s₃ = { s with heap := h₃, toks := tk₃ } ∧ Lay (cEnv X env sc C) (cOwn X sc C) m₃ cm₃ h₃ ∧ Kb (Tch (cEnv X env sc C) (cOwn X sc C)) h₂ h₃ ∧ vl (cEnv X env sc C) m₃ cm₃ (X.nm i) = some v ∧ vl (cEnv X env sc C) m₃ cm₃ (X.nm i₂) = some u) K.R.handled hT₂ K.L L₂ hsti hstj
      fun h₃ tk₃ m₃ cm₃ L₃ k₃ v₃ => ⟨h₃, tk₃, m₃, cm₃, rfl, L₃, k₃, by rw [v₃, if_neg (fun z => hne (X.inj _ _ z)), if_pos rfl], by rw [v₃, if_pos rfl]⟩) ?_
    rintro _ _ ⟨h₃, tk₃, m₃, cm₃, rfl, L₃, k₃, v₃, u₃⟩
    have c₃ := K.kst c₂ L₂ L₃ k₃
    have st₃ : St (j + 1) h₃ := L.frame _ _ _ st₂ c₃.le fun b hb o e => k₃ b o (K.wT b hb) e
    exact comp_tail K L.frame L.ex hs he hsz hd hlt hm' hl c₃ st₃ (((K.E.le c₃.le).cons (L₃.sees K.L hstj u₃) ((rd_dom_ne K.none ru).le c₃.le)).cons (L₃.sees K.L hsti v₃) ((rd_dom_ne K.none rv).le c₃.le))
  · have : j = items.length := by omega
    subst this
    rw [List.drop_length] at hm
    cases hm
    refine wk_mono (L.done { s with heap := h, toks := tk } (fun r s₁ => ∃ h₁ tk₁, r = .none ∧ s₁ = { s with heap := h₁, toks := tk₁ } ∧ (∀ b o, b ∉ wr → h.get? b = some o → h₁.get? b = some o)) st fun h₁ tk₁ k₁ => ⟨h₁, tk₁, rfl, rfl, k₁⟩) ?_
    rintro _ _ ⟨h₁, tk₁, rfl, rfl, k₁⟩
    have := K.kwr c k₁
    rw [List.append_nil] at hl
    subst hl
    exact fin h₁ tk₁ this
end
end Mine
end
section
open PySem PySem.Calls PyProof.Rows
set_option maxRecDepth 4000
namespace Mine

noncomputable def Tg.isTwo : Tg → Bool
  | .one _ _ => false
  | .two _ _ _ _ _ _ => true
theorem same_le {h h' : Heap} {C : Addr} {h₀ : Heap} (s : Heap.SameBut C h h') (l : Le h₀ h) (n : h₀.get? C = .none) : Le h₀ h' := fun b o e => s.extBut b o (fun z => by subst z; rw [n] at e; cases e) (l b o e)
theorem FreshRoot.same {h₀ h h' : Heap} {ok : Addr → Prop} {l : List V} {D C : Addr} {m : Str → Option Value} (f : FreshRoot h₀ ok h l (.ref D)) (n : h.Ns C m) (s : Heap.SameBut C h h') : FreshRoot h₀ ok h' l (.ref D) := by
  obtain ⟨a, vs, e, h1, la, ra⟩ := f
  cases e
  have hne := ns_ne_list n la.isList
  refine ⟨D, vs, rfl, h1, ?_, ra.mono fun a o q e => ⟨q, fun ⟨vs, k, z⟩ => s.extBut a o (fun y => ?_) e⟩⟩
  · exact la.at fun o e => s.extBut D o hne e
  · subst y
    obtain ⟨o', es, ep, e', d, _⟩ := n
    rw [e] at e'; cases e'
    rw [z] at d; cases d

section
variable {X : Fix} {Dp : Nat} {nms sc : List (Nat × NameKind)} {fv : List Nat} {r : Rho} {items l : List V} {ih : EvFn} {elt : Ex} {tg : Tg} {iterE : Expr} {p : Pos}
theorem comp_core (W : CompWF nms sc tg fv) (src : SrcGo X Dp nms r tg.isTwo iterE items) (hs : ∀ r' x, ih r' elt = some x → EvE X Dp (rel nms sc) false r' (elt.un X.nm) x) (hm : mapE ih elt tg (pick r fv) items = some l) (hsz : items.length ≤ 10000)
    {env : Env} {A : Around} {s : Shared} {ok : Addr → Prop} (N : EnvN X env nms) (R : Room A Dp) (B : Base X s.heap) (O : OkF ok s.heap) (E : EnvOK X ok env r s.heap) {RR : Value → Addr → Result → Shared → Prop}
    (fin : ∀ D C h' tk m, Le s.heap h' → FreshRoot s.heap ok h' l (.ref D) → h'.Ns C m → s.heap.get? C = .none → RR (.ref D) C (.ok .next) { s with heap := h', toks := tk }) :
    wpAny (model X.prog X.w) A (eval iterE env) (fun x s₁ => wpAny (model X.prog X.w) A (pyIter x) (fun it s₂ => wpAny (model X.prog X.w) A (newList []) (fun acc s₃ =>
      wpAny (model X.prog X.w) A (newFunctionEnv (unScope X.nm sc) env.globals (closL env (unNames X.nm sc) []) [] env.qual .none .none (some env)) (fun cenv s₄ =>
        codeAny (model X.prog X.w) A (.compStart (.ListComp (elt.un X.nm) [⟨tg.un X.nm, iterE, [], 0⟩] (unScope X.nm sc) p) 0 it acc { cenv with scope := relabel (unScope X.nm sc) env }) (RR acc cenv.locals) s₄) NoE s₃) NoE s₂) NoE s₁) NoE s := by
  refine src env A s ok _ N R B O E fun it s₂ e₂ S => ?_
  obtain ⟨h₂, tk₂, rfl⟩ : ∃ h tk, s₂ = { s with heap := h, toks := tk } := ⟨_, _, e₂⟩
  clear e₂
  have S' : ∃ (h₁ : Heap) (I : Addr) (wr : List Addr), it = .ref I ∧ Le s.heap h₁ ∧ Le h₁ h₂ ∧ (∀ b ∈ wr, h₁.get? b = .none) ∧ (∀ b ∈ wr, ∃ o, h₂.get? b = some o) ∧
      match tg.isTwo with
      | false => ∃ St, Lp1 X A I wr h₁ ok items St ∧ St 0 h₂
      | true => ∃ St Mid, Lp2 X A I wr h₁ ok items St Mid ∧ St 0 h₂ := by
    cases ht : tg.isTwo with
    | false =>
      rw [ht] at S
      obtain ⟨h₁, I, wr, e, l1, l2, w0, w1, go⟩ := S
      exact ⟨h₁, I, wr, e, l1, l2, w0, w1, go h₁ (.refl _) fun a o _ e _ => e⟩
    | true =>
      rw [ht] at S
      obtain ⟨h₁, I, wr, e, l1, l2, w0, w1, go⟩ := S
      exact ⟨h₁, I, wr, e, l1, l2, w0, w1, go h₁ (.refl _) fun a o _ e _ => e⟩
  clear S
  obtain ⟨h₁, I, wr, rfl, l1, l2, w0, w1, go⟩ := S'
  refine wpAny_newObj_type (comp_env fun h₃ l₃ ns₃ cs₃ => ?_)
  dsimp only at l₃ ns₃ cs₃ ⊢
  have hC : (h₂.push { cls := .type "list", dict := Option.none, data := .seq ([] : List Value).toArray }).objs.size = h₂.objs.size + 1 := Heap.size_push ..
  generalize hH : h₂.push { cls := .type "list", dict := Option.none, data := .seq ([] : List Value).toArray } = H at l₃ ns₃ cs₃ hC ⊢
  have l₃' : Le h₂ h₃ := fun b o e => l₃ b o (by rw [← hH]; exact Heap.get?_push_of_some _ e)
  have hlist : h₃.PlainList h₂.objs.size (List.toArray []) := Heap.PlainList.at (h := H) ⟨_, by rw [← hH]; exact Heap.get?_push_size _ rfl⟩ fun o e => l₃ _ o e
  have hge : ∀ b, Tch (cEnv X env sc H.objs.size) (cOwn X sc H.objs.size) b → @LT.lt Nat instLTNat h₂.objs.size b := fun b t => by
    rcases t with rfl | ⟨n, t⟩
    · show h₂.objs.size < H.objs.size
      rw [hC]; exact Nat.lt_succ_self _
    · have := (cs₃.empty n b (mem_of_lookup t)).2
      rw [hC] at this
      exact Nat.lt_of_lt_of_le (by omega) this
  have K : CompCtx X A Dp env nms sc tg fv H.objs.size h₂.objs.size h₁ ok wr r := by
    have hD : h₁.get? h₂.objs.size = .none := none_of_le l2 (size_none _)
    refine ⟨N, W, cEnv_C cs₃, R, B.le l1, O.le l1, hD, w0, fun z => ?_, fun b hb t => ?_, fun t => ?_, fun b t => ?_, ?_⟩
    · obtain ⟨o, e⟩ := w1 _ z
      rw [size_none] at e; cases e
    · obtain ⟨o, e⟩ := w1 b hb
      exact absurd (Heap.lt_size e) (Nat.not_lt.mpr (Nat.le_of_lt (hge b t)))
    · exact Nat.lt_irrefl _ (hge _ t)
    · exact none_of_le l2 (none_ge (Nat.le_of_lt (hge b t)))
    · refine comp_fv N W (fun a h => ?_) (E.le l1)
      rcases List.mem_cons.mp h with rfl | h
      · exact hD
      · exact w0 a h
  have c₀ : CI (cEnv X env sc H.objs.size) (cOwn X sc H.objs.size) h₂.objs.size (h₂.objs.size :: wr) ok h₁ [] h₃ :=
    ⟨⟨_, fun _ => .none, ⟨ns₃, fun n c h => (cs₃.empty n c (mem_of_lookup h)).1⟩⟩, ⟨[], hlist, .nil⟩, l2.trans l₃'⟩
  have fin' : ∀ h' tk, CI (cEnv X env sc H.objs.size) (cOwn X sc H.objs.size) h₂.objs.size (h₂.objs.size :: wr) ok h₁ l h' → RR (.ref h₂.objs.size) H.objs.size (.ok .next) { s with heap := h', toks := tk } := fun h' tk c => by
    obtain ⟨vs, la, ra⟩ := c.acc
    obtain ⟨m, cm, L⟩ := c.lay
    refine fin _ _ h' tk m (l1.trans c.le) ⟨_, vs, rfl, none_of_le (l1.trans l2) (size_none _), la, ra.wk fun a q => ⟨q.1, fun z => q.2 (z ▸ List.mem_cons_self)⟩⟩ L.ns ?_
    exact none_of_le (l1.trans l2) (none_ge (by rw [hC]; exact Nat.le_succ _))
  cases tg with
  | one i px =>
    obtain ⟨St, L, st⟩ := go
    have st₃ : St 0 h₃ := L.frame _ _ _ st (l2.trans l₃') fun b _ o e => l₃' b o e
    have lp := comp_loop1 (pos := p) (iter := iterE) (scope := unScope X.nm sc) (RR := RR (.ref h₂.objs.size) H.objs.size) (s := { s with heap := h₃, toks := tk₂ }) K L hs hm hsz c₀ st₃ fin'
    exact codeAny_compStart_list lp (wk_mono (L.self 0 { s with heap := h₃, toks := tk₂ } _ st₃ lp) fun _ _ z => z)
  | two i j px px₂ kk tp =>
    obtain ⟨St, Mid, L, st⟩ := go
    have st₃ : St 0 h₃ := L.frame _ _ _ st (l2.trans l₃') fun b _ o e => l₃' b o e
    have lp := comp_loop2 (pos := p) (iter := iterE) (scope := unScope X.nm sc) (RR := RR (.ref h₂.objs.size) H.objs.size) (s := { s with heap := h₃, toks := tk₂ }) K L hs hm hsz c₀ st₃ fin'
    exact codeAny_compStart_list lp (wk_mono (L.self 0 { s with heap := h₃, toks := tk₂ } _ st₃ lp) fun _ _ z => z)

theorem fsi_un (nm : Nat → Str) (e : Ex) (env : Env) (x : Value) : foldedSetIterable (e.un nm) env x = pure x := by cases e <;> rfl
theorem comp_nd {nm : Nat → Str} (inj : ∀ i j, nm i = nm j → i = j) (X : Fix) (hX : X.nm = nm) {sc : List (Nat × NameKind)} (nd : ∀ q ∈ sc, lk sc q.1 = some q.2) : ∀ x ∈ unNames nm sc, x.2 = .local → (unNames nm sc).lookup x.1 = some .local := fun x hx hk => by
  obtain ⟨q, hq, rfl⟩ := un_mem hx
  subst hX
  rw [lookup_un, nd q hq]
  exact congrArg some hk
theorem ev_comp {fr : Bool} (W : CompWF nms sc tg fv) (src : SrcGo X Dp nms r tg.isTwo iterE items) (hf : ∀ env x, foldedSetIterable iterE env x = pure x) (hs : ∀ r' x, ih r' elt = some x → EvE X Dp (rel nms sc) false r' (elt.un X.nm) x) (hm : mapE ih elt tg (pick r fv) items = some l) (hsz : items.length ≤ 10000) :
    EvE X Dp nms fr r (.ListComp (elt.un X.nm) [⟨tg.un X.nm, iterE, [], 0⟩] (unScope X.nm sc) p) (.list l) := fun env A s ok Q N R B O E P => by
  rw [eval_ListComp]
  refine wpAny_comprehension_free (use := Option.none) (cl := closL env (unNames X.nm sc) []) rfl (hf env) (clos_eq (comp_free N W)) rfl (comp_nd X.inj X rfl W.nd) ?_
  refine comp_core (RR := fun acc C => compPost (model X.prog X.w) A NoE Option.none Q acc C) W src hs hm hsz N R B O E fun D C h' tk m l' f n hC => ⟨m, n, fun h'' s'' => ?_⟩
  exact P.fresh O (same_le s'' l' hC) (f.same n s'')
end
end Mine
end
section
open PySem PySem.Calls PyProof.Rows
set_option maxRecDepth 4000
namespace Mine

noncomputable def isGI : Option NameKind → Bool
  | some .globalImplicit => true
  | _ => false
theorem isGI_iff {k : Option NameKind} (h : isGI k = true) : k = some .globalImplicit := by
  unfold isGI at h
  split at h
  · rfl
  · cases h
noncomputable def isSt : Option NameKind → Bool
  | some .local => true
  | some .cell => true
  | _ => false
theorem isSt_iff {k : Option NameKind} (h : isSt k = true) : k = some .local ∨ k = some .cell := by
  unfold isSt at h
  split at h
  · exact .inl rfl
  · exact .inr rfl
  · cases h
noncomputable def isCF : Option NameKind → Bool
  | some .cell => true
  | some .free => true
  | _ => false
theorem isCF_iff {k : Option NameKind} (h : isCF k = true) : k = some .cell ∨ k = some .free := by
  unfold isCF at h
  split at h
  · exact .inl rfl
  · exact .inr rfl
  · cases h
noncomputable def isFree : Option NameKind → Bool
  | some .free => true
  | _ => false
theorem isFree_iff {k : Option NameKind} (h : isFree k = true) : k = some .free := by
  unfold isFree at h
  split at h
  · rfl
  · cases h
noncomputable def sameK : Option NameKind → NameKind → Bool
  | some a, b => a == b
  | .none, _ => false
noncomputable def wfTg (sc : List (Nat × NameKind)) : Tg → Bool
  | .one i _ => isSt (lk sc i)
  | .two i j _ _ _ _ => !(Nat.beq i j) && (isSt (lk sc i) && isSt (lk sc j))
noncomputable def wfC (nms sc : List (Nat × NameKind)) (tg : Tg) (fv : List Nat) : Bool :=
  (sc.all fun q => sameK (lk sc q.1) q.2) && ((sc.all fun q => match q.2 with
    | .free => isCF (lk nms q.1)
    | _ => true) && (wfTg sc tg && fv.all fun i => isFree (lk sc i)))
theorem wfTg_iff {sc : List (Nat × NameKind)} {tg : Tg} (h : wfTg sc tg = true) : TgWF sc tg := by
  cases tg with
  | one i p => exact isSt_iff h
  | two i j =>
    simp only [wfTg, Bool.and_eq_true, Bool.not_eq_true'] at h
    exact ⟨Nat.ne_of_beq_eq_false h.1, isSt_iff h.2.1, isSt_iff h.2.2⟩
theorem wfC_iff {nms sc : List (Nat × NameKind)} {tg : Tg} {fv : List Nat} (h : wfC nms sc tg fv = true) : CompWF nms sc tg fv := by
  simp only [wfC, Bool.and_eq_true, List.all_eq_true] at h
  obtain ⟨h1, h2, h3, h4⟩ := h
  refine ⟨fun q hq => ?_, fun q hq hk => ?_, wfTg_iff h3, fun i hi => isFree_iff (h4 i hi)⟩
  · have := h1 q hq
    cases e : lk sc q.1 with
    | none => rw [e] at this; cases this
    | some a => rw [e] at this; rw [eq_of_beq (show (a == q.2) = true from this)]
  · have := h2 q hq
    rw [hk] at this
    exact isCF_iff this
noncomputable def wfSrc (nms : List (Nat × NameKind)) (two : Bool) (k : SrK) (args : List Ex) : Bool := match k with
  | .list => match args with
    | [_] => !two
    | _ => false
  | .range => isGI (lk nms 2) && !two
  | .enum => match args with
    | [_] => two && isGI (lk nms 3)
    | _ => false
  | .zip => match args with
    | [_, _] => two && isGI (lk nms 4)
    | _ => false
noncomputable def some1 : List Ex → Bool
  | [] => false
  | _ :: _ => true
mutual
noncomputable def wfE (nms : List (Nat × NameKind)) : Ex → Bool
  | .int _ _ => true
  | .bool _ _ => true
  | .non _ => true
  | .name _ _ => true
  | .bin _ l r _ => wfE nms l && wfE nms r
  | .neg e _ => wfE nms e
  | .cmp _ l r _ => wfE nms l && wfE nms r
  | .bo _ es _ => wfL nms es
  | .ite t a b _ => wfE nms t && (wfE nms a && wfE nms b)
  | .call f _ _ args _ => isGI (lk nms f) && (some1 args && wfL nms args)
  | .bi b _ args _ => isGI (lk nms b.code) && (some1 args && wfL nms args)
  | .sub c i _ => wfE nms c && wfE nms i
  | .slTo c e _ _ => wfE nms c && wfE nms e
  | .slFrom c e _ _ => wfE nms c && wfE nms e
  | .slRev c _ _ _ _ => wfE nms c
  | .tup es _ _ => wfL nms es
  | .lst es _ => wfL nms es
  | .comp elt tg k _ args _ sc fv _ => wfC nms sc tg fv && (wfSrc nms tg.isTwo k args && (wfL nms args && wfE (rel nms sc) elt))
noncomputable def wfL (nms : List (Nat × NameKind)) : List Ex → Bool
  | [] => true
  | e :: t => wfE nms e && wfL nms t
end
/-- does the expression make what it gives? -/
noncomputable def frOf : Ex → Bool
  | .name _ _ => false
  | .sub _ _ _ => false
  | .call _ fr _ _ _ => fr
  | .ite _ a b _ => frOf a && frOf b
  | _ => true

theorem rangeV_len (a c : Int) (n : Nat) : (rangeV a c n).length = n := range_len a c n
theorem srcV_len {k : SrK} {vs items : List V} (e : srcV k vs = some items) : items.length ≤ 10000 := by
  unfold srcV at e
  split at e
  · split at e
    · rename_i q; cases e; have := few_le q; omega
    · cases e
  · split at e
    · rename_i q; cases e; rw [range_len]; have := few_le q; unfold cntUp; omega
    · cases e
  · split at e
    · rename_i q; rw [Bool.and_eq_true] at q; cases e; rw [range_len]; have := few_le q.1; have := few_le q.2; unfold cntUp; omega
    · cases e
  · split at e
    · rename_i q; rw [Bool.and_eq_true, Bool.and_eq_true] at q; cases e; rw [range_len]; have := few_le q.1.1; have := few_le q.1.2; unfold cntUp; omega
    · cases e
  · split at e
    · rename_i q; cases e; rw [enum_len]; have := few_le q; omega
    · cases e
  · split at e
    · rename_i q; cases e; rw [zip_len]; have := few_le q; omega
    · cases e
  · cases e

theorem EvE.weak {X : Fix} {D : Nat} {nms : List (Nat × NameKind)} {fr : Bool} {r : Rho} {e : Expr} {x : V} (h : EvE X D nms fr r e x) : EvE X D nms false r e x := fun env A s ok Q N R B O E P =>
  h env A s ok Q N R B O E fun v h' tk l q _ => P v h' tk l q fun z => by cases z
theorem EvE.of {X : Fix} {D : Nat} {nms : List (Nat × NameKind)} {fr fr' : Bool} {r : Rho} {e : Expr} {x : V} (h : EvE X D nms fr r e x) (i : fr' = true → fr = true) : EvE X D nms fr' r e x := by
  cases fr' with
  | false => exact h.weak
  | true => rw [i rfl] at h; exact h

section
variable {X : Fix} {D : Nat} {Φ : Nat → List V → Option V}
noncomputable def SndE (X : Fix) (D : Nat) (ih : EvFn) : Prop := ∀ nms r e v, wfE nms e = true → ih r e = some v → EvE X D nms (frOf e) r (e.un X.nm) v
noncomputable def SndT (X : Fix) (D : Nat) (tst : Rho → Ex → Option Bool) : Prop := ∀ nms r e b, wfE nms e = true → tst r e = some b → EvT X D nms r (e.un X.nm) b
theorem evs_len {ih : EvFn} {r : Rho} : ∀ {es : List Ex} {vs : List V}, evs ih r es = some vs → vs.length = es.length
  | [], _, e => by cases e; rfl
  | x :: t, vs, e => by
    unfold evs at e
    split at e
    · split at e
      · rename_i h; cases e; simp [evs_len h]
      · cases e
    · cases e
theorem evs_cons {ih : EvFn} {r : Rho} {x : Ex} {t : List Ex} {vs : List V} (e : evs ih r (x :: t) = some vs) : ∃ v ws, ih r x = some v ∧ evs ih r t = some ws ∧ vs = v :: ws := by
  unfold evs at e
  split at e
  · rename_i v h
    split at e
    · rename_i ws h2; cases e; exact ⟨v, ws, h, h2, rfl⟩
    · cases e
  · cases e
theorem snd_L {ih : EvFn} (S : SndE X D ih) {nms : List (Nat × NameKind)} {r : Rho} : ∀ {es : List Ex} {vs : List V}, wfL nms es = true → evs ih r es = some vs → EvL X D nms r (unL X.nm es) vs
  | [], _, _, e => by cases e; exact evL_nil
  | x :: t, vs, h, e => by
    rw [wfL, Bool.and_eq_true] at h
    obtain ⟨v, ws, h1, h2, rfl⟩ := evs_cons e
    exact evL_cons (S _ _ _ _ h.1 h1) (snd_L S h.2 h2)
theorem snd_A {t : Rho → Ex → Option Bool} (S : SndT X D t) {nms : List (Nat × NameKind)} {r : Rho} {a : Bool} : ∀ {es : List Ex} {b : Bool}, wfL nms es = true → evAll t r a es = some b → EvA X D nms r (if a then .And else .Or) (unL X.nm es) b
  | [], _, _, e => by cases e; exact evA_nil
  | x :: es, b, h, e => by
    rw [wfL, Bool.and_eq_true] at h
    unfold evAll at e
    split at e
    · rename_i hx
      cases a with
      | true => exact evA_go (a := true) (S _ _ _ _ h.1 hx) (snd_A S h.2 e)
      | false => cases e; exact evA_stop (a := false) (S _ _ _ _ h.1 hx)
    · rename_i hx
      cases a with
      | true => cases e; exact evA_stop (a := true) (S _ _ _ _ h.1 hx)
      | false => exact evA_go (a := false) (S _ _ _ _ h.1 hx) (snd_A S h.2 e)
    · cases e
theorem snd_C {ih : EvFn} (S : SndE X D ih) {nms : List (Nat × NameKind)} {r : Rho} {c : Ex} {v : V} (h : wfE nms c = true) (e : evC ih r c = some v) : EvC X D nms r (c.un X.nm) v := by
  cases c with
  | name i p =>
    simp only [evC] at e
    split at e
    · rename_i x hx; cases e; exact evC_of (ev_name hx)
    · rename_i l hl; cases e; exact evC_own hl
    · cases e
  | _ => exact evC_of (S _ _ _ _ h e)
theorem snd_S {ih : EvFn} (S : SndE X D ih) {nms : List (Nat × NameKind)} {r : Rho} {k : SrK} {two : Bool} {args : List Ex} {vs items : List V} {pf ps : Pos} (hw : wfSrc nms two k args = true) (h : wfL nms args = true) (e : evs ih r args = some vs) (hi : srcV k vs = some items) :
    SrcGo X D nms r two (srcUn X.nm k pf (unL X.nm args) ps) items := by
  cases k with
  | list =>
    unfold wfSrc at hw
    dsimp only at hw
    split at hw
    · rename_i c
      have : two = false := by simpa using hw
      subst this
      obtain ⟨v, ws, h1, h2, rfl⟩ := evs_cons e
      cases h2
      unfold srcV at hi
      split at hi <;> try contradiction
      rename_i l heq
      split at hi
      · cases hi
        rw [wfL, Bool.and_eq_true] at h
        rename_i heq _ _
        cases heq
        exact go_list (S _ _ _ _ h.1 h1)
      · cases hi
    · cases hw
  | range =>
    simp only [wfSrc, Bool.and_eq_true, Bool.not_eq_true'] at hw
    rw [hw.2]
    exact go_range (isGI_iff hw.1) (snd_L S h e) (evs_len e) hi
  | enum =>
    unfold wfSrc at hw
    dsimp only at hw
    split at hw
    · rw [Bool.and_eq_true] at hw
      rw [hw.1]
      exact go_enum (isGI_iff hw.2) (snd_L S h e) hi
    · cases hw
  | zip =>
    unfold wfSrc at hw
    dsimp only at hw
    split at hw
    · rw [Bool.and_eq_true] at hw
      rw [hw.1]
      exact go_zip (isGI_iff hw.2) (snd_L S h e) hi
    · cases hw
end
end Mine
end
section
open PySem PySem.Calls PyProof.Rows
set_option maxRecDepth 4000
namespace Mine

theorem fsi_src (nm : Nat → Str) (k : SrK) (two : Bool) (nms : List (Nat × NameKind)) (pf ps : Pos) (args : List Ex) (hw : wfSrc nms two k args = true) (env : Env) (x : Value) : foldedSetIterable (srcUn nm k pf (unL nm args) ps) env x = pure x := by
  cases k with
  | list =>
    unfold wfSrc at hw
    dsimp only at hw
    split at hw
    · exact fsi_un nm _ env x
    · cases hw
  | range => rfl
  | enum => rfl
  | zip => rfl
theorem some1_iff {l : List Ex} (h : some1 l = true) : ∃ e t, l = e :: t := by
  cases l with
  | nil => cases h
  | cons e t => exact ⟨e, t, rfl⟩

section
variable {X : Fix} {D : Nat} {Φ : Nat → List V → Option V}
theorem snd_step {ih : EvFn} {t : Rho → Ex → Option Bool} (S : SndE X D ih) (T : SndT X D t) (HΦ : ∀ f xs x, Φ f xs = some x → CallOK X D f xs x) : SndE X D (evStep Φ ih t) := fun nms r e v hw he => by
  cases e with
  | int i p => cases he; exact ev_int
  | bool b p => cases he; exact ev_bool
  | non p => cases he; exact ev_none
  | name i p =>
    simp only [evStep, evName] at he
    split at he
    · rename_i x hx; cases he; exact ev_name hx
    · cases he
  | bin o a b p =>
    simp only [evStep, evBin] at he
    rw [wfE, Bool.and_eq_true] at hw
    split at he
    · rename_i x hx
      split at he
      · rename_i y hy; exact ev_bin (S _ _ _ _ hw.1 hx) (S _ _ _ _ hw.2 hy) he
      · cases he
    · cases he
  | neg e p =>
    simp only [evStep, evNeg] at he
    rw [wfE] at hw
    split at he
    · rename_i i hx; cases he; exact ev_neg (S _ _ _ _ hw hx)
    · cases he
  | cmp o a b p =>
    simp only [evStep, evCmp] at he
    rw [wfE, Bool.and_eq_true] at hw
    split at he
    · rename_i x hx
      split at he
      · rename_i y hy
        split at he
        · rename_i c hc; cases he; exact ev_cmp (S _ _ _ _ hw.1 hx) (S _ _ _ _ hw.2 hy) hc
        · cases he
      · cases he
    · cases he
  | bo a es p => cases he
  | ite t' a b p =>
    simp only [evStep, evIte] at he
    rw [wfE, Bool.and_eq_true, Bool.and_eq_true] at hw
    have hfr : ∀ c : Bool, frOf (.ite t' a b p) = true → frOf (if c then a else b) = true := fun c h => by
      simp only [frOf, Bool.and_eq_true] at h
      cases c
      · exact h.2
      · exact h.1
    split at he
    · rename_i ht
      exact ev_ite (c := true) (T _ _ _ _ hw.1 ht) ((S _ _ a _ hw.2.1 he).of (hfr true))
    · rename_i ht
      exact ev_ite (c := false) (T _ _ _ _ hw.1 ht) ((S _ _ b _ hw.2.2 he).of (hfr false))
    · cases he
  | call f fr pf args p =>
    simp only [evStep, evCall] at he
    rw [wfE, Bool.and_eq_true, Bool.and_eq_true] at hw
    obtain ⟨e, es, rfl⟩ := some1_iff hw.2.1
    split at he
    · split at he
      · rename_i vs hv
        split at he
        · rename_i x hx
          split at he
          · rename_i ha
            cases he
            exact ev_callF (isGI_iff hw.1) (snd_L S hw.2.2 hv) (HΦ _ _ _ hx) ha
          · cases he
        · cases he
      · cases he
    · split at he
      · rename_i vs hv
        exact ev_call (isGI_iff hw.1) (snd_L S hw.2.2 hv) (HΦ _ _ _ he)
      · cases he
  | bi b pf args p =>
    simp only [evStep, evBi] at he
    rw [wfE, Bool.and_eq_true, Bool.and_eq_true] at hw
    obtain ⟨e, es, rfl⟩ := some1_iff hw.2.1
    split at he
    · rename_i c heq
      obtain ⟨rfl, rfl⟩ := List.cons.inj heq
      split at he
      · rename_i v hv
        have hw' := hw.2.2
        rw [wfL, Bool.and_eq_true] at hw'
        have C := snd_C S hw'.1 hv
        unfold biV at he
        split at he <;> try contradiction
        rename_i l heq
        split at he
        · rename_i hf
          cases he
          obtain ⟨rfl, _⟩ := List.cons.inj heq
          exact ev_len (isGI_iff hw.1) C hf
        · cases he
      · cases he
    · split at he
      · rename_i vs hv
        exact ev_bi (isGI_iff hw.1) (snd_L S hw.2.2 hv) he
      · cases he
  | sub c i p =>
    simp only [evStep, evSub] at he
    rw [wfE, Bool.and_eq_true] at hw
    split at he
    · rename_i x hx
      split at he
      · rename_i y hy; exact ev_sub (snd_C S hw.1 hx) (S _ _ _ _ hw.2 hy) he
      · cases he
    · cases he
  | slTo c e ps p =>
    simp only [evStep, evTo] at he
    rw [wfE, Bool.and_eq_true] at hw
    split at he
    · rename_i l hl
      split at he
      · rename_i k hk
        split at he
        · rename_i hf; cases he; exact ev_slTo (snd_C S hw.1 hl) (S _ _ _ _ hw.2 hk) hf
        · cases he
      · cases he
    · cases he
  | slFrom c e ps p =>
    simp only [evStep, evFrom] at he
    rw [wfE, Bool.and_eq_true] at hw
    split at he
    · rename_i l hl
      split at he
      · rename_i k hk
        split at he
        · rename_i hf; cases he; exact ev_slFrom (snd_C S hw.1 hl) (S _ _ _ _ hw.2 hk) hf
        · cases he
      · cases he
    · cases he
  | slRev c p1 p2 ps p =>
    simp only [evStep, evRev] at he
    rw [wfE] at hw
    split at he
    · rename_i l hl
      split at he
      · rename_i hf; cases he; exact ev_slRev (snd_C S hw hl) hf
      · cases he
    · cases he
  | tup es k p =>
    simp only [evStep, evTup] at he
    rw [wfE] at hw
    split at he
    · rename_i vs hv
      split at he
      · rename_i hf; cases he; exact ev_tup (snd_L S hw hv) hf
      · cases he
    · cases he
  | lst es p =>
    simp only [evStep, evLst] at he
    rw [wfE] at hw
    split at he
    · rename_i vs hv
      split at he
      · rename_i hf; cases he; exact ev_lst (snd_L S hw hv) hf
      · cases he
    · cases he
  | comp elt tg k pf args ps sc fv p =>
    simp only [evStep, evComp] at he
    rw [wfE, Bool.and_eq_true, Bool.and_eq_true, Bool.and_eq_true] at hw
    obtain ⟨hc, hs, ha, hel⟩ := hw
    split at he
    · rename_i vs hv
      split at he
      · rename_i items hi
        split at he
        · rename_i l hl
          cases he
          exact ev_comp (ih := ih) (wfC_iff hc) (snd_S S hs ha hv hi) (fun env x => fsi_src X.nm k tg.isTwo nms pf ps args hs env x) (fun r' x h => (S _ _ _ _ hel h).weak) hl (srcV_len hi)
        · cases he
      · cases he
    · cases he
theorem snd_tst {ih : EvFn} {t : Rho → Ex → Option Bool} (S : SndE X D ih) (T : SndT X D t) : SndT X D (tstStep ih t) := fun nms r e b hw he => by
  cases e with
  | cmp o a c p =>
    simp only [tstStep, tsCmp] at he
    rw [wfE, Bool.and_eq_true] at hw
    split at he
    · rename_i x hx
      split at he
      · rename_i y hy; exact tst_cmp (S _ _ _ _ hw.1 hx) (S _ _ _ _ hw.2 hy) he
      · cases he
    · cases he
  | bo a es p =>
    simp only [tstStep] at he
    rw [wfE] at hw
    exact tst_bo (snd_A T hw he)
  | _ => cases he
theorem snd_both (HΦ : ∀ f xs x, Φ f xs = some x → CallOK X D f xs x) : ∀ n, SndE X D (both Φ n).e ∧ SndT X D (both Φ n).t
  | 0 => ⟨fun nms r e v hw h => (nomatch h), fun nms r e b hw h => (nomatch h)⟩
  | n + 1 => ⟨snd_step (snd_both HΦ n).1 (snd_both HΦ n).2 HΦ, snd_tst (snd_both HΦ n).1 (snd_both HΦ n).2⟩
theorem snd_ev (HΦ : ∀ f xs x, Φ f xs = some x → CallOK X D f xs x) (n : Nat) : SndE X D (ev Φ n) := (snd_both HΦ n).1
theorem snd_ts (HΦ : ∀ f xs x, Φ f xs = some x → CallOK X D f xs x) (n : Nat) : SndT X D (tst Φ n) := (snd_both HΦ n).2
end
end Mine
end
section
open PySem PySem.Calls PyProof.Rows
set_option maxRecDepth 4000
namespace Mine

abbrev okr (ok0 : Addr → Prop) (roots : List Addr) (b : Addr) : Prop := ok0 b ∧ b ∉ roots
abbrev eOwn (env : Env) (n : Str) : Option Addr := env.cells.lookup n
/-- what stays as it is while a frame runs -/
structure FmC (X : Fix) (P : Addr → Obj → Prop) (ok0 : Addr → Prop) (env : Env) (nms : List (Nat × NameKind)) : Prop where
  N : EnvN X env nms
  C : LayC env (eOwn env)
  base : ∀ h : Heap, (∀ b o, P b o → h.get? b = some o) → Base X h
  okf : ∀ b, (∀ o, ¬ P b o) → ok0 b
  tch : ∀ b, Tch env (eOwn env) b → ∀ o, ¬ P b o
theorem FmC.st {X : Fix} {P : Addr → Obj → Prop} {ok0 : Addr → Prop} {env : Env} {nms : List (Nat × NameKind)} (F : FmC X P ok0 env nms) {i : Nat} (h : isSt (lk nms i) = true) : StNm env (eOwn env) (X.nm i) := by
  rcases isSt_iff h with h | h
  · exact .inl ((F.N.kindOf i).trans h)
  · exact .inr ⟨(F.N.kindOf i).trans h, F.N.cells i (.inl h)⟩

/-- a slot's value -/
noncomputable def SlV (ok0 : Addr → Prop) (roots : List Addr) (h : Heap) : Sl → Value → Prop
  | .sh V, v => Rd (okr ok0 roots) h V v
  | .ow l, v => ∃ a us, v = .ref a ∧ a ∈ roots ∧ h.PlainList a (List.toArray us) ∧ RdL (okr ok0 roots) h l us
/-- the frame as it stands -/
structure Fm (X : Fix) (P : Addr → Obj → Prop) (ok0 : Addr → Prop) (env : Env) (nms : List (Nat × NameKind)) (roots : List Addr) (r : Rho) (m cm : Str → Option Value) (h : Heap) : Prop where
  kept : ∀ b o, P b o → h.get? b = some o
  lay : Lay env (eOwn env) m cm h
  st : ∀ i sl, get r i = some sl → isSt (lk nms i) = true
  sl : ∀ i sl, get r i = some sl → ∃ v, vl env m cm (X.nm i) = some v ∧ SlV ok0 roots h sl v
  ap : ∀ i j li lj a, i ≠ j → get r i = some (.ow li) → get r j = some (.ow lj) → vl env m cm (X.nm i) = some (.ref a) → vl env m cm (X.nm j) ≠ some (.ref a)
  rt : ∀ a ∈ roots, (∀ o, ¬ P a o) ∧ ∃ vs, h.PlainList a vs

theorem plain_le {h h' : Heap} (l : Le h h') {a : Addr} {vs : Array Value} (x : h.PlainList a vs) : h'.PlainList a vs := x.at fun o e => l a o e
theorem SlV.le {ok0 : Addr → Prop} {roots : List Addr} {h h' : Heap} {sl : Sl} {v : Value} (S : SlV ok0 roots h sl v) (l : Le h h') : SlV ok0 roots h' sl v := by
  cases sl with
  | sh V => exact Rd.le l S
  | ow xs => obtain ⟨a, us, e, q, la, ra⟩ := S; exact ⟨a, us, e, q, plain_le l la, ra.le l⟩
section
variable {X : Fix} {P : Addr → Obj → Prop} {ok0 : Addr → Prop} {env : Env} {nms : List (Nat × NameKind)} {roots : List Addr} {r : Rho} {m cm : Str → Option Value} {h h' : Heap}
theorem Fm.le (F : Fm X P ok0 env nms roots r m cm h) (l : Le h h') : Fm X P ok0 env nms roots r m cm h' :=
  ⟨fun b o p => l b o (F.kept b o p), F.lay.le l, F.st, fun i sl e => let ⟨v, a, b⟩ := F.sl i sl e; ⟨v, a, b.le l⟩, F.ap, fun a ha => let ⟨x, vs, y⟩ := F.rt a ha; ⟨x, vs, plain_le l y⟩⟩
theorem Fm.congr {r' : Rho} (F : Fm X P ok0 env nms roots r m cm h) (e : ∀ i, get r' i = get r i) : Fm X P ok0 env nms roots r' m cm h :=
  ⟨F.kept, F.lay, fun i sl q => F.st i sl (e i ▸ q), fun i sl q => F.sl i sl (e i ▸ q), fun i j li lj a n p q => F.ap i j li lj a n (e i ▸ p) (e j ▸ q), F.rt⟩
theorem Fm.okf (F : Fm X P ok0 env nms roots r m cm h) (C : FmC X P ok0 env nms) : OkF (okr ok0 roots) h := fun b e =>
  ⟨C.okf b (fun o p => by rw [F.kept b o p] at e; cases e), fun z => by obtain ⟨_, vs, o, q⟩ := F.rt b z; rw [e] at q; cases q⟩
theorem Fm.envOK (F : Fm X P ok0 env nms roots r m cm h) (C : FmC X P ok0 env nms) : EnvOK X (okr ok0 roots) env r h := fun i sl e => by
  obtain ⟨v, hv, S⟩ := F.sl i sl e
  have see := F.lay.sees C.C (C.st (F.st i sl e)) hv
  cases sl with
  | sh V => exact ⟨v, see, S⟩
  | ow xs => obtain ⟨a, us, rfl, q, la, ra⟩ := S; exact ⟨a, us, see, la.isList, ra⟩
theorem Fm.base (F : Fm X P ok0 env nms roots r m cm h) (C : FmC X P ok0 env nms) : Base X h := C.base h F.kept
/-- room for new roots: what was there does not reach them -/
theorem SlV.more {sl : Sl} {v : Value} {h₀ : Heap} {as : List Addr} (S : SlV ok0 roots h₀ sl v) (n : ∀ a ∈ as, h₀.get? a = .none) : SlV ok0 (as ++ roots) h₀ sl v := by
  have k : ∀ a, (okr ok0 roots a ∧ ∃ o, h₀.get? a = some o) → okr ok0 (as ++ roots) a := fun a ⟨q, o, e⟩ => ⟨q.1, fun z => by
    rcases List.mem_append.mp z with z | z
    · rw [n a z] at e; cases e
    · exact q.2 z⟩
  cases sl with
  | sh V => exact (Rd.dom S).wk k
  | ow xs => obtain ⟨a, us, e, q, la, ra⟩ := S; exact ⟨a, us, e, List.mem_append_right _ q, la, ra.dom.wk k⟩
theorem Fm.more {as : List Addr} (F : Fm X P ok0 env nms roots r m cm h) (l : Le h h') (n : ∀ a ∈ as, h.get? a = .none ∧ ∃ vs, h'.PlainList a vs) (np : ∀ a ∈ as, ∀ o, ¬ P a o) : Fm X P ok0 env nms (as ++ roots) r m cm h' :=
  ⟨fun b o p => l b o (F.kept b o p), F.lay.le l, F.st, fun i sl e => let ⟨v, a, b⟩ := F.sl i sl e; ⟨v, a, (b.more fun a ha => (n a ha).1).le l⟩, F.ap, fun a ha => by
    rcases List.mem_append.mp ha with ha | ha
    · exact ⟨np a ha, (n a ha).2⟩
    · obtain ⟨x, vs, y⟩ := F.rt a ha
      exact ⟨x, vs, plain_le l y⟩⟩
theorem Fm.none_P (F : Fm X P ok0 env nms roots r m cm h) {a : Addr} (e : h.get? a = .none) : ∀ o, ¬ P a o := fun o p => by rw [F.kept a o p] at e; cases e

/-- a value that waits to be stored: free of the frame's own lists -/
noncomputable def Fresh (X : Fix) (env : Env) (r : Rho) (m cm : Str → Option Value) : Sl → Value → Prop
  | .sh _, _ => True
  | .ow _, v => ∀ i l, get r i = some (.ow l) → vl env m cm (X.nm i) ≠ some v

theorem plain_kb {T : Addr → Prop} (k : Kb T h h') (n : ∀ b o, T b → h.get? b = some o → ∀ vs k, o.data ≠ .seq vs k) {a : Addr} {vs : Array Value} (l : h.PlainList a vs) : h'.PlainList a vs := by
  obtain ⟨j, ho⟩ := l
  exact ⟨j, k a _ (fun t => n a _ t ho _ _ rfl) ho⟩
theorem SlV.kb {sl : Sl} {v : Value} (S : SlV ok0 roots h sl v) {T : Addr → Prop} (k : Kb T h h') (n : ∀ b o, T b → h.get? b = some o → ∀ vs k, o.data ≠ .seq vs k) : SlV ok0 roots h' sl v := by
  have q : ∀ a o, okr ok0 roots a → h.get? a = some o → okr ok0 roots a ∧ ((∃ vs n, o.data = .seq vs n) → h'.get? a = some o) := fun a o q e => ⟨q, fun ⟨vs, i, z⟩ => k a o (fun t => n a o t e vs i z) e⟩
  cases sl with
  | sh V => exact Rd.mono q S
  | ow xs =>
    obtain ⟨a, us, e, i, la, ra⟩ := S
    refine ⟨a, us, e, i, ?_, ra.mono q⟩
    exact plain_kb k n la
theorem isList_kb {T : Addr → Prop} (k : Kb T h h') (n : ∀ b o, T b → h.get? b = some o → ∀ vs k, o.data ≠ .seq vs k) {a : Addr} {vs : Array Value} (l : h.IsList a vs) : h'.IsList a vs := by
  obtain ⟨o, ho, c, j, hd⟩ := l
  exact ⟨o, k a o (fun t => n a o t ho _ _ hd) ho, c, j, hd⟩
/-- the frame after a store of a name -/
theorem Fm.put {i : Nat} {sl : Sl} {v : Value} {m' cm' : Str → Option Value} (F : Fm X P ok0 env nms roots r m cm h) (C : FmC X P ok0 env nms) (hi : isSt (lk nms i) = true) (S : SlV ok0 roots h sl v) (W : Fresh X env r m cm sl v)
    (L : Lay env (eOwn env) m' cm' h') (k : Kb (Tch env (eOwn env)) h h') (e : ∀ y, vl env m' cm' y = if y = X.nm i then some v else vl env m cm y) : Fm X P ok0 env nms roots (put r i sl) m' cm' h' := by
  have nd : ∀ b o, Tch env (eOwn env) b → h.get? b = some o → ∀ vs k, o.data ≠ .seq vs k := fun b o t q => tch_data F.lay t q
  have ne : ∀ {j : Nat}, i ≠ j → ¬ X.nm j = X.nm i := fun n z => n (X.inj _ _ z).symm
  refine ⟨fun b o p => k b o (fun t => C.tch b t o p) (F.kept b o p), L, fun j s q => ?_, fun j s q => ?_, fun j j' l l' a n p q => ?_, fun a ha => ?_⟩
  · rw [get_put] at q
    by_cases z : i = j
    · exact z ▸ hi
    · rw [if_neg z] at q; exact F.st j s q
  · rw [get_put] at q
    rw [e]
    by_cases z : i = j
    · rw [if_pos z] at q; cases q
      rw [if_pos (by rw [z])]
      exact ⟨v, rfl, S.kb k nd⟩
    · rw [if_neg z] at q
      rw [if_neg (ne z)]
      obtain ⟨u, hu, S'⟩ := F.sl j s q
      exact ⟨u, hu, S'.kb k nd⟩
  · rw [get_put] at p q
    rw [e, e]
    by_cases z : i = j
    · have z' : i ≠ j' := fun y => n (z ▸ y)
      rw [if_pos z] at p; cases p
      rw [if_neg z'] at q
      rw [if_pos (by rw [z]), if_neg (ne z')]
      intro x
      cases x
      exact W j' l' q
    · rw [if_neg z] at p
      rw [if_neg (ne z)]
      by_cases z' : i = j'
      · rw [if_pos z'] at q; cases q
        rw [if_pos (by rw [z'])]
        intro x y
        cases y
        exact W j l p x
      · rw [if_neg z'] at q
        rw [if_neg (ne z')]
        exact F.ap j j' l l' a n p q
  · obtain ⟨x, vs, y⟩ := F.rt a ha
    exact ⟨x, vs, plain_kb k nd y⟩
end
end Mine
end
section
open PySem PySem.Calls PyProof.Rows
set_option maxRecDepth 4000
namespace Mine

/-- the names that are watched -/
noncomputable def wq (i : Nat) (w : Nat × Nat) : Bool := Nat.beq i w.1 || Nat.beq i w.2
noncomputable def wv (X : Fix) (env : Env) (w : Nat × Nat) (m cm : Str → Option Value) : Option Value × Option Value := (vl env m cm (X.nm w.1), vl env m cm (X.nm w.2))
theorem wv_keep {X : Fix} {env : Env} {w : Nat × Nat} {m cm m' cm' : Str → Option Value} {i : Nat} {v : Value} (h : wq i w = false) (e : ∀ y, vl env m' cm' y = if y = X.nm i then some v else vl env m cm y) : wv X env w m' cm' = wv X env w m cm := by
  unfold wq at h
  rw [Bool.or_eq_false_iff] at h
  unfold wv
  rw [e, e, if_neg (fun z => Nat.ne_of_beq_eq_false h.1 (X.inj _ _ z).symm), if_neg (fun z => Nat.ne_of_beq_eq_false h.2 (X.inj _ _ z).symm)]
noncomputable def isOw : Sl → Prop
  | .sh _ => False
  | .ow _ => True
section
variable (X : Fix) (ok0 : Addr → Prop) (env : Env) (roots : List Addr) (r : Rho) (m cm : Str → Option Value) (h : Heap)
/-- values that wait to be stored -/
structure PendOK (PL : List (Sl × Value)) : Prop where
  each : ∀ p ∈ PL, SlV ok0 roots h p.1 p.2 ∧ Fresh X env r m cm p.1 p.2
  two : PL.Pairwise fun p q => isOw p.1 → isOw q.1 → p.2 ≠ q.2
end
noncomputable def wfTt (nms : List (Nat × NameKind)) (w : Nat × Nat) : Tgt → Bool
  | .name i _ _ => isSt (lk nms i) && !(wq i w)
  | .item _ ix _ _ => wfE nms ix
noncomputable def tgSl : Tgt → V → Option Sl
  | .name _ own _, v => slotOf own v
  | .item _ _ _ _, v => some (.sh v)

section
variable {X : Fix} {P : Addr → Obj → Prop} {ok0 : Addr → Prop} {env : Env} {nms : List (Nat × NameKind)} {roots : List Addr} {r : Rho} {m cm : Str → Option Value} {h h' : Heap}
theorem PendOK.le {PL : List (Sl × Value)} (p : PendOK X ok0 env roots r m cm h PL) (l : Le h h') : PendOK X ok0 env roots r m cm h' PL := ⟨fun q hq => ⟨(p.each q hq).1.le l, (p.each q hq).2⟩, p.two⟩
/-- a list of the frame's own takes other items -/
theorem SlV.off {sl : Sl} {v : Value} {a : Addr} (S : SlV ok0 roots h sl v) (ha : a ∈ roots) (k : Kb (· = a) h h') (n : isOw sl → v ≠ .ref a) : SlV ok0 roots h' sl v := by
  have q : ∀ b o, okr ok0 roots b → h.get? b = some o → okr ok0 roots b ∧ ((∃ vs n, o.data = .seq vs n) → h'.get? b = some o) := fun b o q e => ⟨q, fun _ => k b o (fun z => q.2 (z ▸ ha)) e⟩
  cases sl with
  | sh V => exact Rd.mono q S
  | ow xs =>
    obtain ⟨b, us, e, i, la, ra⟩ := S
    exact ⟨b, us, e, i, la.at fun o e' => k b o (fun z => n trivial (by rw [e, z])) e', ra.mono q⟩
theorem Fm.setAt {i : Nat} {l l' : List V} {a : Addr} {us : List Value} (F : Fm X P ok0 env nms roots r m cm h) (hg : get r i = some (.ow l)) (hv : vl env m cm (X.nm i) = some (.ref a)) (ha : a ∈ roots) (k : Kb (· = a) h h')
    (hl : h'.PlainList a us.toArray) (hr : RdL (okr ok0 roots) h' l' us) : Fm X P ok0 env nms roots (Mine.put r i (.ow l')) m cm h' := by
  obtain ⟨np, vs, la⟩ := F.rt a ha
  have gp : ∀ j, get (Mine.put r i (.ow l')) j = if i = j then some (.ow l') else get r j := fun j => get_put r i j _
  have ow : ∀ j lj, get (Mine.put r i (.ow l')) j = some (.ow lj) → ∃ lj', get r j = some (.ow lj') := fun j lj e => by
    rw [gp] at e
    by_cases z : i = j
    · subst z; exact ⟨l, hg⟩
    · rw [if_neg z] at e; exact ⟨lj, e⟩
  refine ⟨fun b o p => k b o (fun z => np o (z ▸ p)) (F.kept b o p), F.lay.kb k fun b e => ?_, fun j s e => ?_, fun j s e => ?_, fun j j' lj lj' b n p q => ?_, fun b hb => ?_⟩
  · subst e; exact F.lay.not_list la.isList
  · rw [gp] at e
    by_cases z : i = j
    · exact z ▸ F.st i _ hg
    · rw [if_neg z] at e; exact F.st j s e
  · rw [gp] at e
    by_cases z : i = j
    · rw [if_pos z] at e; cases e
      exact ⟨.ref a, z ▸ hv, a, us, rfl, ha, hl, hr⟩
    · rw [if_neg z] at e
      obtain ⟨v, hv', S⟩ := F.sl j s e
      refine ⟨v, hv', S.off ha k fun ho y => ?_⟩
      cases s with
      | sh V => exact ho
      | ow lj => exact F.ap i j l lj a z hg e hv (hv'.trans (congrArg some y))
  · obtain ⟨y, hy⟩ := ow j lj p
    obtain ⟨y', hy'⟩ := ow j' lj' q
    exact F.ap j j' y y' b n hy hy'
  · obtain ⟨x, us', y⟩ := F.rt b hb
    by_cases z : b = a
    · subst z; exact ⟨x, us.toArray, hl⟩
    · exact ⟨x, us', y.at fun o e => k b o z e⟩
theorem Fm.root {i : Nat} {l : List V} (F : Fm X P ok0 env nms roots r m cm h) (hg : get r i = some (.ow l)) : ∃ a us, vl env m cm (X.nm i) = some (.ref a) ∧ a ∈ roots ∧ h.PlainList a (List.toArray us) ∧ RdL (okr ok0 roots) h l us := by
  obtain ⟨v, hv, a, us, rfl, ha, la, ra⟩ := F.sl i _ hg
  exact ⟨a, us, hv, ha, la, ra⟩

variable {D : Nat} {A : Around} {s : Shared} {evf : EvFn} {w : Nat × Nat}
theorem fm_ev {e : Expr} {v : V} {fr : Bool} {Q : Value → Shared → Prop} (S : EvE X D nms fr r e v) (C : FmC X P ok0 env nms) (R : Room A D) (F : Fm X P ok0 env nms roots r m cm s.heap) (K : Post fr (okr ok0 roots) s v Q) : wpAny (model X.prog X.w) A (eval e env) Q NoE s :=
  S env A s _ Q C.N R (F.base C) (F.okf C) (F.envOK C) K
theorem fm_name {i : Nat} {l : List V} {a : Addr} {p : Pos} {Q : Value → Shared → Prop} (C : FmC X P ok0 env nms) (F : Fm X P ok0 env nms roots r m cm s.heap) (hg : get r i = some (.ow l)) (hv : vl env m cm (X.nm i) = some (.ref a)) (h : Q (.ref a) s) : wpAny (model X.prog X.w) A (eval (.Name (X.nm i) p) env) Q NoE s :=
  name_sees C.N (F.lay.sees C.C (C.st (F.st i _ hg)) hv) h
/-- x[k] = v on a list of the frame's own -/
theorem item_set {i : Nat} {ix : Ex} {l : List V} {j : Nat} {V : V} {v : Value} {pn : Pos} {Q : Unit → Shared → Prop} (S : SndE X D evf) (hw : wfE nms ix = true) (C : FmC X P ok0 env nms) (R : Room A D) (F : Fm X P ok0 env nms roots r m cm s.heap)
    (hg : get r i = some (.ow l)) (hx : evf r ix = some (.int (.ofNat j))) (hj : j < l.length) (hf : few j = true) (rv : Rd (okr ok0 roots) s.heap V v)
    (K : ∀ h' tk a, Fm X P ok0 env nms roots (Mine.put r i (.ow (l.set j V))) m cm h' → vl env m cm (X.nm i) = some (.ref a) → a ∈ roots → (∃ h₁, Le s.heap h₁ ∧ Kb (· = a) h₁ h') → Q () { s with heap := h', toks := tk }) :
    wpAny (model X.prog X.w) A (eval (.Name (X.nm i) pn) env) (fun ov s₂ => wpAny (model X.prog X.w) A (eval (ix.un X.nm) env) (fun iv s₃ => wpAny (model X.prog X.w) A (setItem ov iv v) Q NoE s₃) NoE s₂) NoE s := by
  obtain ⟨a, us, hv, ha, la, ra⟩ := F.root hg
  refine fm_name C F hg hv ?_
  refine fm_ev (S _ _ _ _ hw hx) C R F fun iv h₁ tk₁ l₁ r₁ _ => ?_
  obtain ⟨t, rfl⟩ := rd_int r₁
  obtain ⟨n, e⟩ := plain_le l₁ la
  have hlen := ra.length
  have hjj : ((j : Nat) : Int) < (us.toArray.size : Int) := by rw [List.size_toArray, hlen]; exact_mod_cast hj
  refine PySem.W.ki_setAt (n := n) (k := Int.ofNat j) e (Int.natCast_nonneg j) (by have := few_le hf; show (j : Int) < _; omega) hjj ?_
  have k : Kb (· = a) h₁ (h₁.update a (Obj.mapSeq (·.setIfInBounds j v))) := .same (Heap.SameBut.update ..) rfl
  have up := Heap.get?_update_self (Obj.mapSeq (·.setIfInBounds j v)) e rfl
  refine K _ tk₁ a ((F.le l₁).setAt (us := us.set j v) hg hv ha k ?_ ?_) hv ha ⟨h₁, l₁, k⟩
  · exact ⟨_, by simpa [Obj.mapSeq] using up⟩
  · refine ((ra.le l₁).set j (rv.le l₁)).mono fun b o q e => ⟨q, fun _ => k b o (fun z => q.2 (z ▸ ha)) e⟩
end
end Mine
end
section
open PySem PySem.Calls PyProof.Rows
set_option maxRecDepth 4000
namespace Mine

section
variable {X : Fix} {P : Addr → Obj → Prop} {ok0 : Addr → Prop} {env : Env} {nms : List (Nat × NameKind)} {roots : List Addr} {r : Rho} {m cm m' cm' : Str → Option Value} {h h' : Heap} {PL : List (Sl × Value)}
theorem PendOK.put {i : Nat} {sl : Sl} {v : Value} (p : PendOK X ok0 env roots r m cm h ((sl, v) :: PL)) (F : Fm X P ok0 env nms roots r m cm h) (k : Kb (Tch env (eOwn env)) h h') (e : ∀ y, vl env m' cm' y = if y = X.nm i then some v else vl env m cm y) :
    PendOK X ok0 env roots (Mine.put r i sl) m' cm' h' PL := by
  have nd : ∀ b o, Tch env (eOwn env) b → h.get? b = some o → ∀ vs k, o.data ≠ .seq vs k := fun b o t q => tch_data F.lay t q
  obtain ⟨p1, p2⟩ := List.pairwise_cons.mp p.two
  refine ⟨fun q hq => ⟨(p.each q (List.mem_cons_of_mem _ hq)).1.kb k nd, ?_⟩, p2⟩
  have W := (p.each q (List.mem_cons_of_mem _ hq)).2
  have W2 := p1 q hq
  obtain ⟨sq, vq⟩ := q
  cases sq with
  | sh V => trivial
  | ow l =>
    intro j lj g
    rw [get_put] at g
    rw [e]
    by_cases z : i = j
    · rw [if_pos z] at g; cases g
      rw [if_pos (by rw [z])]
      intro y; cases y
      exact W2 trivial trivial rfl
    · rw [if_neg z] at g
      rw [if_neg (fun y => z (X.inj _ _ y).symm)]
      exact W j lj g
theorem PendOK.setAt {i : Nat} {l l' : List V} {a : Addr} (p : PendOK X ok0 env roots r m cm h PL) (hg : get r i = some (.ow l)) (hv : vl env m cm (X.nm i) = some (.ref a)) (ha : a ∈ roots) (k : Kb (· = a) h h') : PendOK X ok0 env roots (Mine.put r i (.ow l')) m cm h' PL := by
  refine ⟨fun q hq => ?_, p.two⟩
  obtain ⟨S, W⟩ := p.each q hq
  obtain ⟨sq, vq⟩ := q
  refine ⟨S.off ha k fun o z => ?_, ?_⟩
  · cases sq with
    | sh V => exact o
    | ow lq => exact W i l hg (hv.trans (congrArg some z.symm))
  · cases sq with
    | sh V => trivial
    | ow lq =>
      intro j lj g
      rw [get_put] at g
      by_cases z : i = j
      · subst z; exact W _ l hg
      · rw [if_neg z] at g; exact W j lj g

variable {D : Nat} {A : Around} {s : Shared} {evf : EvFn} {w : Nat × Nat}
theorem asg_ok {t : Tgt} {V : V} {v : Value} {sl : Sl} {r' : Rho} {Q : Unit → Shared → Prop} (S : SndE X D evf) (hw : wfTt nms w t = true) (C : FmC X P ok0 env nms) (R : Room A D) (F : Fm X P ok0 env nms roots r m cm s.heap)
    (ha : asgT evf r t V = some r') (hs : tgSl t V = some sl) (p : PendOK X ok0 env roots r m cm s.heap ((sl, v) :: PL))
    (K : ∀ h' tk m' cm', Fm X P ok0 env nms roots r' m' cm' h' → PendOK X ok0 env roots r' m' cm' h' PL → wv X env w m' cm' = wv X env w m cm → Q () { s with heap := h', toks := tk }) :
    wpAny (model X.prog X.w) A (assign (t.un X.nm) env v) Q NoE s := by
  obtain ⟨S0, W0⟩ := p.each (sl, v) List.mem_cons_self
  cases t with
  | name i own pos =>
    rw [wfTt, Bool.and_eq_true, Bool.not_eq_true'] at hw
    simp only [asgT] at ha
    simp only [tgSl] at hs
    rw [hs] at ha
    cases ha
    refine wpAny_assign_Name (lay_store C.C F.lay (C.st hw.1) fun h' tk m' cm' L k e => K h' tk m' cm' (F.put C hw.1 S0 W0 L k e) (p.put F k e) ?_)
    exact wv_keep hw.2 e
  | item i ix pn pos =>
    simp only [asgT] at ha
    simp only [tgSl] at hs
    cases hs
    split at ha <;> try contradiction
    rename_i l hg
    split at ha <;> try contradiction
    rename_i k hx
    split at ha <;> try contradiction
    rename_i j
    split at ha <;> try contradiction
    rename_i hj
    rw [Bool.and_eq_true] at hj
    cases ha
    show wpAny _ A (assign (.Subscript (.Name (X.nm i) pn) (ix.un X.nm) pos) env v) Q NoE s
    rw [assign_Subscript]
    have fin := item_set (pn := pn) (v := v) (V := V) (s := s) (A := A) S hw C R F hg hx (W.Z.blt_iff.mp hj.1) hj.2 S0 (Q := Q) fun h' tk a F' hv hm ⟨h₁, l₁, k₁⟩ => by
      refine K h' tk m cm F' ?_ rfl
      refine PendOK.setAt (h := h₁) ⟨fun q hq => ?_, (List.pairwise_cons.mp p.two).2⟩ hg hv hm k₁
      exact ⟨(p.each q (List.mem_cons_of_mem _ hq)).1.le l₁, (p.each q (List.mem_cons_of_mem _ hq)).2⟩
    refine wpAny_bind (wpAny_holding (wk_mono fin fun ov s₁ h₁ => wpAny_bind (wpAny_holding (wk_mono h₁ fun iv s₂ h₂ => wpAny_bind (wpAny_standAt (wpAny_bind (wpAny_holding (wk_mono h₂ fun _ s₃ h₃ => ?_))))))))
    exact wpAny_release' h₃

theorem each_un (nm : Nat → Str) (env : Env) : ∀ ts : List Tgt, assignEach (unT nm ts) env = ts.map fun t => (false, assign (t.un nm) env)
  | [] => rfl
  | t :: ts => by
    have := each_un nm env ts
    cases t with
    | name i own p =>
      show (false, assign (.Name (nm i) p) env) :: assignEach (unT nm ts) env = _
      rw [this]; rfl
    | item i ix pn p =>
      show (false, assign (.Subscript (.Name (nm i) pn) (ix.un nm) p) env) :: assignEach (unT nm ts) env = _
      rw [this]; rfl
noncomputable def wfTs (nms : List (Nat × NameKind)) (w : Nat × Nat) (ts : List Tgt) : Bool := ts.all (wfTt nms w)
noncomputable def slots : List Tgt → List V → Option (List Sl)
  | [], [] => some []
  | t :: ts, v :: vs => match tgSl t v with
    | some s => match slots ts vs with
      | some ss => some (s :: ss)
      | .none => .none
    | .none => .none
  | _, _ => .none
theorem asgT_sl {evf : EvFn} {r r' : Rho} {t : Tgt} {v : V} (e : asgT evf r t v = some r') : ∃ s, tgSl t v = some s := by
  cases t with
  | name i own p =>
    simp only [asgT] at e
    split at e
    · rename_i s h; exact ⟨s, h⟩
    · cases e
  | item i ix pn p => exact ⟨_, rfl⟩
/-- stores one after another -/
theorem stores (S : SndE X D evf) (C : FmC X P ok0 env nms) (R : Room A D) : ∀ {ts : List Tgt} {vs : List V} {PL : List (Sl × Value)} {r r' : Rho} {m cm : Str → Option Value} {s : Shared} {Q : Unit → Shared → Prop}, wfTs nms w ts = true → asgTs evf r ts vs = some r' → slots ts vs = some (PL.map (·.1)) →
    Fm X P ok0 env nms roots r m cm s.heap → PendOK X ok0 env roots r m cm s.heap PL →
    (∀ h' tk m' cm', Fm X P ok0 env nms roots r' m' cm' h' → wv X env w m' cm' = wv X env w m cm → Q () { s with heap := h', toks := tk }) →
    wpAny (model X.prog X.w) A (assignInOrder (ts.map fun t => assign (t.un X.nm) env) (PL.map (·.2))) Q NoE s
  | [], [], PL, r, r', m, cm, s, Q, _, e, hs, F, p, K => by
    cases e
    exact wpAny_pure (K s.heap s.toks m cm F rfl)
  | [], _ :: _, _, _, _, _, _, _, _, _, e, _, _, _, _ => by cases e
  | _ :: _, [], _, _, _, _, _, _, _, _, e, _, _, _, _ => by cases e
  | t :: ts, v :: vs, PL, r, r', m, cm, s, Q, hw, e, hs, F, p, K => by
    unfold asgTs at e
    split at e <;> try contradiction
    rename_i r₁ e₁
    unfold slots at hs
    split at hs <;> try contradiction
    rename_i sl h1
    split at hs <;> try contradiction
    rename_i ss h2
    cases PL with
    | nil => cases hs
    | cons q PL =>
      obtain ⟨sq, vq⟩ := q
      simp only [List.map_cons, Option.some.injEq, List.cons.injEq] at hs
      obtain ⟨rfl, rfl⟩ := hs
      have hw' : wfTt nms w t = true ∧ wfTs nms w ts = true := by
        have : (t :: ts).all (wfTt nms w) = true := hw
        rwa [List.all_cons, Bool.and_eq_true] at this
      show wpAny _ A (do holding (PL.map (·.2)) (assign (t.un X.nm) env vq); assignInOrder (ts.map fun t => assign (t.un X.nm) env) (PL.map (·.2))) Q NoE s
      refine wpAny_bind (wpAny_holding (asg_ok S hw'.1 C R F e₁ h1 p fun h' tk m' cm' F' p' hw₁ => ?_))
      refine stores S C R (s := { s with heap := h', toks := tk }) hw'.2 e h2 F' p' fun h'' tk'' m'' cm'' F'' hw₂ => K h'' tk'' m'' cm'' F'' (hw₂.trans hw₁)
end
end Mine
end
section
open PySem PySem.Calls PyProof.Rows
set_option maxRecDepth 4000
namespace Mine

noncomputable def cOK (nm : Nat → Str) (es : List Ex) : Bool := !((unL nm es).all (constantsAlone 8)) || (unL nm es).all (foldedForSure 8)
/-- which stores are swapped: the targets are names -/
inductive Swp (nm : Nat → Str) : List Tgt → Option (List Str) → Prop
  | no (ts : List Tgt) : Swp nm ts .none
  | two (i : Nat) (o : Bool) (p : Pos) (j : Nat) (q : Bool) (u : Pos) : Swp nm [.name i o p, .name j q u] (some [nm i, nm j])
  | three (i : Nat) (o : Bool) (p : Pos) (j : Nat) (q : Bool) (u : Pos) (k : Nat) (a : Bool) (b : Pos) : Swp nm [.name i o p, .name j q u, .name k a b] (some [nm i, nm j, nm k])
theorem any_star (nm : Nat → Str) : ∀ es : List Ex, ((unL nm es).any fun | .Starred .. => true | _ => false) = false
  | [] => rfl
  | e :: t => by
    show (_ || (unL nm t).any _) = false
    rw [any_star nm t]
    cases e <;> rfl
noncomputable def nmPick (env : Env) (line : Nat) : Expr → Option Str
  | .Name id pos => if env.kindOf id == some .local && pos.line == line then some id else .none
  | _ => .none
theorem nmPick_some {env : Env} {line : Nat} {nm : Nat → Str} {t : Tgt} {x : Str} (h : nmPick env line (t.un nm) = some x) : ∃ i o p, t = .name i o p ∧ x = nm i := by
  cases t with
  | name i o p =>
    refine ⟨i, o, p, rfl, ?_⟩
    simp only [Tgt.un, nmPick] at h
    split at h
    · cases h; rfl
    · cases h
  | item i ix pn p => simp [Tgt.un, nmPick] at h
theorem swapped_eq (ts es : List Expr) (kt ke : Nat) (pt pe : Pos) (env : Env) (hk : env.blockKind = .function) (hs : (es.any fun | .Starred .. => true | _ => false) = false) (hc : es.all (constantsAlone 8) = false ∨ es.all (foldedForSure 8) = true) :
    swappedStores [.Tuple ts kt pt] (.Tuple es ke pe) env = pure (if (!(ts.length == 2 || ts.length == 3) || es.length != ts.length) = true then .none else
      if ((ts.filterMap (nmPick env ((ts.head?.map (·.pos.line)).getD 0))).length != ts.length || (ts.filterMap (nmPick env ((ts.head?.map (·.pos.line)).getD 0))).eraseDups.length != (ts.filterMap (nmPick env ((ts.head?.map (·.pos.line)).getD 0))).length) = true then .none else
        if es.all (foldedForSure 8) = true then .none else some (ts.filterMap (nmPick env ((ts.head?.map (·.pos.line)).getD 0)))) := by
  have e : swappedStores [.Tuple ts kt pt] (.Tuple es ke pe) env = (if (!(ts.length == 2 || ts.length == 3) || es.length != ts.length || env.blockKind != .function) = true then pure .none else
      if (es.any fun | .Starred .. => true | _ => false) = true then pure .none else
      if ((ts.filterMap (nmPick env ((ts.head?.map (·.pos.line)).getD 0))).length != ts.length || (ts.filterMap (nmPick env ((ts.head?.map (·.pos.line)).getD 0))).eraseDups.length != (ts.filterMap (nmPick env ((ts.head?.map (·.pos.line)).getD 0))).length) = true then pure .none else
        if es.all (foldedForSure 8) = true then pure .none else if es.all (constantsAlone 8) = true then (do unsupported "assign.tuple-of-constant-expressions:order-of-the-stores"; pure (some (ts.filterMap (nmPick env ((ts.head?.map (·.pos.line)).getD 0))))) else pure (some (ts.filterMap (nmPick env ((ts.head?.map (·.pos.line)).getD 0))))) := by
    rfl
  rw [e, hk, hs]
  have hb : (ScopeKind.function != ScopeKind.function) = false := rfl
  rw [hb, Bool.or_false, if_neg (show ¬ (false = true) by decide)]
  split
  · rfl
  · split
    · rfl
    · split
      · rfl
      · rename_i h
        rcases hc with hc | hc
        · rw [hc, if_neg (by decide)]
        · exact absurd hc h
theorem blockKind_fn {env : Env} (h : env.scope.kind = .function) : env.blockKind = .function := by
  unfold Env.blockKind
  rw [h]; rfl
theorem swp (nm : Nat → Str) {env : Env} (hk : env.scope.kind = .function) (ts : List Tgt) (es : List Ex) (kt ke : Nat) (pt pe : Pos) (hc : cOK nm es = true) : ∃ res, swappedStores [.Tuple (unT nm ts) kt pt] (.Tuple (unL nm es) ke pe) env = pure res ∧ Swp nm ts res := by
  have hc' : (unL nm es).all (constantsAlone 8) = false ∨ (unL nm es).all (foldedForSure 8) = true := by
    unfold cOK at hc
    rw [Bool.or_eq_true, Bool.not_eq_true'] at hc
    exact hc
  rw [swapped_eq _ _ _ _ _ _ _ (blockKind_fn hk) (any_star nm es) hc']
  refine ⟨_, rfl, ?_⟩
  split
  · exact .no ts
  · rename_i h1
    split
    · exact .no ts
    · rename_i h2
      split
      · exact .no ts
      · simp only [Bool.or_eq_true, not_or, bne_iff_ne, ne_eq, Decidable.not_not] at h1 h2
        have h1' := h1.1
        have h2' := h2.1
        generalize (Option.map (fun x => x.pos.line) (unT nm ts).head?).getD 0 = line at h2' ⊢
        match ts, h1', h2' with
        | [], h, _ => exact absurd rfl h
        | [a], h, _ => exact absurd rfl h
        | [a, b], _, h2 =>
          simp only [unT, List.filterMap_cons, List.filterMap_nil] at h2 ⊢
          cases ea : nmPick env line (a.un nm) with
          | none =>
            rw [ea] at h2
            cases eb : nmPick env line (b.un nm) <;> (rw [eb] at h2; simp at h2)
          | some x =>
            cases eb : nmPick env line (b.un nm) with
            | none => rw [ea, eb] at h2; simp at h2
            | some y =>
              obtain ⟨i, o, p, rfl, rfl⟩ := nmPick_some ea
              obtain ⟨j, q, u, rfl, rfl⟩ := nmPick_some eb
              exact .two i o p j q u
        | [a, b, c], _, h2 =>
          simp only [unT, List.filterMap_cons, List.filterMap_nil] at h2 ⊢
          cases ea : nmPick env line (a.un nm) with
          | none =>
            rw [ea] at h2
            cases eb : nmPick env line (b.un nm) <;> cases ec : nmPick env line (c.un nm) <;> (rw [eb, ec] at h2; simp at h2)
          | some x =>
            cases eb : nmPick env line (b.un nm) with
            | none =>
              rw [ea, eb] at h2
              cases ec : nmPick env line (c.un nm) <;> (rw [ec] at h2; simp at h2)
            | some y =>
              cases ec : nmPick env line (c.un nm) with
              | none => rw [ea, eb, ec] at h2; simp at h2
              | some z =>
                obtain ⟨i, o, p, rfl, rfl⟩ := nmPick_some ea
                obtain ⟨j, q, u, rfl, rfl⟩ := nmPick_some eb
                obtain ⟨k, v, t, rfl, rfl⟩ := nmPick_some ec
                exact .three i o p j q u k v t
        | a :: b :: c :: d :: t, h, _ => exact absurd rfl h
end Mine
end
section
open PySem PySem.Calls PyProof.Rows
set_option maxRecDepth 4000
namespace Mine

noncomputable def ownT : Tgt → Bool
  | .name _ own _ => own
  | .item _ _ _ _ => false
noncomputable def frs : List Tgt → List Ex → Bool
  | [], [] => true
  | t :: ts, e :: es => (!(ownT t) || frOf e) && frs ts es
  | _, _ => false

section
variable {X : Fix} {P : Addr → Obj → Prop} {ok0 : Addr → Prop} {env : Env} {nms : List (Nat × NameKind)} {roots : List Addr} {r : Rho} {m cm m' cm' : Str → Option Value} {h h' : Heap}
/-- a value reckoned, ready to be stored -/
theorem Fm.got {t : Tgt} {V : V} {v : Value} {sl : Sl} {fr : Bool} (F : Fm X P ok0 env nms roots r m cm h) (l : Le h h') (rd : Rd (okr ok0 roots) h' V v) (f : fr = true → ∀ xs, V = .list xs → FreshRoot h (okr ok0 roots) h' xs v) (hs : tgSl t V = some sl) (hfr : ownT t = true → fr = true) :
    ∃ as, (∀ a ∈ as, h.get? a = .none) ∧ Fm X P ok0 env nms (as ++ roots) r m cm h' ∧ SlV ok0 (as ++ roots) h' sl v ∧ Fresh X env r m cm sl v ∧ (isOw sl → ∃ a, v = .ref a ∧ a ∈ as ∧ ∃ o, h'.get? a = some o) := by
  have sh : ∀ {V}, Rd (okr ok0 roots) h' V v → sl = .sh V → ∃ as : List Addr, (∀ a ∈ as, h.get? a = .none) ∧ Fm X P ok0 env nms (as ++ roots) r m cm h' ∧ SlV ok0 (as ++ roots) h' sl v ∧ Fresh X env r m cm sl v ∧ (isOw sl → ∃ a, v = .ref a ∧ a ∈ as ∧ ∃ o, h'.get? a = some o) := fun rd e => by
    subst e
    exact ⟨[], (fun _ h => by cases h), F.le l, rd, trivial, fun h => h.elim⟩
  cases t with
  | item i ix pn p => cases hs; exact sh rd rfl
  | name i own p =>
    cases own with
    | false => cases hs; exact sh rd rfl
    | true =>
      simp only [tgSl, slotOf] at hs
      split at hs <;> try contradiction
      rename_i xs
      cases hs
      obtain ⟨a, vs, rfl, na, la, ra⟩ := f (hfr rfl) xs rfl
      have q1 : ∀ b ∈ [a], h.get? b = .none := fun b hb => by rw [List.mem_singleton.mp hb]; exact na
      have q2 : Fm X P ok0 env nms ([a] ++ roots) r m cm h' := F.more l (fun b hb => by rw [List.mem_singleton.mp hb]; exact ⟨na, _, la⟩) (fun b hb => by rw [List.mem_singleton.mp hb]; exact F.none_P na)
      have q3 : RdL (okr ok0 ([a] ++ roots)) h' xs vs := ra.wk fun b q => ⟨q.1.1, fun z => by
        rcases List.mem_cons.mp z with z | z
        · exact q.2 z
        · exact q.1.2 z⟩
      have q4 : Fresh X env r m cm (.ow xs) (.ref a) := fun j lj g e => by
        obtain ⟨b, us, hv, hb, lb, _⟩ := F.root g
        rw [e] at hv; cases hv
        obtain ⟨n, q⟩ := lb
        rw [na] at q; cases q
      have q5 : ∃ o, h'.get? a = some o := by obtain ⟨n, q⟩ := la; exact ⟨_, q⟩
      exact ⟨[a], q1, q2, ⟨a, vs, rfl, by simp, la, q3⟩, q4, fun _ => ⟨a, rfl, by simp, q5⟩⟩

variable {D : Nat} {A : Around} {evf : EvFn} {w : Nat × Nat}
theorem evO (S : SndE X D evf) (C : FmC X P ok0 env nms) (R : Room A D) {pos : Pos} : ∀ {ts : List Tgt} {es : List Ex} {vs : List V} {ss : List Sl} {roots : List Addr} {s : Shared} {Q : List Value → Shared → Prop}, wfL nms es = true → evs evf r es = some vs → slots ts vs = some ss → frs ts es = true →
    Fm X P ok0 env nms roots r m cm s.heap →
    (∀ PL h' tk as, Le s.heap h' → (∀ a ∈ as, s.heap.get? a = .none) → Fm X P ok0 env nms (as ++ roots) r m cm h' → PendOK X ok0 env (as ++ roots) r m cm h' PL → PL.map (·.1) = ss → (∀ p ∈ PL, isOw p.1 → ∃ a, p.2 = .ref a ∧ a ∈ as) → Q (PL.map (·.2)) { s with heap := h', toks := tk }) →
    wpAny (model X.prog X.w) A (spliced (backTo pos (starEach (unL X.nm es) env))) Q NoE s
  | [], [], vs, ss, roots, s, Q, _, e, hs, _, F, K => by
    cases e
    cases hs
    exact spliced_nil (K [] s.heap s.toks [] (.refl _) (fun _ h => nomatch h) F ⟨fun _ h => (nomatch h), .nil⟩ rfl fun _ h => (nomatch h))
  | [], _ :: _, _, _, _, _, _, _, _, _, e, _, _ => by cases e
  | _ :: _, [], _, _, _, _, _, _, _, _, e, _, _ => by cases e
  | t :: ts, e :: es, vs, ss, roots, s, Q, hw, he, hs, hf, F, K => by
    rw [wfL, Bool.and_eq_true] at hw
    obtain ⟨v, ws, h1, h2, rfl⟩ := evs_cons he
    unfold slots at hs
    split at hs <;> try contradiction
    rename_i sl g1
    split at hs <;> try contradiction
    rename_i st g2
    cases hs
    rw [frs, Bool.and_eq_true] at hf
    show wpAny _ A (spliced (backTo pos (starEach (e.un X.nm :: unL X.nm es) env))) Q NoE s
    rw [star_cons]
    show wpAny _ A (spliced ((false, eval (e.un X.nm) env) :: backTo pos (starEach (unL X.nm es) env))) Q NoE s
    refine spliced_cons (fm_ev (S _ _ _ _ hw.1 h1) C R F fun val h₁ tk₁ l₁ r₁ f₁ => ?_)
    have hfr : ownT t = true → frOf e = true := fun o => by
      have := hf.1
      rw [o] at this
      simpa using this
    obtain ⟨as₁, n₁, F₁, S₁, W₁, o₁⟩ := F.got l₁ r₁ f₁ g1 hfr
    refine evO S C R (s := { s with heap := h₁, toks := tk₁ }) hw.2 h2 g2 hf.2 F₁ fun PL h₂ tk₂ as₂ l₂ n₂ F₂ p₂ hm o₂ => ?_
    have n₂' : ∀ a ∈ as₂, h₁.get? a = .none := n₂
    rw [← List.append_assoc] at F₂ p₂
    refine K ((sl, val) :: PL) h₂ tk₂ (as₂ ++ as₁) (l₁.trans l₂) (fun a ha => ?_) F₂ ⟨fun q hq => ?_, List.pairwise_cons.mpr ⟨fun q hq o o' => ?_, p₂.two⟩⟩ (by simp [hm]) fun q hq o => ?_
    · rcases List.mem_append.mp ha with ha | ha
      · exact none_of_le l₁ (n₂' a ha)
      · exact n₁ a ha
    · rcases List.mem_cons.mp hq with rfl | hq
      · rw [List.append_assoc]
        exact ⟨(S₁.more n₂').le l₂, W₁⟩
      · exact p₂.each q hq
    · obtain ⟨a, e, ha, ob, hb⟩ := o₁ o
      obtain ⟨a', e', ha'⟩ := o₂ q hq o'
      dsimp only
      rw [e, e']
      intro z
      cases z
      rw [n₂' _ ha'] at hb; cases hb
    · rcases List.mem_cons.mp hq with rfl | hq
      · obtain ⟨a, e, ha, _⟩ := o₁ o
        exact ⟨a, e, List.mem_append_right _ ha⟩
      · obtain ⟨a, e, ha⟩ := o₂ q hq o
        exact ⟨a, e, List.mem_append_left _ ha⟩
end

end Mine
end
section
open PySem PySem.Calls PyProof.Rows
set_option maxRecDepth 4000
namespace Mine

noncomputable def isComp : Ex → Bool
  | .comp _ _ _ _ _ _ _ _ _ => true
  | _ => false
noncomputable def isTup : Ex → Bool
  | .tup _ _ _ => true
  | _ => false
section
variable {X : Fix} {P : Addr → Obj → Prop} {ok0 : Addr → Prop} {env : Env} {nms : List (Nat × NameKind)} {roots : List Addr} {r : Rho} {m cm m' cm' : Str → Option Value} {h h' : Heap} {PL : List (Sl × Value)}
theorem Fm.other {T : Addr → Prop} (F : Fm X P ok0 env nms roots r m cm h) (k : Kb T h h') (n1 : ∀ b, T b → ∀ o, ¬ P b o) (n2 : ∀ b, T b → ¬ Tch env (eOwn env) b) (n3 : ∀ b o, T b → h.get? b = some o → ∀ vs k, o.data ≠ .seq vs k) : Fm X P ok0 env nms roots r m cm h' :=
  ⟨fun b o p => k b o (fun t => n1 b t o p) (F.kept b o p), F.lay.kb k n2, F.st, fun i sl e => let ⟨v, a, S⟩ := F.sl i sl e; ⟨v, a, S.kb k n3⟩, F.ap, fun a ha => let ⟨x, vs, y⟩ := F.rt a ha; ⟨x, vs, plain_kb k n3 y⟩⟩
theorem Lay.ex (L : Lay env (eOwn env) m cm h) {b : Addr} (t : Tch env (eOwn env) b) : ∃ o, h.get? b = some o := by
  rcases t with rfl | ⟨n, t⟩
  · obtain ⟨o, _, _, e, _⟩ := L.ns; exact ⟨o, e⟩
  · obtain ⟨o, e, _⟩ := L.cel n b t; exact ⟨o, e⟩

variable {D : Nat} {A : Around} {s : Shared} {evf : EvFn} {w : Nat × Nat}
/-- what holds after a statement -/
noncomputable def KF (X : Fix) (P : Addr → Obj → Prop) (ok0 : Addr → Prop) (env : Env) (nms : List (Nat × NameKind)) (w : Nat × Nat) (m cm : Str → Option Value) (s : Shared) (r' : Rho) (Q : Shared → Prop) : Prop :=
  ∀ h' tk roots' m' cm', Fm X P ok0 env nms roots' r' m' cm' h' → wv X env w m' cm' = wv X env w m cm → Q { s with heap := h', toks := tk }
theorem name_ok {i : Nat} {v : Value} {sl : Sl} {Q : Unit → Shared → Prop} (hi : isSt (lk nms i) = true) (hw : wq i w = false) (C : FmC X P ok0 env nms) (F : Fm X P ok0 env nms roots r m cm s.heap) (p : PendOK X ok0 env roots r m cm s.heap ((sl, v) :: PL))
    (K : ∀ h' tk m' cm', Fm X P ok0 env nms roots (put r i sl) m' cm' h' → PendOK X ok0 env roots (put r i sl) m' cm' h' PL → Kb (Tch env (eOwn env)) s.heap h' → wv X env w m' cm' = wv X env w m cm → Q () { s with heap := h', toks := tk }) :
    wpAny (model X.prog X.w) A (storeName env (X.nm i) v) Q NoE s := by
  obtain ⟨S0, W0⟩ := p.each (sl, v) List.mem_cons_self
  refine lay_store C.C F.lay (C.st hi) fun h' tk m' cm' L k e => K h' tk m' cm' (F.put C hi S0 W0 L k e) (p.put F k e) k ?_
  exact wv_keep hw e
theorem one_pend {sl : Sl} {v : Value} (S : SlV ok0 roots h sl v) (W : Fresh X env r m cm sl v) : PendOK X ok0 env roots r m cm h [(sl, v)] :=
  ⟨fun p hp => by rw [List.mem_singleton.mp hp]; exact ⟨S, W⟩, List.pairwise_singleton _ _⟩

theorem swaps_no {nm : Nat → Str} {e : Ex} (h : isComp e = false) (t : Expr) (line : Nat) : swapsWith (e.un nm) (some t) line env = pure false := by
  cases e <;> first | rfl | cases h
theorem swaps_sub {nm : Nat → Str} (e : Ex) (o i : Expr) (p : Pos) (line : Nat) : swapsWith (e.un nm) (some (.Subscript o i p)) line env = pure false := by
  cases e <;> rfl
theorem swaps_tup {nm : Nat → Str} (e : Ex) (ts : List Expr) (k : Nat) (p : Pos) (line : Nat) : swapsWithSole [.Tuple ts k p] (e.un nm) line env = pure false := by
  cases e <;> rfl
theorem swaps_any {nm : Nat → Str} (e : Ex) (x : Str) (p : Pos) (line : Nat) : ∃ b, swapsWith (e.un nm) (some (.Name x p)) line env = pure b := by
  cases e <;> exact ⟨_, rfl⟩

/-- x = e -/
theorem st_name {i : Nat} {own : Bool} {e : Ex} {V : V} {sl : Sl} {pn p : Pos} {Q : Flow → Shared → Prop} (S : SndE X D evf) (hE : wfE nms e = true) (hi : isSt (lk nms i) = true) (hw : wq i w = false) (hfr : own = true → frOf e = true) (C : FmC X P ok0 env nms) (R : Room A D)
    (F : Fm X P ok0 env nms roots r m cm s.heap) (he : evf r e = some V) (hs : slotOf own V = some sl) (hc : isComp e = false) (K : KF X P ok0 env nms w m cm s (put r i sl) (Q .next)) :
    wpAny (model X.prog X.w) A (exec (.Assign [.Name (X.nm i) pn] (e.un X.nm) p) env) Q NoE s := by
  refine wpAny_Assign_Name (fm_ev (S _ _ _ _ hE he) C R F fun v h₁ tk₁ l₁ r₁ f₁ => ?_) (swaps_no hc _ _)
  obtain ⟨as, _, F₁, S₁, W₁, _⟩ := F.got (t := .name i own pn) l₁ r₁ f₁ hs hfr
  exact name_ok (s := { s with heap := h₁, toks := tk₁ }) hi hw C F₁ (one_pend S₁ W₁) fun h' tk m' cm' F' _ _ e' => K h' tk _ m' cm' F' e'
theorem st_comp {i : Nat} {own : Bool} {elt : Ex} {tg : Tg} {k : SrK} {pf ps pc : Pos} {args : List Ex} {sc : List (Nat × NameKind)} {fv : List Nat} {V : V} {sl : Sl} {pn p : Pos} {Q : Flow → Shared → Prop} {Φ : Nat → List Mine.V → Option Mine.V} {n : Nat} (HΦ : ∀ f xs x, Φ f xs = some x → CallOK X D f xs x)
    (hE : wfE nms (.comp elt tg k pf args ps sc fv pc) = true) (hi : isSt (lk nms i) = true) (hw : wq i w = false) (C : FmC X P ok0 env nms) (R : Room A D)
    (F : Fm X P ok0 env nms roots r m cm s.heap) (he : ev Φ n r (.comp elt tg k pf args ps sc fv pc) = some V) (hs : slotOf own V = some sl) (K : KF X P ok0 env nms w m cm s (put r i sl) (Q .next)) :
    wpAny (model X.prog X.w) A (exec (.Assign [.Name (X.nm i) pn] ((Ex.comp elt tg k pf args ps sc fv pc).un X.nm) p) env) Q NoE s := by
  have S := snd_ev HΦ n
  obtain ⟨b, hb⟩ := swaps_any (env := env) (nm := X.nm) (.comp elt tg k pf args ps sc fv pc) (X.nm i) pn p.line
  cases b with
  | false =>
    refine wpAny_Assign_Name (fm_ev (S _ _ _ _ hE he) C R F fun v h₁ tk₁ l₁ r₁ f₁ => ?_) hb
    obtain ⟨as, _, F₁, S₁, W₁, _⟩ := F.got (t := .name i own pn) l₁ r₁ f₁ hs (fun _ => rfl)
    exact name_ok (s := { s with heap := h₁, toks := tk₁ }) hi hw C F₁ (one_pend S₁ W₁) fun h' tk m' cm' F' _ _ e' => K h' tk _ m' cm' F' e'
  | true =>
    cases n with
    | zero => cases he
    | succ n =>
    have S' := snd_ev HΦ n
    have he' : evStep Φ (ev Φ n) (tst Φ n) r (.comp elt tg k pf args ps sc fv pc) = some V := he
    simp only [evStep, evComp] at he'
    rw [wfE, Bool.and_eq_true, Bool.and_eq_true, Bool.and_eq_true] at hE
    obtain ⟨hc, hsr, ha, hel⟩ := hE
    split at he' <;> try contradiction
    rename_i vs hv
    split at he' <;> try contradiction
    rename_i items hit
    split at he' <;> try contradiction
    rename_i l hl
    cases he'
    rw [exec_Assign_Name_used _ _ _ _ hb]
    refine wpAny_bind (wpAny_standAt (wpAny_bind ?_))
    show wpAny _ A (do let _ ← comprehension ((Ex.comp elt tg k pf args ps sc fv pc).un X.nm) (unScope X.nm sc) env _ (newList []) false (eval (srcUn X.nm k pf (unL X.nm args) ps) env) (some (assign (.Name (X.nm i) pn) env))) _ _ s
    refine wpAny_bind (wk_mono (wpAny_comprehension_free (use := some (assign (.Name (X.nm i) pn) env)) (Q := fun _ s' => Q .next s') (cl := closL env (unNames X.nm sc) []) rfl (fun x => fsi_src X.nm k tg.isTwo nms pf ps args hsr env x) (clos_eq (comp_free C.N (wfC_iff hc))) rfl (comp_nd X.inj X rfl (wfC_iff hc).nd) ?_)
      fun _ s' hq => wpAny_pure (wpAny_pure hq))
    refine comp_core (RR := fun acc Ca => compPost (model X.prog X.w) A NoE (some (assign (.Name (X.nm i) pn) env)) (fun _ s' => Q .next s') acc Ca) (ih := ev Φ n) (wfC_iff hc) (snd_S S' hsr ha hv hit) (fun r' x h => (S' _ _ _ _ hel h).weak) hl (srcV_len hit) C.N R (F.base C) (F.okf C) (F.envOK C) fun Da Ca h' tk mc l' f nc hC => ?_
    show wpAny _ A (assign (.Name (X.nm i) pn) env (.ref Da)) _ NoE _
    have rd : Rd (okr ok0 roots) h' (.list l) (.ref Da) := f.rd (F.okf C)
    obtain ⟨as, nas, F₁, S₁, W₁, _⟩ := F.got (t := .name i own pn) (fr := true) l' rd (fun _ xs e => by cases e; exact f) hs (fun _ => rfl)
    have hnt : ¬ Tch env (eOwn env) Ca := fun t => by obtain ⟨o, e⟩ := F.lay.ex t; rw [hC] at e; cases e
    refine wpAny_assign_Name (name_ok (s := { s with heap := h', toks := tk }) hi hw C F₁ (one_pend S₁ W₁) fun h₂ tk₂ m₂ cm₂ F₂ _ k₂ e₂ => ?_)
    have nc₂ : h₂.Ns Ca mc := nc.at fun o e => k₂ Ca o hnt e
    refine ⟨mc, nc₂, fun h₃ s₃ => K h₃ tk₂ _ m₂ cm₂ (F₂.other (T := (· = Ca)) (.same s₃ rfl) (fun b e => by subst e; exact F.none_P hC) (fun b e => by subst e; exact hnt) fun b o e ho vs k z => ?_) e₂⟩
    subst e
    obtain ⟨o', es, ep, e', d, _⟩ := nc₂
    rw [ho] at e'; cases e'
    rw [z] at d; cases d
/-- x[i] = e -/
theorem st_item {i : Nat} {ix e : Ex} {V : V} {l : List Mine.V} {j : Nat} {pn p p2 : Pos} {Q : Flow → Shared → Prop} (S : SndE X D evf) (hE : wfE nms e = true) (hX : wfE nms ix = true) (C : FmC X P ok0 env nms) (R : Room A D) (F : Fm X P ok0 env nms roots r m cm s.heap) (he : evf r e = some V)
    (hg : get r i = some (.ow l)) (hx : evf r ix = some (.int (.ofNat j))) (hj : j < l.length) (hf : few j = true) (K : KF X P ok0 env nms w m cm s (put r i (.ow (l.set j V))) (Q .next)) :
    wpAny (model X.prog X.w) A (exec (.Assign [.Subscript (.Name (X.nm i) pn) (ix.un X.nm) p2] (e.un X.nm) p) env) Q NoE s := by
  refine wpAny_Assign_Subscript (fm_ev (S _ _ _ _ hE he) C R F fun v h₁ tk₁ l₁ r₁ _ => ?_) (swaps_sub _ _ _ _ _)
  exact item_set (s := { s with heap := h₁, toks := tk₁ }) (Q := fun _ => Q .next) S hX C R (F.le l₁) hg hx hj hf r₁ fun h' tk a F' _ _ _ => K h' tk _ m cm F' rfl
end
end Mine
end
section
open PySem PySem.Calls PyProof.Rows
set_option maxRecDepth 4000
namespace Mine

section
variable {X : Fix} {P : Addr → Obj → Prop} {ok0 : Addr → Prop} {env : Env} {nms : List (Nat × NameKind)} {roots : List Addr} {r : Rho} {m cm m' cm' : Str → Option Value} {h h' : Heap} {PL : List (Sl × Value)}
variable {D : Nat} {A : Around} {s : Shared} {evf : EvFn} {w : Nat × Nat}
theorem Fm.get_eq {r' : Rho} (F : Fm X P ok0 env nms roots r m cm h) (e : ∀ i, get r i = get r' i) : Fm X P ok0 env nms roots r' m cm h := F.congr fun i => (e i).symm
/-- the values lie in a tuple; the targets take them -/
theorem tup_stores {ts : List Tgt} {vs : List V} {kt : Nat} {pt : Pos} {T : Addr} {r' : Rho} {Q : Flow → Shared → Prop} (S : SndE X D evf) (hw : wfTs nms w ts = true) (C : FmC X P ok0 env nms) (R : Room A D) (F : Fm X P ok0 env nms roots r m cm s.heap)
    (ha : asgTs evf r ts vs = some r') (hs : slots ts vs = some (PL.map (·.1))) (p : PendOK X ok0 env roots r m cm s.heap PL) (hT : s.heap.IsTuple T (PL.map (·.2)).toArray) (hl : ts.length = PL.length) (K : KF X P ok0 env nms w m cm s r' (Q .next)) :
    wpAny (model X.prog X.w) A (assign (.Tuple (unT X.nm ts) kt pt) env (.ref T)) (fun _ => Q .next) NoE s := by
  refine wpAny_assign_Tuple R.handled hT (by rw [each_un]; simp [hl]) (by rw [each_un]; simp [List.findIdx?_eq_none_iff]) fun h₁ e₁ => ?_
  have l₁ : Le s.heap h₁ := Le.ext e₁ (size_none _)
  rw [each_un]
  have := stores (s := { s with heap := h₁ }) (Q := fun _ => Q .next) S C R hw ha hs (F.le l₁) (p.le l₁) fun h' tk m' cm' F' e' => K h' tk roots m' cm' F' e'
  simpa [Function.comp_def] using this
theorem slots_len : ∀ {ts : List Tgt} {vs : List V} {ss : List Sl}, slots ts vs = some ss → ts.length = ss.length
  | [], [], _, e => by cases e; rfl
  | [], _ :: _, _, e => by cases e
  | _ :: _, [], _, e => by cases e
  | t :: ts, v :: vs, ss, e => by
    unfold slots at e
    split at e <;> try contradiction
    split at e <;> try contradiction
    rename_i h
    cases e
    simp [slots_len h]
theorem slots_len2 : ∀ {ts : List Tgt} {vs : List V} {ss : List Sl}, slots ts vs = some ss → vs.length = ss.length
  | [], [], _, e => by cases e; rfl
  | [], _ :: _, _, e => by cases e
  | _ :: _, [], _, e => by cases e
  | t :: ts, v :: vs, ss, e => by
    unfold slots at e
    split at e <;> try contradiction
    split at e <;> try contradiction
    rename_i h
    cases e
    simp [slots_len2 h]
theorem asgTs_slots {evf : EvFn} : ∀ {ts : List Tgt} {vs : List V} {r r' : Rho}, asgTs evf r ts vs = some r' → ∃ ss, slots ts vs = some ss
  | [], [], _, _, _ => ⟨_, rfl⟩
  | [], _ :: _, _, _, e => by cases e
  | _ :: _, [], _, _, e => by cases e
  | t :: ts, v :: vs, r, r', e => by
    unfold asgTs at e
    split at e <;> try contradiction
    rename_i r₁ e₁
    obtain ⟨s, hs⟩ := asgT_sl e₁
    obtain ⟨ss, hss⟩ := asgTs_slots e
    exact ⟨s :: ss, by unfold slots; rw [hs, hss]⟩
/-- which names a list of targets takes -/
noncomputable def distinct2 : List Tgt → Bool
  | [.name i _ _, .name j _ _] => !(Nat.beq i j)
  | [.name i _ _, .name j _ _, .name k _ _] => !(Nat.beq i j) && (!(Nat.beq i k) && !(Nat.beq j k))
  | _ => true
theorem nbq {i j : Nat} (h : (!(Nat.beq i j)) = true) : i ≠ j := by
  rw [Bool.not_eq_true'] at h; exact Nat.ne_of_beq_eq_false h

theorem unpack_ {T : Addr} {items : List Value} {n : Nat} {Q : List Value → Shared → Prop} (hh : A.handled = .none) (hT : s.heap.IsTuple T items.toArray) (hn : n = items.length) (K : ∀ h', Le s.heap h' → Q items { s with heap := h' }) :
    wpAny (model X.prog X.w) A (unpackItems (.ref T) n .none) Q NoE s := by
  subst hn
  have := wpAny_unpackItems_tuple (prog := X.prog) (w := X.w) (E := NoE) (Q := Q) hh hT fun h' e => K h' (Le.ext e (size_none _))
  simpa using this

theorem st_D {ts : List Tgt} {es : List Ex} {vs : List V} {kt ke : Nat} {pt pe p : Pos} {r' : Rho} {Q : Flow → Shared → Prop} (S : SndE X D evf) (hE : wfL nms es = true) (hw : wfTs nms w ts = true) (hfr : frs ts es = true) (hd : distinct2 ts = true) (hc : cOK X.nm es = true) (hf : few es.length = true)
    (C : FmC X P ok0 env nms) (R : Room A D) (F : Fm X P ok0 env nms roots r m cm s.heap) (he : evs evf r es = some vs) (ha : asgTs evf r ts vs = some r') (K : KF X P ok0 env nms w m cm s r' (Q .next)) :
    wpAny (model X.prog X.w) A (exec (.Assign [.Tuple (unT X.nm ts) kt pt] (.Tuple (unL X.nm es) ke pe) p) env) Q NoE s := by
  obtain ⟨res, hsw, hres⟩ := swp X.nm C.N.kind ts es kt ke pt pe hc
  have hsole : swapsWithSole [.Tuple (unT X.nm ts) kt pt] (.Tuple (unL X.nm es) ke pe) p.line env = pure false := rfl
  obtain ⟨ss, hss⟩ := asgTs_slots ha
  have val : ∀ {Q' : Value → Shared → Prop}, (∀ PL h' tk as T, Le s.heap h' → Fm X P ok0 env nms (as ++ roots) r m cm h' → PendOK X ok0 env (as ++ roots) r m cm h' PL → PL.map (·.1) = ss → h'.IsTuple T (PL.map (·.2)).toArray → Q' (.ref T) { s with heap := h', toks := tk }) →
      wpAny (model X.prog X.w) A (eval (.Tuple (unL X.nm es) ke pe) env) Q' NoE s := fun {Q'} k => by
    refine wpAny_Tuple_spliced (evO S C R hE he hss hfr F fun PL h' tk as l n F' p' hm _ => ⟨?_, ?_⟩)
    · have e1 := slots_len2 hss
      have e2 := evs_len he
      have e3 : (PL.map (·.1)).length = ss.length := by rw [hm]
      simp only [List.length_map] at e3 ⊢
      rw [e3, ← e1, e2]
      exact few_size hf
    · have l₂ := Le.push h' { cls := .type "tuple", data := .seq (PL.map (·.2)).toArray }
      exact k PL _ tk as _ (l.trans l₂) (F'.le l₂) (p'.le l₂) hm ⟨_, Heap.get?_push_size _ rfl, rfl, _, rfl⟩
  cases hres with
  | no ts =>
    refine Assign_Tuple (val fun PL h' tk as T l F' p' hm hT => ?_) hsole hsw
    exact tup_stores (s := { s with heap := h', toks := tk }) S hw C R F' ha (by rw [hss, hm]) p' hT (by have := slots_len hss; rw [this, ← hm]; simp) fun h₂ tk₂ rs m₂ cm₂ F₂ e₂ => K h₂ tk₂ rs m₂ cm₂ F₂ e₂
  | two i o pi j q pj =>
    refine Assign_Tuple_swapped (val fun PL h' tk as T l F' p' hm hT => ?_) hsole hsw
    have hne := nbq hd
    have hw1 : wfTt nms w (.name i o pi) = true ∧ wfTt nms w (.name j q pj) = true := by
      have : [Tgt.name i o pi, .name j q pj].all (wfTt nms w) = true := hw
      simpa [Bool.and_eq_true] using this
    simp only [wfTt, Bool.and_eq_true, Bool.not_eq_true'] at hw1
    match vs, ha, hss with
    | [va, vb], ha, hss =>
      simp only [slots] at hss
      split at hss <;> try contradiction
      rename_i s1 g1
      split at hss <;> try contradiction
      rename_i st g2
      split at g2 <;> try contradiction
      rename_i s2 g3
      cases g2
      cases hss
      simp only [tgSl] at g1 g3
      simp only [asgTs, asgT, g1, g3] at ha
      cases ha
      match PL, hm with
      | [(t1, v1), (t2, v2)], hm =>
        simp only [List.map_cons, List.map_nil, List.cons.injEq, and_true] at hm
        obtain ⟨rfl, rfl⟩ := hm
        refine unpack_ (s := { s with heap := h', toks := tk }) (items := [v1, v2]) R.handled hT rfl fun h₁ l₁ => ?_
        have F₁ := F'.le l₁
        have p₁ := p'.le l₁
        have p₁' : PendOK X ok0 env (as ++ roots) r m cm h₁ [(t2, v2), (t1, v1)] := ⟨fun q hq => p₁.each q (by simp at hq ⊢; exact hq.symm), by
          have := p₁.two
          simp only [List.pairwise_cons, List.mem_singleton, forall_eq, List.not_mem_nil, false_implies, implies_true, List.Pairwise.nil, and_true] at this ⊢
          exact fun a b c => this b a c.symm⟩
        show wpAny _ A (do holding [v1] (bindName env (X.nm j) v2); assignInOrder [fun v => bindName env (X.nm i) v] [v1]) _ NoE _
        refine wpAny_bind (wpAny_holding (wpAny_bindName (name_ok (s := { s with heap := h₁, toks := tk }) hw1.2.1 hw1.2.2 C F₁ p₁' fun h₂ tk₂ m₂ cm₂ F₂ p₂ _ e₂ => ?_)))
        show wpAny _ A (do holding [] (bindName env (X.nm i) v1); assignInOrder [] []) _ NoE _
        refine wpAny_bind (wpAny_holding (wpAny_bindName (name_ok (s := { s with heap := h₂, toks := tk₂ }) hw1.1.1 hw1.1.2 C F₂ p₂ fun h₃ tk₃ m₃ cm₃ F₃ p₃ _ e₃ => wpAny_pure ?_)))
        refine K h₃ tk₃ _ m₃ cm₃ (F₃.congr fun k => ?_) (e₃.trans e₂)
        simp only [get_put]
        by_cases z1 : i = k
        · subst z1; simp [hne.symm]
        · simp [z1]
    | [], ha, _ => cases ha
    | [_], ha, _ => exact absurd ha (by simp only [asgTs]; split <;> simp)
    | _ :: _ :: _ :: _, ha, _ => exact absurd ha (by simp only [asgTs]; split <;> (try split) <;> simp)
  | three i o pi j q pj k u pk =>
    refine Assign_Tuple_swapped (val fun PL h' tk as T l F' p' hm hT => ?_) hsole hsw
    have hd' : i ≠ j ∧ i ≠ k ∧ j ≠ k := by
      simp only [distinct2, Bool.and_eq_true] at hd
      exact ⟨nbq hd.1, nbq hd.2.1, nbq hd.2.2⟩
    have hw1 : wfTt nms w (.name i o pi) = true ∧ wfTt nms w (.name j q pj) = true ∧ wfTt nms w (.name k u pk) = true := by
      have : [Tgt.name i o pi, .name j q pj, .name k u pk].all (wfTt nms w) = true := hw
      simpa [Bool.and_eq_true] using this
    simp only [wfTt, Bool.and_eq_true, Bool.not_eq_true'] at hw1
    match vs, ha, hss with
    | [va, vb, vc], ha, hss =>
      simp only [slots] at hss
      split at hss <;> try contradiction
      rename_i s1 g1
      split at hss <;> try contradiction
      rename_i st g2
      split at g2 <;> try contradiction
      rename_i s2 g3
      split at g2 <;> try contradiction
      rename_i st2 g4
      split at g4 <;> try contradiction
      rename_i s3 g5
      cases g4
      cases g2
      cases hss
      simp only [tgSl] at g1 g3 g5
      simp only [asgTs, asgT, g1, g3, g5] at ha
      cases ha
      match PL, hm with
      | [(t1, v1), (t2, v2), (t3, v3)], hm =>
        simp only [List.map_cons, List.map_nil, List.cons.injEq, and_true] at hm
        obtain ⟨rfl, rfl, rfl⟩ := hm
        refine unpack_ (s := { s with heap := h', toks := tk }) (items := [v1, v2, v3]) R.handled hT rfl fun h₁ l₁ => ?_
        have F₁ := F'.le l₁
        have p₁ := p'.le l₁
        have p₁' : PendOK X ok0 env (as ++ roots) r m cm h₁ [(t3, v3), (t2, v2), (t1, v1)] := ⟨fun q hq => p₁.each q (by simp at hq ⊢; rcases hq with h | h | h <;> simp [h]), by
          have := p₁.two
          simp only [List.pairwise_cons, List.mem_cons, List.mem_singleton, forall_eq_or_imp, forall_eq, List.not_mem_nil, false_implies, implies_true, List.Pairwise.nil, and_true] at this ⊢
          obtain ⟨⟨y1, y2⟩, y3⟩ := this
          exact ⟨⟨fun a b c => y3 b a c.symm, fun a b c => y2 b a c.symm⟩, fun a b c => y1 b a c.symm⟩⟩
        show wpAny _ A (do holding [v2, v1] (bindName env (X.nm k) v3); assignInOrder [fun v => bindName env (X.nm j) v, fun v => bindName env (X.nm i) v] [v2, v1]) _ NoE _
        refine wpAny_bind (wpAny_holding (wpAny_bindName (name_ok (s := { s with heap := h₁, toks := tk }) hw1.2.2.1 hw1.2.2.2 C F₁ p₁' fun h₂ tk₂ m₂ cm₂ F₂ p₂ _ e₂ => ?_)))
        show wpAny _ A (do holding [v1] (bindName env (X.nm j) v2); assignInOrder [fun v => bindName env (X.nm i) v] [v1]) _ NoE _
        refine wpAny_bind (wpAny_holding (wpAny_bindName (name_ok (s := { s with heap := h₂, toks := tk₂ }) hw1.2.1.1 hw1.2.1.2 C F₂ p₂ fun h₃ tk₃ m₃ cm₃ F₃ p₃ _ e₃ => ?_)))
        show wpAny _ A (do holding [] (bindName env (X.nm i) v1); assignInOrder [] []) _ NoE _
        refine wpAny_bind (wpAny_holding (wpAny_bindName (name_ok (s := { s with heap := h₃, toks := tk₃ }) hw1.1.1 hw1.1.2 C F₃ p₃ fun h₄ tk₄ m₄ cm₄ F₄ p₄ _ e₄ => wpAny_pure ?_)))
        refine K h₄ tk₄ _ m₄ cm₄ (F₄.congr fun x => ?_) (e₄.trans (e₃.trans e₂))
        simp only [get_put]
        by_cases z1 : i = x
        · subst z1; simp [hd'.1.symm, hd'.2.1.symm]
        · by_cases z2 : j = x
          · subst z2; simp [z1, hd'.2.2.symm]
          · simp [z1, z2]
    | [], ha, _ => cases ha
    | [_], ha, _ => exact absurd ha (by simp only [asgTs]; split <;> simp)
    | [_, _], ha, _ => exact absurd ha (by simp only [asgTs]; split <;> (try split) <;> simp)
    | _ :: _ :: _ :: _ :: _, ha, _ => exact absurd ha (by simp only [asgTs]; split <;> (try split) <;> (try split) <;> simp)
end
end Mine
end
section
open PySem PySem.Calls PyProof.Rows
set_option maxRecDepth 4000
namespace Mine

/-- a call that changes its first argument, a list -/
noncomputable def InoutOK (X : Fix) (D : Nat) (f : Nat) (l xs l' : List V) : Prop :=
  (∃ d ∈ X.ds, d.name = X.nm f) ∧ ∀ (A : Around) (s : Shared) (ok : Addr → Prop) (a b : Addr) (us vs : List Value) (Q : Value → Shared → Prop), X.mg (X.nm f) = some (.ref a) → Room A D → (∀ h', Kb (· = b) s.heap h' → Base X h') → OkF ok s.heap → ok b →
    s.heap.PlainList b us.toArray → RdL (fun c => ok c ∧ c ≠ b) s.heap l us → RdL (fun c => ok c ∧ c ≠ b) s.heap xs vs →
    (∀ h' tk us', Kb (· = b) s.heap h' → h'.PlainList b (List.toArray us') → RdL (fun c => ok c ∧ c ≠ b) h' l' us' → Q .none { s with heap := h', toks := tk }) →
    wpAny (model X.prog X.w) A (call (.ref a) (.ref b :: vs)) Q NoE s

section
variable {X : Fix} {P : Addr → Obj → Prop} {ok0 : Addr → Prop} {env : Env} {nms : List (Nat × NameKind)} {roots : List Addr} {r : Rho} {m cm m' cm' : Str → Option Value} {h h' : Heap} {PL : List (Sl × Value)}
variable {D : Nat} {A : Around} {s : Shared} {evf : EvFn} {w : Nat × Nat}
theorem rd_mk_int {ok : Addr → Prop} {h : Heap} {c : Int} {tk : Tok} : Rd ok h (.int c) (.int c tk) := by rw [Rd]; exact ⟨tk, rfl⟩
theorem load_sees {env : Env} {A : Around} {s : Shared} {i : Nat} {v : Value} {Q : Value → Shared → Prop} (N : EnvN X env nms) (S : Sees s.heap env (X.nm i) v) (h : Q v s) : wpAny (model X.prog X.w) A (loadName env (X.nm i)) Q NoE s := by
  rcases S with ⟨a, m, b, c⟩ | ⟨a | a, c, b, d⟩
  · exact wpAny_loadName_local N.kind a b c h
  · exact wpAny_loadName_cell N.kind a b d h
  · exact wpAny_loadName_free N.kind a b d h (X.cld i)
/-- x o= e on whole numbers -/
theorem st_aug {i : Nat} {e : Ex} {a b c : Int} {o : Bop} {pn p : Pos} {Q : Flow → Shared → Prop} (S : SndE X D evf) (hE : wfE nms e = true) (hw : wq i w = false) (C : FmC X P ok0 env nms) (R : Room A D) (F : Fm X P ok0 env nms roots r m cm s.heap) (hg : get r i = some (.sh (.int a))) (he : evf r e = some (.int b))
    (ho : (o = .sub ∧ c = a - b) ∨ (o = .add ∧ c = a + b)) (K : KF X P ok0 env nms w m cm s (put r i (.sh (.int c))) (Q .next)) :
    wpAny (model X.prog X.w) A (exec (.AugAssign (.Name (X.nm i) pn) o.un (e.un X.nm) p) env) Q NoE s := by
  obtain ⟨v, hv, S0⟩ := F.sl i _ hg
  obtain ⟨t, rfl⟩ := rd_int (ok := okr ok0 roots) (h := s.heap) S0
  refine wpAny_AugAssign_Name (load_sees C.N (F.lay.sees C.C (C.st (F.st i _ hg)) hv) ?_)
  refine fm_ev (S _ _ _ _ hE he) C R F fun u h₁ tk₁ l₁ r₁ _ => ?_
  obtain ⟨t', rfl⟩ := rd_int r₁
  have fin : ∀ tk tk', wpAny (model X.prog X.w) A (storeName env (X.nm i) (.int c tk)) (fun _ => Q .next) NoE { s with heap := h₁, toks := tk' } := fun tk tk' =>
    name_ok (s := { s with heap := h₁, toks := tk' }) (PL := []) (sl := .sh (.int c)) (F.st i _ hg) hw C (F.le l₁) (one_pend (rd_mk_int (ok := okr ok0 roots) (h := h₁)) trivial) fun h' tk m' cm' F' _ _ e' => K h' tk _ m' cm' F' e'
  rcases ho with ⟨rfl, rfl⟩ | ⟨rfl, rfl⟩
  · exact PySem.AutoIntOps.isub_0 (fin _ _)
  · exact PySem.AutoIntOps.iadd_0 (fin _ _)
/-- f(..) alone -/
theorem st_ex {e : Ex} {V : V} {p : Pos} {Q : Flow → Shared → Prop} (S : SndE X D evf) (hE : wfE nms e = true) (hc : isComp e = false) (C : FmC X P ok0 env nms) (R : Room A D) (F : Fm X P ok0 env nms roots r m cm s.heap) (he : evf r e = some V) (K : KF X P ok0 env nms w m cm s r (Q .next)) :
    wpAny (model X.prog X.w) A (exec (.Expr (e.un X.nm) p) env) Q NoE s := by
  refine wpAny_Expr_any (fm_ev (S _ _ _ _ hE he) C R F fun v h' tk l _ _ => K h' tk _ m cm (F.le l) rfl) ?_ ?_
  · unfold interactive; rw [C.N.kind]; rfl
  · cases e <;> first | rfl | cases hc

/-- x.append(v): how the call goes -/
theorem app_call {i : Nat} {l : List Mine.V} {e : Expr} {pn pa pc p : Pos} {Q : Flow → Shared → Prop} (C : FmC X P ok0 env nms) (F : Fm X P ok0 env nms roots r m cm s.heap) (hg : get r i = some (.ow l)) (hl : (pa.endLine == pc.line) = true) (ht : ∀ pos, backTo pos (starEach [e] env) = [(false, eval e env)])
    (h : ∀ a us, vl env m cm (X.nm i) = some (.ref a) → a ∈ roots → s.heap.PlainList a (List.toArray us) → RdL (okr ok0 roots) s.heap l us → wpAny (model X.prog X.w) A (eval e env) (fun y s₂ => wpAny (model X.prog X.w) A (call (.builtin "list.append") [.ref a, y]) (fun _ => Q .next) NoE s₂) NoE s) :
    wpAny (model X.prog X.w) A (exec (.Expr (.Call (.Attribute (.Name (X.nm i) pn) "append" pa) [e] [] pc) p) env) Q NoE s := by
  obtain ⟨a, us, hv, ha, la, ra⟩ := F.root hg
  refine wpAny_Expr_any (wpAny_Call_append rfl (by rw [ht]; rfl) hl (ht pc) (fm_name C F hg hv ⟨a, us.toArray, rfl, ?_, h a us hv ha la ra⟩)) ?_ rfl
  · obtain ⟨n, q⟩ := la
    exact ⟨_, n, q, rfl, rfl, rfl⟩
  · unfold interactive; rw [C.N.kind]; rfl
/-- the append itself -/
theorem app_do {i : Nat} {l : List Mine.V} {V : V} {v : Value} {a : Addr} {us : List Value} {Q : Flow → Shared → Prop} (F : Fm X P ok0 env nms roots r m cm s.heap) (hg : get r i = some (.ow l)) (hf : few l.length = true) (hv : vl env m cm (X.nm i) = some (.ref a)) (ha : a ∈ roots) (la : s.heap.PlainList a (List.toArray us))
    (ra : RdL (okr ok0 roots) s.heap l us) (rv : Rd (okr ok0 roots) s.heap V v) (K : KF X P ok0 env nms w m cm s (put r i (.ow (l ++ [V]))) (Q .next)) :
    wpAny (model X.prog X.w) A (call (.builtin "list.append") [.ref a, v]) (fun _ => Q .next) NoE s := by
  refine wpAny_list_append_plain la (fun h₁ la₁ s₁ => ?_) (by rw [List.size_toArray, ra.length]; exact few_size hf)
  have k : Kb (· = a) s.heap h₁ := .same s₁ rfl
  refine K h₁ s.toks roots m cm (F.setAt (us := us ++ [v]) hg hv ha k (by simpa using la₁) ?_) rfl
  exact (ra.append (.cons rv .nil)).mono fun b o q e => ⟨q, fun _ => k b o (fun z => q.2 (z ▸ ha)) e⟩
theorem st_app {i : Nat} {l : List Mine.V} {e : Ex} {V : V} {pn pa pc p : Pos} {Q : Flow → Shared → Prop} (S : SndE X D evf) (hE : wfE nms e = true) (C : FmC X P ok0 env nms) (R : Room A D) (F : Fm X P ok0 env nms roots r m cm s.heap) (hg : get r i = some (.ow l)) (hf : few l.length = true)
    (hl : (pa.endLine == pc.line) = true) (he : evf r e = some V) (K : KF X P ok0 env nms w m cm s (put r i (.ow (l ++ [V]))) (Q .next)) :
    wpAny (model X.prog X.w) A (exec (.Expr (.Call (.Attribute (.Name (X.nm i) pn) "append" pa) [e.un X.nm] [] pc) p) env) Q NoE s := by
  refine app_call C F hg hl (fun pos => by rw [star_cons]; rfl) fun a us hv ha la ra => ?_
  refine fm_ev (S _ _ _ _ hE he) C R F fun v h₁ tk₁ l₁ r₁ _ => ?_
  exact app_do (s := { s with heap := h₁, toks := tk₁ }) (F.le l₁) hg hf hv ha (plain_le l₁ la) (ra.le l₁) r₁ fun h' tk rs m' cm' F' e' => K h' tk rs m' cm' F' e'
/-- a list of the frame's own goes into another one -/
theorem Fm.give {j : Nat} {xs : List Mine.V} {b : Addr} (F : Fm X P ok0 env nms roots r m cm h) (hg : get r j = some (.ow xs)) (hv : vl env m cm (X.nm j) = some (.ref b)) : Fm X P ok0 env nms (roots.filter (· != b)) (del r j) m cm h := by
  have k : ∀ a, okr ok0 roots a → okr ok0 (roots.filter (· != b)) a := fun a q => ⟨q.1, fun z => q.2 (List.mem_filter.mp z).1⟩
  have g : ∀ i sl, get (del r j) i = some sl → j ≠ i ∧ get r i = some sl := fun i sl e => by
    rw [get_del] at e
    by_cases z : j = i
    · rw [if_pos z] at e; cases e
    · rw [if_neg z] at e; exact ⟨z, e⟩
  refine ⟨F.kept, F.lay, fun i sl e => F.st i sl (g i sl e).2, fun i sl e => ?_, fun i i' li li' a n p q => F.ap i i' li li' a n (g i _ p).2 (g i' _ q).2, fun a ha => F.rt a (List.mem_filter.mp ha).1⟩
  obtain ⟨ne, e⟩ := g i sl e
  obtain ⟨v, hv', S⟩ := F.sl i sl e
  refine ⟨v, hv', ?_⟩
  cases sl with
  | sh V => exact Rd.wk k S
  | ow ys =>
    obtain ⟨a, us, rfl, ha, la, ra⟩ := S
    refine ⟨a, us, rfl, List.mem_filter.mpr ⟨ha, ?_⟩, la, ra.wk k⟩
    rw [bne_iff_ne]
    intro z
    subst z
    exact F.ap j i xs ys a ne hg e hv hv'
theorem st_give {i j : Nat} {l xs : List Mine.V} {pn pa pj pc p : Pos} {Q : Flow → Shared → Prop} (hij : i ≠ j) (C : FmC X P ok0 env nms) (F : Fm X P ok0 env nms roots r m cm s.heap) (hg : get r i = some (.ow l)) (hgj : get r j = some (.ow xs)) (hf : few l.length = true)
    (hl : (pa.endLine == pc.line) = true) (K : KF X P ok0 env nms w m cm s (put (del r j) i (.ow (l ++ [.list xs]))) (Q .next)) :
    wpAny (model X.prog X.w) A (exec (.Expr (.Call (.Attribute (.Name (X.nm i) pn) "append" pa) [.Name (X.nm j) pj] [] pc) p) env) Q NoE s := by
  refine app_call C F hg hl (fun pos => rfl) fun a us hv ha la ra => ?_
  obtain ⟨b, ws, hvj, hb, lb, rb⟩ := F.root hgj
  refine fm_name C F hgj hvj ?_
  have F' := F.give hgj hvj
  have hg' : get (del r j) i = some (.ow l) := by rw [get_del, if_neg (fun z => hij z.symm)]; exact hg
  have hab : a ≠ b := fun z => by subst z; exact F.ap i j l xs a hij hg hgj hv hvj
  have k : ∀ c, okr ok0 roots c → okr ok0 (roots.filter (· != b)) c := fun c q => ⟨q.1, fun z => q.2 (List.mem_filter.mp z).1⟩
  refine app_do (w := w) F' hg' hf hv (List.mem_filter.mpr ⟨ha, by rw [bne_iff_ne]; exact hab⟩) la (ra.wk k) ?_ K
  rw [Rd]
  refine ⟨b, ws, rfl, ⟨C.okf b (F.rt b hb).1, fun z => ?_⟩, lb.isList, rb.wk k⟩
  have := (List.mem_filter.mp z).2
  rw [bne_iff_ne] at this
  exact this rfl
/-- f(x, ..) that changes the list x -/
theorem st_inout {f i : Nat} {l l' xs : List Mine.V} {es : List Ex} {pf pi pc p : Pos} {Q : Flow → Shared → Prop} (S : SndE X D evf) (hk : lk nms f = some .globalImplicit) (hE : wfL nms es = true) (C : FmC X P ok0 env nms) (R : Room A D) (F : Fm X P ok0 env nms roots r m cm s.heap)
    (hg : get r i = some (.ow l)) (he : evs evf r es = some xs) (I : InoutOK X D f l xs l') (K : KF X P ok0 env nms w m cm s (put r i (.ow l')) (Q .next)) :
    wpAny (model X.prog X.w) A (exec (.Expr (.Call (.Name (X.nm f) pf) (.Name (X.nm i) pi :: unL X.nm es) [] pc) p) env) Q NoE s := by
  obtain ⟨⟨d, hd, hn⟩, go⟩ := I
  have B := F.base C
  obtain ⟨fa, o, pm, code, doc, h1, h2, h3, h4⟩ := B.fns d hd
  rw [hn] at h1
  obtain ⟨b, us, hv, hb, lb, rb⟩ := F.root hg
  refine wpAny_Expr_any (Call_Name rfl (name_global C.N B hk h1 ?_)) ?_ rfl
  · refine callWith_def (o := o) h3 ?_
    show wpAny _ A (spliced ((false, eval (.Name (X.nm i) pi) env) :: backTo pc (starEach (unL X.nm es) env))) _ NoE s
    refine spliced_cons (fm_name C F hg hv ?_)
    refine snd_L S hE he env A s _ pc _ C.N R B (F.okf C) (F.envOK C) fun vs h₁ tk₁ l₁ r₁ => ⟨l₁ _ _ h2, ?_⟩
    have F₁ := F.le l₁
    have np := (F.rt b hb).1
    have kk : ∀ c, okr ok0 roots c → (okr ok0 roots c ∨ c = b) ∧ c ≠ b := fun c q => ⟨.inl q, fun z => q.2 (z ▸ hb)⟩
    have kb : ∀ c, ((okr ok0 roots c ∨ c = b) ∧ c ≠ b) → okr ok0 roots c := fun c q => q.1.resolve_right q.2
    refine go A { s with heap := h₁, toks := tk₁ } (fun c => okr ok0 roots c ∨ c = b) fa b us vs (fun _ => Q .next) h1 R (fun h' k => C.base h' fun c o pc => k c o (fun z => np o (z ▸ pc)) (F₁.kept c o pc)) (fun c e => .inl (F₁.okf C c e)) (.inr rfl)
      (plain_le l₁ lb) ((rb.le l₁).wk kk) (r₁.wk kk) fun h' tk us' k la' ra' => ?_
    exact K h' tk roots m cm (F₁.setAt (us := us') hg hv hb k la' (ra'.wk kb)) rfl
  · unfold interactive; rw [C.N.kind]; rfl
end
end Mine
end
section
open PySem PySem.Calls PyProof.Rows
set_option maxRecDepth 4000
namespace Mine

noncomputable def offW (w : Nat × Nat) : Tg → Bool
  | .one i _ => !(wq i w)
  | .two i j _ _ _ _ => !(wq i w) && !(wq j w)
mutual
noncomputable def wfSt (nm : Nat → Str) (nms : List (Nat × NameKind)) (w : Nat × Nat) : St → Bool
  | .asg1 t e _ => wfE nms e && (match t with
    | .name i own _ => isSt (lk nms i) && (!(wq i w) && (!own || frOf e))
    | .item _ ix _ _ => wfE nms ix)
  | .asgD ts _ _ es _ _ _ => wfL nms es && (wfTs nms w ts && (frs ts es && (distinct2 ts && (cOK nm es && few es.length))))
  | .asgU ts _ _ e _ => wfE nms e && (wfTs nms w ts && ((ts.all fun t => !(ownT t)) && !(isTup e)))
  | .aug i _ _ e _ => wfE nms e && !(wq i w)
  | .app _ _ pa e pc _ => wfE nms e && (pa.endLine == pc.line)
  | .inout f _ _ _ es _ _ => isGI (lk nms f) && wfL nms es
  | .ifs t b1 b2 _ => wfE nms t && (wfSs nm nms w b1 && wfSs nm nms w b2)
  | .wh t b _ => wfE nms t && wfSs nm nms w b
  | .fr tg k _ args _ b _ => wfSrc nms tg.isTwo k args && (wfL nms args && (wfTg nms tg && (offW w tg && wfSs nm nms w b)))
  | .ret e _ => wfE nms e
  | .ex e _ => wfE nms e && !(isComp e)
  | .other _ => true
noncomputable def wfSs (nm : Nat → Str) (nms : List (Nat × NameKind)) (w : Nat × Nat) : List St → Bool
  | [] => true
  | s :: t => wfSt nm nms w s && wfSs nm nms w t
end

section
variable {X : Fix} {P : Addr → Obj → Prop} {ok0 : Addr → Prop} {env : Env} {nms : List (Nat × NameKind)} {roots : List Addr} {r : Rho} {m cm m' cm' : Str → Option Value} {h h' : Heap} {PL : List (Sl × Value)}
variable {D : Nat} {A : Around} {s : Shared} {evf : EvFn} {w : Nat × Nat}
/-- what holds at the end of a statement -/
noncomputable def Ends (X : Fix) (P : Addr → Obj → Prop) (ok0 : Addr → Prop) (env : Env) (nms : List (Nat × NameKind)) (w : Nat × Nat) (m cm : Str → Option Value) (s : Shared) (res : Res) (Q : Flow → Shared → Prop) : Prop := match res with
  | .next r' => KF X P ok0 env nms w m cm s r' (Q .next)
  | .ret V => ∀ v h' tk, (∀ b o, P b o → h'.get? b = some o) → Rd ok0 h' V v → Q (.ret v) { s with heap := h', toks := tk }
noncomputable def SndS (X : Fix) (D : Nat) (nms : List (Nat × NameKind)) (w : Nat × Nat) (f : StFn) : Prop :=
  ∀ (P : Addr → Obj → Prop) (ok0 : Addr → Prop) (env : Env) (A : Around) (s : Shared) (roots : List Addr) (r : Rho) (m cm : Str → Option Value) (ss : List St) (res : Res) (Q : Flow → Shared → Prop), wfSs X.nm nms w ss = true → FmC X P ok0 env nms → Room A D →
    Fm X P ok0 env nms roots r m cm s.heap → f r ss = some res → Ends X P ok0 env nms w m cm s res Q → wpAny (model X.prog X.w) A (execs (unS X.nm ss) env) Q NoE s
noncomputable def SndSt (X : Fix) (D : Nat) (nms : List (Nat × NameKind)) (w : Nat × Nat) (f : Rho → St → Option Res) : Prop :=
  ∀ (P : Addr → Obj → Prop) (ok0 : Addr → Prop) (env : Env) (A : Around) (s : Shared) (roots : List Addr) (r : Rho) (m cm : Str → Option Value) (st : St) (res : Res) (Q : Flow → Shared → Prop), wfSt X.nm nms w st = true → FmC X P ok0 env nms → Room A D →
    Fm X P ok0 env nms roots r m cm s.heap → f r st = some res → Ends X P ok0 env nms w m cm s res Q → wpAny (model X.prog X.w) A (exec (st.un X.nm) env) Q NoE s
theorem snd_exs {f : Rho → St → Option Res} (S : SndSt X D nms w f) : SndS X D nms w (exs f) := fun P ok0 env A s roots r m cm ss => by
  induction ss generalizing s roots r m cm with
  | nil =>
    intro res Q _ C R F e K
    cases e
    exact wpAny_execs_nil (K s.heap s.toks roots m cm F rfl)
  | cons st t ih =>
    intro res Q hw C R F e K
    rw [wfSs, Bool.and_eq_true] at hw
    unfold exs at e
    refine wpAny_execs_cons ?_
    split at e
    · rename_i r' e₁
      refine S P ok0 env A s roots r m cm st (.next r') _ hw.1 C R F e₁ fun h' tk rs m' cm' F' w' => ?_
      refine ih { s with heap := h', toks := tk } rs r' m' cm' res Q hw.2 C R F' e ?_
      cases res with
      | next r'' => exact fun h₂ tk₂ rs₂ m₂ cm₂ F₂ w₂ => K h₂ tk₂ rs₂ m₂ cm₂ F₂ (w₂.trans w')
      | ret V => exact fun v h₂ tk₂ k₂ q₂ => K v h₂ tk₂ k₂ q₂
    · rename_i V e₁
      cases e
      exact S P ok0 env A s roots r m cm st (.ret V) _ hw.1 C R F e₁ fun v h' tk k q => K v h' tk k q
    · cases e

theorem snd_ret {e : Ex} {V : V} {p : Pos} {Q : Flow → Shared → Prop} (S : SndE X D evf) (hE : wfE nms e = true) (C : FmC X P ok0 env nms) (R : Room A D) (F : Fm X P ok0 env nms roots r m cm s.heap) (he : evf (frz r) e = some V) (K : Ends X P ok0 env nms w m cm s (.ret V) Q) :
    wpAny (model X.prog X.w) A (exec (.Return (some (e.un X.nm)) p) env) Q NoE s := by
  have E : EnvOK X ok0 env (frz r) s.heap := fun i sl g => by
    rw [get_frz] at g
    cases q : get r i with
    | none => rw [q] at g; cases g
    | some s₀ =>
      rw [q] at g
      cases g
      obtain ⟨v, hv, S0⟩ := F.sl i s₀ q
      have see := F.lay.sees C.C (C.st (F.st i _ q)) hv
      cases s₀ with
      | sh V => exact ⟨v, see, Rd.wk (fun a q => q.1) S0⟩
      | ow xs =>
        obtain ⟨a, us, rfl, ha, la, ra⟩ := S0
        refine ⟨.ref a, see, ?_⟩
        rw [Rd]
        exact ⟨a, us, rfl, C.okf a (F.rt a ha).1, la.isList, ra.wk fun _ q => q.1⟩
  refine wpAny_Return_some (S _ _ _ _ hE he env A s ok0 _ C.N R (F.base C) (fun b e => C.okf b (F.none_P e)) E fun v h' tk l q _ => K v h' tk (fun b o p => l b o (F.kept b o p)) q)

theorem slots_sh : ∀ {ts : List Tgt} {vs : List V} {r r' : Rho}, (ts.all fun t => !(ownT t)) = true → asgTs evf r ts vs = some r' → slots ts vs = some (vs.map Sl.sh)
  | [], [], _, _, _, _ => rfl
  | [], _ :: _, _, _, _, e => by cases e
  | _ :: _, [], _, _, _, e => by cases e
  | t :: ts, v :: vs, r, r', h, e => by
    rw [List.all_cons, Bool.and_eq_true] at h
    unfold asgTs at e
    split at e <;> try contradiction
    have ih := slots_sh h.2 e
    have ht : tgSl t v = some (.sh v) := by
      cases t with
      | item i ix pn p => rfl
      | name i own p =>
        cases own with
        | false => rfl
        | true => cases h.1
    unfold slots
    rw [ht, ih]; rfl
theorem rdl_zip {ok : Addr → Prop} {h : Heap} : ∀ {xs : List V} {vs : List Value}, RdL ok h xs vs → ∃ PL : List (Sl × Value), PL.map (·.1) = xs.map Sl.sh ∧ PL.map (·.2) = vs ∧ ∀ p ∈ PL, ∃ V, p.1 = .sh V ∧ Rd ok h V p.2
  | [], _, r => by rw [r.unnil]; exact ⟨[], rfl, rfl, fun _ h => (nomatch h)⟩
  | x :: xs, _, r => by
    obtain ⟨v, t, rfl, a, b⟩ := r.uncons
    obtain ⟨PL, h1, h2, h3⟩ := rdl_zip b
    refine ⟨(.sh x, v) :: PL, by simp [h1], by simp [h2], fun p hp => ?_⟩
    rcases List.mem_cons.mp hp with rfl | hp
    · exact ⟨x, rfl, a⟩
    · exact h3 p hp
theorem st_U {ts : List Tgt} {e : Ex} {vs : List V} {kt : Nat} {pt p : Pos} {r' : Rho} {Q : Flow → Shared → Prop} (S : SndE X D evf) (hE : wfE nms e = true) (hw : wfTs nms w ts = true) (ho : (ts.all fun t => !(ownT t)) = true) (hu : isTup e = false) (C : FmC X P ok0 env nms) (R : Room A D)
    (F : Fm X P ok0 env nms roots r m cm s.heap) (he : evf r e = some (.tup vs)) (ha : asgTs evf r ts vs = some r') (K : KF X P ok0 env nms w m cm s r' (Q .next)) :
    wpAny (model X.prog X.w) A (exec (.Assign [.Tuple (unT X.nm ts) kt pt] (e.un X.nm) p) env) Q NoE s := by
  have hsw : swappedStores [.Tuple (unT X.nm ts) kt pt] (e.un X.nm) env = pure .none := by
    cases e <;> first | rfl | cases hu
  refine Assign_Tuple (fm_ev (S _ _ _ _ hE he) C R F fun v h₁ tk₁ l₁ r₁ _ => ?_) (swaps_tup _ _ _ _ _) hsw
  obtain ⟨T, us, rfl, _, hT, ra⟩ := rd_tup r₁
  obtain ⟨PL, h1, h2, h3⟩ := rdl_zip ra
  have hss := slots_sh ho ha
  refine tup_stores (s := { s with heap := h₁, toks := tk₁ }) (PL := PL) S hw C R (F.le l₁) ha (by rw [hss, h1]) ⟨fun q hq => ?_, ?_⟩ (by rw [h2]; exact hT) ?_ fun h₂ tk₂ rs m₂ cm₂ F₂ e₂ => K h₂ tk₂ rs m₂ cm₂ F₂ e₂
  · obtain ⟨V, e, q⟩ := h3 q hq
    rw [e]
    exact ⟨q, trivial⟩
  · refine List.Pairwise.imp_of_mem (R := fun _ _ => True) (fun {a b} ha hb _ o => ?_) ?_
    · obtain ⟨V, e, _⟩ := h3 a ha
      rw [e] at o; exact o.elim
    · exact List.pairwise_iff_forall_sublist.mpr fun _ => trivial
  · have := slots_len hss
    rw [this]
    have e := congrArg List.length h1
    simpa using e.symm

theorem snd_while {t : Ex} {b : List St} {p : Pos} {tst : Rho → Ex → Option Bool} {ih : StFn} {n : Nat} {res : Res} {Q : Flow → Shared → Prop} (T : SndT X D tst) (S : SndS X D nms w ih) (hT : wfE nms t = true) (hB : wfSs X.nm nms w b = true) (C : FmC X P ok0 env nms) (R : Room A D)
    (F : Fm X P ok0 env nms roots r m cm s.heap) (he : wloop (fun r => tst r t) (fun r => ih r b) n r = some res) (K : Ends X P ok0 env nms w m cm s res Q) :
    wpAny (model X.prog X.w) A (exec (.While (t.un X.nm) (unS X.nm b) [] p) env) Q NoE s := by
  refine wpAny_While (codeAny_whileLoop (fun k sh => ∃ r h tk rs m' cm', sh = { s with heap := h, toks := tk } ∧ Fm X P ok0 env nms rs r m' cm' h ∧ wv X env w m' cm' = wv X env w m cm ∧ wloop (fun r => tst r t) (fun r => ih r b) k r = some res) ?_ n
    ⟨r, s.heap, s.toks, roots, m, cm, rfl, F, rfl, he⟩)
  rintro k sh ⟨r, h, tk, rs, m', cm', rfl, F', w', e⟩
  cases k with
  | zero => cases e
  | succ k =>
  unfold wloop at e
  split at e
  · rename_i ht
    refine wk_mono (T _ _ _ _ hT ht env A { s with heap := h, toks := tk } _ _ (fun bb s' => bb = true ∧ ∃ h' tk', s' = { s with heap := h', toks := tk' } ∧ Fm X P ok0 env nms rs r m' cm' h') C.N R (F'.base C) (F'.okf C) (F'.envOK C) fun h' tk' l => ⟨rfl, h', tk', rfl, F'.le l⟩) ?_
    rintro _ _ ⟨rfl, h', tk', rfl, F₂⟩
    rw [if_pos rfl]
    split at e
    · rename_i r' hb
      refine wk_mono (S P ok0 env A { s with heap := h', toks := tk' } rs r m' cm' b (.next r') (fun f s' => f = .next ∧ ∃ h tk rs m' cm', s' = { s with heap := h, toks := tk } ∧ Fm X P ok0 env nms rs r' m' cm' h ∧ wv X env w m' cm' = wv X env w m cm) hB C R F₂ hb
        fun h₃ tk₃ rs₃ m₃ cm₃ F₃ w₃ => ⟨rfl, h₃, tk₃, rs₃, m₃, cm₃, rfl, F₃, w₃.trans w'⟩) ?_
      rintro _ _ ⟨rfl, h₃, tk₃, rs₃, m₃, cm₃, rfl, F₃, w₃⟩
      exact ⟨k, Nat.lt_succ_self _, r', h₃, tk₃, rs₃, m₃, cm₃, rfl, F₃, w₃, e⟩
    · rename_i V hb
      cases e
      refine wk_mono (S P ok0 env A { s with heap := h', toks := tk' } rs r m' cm' b (.ret V) (fun f s' => ∃ v, f = .ret v ∧ Q (.ret v) s') hB C R F₂ hb fun v h₃ tk₃ k₃ q₃ => ⟨v, rfl, K v h₃ tk₃ k₃ q₃⟩) ?_
      rintro _ _ ⟨v, rfl, q⟩
      exact q
    · cases e
  · rename_i ht
    cases e
    refine wk_mono (T _ _ _ _ hT ht env A { s with heap := h, toks := tk } _ _ (fun bb s' => bb = false ∧ ∃ h' tk', s' = { s with heap := h', toks := tk' } ∧ Fm X P ok0 env nms rs r m' cm' h') C.N R (F'.base C) (F'.okf C) (F'.envOK C) fun h' tk' l => ⟨rfl, h', tk', rfl, F'.le l⟩) ?_
    rintro _ _ ⟨rfl, h', tk', rfl, F₂⟩
    rw [if_neg (by decide)]
    exact wpAny_execs_nil (K h' tk' rs m' cm' F₂ w')
  · cases e
end
end Mine
end
section
open PySem PySem.Calls PyProof.Rows
set_option maxRecDepth 4000
namespace Mine

theorem sift (h : Heap) (p : Addr → Prop) : ∃ H : Heap, ∀ b o, H.get? b = some o ↔ (h.get? b = some o ∧ p b) := by
  classical
  refine ⟨⟨h.objs.mapIdx fun i o => if p i then o else { cls := .none, data := .freed }, h.life⟩, fun b o => ?_⟩
  unfold Heap.get?
  simp only [Array.getElem?_mapIdx]
  cases e : h.objs[b]? with
  | none => simp
  | some x =>
    by_cases q : p b
    · simp [q]
    · simp [q]

section
variable {X : Fix} {P : Addr → Obj → Prop} {ok0 : Addr → Prop} {env : Env} {nms : List (Nat × NameKind)} {roots : List Addr} {r : Rho} {m cm m' cm' : Str → Option Value} {h h' Hb : Heap} {wr : List Addr}
abbrev okw (ok0 : Addr → Prop) (wr : List Addr) (b : Addr) : Prop := ok0 b ∧ b ∉ wr
/-- what a turn of a loop leaves as it is -/
noncomputable def PB (P : Addr → Obj → Prop) (Hb : Heap) (wr : List Addr) (hc : Heap) (b : Addr) (o : Obj) : Prop := P b o ∨ Hb.get? b = some o ∨ (b ∈ wr ∧ hc.get? b = some o)
theorem SlV.map {ok1 ok2 : Addr → Prop} {roots : List Addr} {sl : Sl} {v : Value} (S : SlV ok1 roots h sl v) (k : ∀ a o, okr ok1 roots a → h.get? a = some o → okr ok2 roots a) : SlV ok2 roots h sl v := by
  have q : ∀ a o, okr ok1 roots a → h.get? a = some o → okr ok2 roots a ∧ ((∃ vs n, o.data = .seq vs n) → h.get? a = some o) := fun a o q e => ⟨k a o q e, fun _ => e⟩
  cases sl with
  | sh V => exact Rd.mono q S
  | ow xs => obtain ⟨a, us, e, i, la, ra⟩ := S; exact ⟨a, us, e, i, la, ra.mono q⟩
theorem Fm.map {ok1 ok2 : Addr → Prop} (F : Fm X P ok1 env nms roots r m cm h) (k : ∀ a o, okr ok1 roots a → h.get? a = some o → okr ok2 roots a) : Fm X P ok2 env nms roots r m cm h :=
  ⟨F.kept, F.lay, F.st, fun i sl e => let ⟨v, a, S⟩ := F.sl i sl e; ⟨v, a, S.map k⟩, F.ap, F.rt⟩
/-- what a frame does not reach may change -/
theorem Fm.off {T : Addr → Prop} (F : Fm X P ok0 env nms roots r m cm h) (k : Kb T h h') (n1 : ∀ b, T b → ∀ o, ¬ P b o) (n2 : ∀ b, T b → ¬ Tch env (eOwn env) b) (n3 : ∀ b, T b → ¬ ok0 b) (n4 : ∀ b, T b → b ∉ roots) : Fm X P ok0 env nms roots r m cm h' := by
  refine ⟨fun b o p => k b o (fun t => n1 b t o p) (F.kept b o p), F.lay.kb k n2, F.st, fun i sl e => ?_, F.ap, fun a ha => ?_⟩
  · obtain ⟨v, hv, S⟩ := F.sl i sl e
    refine ⟨v, hv, ?_⟩
    have q : ∀ a o, okr ok0 roots a → h.get? a = some o → okr ok0 roots a ∧ ((∃ vs n, o.data = .seq vs n) → h'.get? a = some o) := fun a o q e => ⟨q, fun _ => k a o (fun t => n3 a t q.1) e⟩
    cases sl with
    | sh V => exact Rd.mono q S
    | ow xs => obtain ⟨a, us, e, i, la, ra⟩ := S; exact ⟨a, us, e, i, la.at fun o e' => k a o (fun t => n4 a t i) e', ra.mono q⟩
  · obtain ⟨x, vs, y⟩ := F.rt a ha
    exact ⟨x, vs, y.at fun o e => k a o (fun t => n4 a t ha) e⟩

structure ForCtx (X : Fix) (P : Addr → Obj → Prop) (ok0 : Addr → Prop) (env : Env) (nms : List (Nat × NameKind)) (Hb : Heap) (wr : List Addr) : Prop where
  C : FmC X P ok0 env nms
  hP : ∀ b ∈ wr, ∀ o, ¬ P b o
  hH : ∀ b ∈ wr, Hb.get? b = .none
  hT : ∀ b, Tch env (eOwn env) b → Hb.get? b = .none ∧ b ∉ wr
/-- a loop's frame between two turns -/
structure LI (X : Fix) (P : Addr → Obj → Prop) (ok0 : Addr → Prop) (env : Env) (nms : List (Nat × NameKind)) (Hb : Heap) (wr : List Addr) (St : Nat → Heap → Prop) (j : Nat) (roots : List Addr) (r : Rho) (m cm : Str → Option Value) (h : Heap) : Prop where
  F : Fm X P (okw ok0 wr) env nms roots r m cm h
  le : Le Hb h
  st : St j h
  rs : ∀ a ∈ roots, Hb.get? a = .none ∧ a ∉ wr
theorem ForCtx.toC (K : ForCtx X P ok0 env nms Hb wr) {hc : Heap} (ex : ∀ b ∈ wr, ∃ o, hc.get? b = some o) : FmC X (PB P Hb wr hc) (okw ok0 wr) env nms where
  N := K.C.N
  C := K.C.C
  base := fun h k => K.C.base h fun b o p => k b o (.inl p)
  okf := fun b n => ⟨K.C.okf b fun o p => n o (.inl p), fun z => by obtain ⟨o, e⟩ := ex b z; exact n o (.inr (.inr ⟨z, e⟩))⟩
  tch := fun b t o p => by
    rcases p with p | p | p
    · exact K.C.tch b t o p
    · rw [(K.hT b t).1] at p; cases p
    · exact (K.hT b t).2 p.1
theorem ForCtx.toF (F : Fm X P (okw ok0 wr) env nms roots r m cm h) (le : Le Hb h) (rs : ∀ a ∈ roots, Hb.get? a = .none ∧ a ∉ wr) : Fm X (PB P Hb wr h) (okw ok0 wr) env nms roots r m cm h :=
  ⟨fun b o p => by
    rcases p with p | p | p
    · exact F.kept b o p
    · exact le b o p
    · exact p.2, F.lay, F.st, F.sl, F.ap, fun a ha => ⟨fun o p => by
      rcases p with p | p | p
      · exact (F.rt a ha).1 o p
      · rw [(rs a ha).1] at p; cases p
      · exact (rs a ha).2 p.1, (F.rt a ha).2⟩⟩
theorem ForCtx.ofF {hc : Heap} (ex : ∀ b ∈ wr, ∃ o, hc.get? b = some o) (F : Fm X (PB P Hb wr hc) (okw ok0 wr) env nms roots r m cm h) :
    Fm X P (okw ok0 wr) env nms roots r m cm h ∧ Le Hb h ∧ (∀ b ∈ wr, ∀ o, hc.get? b = some o → h.get? b = some o) ∧ ∀ a ∈ roots, Hb.get? a = .none ∧ a ∉ wr :=
  ⟨⟨fun b o p => F.kept b o (.inl p), F.lay, F.st, F.sl, F.ap, fun a ha => ⟨fun o p => (F.rt a ha).1 o (.inl p), (F.rt a ha).2⟩⟩, fun b o e => F.kept b o (.inr (.inl e)), fun b hb o e => F.kept b o (.inr (.inr ⟨hb, e⟩)), fun a ha => ⟨by
    cases e : Hb.get? a with
    | none => rfl
    | some o => exact absurd (.inr (.inl e)) ((F.rt a ha).1 o), fun z => by
    obtain ⟨o, e⟩ := ex a z
    exact (F.rt a ha).1 o (.inr (.inr ⟨z, e⟩))⟩⟩
/-- the iterator moves -/
theorem ForCtx.step (K : ForCtx X P ok0 env nms Hb wr) (F : Fm X P (okw ok0 wr) env nms roots r m cm h) (rs : ∀ a ∈ roots, Hb.get? a = .none ∧ a ∉ wr) (k : ∀ b o, b ∉ wr → h.get? b = some o → h'.get? b = some o) : Fm X P (okw ok0 wr) env nms roots r m cm h' :=
  F.off (T := (· ∈ wr)) (fun b o n e => k b o n e) K.hP (fun b hb t => (K.hT b t).2 hb) (fun b hb q => q.2 hb) (fun b hb z => (rs b z).2 hb)
theorem ForCtx.item {roots₁ : List Addr} {x : V} {v : Value} (K : ForCtx X P ok0 env nms Hb wr) (rd : Rd (okr ok0 roots₁) Hb x v) (le : Le Hb h) (rs : ∀ a ∈ roots, Hb.get? a = .none ∧ a ∉ wr) : Rd (okr (okw ok0 wr) roots) h x v :=
  rd.mono fun a o q e => ⟨⟨⟨q.1, fun z => by rw [K.hH a z] at e; cases e⟩, fun z => by rw [(rs a z).1] at e; cases e⟩, fun _ => le a o e⟩

variable {D : Nat} {A : Around} {s : Shared} {evf : EvFn} {w : Nat × Nat} {ih : StFn} {St : Nat → Heap → Prop}
/-- between two turns -/
noncomputable def LJ (X : Fix) (P : Addr → Obj → Prop) (ok0 : Addr → Prop) (env : Env) (nms : List (Nat × NameKind)) (Hb : Heap) (wr : List Addr) (St : Nat → Heap → Prop) (w : Nat × Nat) (m cm : Str → Option Value) (tg : Tg) (f : Rho → Option Res) (items : List V) (res : Res) (s : Shared) (k : Nat) (sh : Shared) : Prop :=
  ∃ j r h tk rs m' cm', k = items.length - j ∧ j ≤ items.length ∧ sh = { s with heap := h, toks := tk } ∧ LI X P ok0 env nms Hb wr St j rs r m' cm' h ∧ wv X env w m' cm' = wv X env w m cm ∧ floop tg f (items.drop j) r = some res
/-- what is left of a loop after a body -/
noncomputable def RestOK (tg : Tg) (f : Rho → Option Res) (xs : List V) (res : Res) : Res → Prop
  | .next r' => floop tg f xs r' = some res
  | .ret V => res = .ret V
/-- the body of a turn -/
theorem for_body {tg : Tg} {b : List Mine.St} {items : List V} {res rb : Res} {r₁ : Rho} {j tk : Nat} {hc : Heap} {Q : Flow → Shared → Prop} (K : ForCtx X P ok0 env nms Hb wr) (fr : ∀ i h h', St i h → Le Hb h' → (∀ b ∈ wr, ∀ o, h.get? b = some o → h'.get? b = some o) → St i h') (ex : ∀ b ∈ wr, ∃ o, hc.get? b = some o)
    (SS : SndS X D nms w ih) (hB : wfSs X.nm nms w b = true) (R : Room A D) (stc : St (j + 1) hc) (hj : j < items.length) (F : Fm X (PB P Hb wr hc) (okw ok0 wr) env nms roots r₁ m' cm' h) (hw : wv X env w m' cm' = wv X env w m cm) (hb : ih r₁ b = some rb)
    (hres : RestOK tg (fun r => ih r b) (items.drop (j + 1)) res rb) (Ke : Ends X P ok0 env nms w m cm s res Q) {Er : Value → Shared → Prop} :
    wpAny (model X.prog X.w) A (execs (unS X.nm b) env) (fun f s₃ => match f with
      | .next | .cont => ∃ k, k < items.length - j ∧ LJ X P ok0 env nms Hb wr St w m cm tg (fun r => ih r b) items res s k s₃
      | .brk => Q .next s₃
      | .ret v => Q (.ret v) s₃) Er { s with heap := h, toks := tk } := by
  refine wk_mono (SS _ _ env A { s with heap := h, toks := tk } roots r₁ m' cm' b rb (fun f s₃ => match f with
      | .next | .cont => ∃ k, k < items.length - j ∧ LJ X P ok0 env nms Hb wr St w m cm tg (fun r => ih r b) items res s k s₃
      | .brk => Q .next s₃
      | .ret v => Q (.ret v) s₃) hB (K.toC ex) R F hb ?_) fun _ _ z => z
  cases rb with
  | next r' =>
    intro h₃ tk₃ rs₃ m₃ cm₃ F₃ w₃
    obtain ⟨F₄, le₄, k₄, rs₄⟩ := ForCtx.ofF ex F₃
    exact ⟨items.length - (j + 1), by omega, j + 1, r', h₃, tk₃, rs₃, m₃, cm₃, rfl, hj, rfl, ⟨F₄, le₄, fr _ _ _ stc le₄ k₄, rs₄⟩, w₃.trans hw, hres⟩
  | ret V =>
    cases hres
    intro v h₃ tk₃ k₃ q₃
    exact Ke v h₃ tk₃ (fun b o p => k₃ b o (.inl p)) (q₃.wk fun _ q => q.1)
theorem floop_cons {tg : Tg} {f : Rho → Option Res} {x : V} {xs : List V} {r : Rho} {res : Res} (e : floop tg f (x :: xs) r = some res) : ∃ r₁ rb, tg.store r x = some r₁ ∧ f r₁ = some rb ∧ RestOK tg f xs res rb := by
  unfold floop at e
  split at e
  · rename_i r₁ h1
    split at e
    · rename_i r' h2; exact ⟨r₁, _, h1, h2, e⟩
    · rename_i v h2; cases e; exact ⟨r₁, _, h1, h2, rfl⟩
    · cases e
  · cases e
theorem for_end {tg : Tg} {f : Rho → Option Res} {items : List V} {res : Res} {j tk : Nat} {Q : Flow → Shared → Prop} {r : Rho} {h : Heap} (K : ForCtx X P ok0 env nms Hb wr) (hj : ¬ j < items.length) (F : Fm X P (okw ok0 wr) env nms roots r m' cm' h) (hw : wv X env w m' cm' = wv X env w m cm)
    (e : floop tg f (items.drop j) r = some res) (Ke : Ends X P ok0 env nms w m cm s res Q) : Q .next { s with heap := h, toks := tk } := by
  rw [List.drop_of_length_le (by omega)] at e
  cases e
  exact Ke h tk roots m' cm' (F.map fun a o q _ => ⟨q.1.1, q.2⟩) hw
end
end Mine
end
section
open PySem PySem.Calls PyProof.Rows
set_option maxRecDepth 4000
namespace Mine

section
variable {X : Fix} {P : Addr → Obj → Prop} {ok0 : Addr → Prop} {env : Env} {nms : List (Nat × NameKind)} {roots roots₁ : List Addr} {r : Rho} {m cm m' cm' : Str → Option Value} {h h' Hb : Heap} {wr : List Addr} {I : Addr}
variable {D : Nat} {A : Around} {s : Shared} {evf : EvFn} {w : Nat × Nat} {ih : StFn} {Sx : Nat → Heap → Prop} {Mid : Nat → Addr → Heap → Prop} {b : List St} {items : List V} {res : Res} {Q : Flow → Shared → Prop}
theorem for_loop1 {i : Nat} {pi : Pos} (K : ForCtx X P ok0 env nms Hb wr) (L : Lp1 X A I wr Hb (okr ok0 roots₁) items Sx) (S : SndE X D evf) (SS : SndS X D nms w ih) (hi : isSt (lk nms i) = true) (hw : wq i w = false) (hB : wfSs X.nm nms w b = true) (R : Room A D)
    (Ke : Ends X P ok0 env nms w m cm s res Q) {n : Nat} {sh : Shared} (hI : LJ X P ok0 env nms Hb wr Sx w m cm (.one i pi) (fun r => ih r b) items res s n sh) :
    codeAny (model X.prog X.w) A (.forLoop (.Name (X.nm i) pi) (.ref I) (unS X.nm b) [] env) (fun r s' => match r with | .ok f => Q f s' | .error e => cameBackBy (model X.prog X.w) A env NoE e s') sh := by
  refine codeAny_forLoop (LJ X P ok0 env nms Hb wr Sx w m cm (.one i pi) (fun r => ih r b) items res s) ?_ n hI
  rintro k sh ⟨j, r, h, tk, rs, m', cm', rfl, hj, rfl, LI, w', e⟩
  by_cases hlt : j < items.length
  · have hx : items[j]? = some items[j] := List.getElem?_eq_getElem hlt
    rw [List.drop_eq_getElem_cons hlt] at e
    obtain ⟨r₁, rb, e1, e2, e3⟩ := floop_cons e
    simp only [Tg.store] at e1
    cases e1
    refine wk_mono (L.item j { s with heap := h, toks := tk } (fun r s₁ => ∃ v h₁ tk₁, r = some v ∧ s₁ = { s with heap := h₁, toks := tk₁ } ∧ Rd (okr ok0 roots₁) Hb items[j] v ∧ Sx (j + 1) h₁ ∧ (∀ b o, b ∉ wr → h.get? b = some o → h₁.get? b = some o))
      items[j] hx LI.st fun v h₁ tk₁ rv st₁ k₁ => ⟨v, h₁, tk₁, rfl, rfl, rv, st₁, k₁⟩) ?_
    rintro _ _ ⟨v, h₁, tk₁, rfl, rfl, rv, st₁, k₁⟩
    have F₁ := K.step LI.F LI.rs k₁
    have le₁ := L.base _ _ st₁
    have ex₁ := L.ex _ _ st₁
    have F₂ := ForCtx.toF F₁ le₁ LI.rs
    refine wk_mono (wpAny_assign_Name (name_ok (Q := fun _ s₂ => ∃ h₂ tk₂ m₂ cm₂, s₂ = { s with heap := h₂, toks := tk₂ } ∧ Fm X (PB P Hb wr h₁) (okw ok0 wr) env nms rs (put r i (.sh items[j])) m₂ cm₂ h₂ ∧ wv X env w m₂ cm₂ = wv X env w m' cm') (s := { s with heap := h₁, toks := tk₁ }) hi hw (K.toC ex₁) F₂
      (one_pend (sl := .sh items[j]) (K.item rv le₁ LI.rs) trivial) fun h₂ tk₂ m₂ cm₂ F' _ _ w₂ => ⟨h₂, tk₂, m₂, cm₂, rfl, F', w₂⟩)) ?_
    rintro _ _ ⟨h₂, tk₂, m₂, cm₂, rfl, F₃, w₂⟩
    exact for_body K L.frame ex₁ SS hB R st₁ hlt F₃ (w₂.trans w') e2 e3 Ke
  · have hj' : j = items.length := by omega
    refine wk_mono (L.done { s with heap := h, toks := tk } (fun r s₁ => ∃ h₁ tk₁, r = .none ∧ s₁ = { s with heap := h₁, toks := tk₁ } ∧ (∀ b o, b ∉ wr → h.get? b = some o → h₁.get? b = some o)) (hj' ▸ LI.st) fun h₁ tk₁ k₁ => ⟨h₁, tk₁, rfl, rfl, k₁⟩) ?_
    rintro _ _ ⟨h₁, tk₁, rfl, rfl, k₁⟩
    exact wpAny_execs_nil (for_end K hlt (K.step LI.F LI.rs k₁) w' e Ke)
theorem for_loop2 {i i₂ kk : Nat} {pi pi₂ tp : Pos} (K : ForCtx X P ok0 env nms Hb wr) (L : Lp2 X A I wr Hb (okr ok0 roots₁) items Sx Mid) (S : SndE X D evf) (SS : SndS X D nms w ih) (hi : isSt (lk nms i) = true) (hw : wq i w = false) (hi₂ : isSt (lk nms i₂) = true) (hw₂ : wq i₂ w = false)
    (hB : wfSs X.nm nms w b = true) (R : Room A D)
    (Ke : Ends X P ok0 env nms w m cm s res Q) {n : Nat} {sh : Shared} (hI : LJ X P ok0 env nms Hb wr Sx w m cm (.two i i₂ pi pi₂ kk tp) (fun r => ih r b) items res s n sh) :
    codeAny (model X.prog X.w) A (.forLoop (.Tuple [.Name (X.nm i) pi, .Name (X.nm i₂) pi₂] kk tp) (.ref I) (unS X.nm b) [] env) (fun r s' => match r with | .ok f => Q f s' | .error e => cameBackBy (model X.prog X.w) A env NoE e s') sh := by
  refine codeAny_forLoop_any (LJ X P ok0 env nms Hb wr Sx w m cm (.two i i₂ pi pi₂ kk tp) (fun r => ih r b) items res s) ?_ n hI
  rintro k sh ⟨j, r, h, tk, rs, m', cm', rfl, hj, rfl, LI, w', e⟩
  by_cases hlt : j < items.length
  · have hx : items[j]? = some items[j] := List.getElem?_eq_getElem hlt
    rw [List.drop_eq_getElem_cons hlt] at e
    obtain ⟨r₁, rb, e1, e2, e3⟩ := floop_cons e
    generalize items[j] = x at e1 hx
    unfold Tg.store at e1
    split at e1 <;> try contradiction
    rename_i _ _ _ _ _ _ y z hq
    cases hq
    cases e1
    refine wk_mono (L.item j { s with heap := h, toks := tk } (fun r s₁ => ∃ T v u h₁ tk₁, r = some (.ref T) ∧ s₁ = { s with heap := h₁, toks := tk₁ } ∧ Rd (okr ok0 roots₁) Hb y v ∧ Rd (okr ok0 roots₁) Hb z u ∧ h₁.IsTuple T #[v, u] ∧ Mid j T h₁ ∧ T ∉ wr ∧ (∀ b o, b ∉ wr → h.get? b = some o → h₁.get? b = some o))
      y z hx LI.st fun T v u h₁ tk₁ rv ru hT hM hw k₁ => ⟨T, v, u, h₁, tk₁, rfl, rfl, rv, ru, hT, hM, hw, k₁⟩) ?_
    rintro _ _ ⟨T, v, u, h₁, tk₁, rfl, rfl, rv, ru, hT, hM, hTw, k₁⟩
    have F₁ := K.step LI.F LI.rs k₁
    have le₁ : Le Hb h₁ := fun b o e => k₁ b o (fun t => by rw [K.hH b t] at e; cases e) (LI.le b o e)
    refine wk_mono (L.go _ _ _ j T { s with heap := h₁, toks := tk₁ } (fun _ s₂ => ∃ h₂, s₂ = { s with heap := h₂, toks := tk₁ } ∧ Sx (j + 1) h₂ ∧ (∀ b o, b ∉ wr → h₁.get? b = some o → h₂.get? b = some o)) hM le₁ fun h₂ st₂ k₂ => ⟨h₂, rfl, st₂, k₂⟩) ?_
    rintro _ _ ⟨h₂, rfl, st₂, k₂⟩
    have F₂ := K.step F₁ LI.rs k₂
    have le₂ := L.base _ _ st₂
    have ex₂ := L.ex _ _ st₂
    have hT₂ : h₂.IsTuple T #[v, u] := by obtain ⟨o, e, q⟩ := hT; exact ⟨o, k₂ T o hTw e, q⟩
    have F₃ := ForCtx.toF F₂ le₂ LI.rs
    have hts : wfTs nms w [.name i false pi, .name i₂ false pi₂] = true := by simp [wfTs, wfTt, hi, hw, hi₂, hw₂]
    refine wk_mono (tup_stores (Q := fun _ s₂ => ∃ h₃ tk₃ rs₃ m₃ cm₃, s₂ = { s with heap := h₃, toks := tk₃ } ∧ Fm X (PB P Hb wr h₂) (okw ok0 wr) env nms rs₃ (put (put r i (.sh y)) i₂ (.sh z)) m₃ cm₃ h₃ ∧ wv X env w m₃ cm₃ = wv X env w m' cm') (s := { s with heap := h₂, toks := tk₁ })
      (ts := [.name i false pi, .name i₂ false pi₂]) (vs := [y, z]) (PL := [(.sh y, v), (.sh z, u)]) (kt := kk) (pt := tp) (T := T) S hts (K.toC ex₂) R F₃ rfl rfl ⟨fun q hq => ?_, ?_⟩ hT₂ rfl fun h₃ tk₃ rs₃ m₃ cm₃ F' w₃ => ⟨h₃, tk₃, rs₃, m₃, cm₃, rfl, F', w₃⟩) ?_
    · simp only [List.mem_cons, List.not_mem_nil, or_false] at hq
      rcases hq with rfl | rfl
      · exact ⟨K.item rv le₂ LI.rs, trivial⟩
      · exact ⟨K.item ru le₂ LI.rs, trivial⟩
    · simp [isOw]
    rintro _ _ ⟨h₃, tk₃, rs₃, m₃, cm₃, rfl, F₄, w₃⟩
    exact for_body K L.frame ex₂ SS hB R st₂ hlt F₄ (w₃.trans w') e2 e3 Ke
  · have hj' : j = items.length := by omega
    refine wk_mono (L.done { s with heap := h, toks := tk } (fun r s₁ => ∃ h₁ tk₁, r = .none ∧ s₁ = { s with heap := h₁, toks := tk₁ } ∧ (∀ b o, b ∉ wr → h.get? b = some o → h₁.get? b = some o)) (hj' ▸ LI.st) fun h₁ tk₁ k₁ => ⟨h₁, tk₁, rfl, rfl, k₁⟩) ?_
    rintro _ _ ⟨h₁, tk₁, rfl, rfl, k₁⟩
    exact wpAny_execs_nil (for_end K hlt (K.step LI.F LI.rs k₁) w' e Ke)
theorem snd_for {tg : Tg} {k : SrK} {pf ps p : Pos} {args : List Ex} {vs : List V} (S : SndE X D evf) (SS : SndS X D nms w ih) (hs : wfSrc nms tg.isTwo k args = true) (ha : wfL nms args = true) (ht : wfTg nms tg = true) (ho : offW w tg = true) (hB : wfSs X.nm nms w b = true)
    (C : FmC X P ok0 env nms) (R : Room A D) (F : Fm X P ok0 env nms roots r m cm s.heap) (he : evs evf r args = some vs) (hi : srcV k vs = some items) (e : floop tg (fun r => ih r b) items r = some res) (Ke : Ends X P ok0 env nms w m cm s res Q) :
    wpAny (model X.prog X.w) A (exec (.For (tg.un X.nm) (srcUn X.nm k pf (unL X.nm args) ps) (unS X.nm b) [] p) env) Q NoE s := by
  refine wpAny_For (snd_S S hs ha he hi env A s (okr ok0 roots) _ C.N R (F.base C) (F.okf C) (F.envOK C) fun it s₂ e₂ Src => ?_) (fun x => fsi_src X.nm k tg.isTwo nms pf ps args hs env x)
  obtain ⟨h₂, tk₂, rfl⟩ : ∃ h tk, s₂ = { s with heap := h, toks := tk } := ⟨_, _, e₂⟩
  clear e₂
  have S' : ∃ (h₁ : Heap) (I : Addr) (wr : List Addr), it = .ref I ∧ Le s.heap h₁ ∧ Le h₁ h₂ ∧ (∀ b ∈ wr, h₁.get? b = .none) ∧ ∀ Hb, Le Hb h₁ → KeepsOk (okr ok0 roots) h₁ Hb →
      match tg.isTwo with
      | false => ∃ St, Lp1 X A I wr Hb (okr ok0 roots) items St ∧ St 0 h₂
      | true => ∃ St Mid, Lp2 X A I wr Hb (okr ok0 roots) items St Mid ∧ St 0 h₂ := by
    cases ht : tg.isTwo with
    | false =>
      rw [ht] at Src
      obtain ⟨h₁, I, wr, e, l1, l2, w0, w1, go⟩ := Src
      exact ⟨h₁, I, wr, e, l1, l2, w0, go⟩
    | true =>
      rw [ht] at Src
      obtain ⟨h₁, I, wr, e, l1, l2, w0, w1, go⟩ := Src
      exact ⟨h₁, I, wr, e, l1, l2, w0, go⟩
  clear Src
  obtain ⟨h₁, I, wr, rfl, l1, l2, w0, go⟩ := S'
  obtain ⟨Hb, hHb⟩ := sift h₁ fun b => ¬ Tch env (eOwn env) b ∧ b ∉ roots
  have leHb : Le Hb h₁ := fun b o e => ((hHb b o).mp e).1
  have F₁ := F.le l1
  have keep : KeepsOk (okr ok0 roots) h₁ Hb := fun a o q e ⟨vs, n, d⟩ => (hHb a o).mpr ⟨e, fun t => tch_data F₁.lay t e vs n d, q.2⟩
  have go := go Hb leHb keep
  have K : ForCtx X P ok0 env nms Hb wr := by
    refine ⟨C, fun b hb o p => ?_, fun b hb => none_of_le leHb (w0 b hb), fun b t => ⟨?_, fun hb => ?_⟩⟩
    · have := F₁.kept b o p
      rw [w0 b hb] at this; cases this
    · cases e : Hb.get? b with
      | none => rfl
      | some o => exact absurd t ((hHb b o).mp e).2.1
    · obtain ⟨o, e⟩ := F₁.lay.ex t
      rw [w0 b hb] at e; cases e
  have FW : Fm X P (okw ok0 wr) env nms roots r m cm h₂ := (F₁.map (ok2 := okw ok0 wr) fun a o q e => ⟨⟨q.1, fun z => by rw [w0 a z] at e; cases e⟩, q.2⟩).le l2
  have rs : ∀ a ∈ roots, Hb.get? a = .none ∧ a ∉ wr := fun a ha => ⟨by
    cases e : Hb.get? a with
    | none => rfl
    | some o => exact absurd ha ((hHb a o).mp e).2.2, fun z => by
    obtain ⟨_, vs, n, e⟩ := F₁.rt a ha
    rw [w0 a z] at e; cases e⟩
  cases tg with
  | one i pi =>
    obtain ⟨Sx, L, st⟩ := go
    have hw : wq i w = false := by simpa [offW] using ho
    exact for_loop1 K L S SS ht hw hB R Ke ⟨0, r, h₂, tk₂, roots, m, cm, rfl, Nat.zero_le _, rfl, ⟨FW, leHb.trans l2, st, rs⟩, rfl, e⟩
  | two i j pi pj kk tp =>
    obtain ⟨Sx, Mid, L, st⟩ := go
    simp only [offW, Bool.and_eq_true, Bool.not_eq_true'] at ho
    simp only [wfTg, Bool.and_eq_true] at ht
    exact for_loop2 K L S SS ht.2.1 ho.1 ht.2.2 ho.2 hB R Ke ⟨0, r, h₂, tk₂, roots, m, cm, rfl, Nat.zero_le _, rfl, ⟨FW, leHb.trans l2, st, rs⟩, rfl, e⟩
end
end Mine
end
section
open PySem PySem.Calls PyProof.Rows
set_option maxRecDepth 4000
namespace Mine

theorem isComp_iff {e : Ex} (h : isComp e = true) : ∃ elt tg k pf args ps sc fv p, e = .comp elt tg k pf args ps sc fv p := by
  unfold isComp at h
  split at h
  · exact ⟨_, _, _, _, _, _, _, _, _, rfl⟩
  · cases h
section
variable {X : Fix} {nms : List (Nat × NameKind)} {D : Nat} {w : Nat × Nat} {Φ : Nat → List V → Option V} {Ψ : Nat → List V → List V → Option (List V)} {ih : StFn} {n : Nat}
theorem bnot {b : Bool} (h : (!b) = true) : b = false := by rwa [Bool.not_eq_true'] at h
theorem own_fr {a b : Bool} (h : (!a || b) = true) : a = true → b = true := fun e => by rw [e] at h; simpa using h
theorem snd_stG {evf : EvFn} {tf : Rho → Ex → Option Bool} (S : SndE X D evf) (T : SndT X D tf) (hcomp : ∀ r e v, evf r e = some v → ∃ n, ev Φ n r e = some v) (HΦ : ∀ f xs x, Φ f xs = some x → CallOK X D f xs x) (HΨ : ∀ f l xs l', Ψ f l xs = some l' → InoutOK X D f l xs l') (SS : SndS X D nms w ih) :
    SndSt X D nms w (stStep Ψ evf tf ih) := fun P ok0 env A s roots r m cm st res Q hw C R F e K => by
  cases st with
  | asg1 t e₁ p =>
    simp only [stStep, sAsg1] at e
    split at e <;> try contradiction
    rename_i v hv
    split at e <;> try contradiction
    rename_i r' hr
    cases e
    cases t with
    | name i own pn =>
      simp only [wfSt, Bool.and_eq_true] at hw
      obtain ⟨h1, h2⟩ := hw
      simp only [asgT] at hr
      split at hr <;> try contradiction
      rename_i sl hs
      cases hr
      cases hc : isComp e₁ with
      | false => exact st_name S h1 h2.1 (bnot h2.2.1) (own_fr h2.2.2) C R F hv hs hc K
      | true =>
        obtain ⟨elt, tg, k, pf, args, ps, sc, fv, pq, rfl⟩ := isComp_iff hc
        obtain ⟨n, hv⟩ := hcomp _ _ _ hv
        exact st_comp HΦ h1 h2.1 (bnot h2.2.1) C R F hv hs K
    | item i ix pn pt =>
      simp only [wfSt, Bool.and_eq_true] at hw
      simp only [asgT] at hr
      split at hr <;> try contradiction
      rename_i l hg
      split at hr <;> try contradiction
      rename_i k hx
      split at hr <;> try contradiction
      split at hr <;> try contradiction
      rename_i hj
      rw [Bool.and_eq_true] at hj
      cases hr
      exact st_item S hw.1 hw.2 C R F hv hg hx (W.Z.blt_iff.mp hj.1) hj.2 K
  | asgD ts kt pt es ke pe p =>
    simp only [stStep, sAsgD] at e
    rw [wfSt, Bool.and_eq_true, Bool.and_eq_true, Bool.and_eq_true, Bool.and_eq_true, Bool.and_eq_true] at hw
    obtain ⟨h1, h2, h3, h4, h5, h6⟩ := hw
    split at e <;> try contradiction
    rename_i vs hv
    split at e <;> try contradiction
    rename_i r' hr
    cases e
    exact st_D S h1 h2 h3 h4 h5 h6 C R F hv hr K
  | asgU ts kt pt e₁ p =>
    simp only [stStep, sAsgU] at e
    rw [wfSt, Bool.and_eq_true, Bool.and_eq_true, Bool.and_eq_true] at hw
    obtain ⟨h1, h2, h3, h4⟩ := hw
    split at e <;> try contradiction
    rename_i vs hv
    split at e <;> try contradiction
    rename_i r' hr
    cases e
    exact st_U S h1 h2 h3 (bnot h4) C R F hv hr K
  | aug i pn o e₁ p =>
    simp only [stStep, sAug] at e
    rw [wfSt, Bool.and_eq_true] at hw
    split at e <;> try contradiction
    rename_i x hg
    split at e <;> try contradiction
    rename_i y hv
    split at e <;> try contradiction
    rename_i a b
    split at e <;> try contradiction
    · cases e
      exact st_aug S hw.1 (bnot hw.2) C R F hg hv (.inl ⟨rfl, rfl⟩) K
    · cases e
      exact st_aug S hw.1 (bnot hw.2) C R F hg hv (.inr ⟨rfl, rfl⟩) K
  | app i pn pa e₁ pc p =>
    simp only [stStep, sApp] at e
    rw [wfSt, Bool.and_eq_true] at hw
    split at e <;> try contradiction
    rename_i l hg
    split at e <;> try contradiction
    rename_i hf
    split at e
    · rename_i j pj
      split at e <;> try contradiction
      rename_i hij
      split at e <;> try contradiction
      · rename_i v hj
        cases e
        have hv : ev Φ 1 r (.name j pj) = some v := by
          show evStep Φ (ev Φ 0) (tst Φ 0) r (.name j pj) = some v
          simp only [evStep, evName, hj]
        exact st_app (snd_ev HΦ 1) (e := .name j pj) rfl C R F hg hf hw.2 hv K
      · rename_i xs hj
        cases e
        exact st_give (Nat.ne_of_beq_eq_false (by simpa using hij)) C F hg hj hf hw.2 K
    · split at e <;> try contradiction
      rename_i v hv
      cases e
      exact st_app S hw.1 C R F hg hf hw.2 hv K
  | inout f pf i pi es pc p =>
    simp only [stStep, sInout] at e
    rw [wfSt, Bool.and_eq_true] at hw
    split at e <;> try contradiction
    rename_i l hg
    split at e <;> try contradiction
    rename_i vs hv
    split at e <;> try contradiction
    rename_i l' hl
    cases e
    exact st_inout S (isGI_iff hw.1) hw.2 C R F hg hv (HΨ _ _ _ _ hl) K
  | ifs t b1 b2 p =>
    simp only [stStep, sIfs] at e
    rw [wfSt, Bool.and_eq_true, Bool.and_eq_true] at hw
    obtain ⟨h1, h2, h3⟩ := hw
    have go : ∀ bb, tf r t = some bb → ∀ b, wfSs X.nm nms w b = true → ih r b = some res → b = (if bb then b1 else b2) → wpAny (model X.prog X.w) A (exec ((St.ifs t b1 b2 p).un X.nm) env) Q NoE s := fun bb ht b hb hres eb => by
      refine wpAny_If (wk_mono (T _ _ _ _ h1 ht env A s _ _ (fun c s' => c = bb ∧ ∃ h' tk', s' = { s with heap := h', toks := tk' } ∧ Fm X P ok0 env nms roots r m cm h') C.N R (F.base C) (F.okf C) (F.envOK C) fun h' tk' l => ⟨rfl, h', tk', rfl, F.le l⟩) ?_)
      rintro _ _ ⟨rfl, h', tk', rfl, F'⟩
      have fin : wpAny (model X.prog X.w) A (execs (unS X.nm b) env) Q NoE { s with heap := h', toks := tk' } := by
        refine SS P ok0 env A { s with heap := h', toks := tk' } roots r m cm b res Q hb C R F' hres ?_
        cases res with
        | next r' => exact fun h₂ tk₂ rs₂ m₂ cm₂ F₂ w₂ => K h₂ tk₂ rs₂ m₂ cm₂ F₂ w₂
        | ret V => exact fun v h₂ tk₂ k₂ q₂ => K v h₂ tk₂ k₂ q₂
      subst eb
      rename_i c
      cases c
      · exact fin
      · exact fin
    split at e <;> try contradiction
    · rename_i ht
      exact go true ht b1 h2 e rfl
    · rename_i ht
      exact go false ht b2 h3 e rfl
  | wh t b p =>
    simp only [stStep] at e
    rw [wfSt, Bool.and_eq_true] at hw
    exact snd_while T SS hw.1 hw.2 C R F e K
  | fr tg k pf args ps b p =>
    simp only [stStep, sFor] at e
    rw [wfSt, Bool.and_eq_true, Bool.and_eq_true, Bool.and_eq_true, Bool.and_eq_true] at hw
    obtain ⟨h1, h2, h3, h4, h5⟩ := hw
    split at e <;> try contradiction
    rename_i vs hv
    split at e <;> try contradiction
    rename_i items hi
    exact snd_for S SS h1 h2 h3 h4 h5 C R F hv hi e K
  | ret e₁ p =>
    simp only [stStep, sRet] at e
    rw [wfSt] at hw
    split at e <;> try contradiction
    rename_i v hv
    cases e
    exact snd_ret S hw C R F hv K
  | ex e₁ p =>
    simp only [stStep, sEx] at e
    rw [wfSt, Bool.and_eq_true] at hw
    split at e <;> try contradiction
    rename_i v hv
    split at e <;> try contradiction
    cases e
    exact st_ex S hw.1 (bnot hw.2) C R F hv K
  | other st => cases e
theorem snd_stStep (HΦ : ∀ f xs x, Φ f xs = some x → CallOK X D f xs x) (HΨ : ∀ f l xs l', Ψ f l xs = some l' → InoutOK X D f l xs l') (SS : SndS X D nms w ih) : SndSt X D nms w (stStep Ψ (ev Φ n) (tst Φ n) ih) :=
  snd_stG (Φ := Φ) (snd_ev HΦ n) (snd_ts HΦ n) (fun _ _ _ h => ⟨n, h⟩) HΦ HΨ SS
theorem snd_evD (HΦ : ∀ f xs x, Φ f xs = some x → CallOK X D f xs x) : SndE X D (evD Φ) := fun nms r e v hw h => snd_ev HΦ (dep e) nms r e v hw h
theorem snd_tsD (HΦ : ∀ f xs x, Φ f xs = some x → CallOK X D f xs x) : SndT X D (tsD Φ) := fun nms r e v hw h => snd_ts HΦ (dep e) nms r e v hw h
theorem snd_run (HΦ : ∀ f xs x, Φ f xs = some x → CallOK X D f xs x) (HΨ : ∀ f l xs l', Ψ f l xs = some l' → InoutOK X D f l xs l') : ∀ n, SndS X D nms w (run Φ Ψ n)
  | 0 => fun P ok0 env A s roots r m cm ss res Q _ _ _ _ e _ => by cases e
  | n + 1 => snd_exs (snd_stG (Φ := Φ) (snd_evD HΦ) (snd_tsD HΦ) (fun _ e _ h => ⟨dep e, h⟩) HΦ HΨ (snd_run HΦ HΨ n))
end
end Mine
end
section
open PySem PySem.Calls PyProof.Rows
set_option maxRecDepth 4000
namespace Mine

structure Fd where
  f : Nat
  ps : List Nat
  sc : List (Nat × NameKind)
  b : List St
  io : Bool
noncomputable def par : List Nat → List V → Option Rho
  | [], [] => some []
  | i :: ps, x :: xs => match par ps xs with
    | some r => some ((i, .sh x) :: r)
    | .none => .none
  | _, _ => .none
noncomputable def callV (Φ : Nat → List V → Option V) (Ψ : Nat → List V → List V → Option (List V)) (ps : List Nat) (b : List St) (xs : List V) : Option V := match par ps xs with
  | some r => match run Φ Ψ 12 r b with
    | some (.ret v) => some v
    | some (.next _) => some .none
    | .none => .none
  | .none => .none
noncomputable def callI (Φ : Nat → List V → Option V) (Ψ : Nat → List V → List V → Option (List V)) (ps : List Nat) (b : List St) (l : List V) (xs : List V) : Option (List V) := match ps with
  | [] => .none
  | i :: ps => match par ps xs with
    | some r => match run Φ Ψ 12 ((i, .ow l) :: r) b with
      | some (.next r') => match get r' i with
        | some (.ow l') => some l'
        | _ => .none
      | _ => .none
    | .none => .none

noncomputable def nodupN : List Nat → Bool
  | [] => true
  | i :: t => (t.all fun j => !(Nat.beq i j)) && nodupN t
theorem nodupN_iff : ∀ {l : List Nat}, nodupN l = true → l.Nodup
  | [], _ => .nil
  | i :: t, h => by
    rw [nodupN, Bool.and_eq_true, List.all_eq_true] at h
    refine List.nodup_cons.mpr ⟨fun z => ?_, nodupN_iff h.2⟩
    have := h.1 i z
    exact absurd rfl (nbq this)
noncomputable def wfF (nm : Nat → Str) (w : Nat × Nat) (ps : List Nat) (sc : List (Nat × NameKind)) (b : List St) : Bool :=
  (sc.all fun q => sameK (lk sc q.1) q.2) && ((sc.all fun q => match q.2 with
    | .free => false
    | _ => true) && ((ps.all fun i => isSt (lk sc i)) && (nodupN ps && wfSs nm sc w b)))

theorem vl_bind {env : Env} : ∀ (binds : List (Str × Value)) (m cm : Str → Option Value), (binds.map (·.1)).Nodup → ∀ y, vl env (bindL env.kindOf binds m) (bindC env.kindOf binds cm) y = (binds.lookup y).or (vl env m cm y)
  | [], m, cm, _, y => by simp [bindL, bindC]
  | (n, v) :: r, m, cm, h, y => by
    rw [List.map_cons, List.nodup_cons] at h
    unfold bindL bindC
    rw [vl_bind r _ _ h.2 y, List.lookup_cons]
    by_cases z : y = n
    · subst z
      have hn : r.lookup y = .none := by
        cases e : r.lookup y with
        | none => rfl
        | some u => exact absurd (List.mem_map.mpr ⟨(y, u), mem_of_lookup e, rfl⟩) h.1
      rw [hn]
      by_cases k : env.kindOf y = some .local
      · simp [vl, k]
      · simp [vl, k]
    · have hb : (y == n) = false := beq_eq_false_iff_ne.mpr z
      rw [hb]
      congr 1
      by_cases k : env.kindOf n = some .local
      · by_cases k' : env.kindOf y = some .local <;> simp [vl, k, k', z]
      · by_cases k' : env.kindOf y = some .local <;> simp [vl, k, k', z]

theorem par_get {ok : Addr → Prop} {h : Heap} (X : Fix) : ∀ {ps : List Nat} {xs : List V} {vs : List Value} {r : Rho}, par ps xs = some r → RdL ok h xs vs → ∀ i sl, get r i = some sl → i ∈ ps ∧ ∃ V v, sl = .sh V ∧ ((ps.map X.nm).zip vs).lookup (X.nm i) = some v ∧ Rd ok h V v
  | [], [], _, _, e, _, i, sl, g => by cases e; cases g
  | [], _ :: _, _, _, e, _, _, _, _ => by cases e
  | _ :: _, [], _, _, e, _, _, _, _ => by cases e
  | j :: ps, x :: xs, vs, r, e, q, i, sl, g => by
    unfold par at e
    split at e <;> try contradiction
    rename_i r₀ e₀
    cases e
    obtain ⟨v, t, rfl, a, b⟩ := q.uncons
    rw [get_cons] at g
    rw [List.map_cons, List.zip_cons_cons, List.lookup_cons]
    by_cases z : j = i
    · subst z
      rw [if_pos rfl] at g
      cases g
      refine ⟨List.mem_cons_self, x, v, rfl, ?_, a⟩
      simp
    · rw [if_neg z] at g
      obtain ⟨h1, V, u, h2, h3, h4⟩ := par_get X e₀ b i sl g
      refine ⟨List.mem_cons_of_mem _ h1, V, u, h2, ?_, h4⟩
      have hb : (X.nm i == X.nm j) = false := beq_eq_false_iff_ne.mpr fun y => z (X.inj _ _ y).symm
      rw [hb]
      exact h3
theorem par_len : ∀ {ps : List Nat} {xs : List V} {r : Rho}, par ps xs = some r → ps.length = xs.length
  | [], [], _, _ => rfl
  | [], _ :: _, _, e => by cases e
  | _ :: _, [], _, e => by cases e
  | j :: ps, x :: xs, r, e => by
    unfold par at e
    split at e <;> try contradiction
    rename_i r₀ e₀
    simp [par_len e₀]

section
variable {X : Fix} {D f : Nat} {w : Nat × Nat} {Φ : Nat → List V → Option V} {Ψ : Nat → List V → List V → Option (List V)} {ps : List Nat} {sc : List (Nat × NameKind)} {b : List St}
/-- a definition of the module, in the own syntax -/
structure DefOK (X : Fix) (w : Nat × Nat) (f : Nat) (ps : List Nat) (sc : List (Nat × NameKind)) (b : List St) (d : DefRec) : Prop where
  mem : d ∈ X.ds
  name : d.name = X.nm f
  body : d.body = unS X.nm b
  scK : d.scope.kind = .function
  scN : d.scope.names = unNames X.nm sc
  scG : d.scope.isGenerator = false
  scC : d.scope.isCoroutine = false
  bind : ∀ pm code doc (vs : List Value), vs.length = ps.length → bindArgs (docDef d.name d.params d.body d.scope pm code doc) ⟨vs, []⟩ = pure ((ps.map X.nm).zip vs)
  wf : wfF X.nm w ps sc b = true

theorem map_fst_zip {ps : List Str} {vs : List Value} (h : vs.length = ps.length) : (ps.zip vs).map (·.1) = ps := List.map_fst_zip (by omega)
theorem nodup_nm (X : Fix) {l : List Nat} (h : l.Nodup) : (l.map X.nm).Nodup := List.Pairwise.map _ (fun a b n z => n (X.inj _ _ z)) h
/-- the frame of a call, as it begins -/
theorem entry {d : DefRec} {a : Addr} {s s₁ : Shared} {pm code doc : Value} {vs : List Value} {ok : Addr → Prop} (K : DefOK X w f ps sc b d) (hl : vs.length = ps.length) (O : OkF ok s.heap)
    (I : InCallC s (callEnvC (docDef d.name d.params d.body d.scope pm code doc) s.heap.objs.size a).locals (bindL (callEnvC (docDef d.name d.params d.body d.scope pm code doc) s.heap.objs.size a).kindOf ((ps.map X.nm).zip vs) fun _ => .none)
      (callEnvC (docDef d.name d.params d.body d.scope pm code doc) s.heap.objs.size a).cells (bindC (callEnvC (docDef d.name d.params d.body d.scope pm code doc) s.heap.objs.size a).kindOf ((ps.map X.nm).zip vs) fun _ => .none) s₁) :
    ∃ env, env = callEnvC (docDef d.name d.params d.body d.scope pm code doc) s.heap.objs.size a ∧ EnvN X env sc ∧ LayC env (eOwn env) ∧ (∀ c, Tch env (eOwn env) c → s.heap.get? c = .none) ∧
      ∃ m cm, Lay env (eOwn env) m cm s₁.heap ∧ (∀ y, vl env m cm y = ((ps.map X.nm).zip vs).lookup y) ∧ Le s.heap s₁.heap ∧ ∃ h tk, s₁ = { s with heap := h, toks := tk } := by
  have hwf := K.wf
  unfold wfF at hwf
  rw [Bool.and_eq_true, Bool.and_eq_true, Bool.and_eq_true, Bool.and_eq_true, List.all_eq_true, List.all_eq_true] at hwf
  obtain ⟨h1, h2, h3, h4, h5⟩ := hwf
  refine ⟨_, rfl, ⟨?_, ?_, rfl, rfl, fun i hi => ?_⟩, ⟨?_, fun n c h => h, fun n c n' c' h h' hn z => hn (name_of_addr I.apart (mem_of_lookup h) (z ▸ mem_of_lookup h'))⟩, fun c t => ?_, _, _, ⟨I.toInCall.ns, fun n c h => I.cell n c h⟩, fun y => ?_, I.toInCall.keep, I.toInCall.same⟩
  · exact K.scK
  · exact K.scN
  · have hc : lk sc i = some .cell := by
      rcases hi with hi | hi
      · exact hi
      · have := h2 _ (lk_mem hi)
        simp at this
    show ∃ c, (cellsFrom (s.heap.objs.size + 1) d.scope.names []).lookup (X.nm i) = some c
    rw [K.scN]
    exact Option.isSome_iff_exists.mp (cells_has _ _ _ _ (.inr (mem_un (lk_mem hc))))
  · exact K.scK
  · rcases t with rfl | ⟨n, t⟩
    · exact size_none _
    · exact none_ge (Nat.le_of_lt (I.above n c (mem_of_lookup t)))
  · rw [vl_bind _ _ _ (by rw [map_fst_zip (by simpa using hl)]; exact nodup_nm X (nodupN_iff h4)) y]
    cases ((ps.map X.nm).zip vs).lookup y <;> simp [vl]
end
end Mine
end
section
open PySem PySem.Calls PyProof.Rows
set_option maxRecDepth 4000
namespace Mine

section
variable {X : Fix} {D f : Nat} {w : Nat × Nat} {Φ : Nat → List V → Option V} {Ψ : Nat → List V → List V → Option (List V)} {ps : List Nat} {sc : List (Nat × NameKind)} {b : List St} {d : DefRec}
theorem bind_kinds (K : DefOK X w f ps sc b d) {s : Shared} {vs : List Value} : ∀ x ∈ (ps.map X.nm).zip vs, d.scope.names.lookup x.1 = some .local ∨ (d.scope.names.lookup x.1 = some .cell ∧ ((cellsFrom (s.heap.objs.size + 1) d.scope.names []).lookup x.1).isSome = true) := fun x hx => by
  have hwf := K.wf
  unfold wfF at hwf
  rw [Bool.and_eq_true, Bool.and_eq_true, Bool.and_eq_true, Bool.and_eq_true, List.all_eq_true, List.all_eq_true, List.all_eq_true] at hwf
  obtain ⟨h1, h2, h3, h4, h5⟩ := hwf
  obtain ⟨i, hi, e⟩ := List.mem_map.mp (List.of_mem_zip (a := x.1) (b := x.2) hx).1
  rw [K.scN, ← e, lookup_un]
  rcases isSt_iff (h3 i hi) with h | h
  · exact .inl h
  · exact .inr ⟨h, cells_has _ _ _ _ (.inr (mem_un (lk_mem h)))⟩
theorem wf_parts (K : DefOK X w f ps sc b d) : (∀ i ∈ ps, isSt (lk sc i) = true) ∧ wfSs X.nm sc w b = true := by
  have hwf := K.wf
  unfold wfF at hwf
  rw [Bool.and_eq_true, Bool.and_eq_true, Bool.and_eq_true, Bool.and_eq_true, List.all_eq_true, List.all_eq_true, List.all_eq_true] at hwf
  exact ⟨hwf.2.2.1, hwf.2.2.2.2⟩

theorem callV_ok (K : DefOK X w f ps sc b d) (HΦ : ∀ f xs x, Φ f xs = some x → CallOK X D f xs x) (HΨ : ∀ f l xs l', Ψ f l xs = some l' → InoutOK X D f l xs l') {xs : List V} {x : V} (e : callV Φ Ψ ps b xs = some x) : CallOK X (D + 1) f xs x := by
  refine ⟨⟨d, K.mem, K.name⟩, fun A s ok a vs Q hm R B O r P => ?_⟩
  unfold callV at e
  split at e <;> try contradiction
  rename_i rho hpar
  obtain ⟨a', o, pm, code, doc, h1, h2, h3, h4⟩ := B.fns d K.mem
  rw [K.name, hm] at h1
  cases h1
  have hl : vs.length = ps.length := by rw [r.length, par_len hpar]
  refine wpAny_call (codeAny_call_cells (body := d.body) (vals := vs) (by have := R.depth; omega) h2 h3 B.nolimit h4 rfl (K.bind pm code doc vs hl) rfl (bind_kinds K) (fun s₁ I => ?_) K.scC K.scG K.scK)
  obtain ⟨env, he, N, C, tc, m, cm, L, hv, hle, h, tk, rfl⟩ := entry K hl O I
  rw [← he, K.body]
  obtain ⟨w1, w2⟩ := wf_parts K
  have FC : FmC X (fun b o => s.heap.get? b = some o) ok env sc := ⟨N, C, fun h k => B.le k, fun b n => O b (by
    cases e : s.heap.get? b with
    | none => rfl
    | some o => exact absurd e (n o)), fun c t o e => by rw [tc c t] at e; cases e⟩
  have F : Fm X (fun b o => s.heap.get? b = some o) ok env sc [] rho m cm h := by
    refine ⟨hle, L, fun i sl g => w1 i (par_get X hpar r i sl g).1, fun i sl g => ?_, fun i j li lj a n p q => ?_, fun a h => nomatch h⟩
    · obtain ⟨_, V, v, rfl, h6, h7⟩ := par_get X hpar r i sl g
      exact ⟨v, (hv _).trans h6, (h7.le hle).wk fun a q => ⟨q, fun z => nomatch z⟩⟩
    · obtain ⟨_, V, v, h6, _⟩ := par_get X hpar r i _ p
      cases h6
  split at e
  · rename_i v hr
    cases e
    refine wpAny_mono (snd_run HΦ HΨ 12 _ _ env (A.deeper env) { s with heap := h, toks := tk } [] rho m cm b _ (fun fl s' => Q (match fl with | .ret v => v | _ => .none) s') w2 FC (R.deeper env) F hr ?_) (fun _ _ z => z) fun _ _ z => z.elim
    intro v h' tk' k q
    exact P v h' tk' k q fun z => by cases z
  · rename_i r' hr
    cases e
    refine wpAny_mono (snd_run HΦ HΨ 12 _ _ env (A.deeper env) { s with heap := h, toks := tk } [] rho m cm b _ (fun fl s' => Q (match fl with | .ret v => v | _ => .none) s') w2 FC (R.deeper env) F hr ?_) (fun _ _ z => z) fun _ _ z => z.elim
    intro h' tk' rs m' cm' F' _
    exact P .none h' tk' F'.kept (by rw [Rd]) fun z => by cases z
  · cases e

theorem callI_ok {ws : Nat} {qs : List Nat} (hps : ps = ws :: qs) (K : DefOK X (ws, 999999) f ps sc b d) (HΦ : ∀ f xs x, Φ f xs = some x → CallOK X D f xs x) (HΨ : ∀ f l xs l', Ψ f l xs = some l' → InoutOK X D f l xs l') {l l' xs : List V} (e : callI Φ Ψ ps b l xs = some l') : InoutOK X (D + 1) f l xs l' := by
  refine ⟨⟨d, K.mem, K.name⟩, fun A s ok a rb us vs Q hm R B0 O okb la ra r P => ?_⟩
  have B : Base X s.heap := B0 s.heap (Kb.refl _)
  subst hps
  unfold callI at e
  dsimp only at e
  split at e <;> try contradiction
  rename_i rho hpar
  obtain ⟨a', o, pm, code, doc, h1, h2, h3, h4⟩ := B.fns d K.mem
  rw [K.name, hm] at h1
  cases h1
  have hl' : vs.length = qs.length := by rw [r.length, par_len hpar]
  have hl : (Value.ref rb :: vs).length = (ws :: qs).length := by simp [hl']
  refine wpAny_call (codeAny_call_cells (body := d.body) (vals := .ref rb :: vs) (by have := R.depth; omega) h2 h3 B.nolimit h4 rfl (K.bind pm code doc _ hl) rfl (bind_kinds K) (fun s₁ I => ?_) K.scC K.scG K.scK)
  obtain ⟨env, he, N, C, tc, m, cm, L, hv, hle, h, tk, rfl⟩ := entry K hl O I
  rw [← he, K.body]
  obtain ⟨w1, w2⟩ := wf_parts K
  have hwf := K.wf
  unfold wfF at hwf
  rw [Bool.and_eq_true, Bool.and_eq_true, Bool.and_eq_true, Bool.and_eq_true] at hwf
  have hnd := List.nodup_cons.mp (nodupN_iff hwf.2.2.2.1)
  have FC : FmC X (fun c o => s.heap.get? c = some o ∧ c ≠ rb) ok env sc := ⟨N, C, fun h k => B0 h fun c o n e => k c o ⟨e, n⟩, fun c n => by
    by_cases z : c = rb
    · exact z ▸ okb
    · exact O c (by
        cases e : s.heap.get? c with
        | none => rfl
        | some o => exact absurd ⟨e, z⟩ (n o)), fun c t o e => by rw [tc c t] at e; cases e.1⟩
  have la' : h.PlainList rb us.toArray := plain_le hle la
  have gw : ∀ i sl, get ((ws, .ow l) :: rho) i = some sl → (i = ws ∧ sl = .ow l) ∨ (i ≠ ws ∧ get rho i = some sl) := fun i sl g => by
    rw [get_cons] at g
    by_cases z : ws = i
    · rw [if_pos z] at g; cases g; exact .inl ⟨z.symm, rfl⟩
    · rw [if_neg z] at g; exact .inr ⟨fun y => z y.symm, g⟩
  have sh : ∀ i li, get rho i ≠ some (.ow li) := fun i li g => by
    obtain ⟨_, V, v, h6, _⟩ := par_get X hpar r i _ g
    cases h6
  have hv0 : vl env m cm (X.nm ws) = some (.ref rb) := by
    rw [hv]
    simp
  have kk : ∀ c, (ok c ∧ c ≠ rb) → okr ok [rb] c := fun c q => ⟨q.1, fun z => q.2 (List.mem_singleton.mp z)⟩
  have kb : ∀ c, okr ok [rb] c → (ok c ∧ c ≠ rb) := fun c q => ⟨q.1, fun z => q.2 (List.mem_singleton.mpr z)⟩
  have F : Fm X (fun c o => s.heap.get? c = some o ∧ c ≠ rb) ok env sc [rb] ((ws, .ow l) :: rho) m cm h := by
    refine ⟨fun c o e => hle c o e.1, L, fun i sl g => ?_, fun i sl g => ?_, fun i j li lj a n p q => ?_, fun c hc => ?_⟩
    · rcases gw i sl g with ⟨rfl, _⟩ | ⟨_, g⟩
      · exact w1 _ List.mem_cons_self
      · exact w1 i (List.mem_cons_of_mem _ (par_get X hpar r i sl g).1)
    · rcases gw i sl g with ⟨rfl, rfl⟩ | ⟨hne, g⟩
      · exact ⟨.ref rb, hv0, rb, us, rfl, List.mem_singleton.mpr rfl, la', (ra.le hle).wk kk⟩
      · obtain ⟨_, V, v, rfl, h6, h7⟩ := par_get X hpar r i sl g
        refine ⟨v, (hv _).trans ?_, (h7.le hle).wk kk⟩
        rw [List.map_cons, List.zip_cons_cons, List.lookup_cons]
        have hb : (X.nm i == X.nm ws) = false := beq_eq_false_iff_ne.mpr fun y => hne (X.inj _ _ y)
        rw [hb]
        exact h6
    · rcases gw i _ p with ⟨rfl, _⟩ | ⟨_, g⟩
      · rcases gw j _ q with ⟨rfl, _⟩ | ⟨_, g⟩
        · exact absurd rfl n
        · exact absurd g (sh j lj)
      · exact absurd g (sh i li)
    · rw [List.mem_singleton.mp hc]
      exact ⟨fun o e => e.2 rfl, _, la'⟩
  split at e <;> try contradiction
  rename_i r' hr
  split at e <;> try contradiction
  rename_i l'' hg
  cases e
  refine wpAny_mono (snd_run HΦ HΨ 12 _ _ env (A.deeper env) { s with heap := h, toks := tk } [rb] ((ws, .ow l) :: rho) m cm b _ (fun fl s' => Q (match fl with | .ret v => v | _ => .none) s') w2 FC (R.deeper env) F hr ?_) (fun _ _ z => z) fun _ _ z => z.elim
  intro h' tk' rs m' cm' F' hw
  obtain ⟨c, us', hc, hcr, lc, rc⟩ := F'.root hg
  have hw1 : vl env m' cm' (X.nm ws) = vl env m cm (X.nm ws) := congrArg Prod.fst hw
  rw [hw1, hv0] at hc
  cases hc
  exact P h' tk' us' (fun c o n e => F'.kept c o ⟨e, n⟩) lc (rc.wk fun c q => ⟨q.1, fun z => q.2 (z ▸ hcr)⟩)
end
end Mine
end
section
open PySem PySem.Calls PyProof.Rows
set_option maxRecDepth 4000
namespace Mine

structure PP where
  p : Nat → List V → Option V
  i : Nat → List V → List V → Option (List V)
noncomputable def pp : List Fd → PP
  | [] => ⟨fun _ _ => .none, fun _ _ _ => .none⟩
  | d :: t => ⟨fun f xs => match Nat.beq f d.f && !d.io with
    | true => callV (pp t).p (pp t).i d.ps d.b xs
    | false => (pp t).p f xs, fun f l xs => match Nat.beq f d.f && d.io with
    | true => callI (pp t).p (pp t).i d.ps d.b l xs
    | false => (pp t).i f l xs⟩
/-- the watched name of a definition: the first parameter of one that changes a list -/
noncomputable def Fd.w (d : Fd) : Nat × Nat := match d.io with
  | true => (d.ps.headD 999999, 999999)
  | false => (999999, 999999)

section
variable {X : Fix} {D : Nat}
theorem CallOK.up {f : Nat} {xs : List V} {x : V} (h : CallOK X D f xs x) : CallOK X (D + 1) f xs x := ⟨h.1, fun A s ok a vs Q hm R => h.2 A s ok a vs Q hm (R.le (Nat.le_succ D))⟩
theorem InoutOK.up {f : Nat} {l xs l' : List V} (h : InoutOK X D f l xs l') : InoutOK X (D + 1) f l xs l' := ⟨h.1, fun A s ok a b us vs Q hm R => h.2 A s ok a b us vs Q hm (R.le (Nat.le_succ D))⟩
theorem pp_ok : ∀ (t : List Fd), (∀ d ∈ t, ∃ rec, DefOK X d.w d.f d.ps d.sc d.b rec) → (∀ f xs x, (pp t).p f xs = some x → CallOK X t.length f xs x) ∧ ∀ f l xs l', (pp t).i f l xs = some l' → InoutOK X t.length f l xs l'
  | [], _ => ⟨fun f xs x h => (nomatch h), fun f l xs l' h => (nomatch h)⟩
  | d :: t, H => by
    obtain ⟨ih1, ih2⟩ := pp_ok t fun d hd => H d (List.mem_cons_of_mem _ hd)
    obtain ⟨rec, K⟩ := H d List.mem_cons_self
    refine ⟨fun f xs x h => ?_, fun f l xs l' h => ?_⟩
    · unfold pp at h
      dsimp only at h
      split at h
      · rename_i q
        rw [Bool.and_eq_true] at q
        have hf := Nat.eq_of_beq_eq_true q.1
        subst hf
        exact callV_ok K ih1 ih2 h
      · exact (ih1 f xs x h).up
    · unfold pp at h
      dsimp only at h
      split at h
      · rename_i q
        rw [Bool.and_eq_true] at q
        have hf := Nat.eq_of_beq_eq_true q.1
        subst hf
        have hw : d.w = (d.ps.headD 999999, 999999) := by unfold Fd.w; rw [q.2]
        cases hp : d.ps with
        | nil => rw [hp] at h; cases h
        | cons ws qs =>
          rw [hw, hp] at K
          rw [hp] at h
          exact callI_ok rfl K ih1 ih2 h
      · exact (ih2 f l xs l' h).up
end
end Mine
end
section
open PySem PySem.W PyProof.Rows
namespace Mine
/-- the program without its notes of names: what the head looks at -/
noncomputable def view : Program := { PySem.Challenge.rw_xm0152_01.row.prog with main := { PySem.Challenge.rw_xm0152_01.row.prog.main with body := PySem.Challenge.rw_xm0152_01.row.prog.main.body.filter fun st => match st with
  | .Assign _ _ _ => false
  | _ => true } }
end Mine
end
section
open PySem PySem.Calls PyProof.Rows
set_option maxRecDepth 100000
namespace Mine

theorem len1 {vs : List Value} (h : vs.length = 1) : ∃ a, vs = [a] := List.length_eq_one_iff.mp h
theorem len2 {vs : List Value} (h : vs.length = 2) : ∃ a b, vs = [a, b] := by
  match vs, h with
  | [a, b], _ => exact ⟨a, b, rfl⟩
theorem len3 {vs : List Value} (h : vs.length = 3) : ∃ a b c, vs = [a, b, c] := by
  match vs, h with
  | [a, b, c], _ => exact ⟨a, b, c, rfl⟩
theorem len4 {vs : List Value} (h : vs.length = 4) : ∃ a b c d, vs = [a, b, c, d] := by
  match vs, h with
  | [a, b, c, d], _ => exact ⟨a, b, c, d, rfl⟩
noncomputable abbrev RC (k : Nat) : Option DefRec := (recsOf view)[k]?
theorem DefOK.ofRec {X : Fix} (hn : X.nm = nm) (hds : X.ds = recsOf view) {k f : Nat} {w : Nat × Nat} {ps : List Nat} {sc : List (Nat × NameKind)} {b : List St} (e : (RC k).isSome = true) (h1 : ((RC k).get e).name = nm f) (h2 : ((RC k).get e).body = unS nm b)
    (h3 : ((RC k).get e).scope.kind = .function) (h4 : ((RC k).get e).scope.names = unNames nm sc) (h5 : ((RC k).get e).scope.isGenerator = false) (h6 : ((RC k).get e).scope.isCoroutine = false)
    (h7 : ∀ pm code doc (vs : List Value), vs.length = ps.length → bindArgs (docDef ((RC k).get e).name ((RC k).get e).params ((RC k).get e).body ((RC k).get e).scope pm code doc) ⟨vs, []⟩ = pure ((ps.map nm).zip vs)) (h8 : wfF nm w ps sc b = true) :
    ∃ rec, DefOK X w f ps sc b rec :=
  ⟨(RC k).get e, by rw [hds]; exact List.mem_of_getElem? (Option.some_get e).symm, by rw [hn]; exact h1, by rw [hn]; exact h2, h3, by rw [hn]; exact h4, h5, h6, by rw [hn]; exact h7, by rw [hn]; exact h8⟩
section
variable {X : Fix} (hn : X.nm = nm) (hds : X.ds = recsOf view)
include hn hds
theorem df_10 : ∃ rec, DefOK X (999999, 999999) 10 p_unit_rows s_unit_rows b_unit_rows rec :=
  DefOK.ofRec (k := 0) hn hds (by kernel_rfl) (by kernel_rfl) (by kernel_rfl) (by kernel_rfl) (by kernel_rfl) (by kernel_rfl) (by kernel_rfl) (fun pm code doc vs h => by
    obtain ⟨a, rfl⟩ := len1 (h.trans (by kernel_rfl))
    kernel_rfl) (by kernel_rfl)
theorem df_11 : ∃ rec, DefOK X (999999, 999999) 11 p_whole_mul s_whole_mul b_whole_mul rec :=
  DefOK.ofRec (k := 1) hn hds (by kernel_rfl) (by kernel_rfl) (by kernel_rfl) (by kernel_rfl) (by kernel_rfl) (by kernel_rfl) (by kernel_rfl) (fun pm code doc vs h => by
    obtain ⟨a, b, rfl⟩ := len2 (h.trans (by kernel_rfl))
    kernel_rfl) (by kernel_rfl)
theorem df_12 : ∃ rec, DefOK X (999999, 999999) 12 p_next_number s_next_number b_next_number rec :=
  DefOK.ofRec (k := 2) hn hds (by kernel_rfl) (by kernel_rfl) (by kernel_rfl) (by kernel_rfl) (by kernel_rfl) (by kernel_rfl) (by kernel_rfl) (fun pm code doc vs h => by
    obtain ⟨a, b, rfl⟩ := len2 (h.trans (by kernel_rfl))
    kernel_rfl) (by kernel_rfl)
theorem df_13 : ∃ rec, DefOK X (999999, 999999) 13 p_recurrence_row s_recurrence_row b_recurrence_row rec :=
  DefOK.ofRec (k := 3) hn hds (by kernel_rfl) (by kernel_rfl) (by kernel_rfl) (by kernel_rfl) (by kernel_rfl) (by kernel_rfl) (by kernel_rfl) (fun pm code doc vs h => by
    obtain ⟨a, b, c, rfl⟩ := len3 (h.trans (by kernel_rfl))
    kernel_rfl) (by kernel_rfl)
theorem df_14 : ∃ rec, DefOK X (999999, 999999) 14 p_step_matrix s_step_matrix b_step_matrix rec :=
  DefOK.ofRec (k := 4) hn hds (by kernel_rfl) (by kernel_rfl) (by kernel_rfl) (by kernel_rfl) (by kernel_rfl) (by kernel_rfl) (by kernel_rfl) (fun pm code doc vs h => by
    obtain ⟨a, rfl⟩ := len1 (h.trans (by kernel_rfl))
    kernel_rfl) (by kernel_rfl)
theorem df_15 : ∃ rec, DefOK X (999999, 999999) 15 p_matrix_raised s_matrix_raised b_matrix_raised rec :=
  DefOK.ofRec (k := 5) hn hds (by kernel_rfl) (by kernel_rfl) (by kernel_rfl) (by kernel_rfl) (by kernel_rfl) (by kernel_rfl) (by kernel_rfl) (fun pm code doc vs h => by
    obtain ⟨a, b, rfl⟩ := len2 (h.trans (by kernel_rfl))
    kernel_rfl) (by kernel_rfl)
theorem df_16 : ∃ rec, DefOK X (999999, 999999) 16 p_number_at s_number_at b_number_at rec :=
  DefOK.ofRec (k := 6) hn hds (by kernel_rfl) (by kernel_rfl) (by kernel_rfl) (by kernel_rfl) (by kernel_rfl) (by kernel_rfl) (by kernel_rfl) (fun pm code doc vs h => by
    obtain ⟨a, b, c, rfl⟩ := len3 (h.trans (by kernel_rfl))
    kernel_rfl) (by kernel_rfl)
theorem df_17 : ∃ rec, DefOK X (999999, 999999) 17 p_gcd s_gcd b_gcd rec :=
  DefOK.ofRec (k := 7) hn hds (by kernel_rfl) (by kernel_rfl) (by kernel_rfl) (by kernel_rfl) (by kernel_rfl) (by kernel_rfl) (by kernel_rfl) (fun pm code doc vs h => by
    obtain ⟨a, b, rfl⟩ := len2 (h.trans (by kernel_rfl))
    kernel_rfl) (by kernel_rfl)
theorem df_18 : ∃ rec, DefOK X (999999, 999999) 18 p_gcd_all s_gcd_all b_gcd_all rec :=
  DefOK.ofRec (k := 8) hn hds (by kernel_rfl) (by kernel_rfl) (by kernel_rfl) (by kernel_rfl) (by kernel_rfl) (by kernel_rfl) (by kernel_rfl) (fun pm code doc vs h => by
    obtain ⟨a, rfl⟩ := len1 (h.trans (by kernel_rfl))
    kernel_rfl) (by kernel_rfl)
theorem df_19 : ∃ rec, DefOK X (999999, 999999) 19 p_extended s_extended b_extended rec :=
  DefOK.ofRec (k := 9) hn hds (by kernel_rfl) (by kernel_rfl) (by kernel_rfl) (by kernel_rfl) (by kernel_rfl) (by kernel_rfl) (by kernel_rfl) (fun pm code doc vs h => by
    obtain ⟨a, b, rfl⟩ := len2 (h.trans (by kernel_rfl))
    kernel_rfl) (by kernel_rfl)
theorem df_20 : ∃ rec, DefOK X (999999, 999999) 20 p_power_mod s_power_mod b_power_mod rec :=
  DefOK.ofRec (k := 10) hn hds (by kernel_rfl) (by kernel_rfl) (by kernel_rfl) (by kernel_rfl) (by kernel_rfl) (by kernel_rfl) (by kernel_rfl) (fun pm code doc vs h => by
    obtain ⟨a, b, c, rfl⟩ := len3 (h.trans (by kernel_rfl))
    kernel_rfl) (by kernel_rfl)
theorem df_21 : ∃ rec, DefOK X (999999, 999999) 21 p_inverse_mod s_inverse_mod b_inverse_mod rec :=
  DefOK.ofRec (k := 11) hn hds (by kernel_rfl) (by kernel_rfl) (by kernel_rfl) (by kernel_rfl) (by kernel_rfl) (by kernel_rfl) (by kernel_rfl) (fun pm code doc vs h => by
    obtain ⟨a, b, rfl⟩ := len2 (h.trans (by kernel_rfl))
    kernel_rfl) (by kernel_rfl)
theorem df_22 : ∃ rec, DefOK X (999999, 999999) 22 p_mtrim s_mtrim b_mtrim rec :=
  DefOK.ofRec (k := 12) hn hds (by kernel_rfl) (by kernel_rfl) (by kernel_rfl) (by kernel_rfl) (by kernel_rfl) (by kernel_rfl) (by kernel_rfl) (fun pm code doc vs h => by
    obtain ⟨a, rfl⟩ := len1 (h.trans (by kernel_rfl))
    kernel_rfl) (by kernel_rfl)
theorem df_23 : ∃ rec, DefOK X (999999, 999999) 23 p_mdegree s_mdegree b_mdegree rec :=
  DefOK.ofRec (k := 13) hn hds (by kernel_rfl) (by kernel_rfl) (by kernel_rfl) (by kernel_rfl) (by kernel_rfl) (by kernel_rfl) (by kernel_rfl) (fun pm code doc vs h => by
    obtain ⟨a, rfl⟩ := len1 (h.trans (by kernel_rfl))
    kernel_rfl) (by kernel_rfl)
theorem df_24 : ∃ rec, DefOK X (999999, 999999) 24 p_mmul s_mmul b_mmul rec :=
  DefOK.ofRec (k := 14) hn hds (by kernel_rfl) (by kernel_rfl) (by kernel_rfl) (by kernel_rfl) (by kernel_rfl) (by kernel_rfl) (by kernel_rfl) (fun pm code doc vs h => by
    obtain ⟨a, b, c, rfl⟩ := len3 (h.trans (by kernel_rfl))
    kernel_rfl) (by kernel_rfl)
theorem df_25 : ∃ rec, DefOK X (999999, 999999) 25 p_mdivmod s_mdivmod b_mdivmod rec :=
  DefOK.ofRec (k := 15) hn hds (by kernel_rfl) (by kernel_rfl) (by kernel_rfl) (by kernel_rfl) (by kernel_rfl) (by kernel_rfl) (by kernel_rfl) (fun pm code doc vs h => by
    obtain ⟨a, b, c, rfl⟩ := len3 (h.trans (by kernel_rfl))
    kernel_rfl) (by kernel_rfl)
theorem df_26 : ∃ rec, DefOK X (999999, 999999) 26 p_mrest s_mrest b_mrest rec :=
  DefOK.ofRec (k := 16) hn hds (by kernel_rfl) (by kernel_rfl) (by kernel_rfl) (by kernel_rfl) (by kernel_rfl) (by kernel_rfl) (by kernel_rfl) (fun pm code doc vs h => by
    obtain ⟨a, b, c, rfl⟩ := len3 (h.trans (by kernel_rfl))
    kernel_rfl) (by kernel_rfl)
theorem df_27 : ∃ rec, DefOK X (999999, 999999) 27 p_mpower_mod s_mpower_mod b_mpower_mod rec :=
  DefOK.ofRec (k := 17) hn hds (by kernel_rfl) (by kernel_rfl) (by kernel_rfl) (by kernel_rfl) (by kernel_rfl) (by kernel_rfl) (by kernel_rfl) (fun pm code doc vs h => by
    obtain ⟨a, b, c, d, rfl⟩ := len4 (h.trans (by kernel_rfl))
    kernel_rfl) (by kernel_rfl)
theorem df_28 : ∃ rec, DefOK X (999999, 999999) 28 p_berlekamp_matrix s_berlekamp_matrix b_berlekamp_matrix rec :=
  DefOK.ofRec (k := 18) hn hds (by kernel_rfl) (by kernel_rfl) (by kernel_rfl) (by kernel_rfl) (by kernel_rfl) (by kernel_rfl) (by kernel_rfl) (fun pm code doc vs h => by
    obtain ⟨a, b, rfl⟩ := len2 (h.trans (by kernel_rfl))
    kernel_rfl) (by kernel_rfl)
theorem df_29 : ∃ rec, DefOK X (999999, 999999) 29 p_null_space s_null_space b_null_space rec :=
  DefOK.ofRec (k := 19) hn hds (by kernel_rfl) (by kernel_rfl) (by kernel_rfl) (by kernel_rfl) (by kernel_rfl) (by kernel_rfl) (by kernel_rfl) (fun pm code doc vs h => by
    obtain ⟨a, b, rfl⟩ := len2 (h.trans (by kernel_rfl))
    kernel_rfl) (by kernel_rfl)
theorem df_30 : ∃ rec, DefOK X (999999, 999999) 30 p_pivot_row s_pivot_row b_pivot_row rec :=
  DefOK.ofRec (k := 20) hn hds (by kernel_rfl) (by kernel_rfl) (by kernel_rfl) (by kernel_rfl) (by kernel_rfl) (by kernel_rfl) (by kernel_rfl) (fun pm code doc vs h => by
    obtain ⟨a, b, c, rfl⟩ := len3 (h.trans (by kernel_rfl))
    kernel_rfl) (by kernel_rfl)
theorem df_31 : ∃ rec, DefOK X (p_clear_below.headD 999999, 999999) 31 p_clear_below s_clear_below b_clear_below rec :=
  DefOK.ofRec (k := 21) hn hds (by kernel_rfl) (by kernel_rfl) (by kernel_rfl) (by kernel_rfl) (by kernel_rfl) (by kernel_rfl) (by kernel_rfl) (fun pm code doc vs h => by
    obtain ⟨a, b, c, d, rfl⟩ := len4 (h.trans (by kernel_rfl))
    kernel_rfl) (by kernel_rfl)
theorem df_32 : ∃ rec, DefOK X (999999, 999999) 32 p_count_factors s_count_factors b_count_factors rec :=
  DefOK.ofRec (k := 22) hn hds (by kernel_rfl) (by kernel_rfl) (by kernel_rfl) (by kernel_rfl) (by kernel_rfl) (by kernel_rfl) (by kernel_rfl) (fun pm code doc vs h => by
    obtain ⟨a, b, rfl⟩ := len2 (h.trans (by kernel_rfl))
    kernel_rfl) (by kernel_rfl)
theorem df_33 : ∃ rec, DefOK X (999999, 999999) 33 p_ztrim s_ztrim b_ztrim rec :=
  DefOK.ofRec (k := 23) hn hds (by kernel_rfl) (by kernel_rfl) (by kernel_rfl) (by kernel_rfl) (by kernel_rfl) (by kernel_rfl) (by kernel_rfl) (fun pm code doc vs h => by
    obtain ⟨a, rfl⟩ := len1 (h.trans (by kernel_rfl))
    kernel_rfl) (by kernel_rfl)
theorem df_34 : ∃ rec, DefOK X (999999, 999999) 34 p_zdegree s_zdegree b_zdegree rec :=
  DefOK.ofRec (k := 24) hn hds (by kernel_rfl) (by kernel_rfl) (by kernel_rfl) (by kernel_rfl) (by kernel_rfl) (by kernel_rfl) (by kernel_rfl) (fun pm code doc vs h => by
    obtain ⟨a, rfl⟩ := len1 (h.trans (by kernel_rfl))
    kernel_rfl) (by kernel_rfl)
theorem df_35 : ∃ rec, DefOK X (999999, 999999) 35 p_zlead s_zlead b_zlead rec :=
  DefOK.ofRec (k := 25) hn hds (by kernel_rfl) (by kernel_rfl) (by kernel_rfl) (by kernel_rfl) (by kernel_rfl) (by kernel_rfl) (by kernel_rfl) (fun pm code doc vs h => by
    obtain ⟨a, rfl⟩ := len1 (h.trans (by kernel_rfl))
    kernel_rfl) (by kernel_rfl)
theorem df_36 : ∃ rec, DefOK X (999999, 999999) 36 p_zadd s_zadd b_zadd rec :=
  DefOK.ofRec (k := 26) hn hds (by kernel_rfl) (by kernel_rfl) (by kernel_rfl) (by kernel_rfl) (by kernel_rfl) (by kernel_rfl) (by kernel_rfl) (fun pm code doc vs h => by
    obtain ⟨a, b, rfl⟩ := len2 (h.trans (by kernel_rfl))
    kernel_rfl) (by kernel_rfl)
theorem df_37 : ∃ rec, DefOK X (999999, 999999) 37 p_zneg s_zneg b_zneg rec :=
  DefOK.ofRec (k := 27) hn hds (by kernel_rfl) (by kernel_rfl) (by kernel_rfl) (by kernel_rfl) (by kernel_rfl) (by kernel_rfl) (by kernel_rfl) (fun pm code doc vs h => by
    obtain ⟨a, rfl⟩ := len1 (h.trans (by kernel_rfl))
    kernel_rfl) (by kernel_rfl)
theorem df_38 : ∃ rec, DefOK X (999999, 999999) 38 p_zsub s_zsub b_zsub rec :=
  DefOK.ofRec (k := 28) hn hds (by kernel_rfl) (by kernel_rfl) (by kernel_rfl) (by kernel_rfl) (by kernel_rfl) (by kernel_rfl) (by kernel_rfl) (fun pm code doc vs h => by
    obtain ⟨a, b, rfl⟩ := len2 (h.trans (by kernel_rfl))
    kernel_rfl) (by kernel_rfl)
theorem df_39 : ∃ rec, DefOK X (999999, 999999) 39 p_zscale s_zscale b_zscale rec :=
  DefOK.ofRec (k := 29) hn hds (by kernel_rfl) (by kernel_rfl) (by kernel_rfl) (by kernel_rfl) (by kernel_rfl) (by kernel_rfl) (by kernel_rfl) (fun pm code doc vs h => by
    obtain ⟨a, b, rfl⟩ := len2 (h.trans (by kernel_rfl))
    kernel_rfl) (by kernel_rfl)
theorem df_40 : ∃ rec, DefOK X (999999, 999999) 40 p_zraise s_zraise b_zraise rec :=
  DefOK.ofRec (k := 30) hn hds (by kernel_rfl) (by kernel_rfl) (by kernel_rfl) (by kernel_rfl) (by kernel_rfl) (by kernel_rfl) (by kernel_rfl) (fun pm code doc vs h => by
    obtain ⟨a, b, rfl⟩ := len2 (h.trans (by kernel_rfl))
    kernel_rfl) (by kernel_rfl)
theorem df_41 : ∃ rec, DefOK X (999999, 999999) 41 p_zcontent s_zcontent b_zcontent rec :=
  DefOK.ofRec (k := 31) hn hds (by kernel_rfl) (by kernel_rfl) (by kernel_rfl) (by kernel_rfl) (by kernel_rfl) (by kernel_rfl) (by kernel_rfl) (fun pm code doc vs h => by
    obtain ⟨a, rfl⟩ := len1 (h.trans (by kernel_rfl))
    kernel_rfl) (by kernel_rfl)
theorem df_42 : ∃ rec, DefOK X (999999, 999999) 42 p_zderive s_zderive b_zderive rec :=
  DefOK.ofRec (k := 32) hn hds (by kernel_rfl) (by kernel_rfl) (by kernel_rfl) (by kernel_rfl) (by kernel_rfl) (by kernel_rfl) (by kernel_rfl) (fun pm code doc vs h => by
    obtain ⟨a, rfl⟩ := len1 (h.trans (by kernel_rfl))
    kernel_rfl) (by kernel_rfl)
theorem df_43 : ∃ rec, DefOK X (999999, 999999) 43 p_check_bottom s_check_bottom b_check_bottom rec :=
  DefOK.ofRec (k := 33) hn hds (by kernel_rfl) (by kernel_rfl) (by kernel_rfl) (by kernel_rfl) (by kernel_rfl) (by kernel_rfl) (by kernel_rfl) (fun pm code doc vs h => by
    obtain ⟨a, rfl⟩ := len1 (h.trans (by kernel_rfl))
    kernel_rfl) (by kernel_rfl)
theorem df_44 : ∃ rec, DefOK X (999999, 999999) 44 p_pseudo s_pseudo b_pseudo rec :=
  DefOK.ofRec (k := 34) hn hds (by kernel_rfl) (by kernel_rfl) (by kernel_rfl) (by kernel_rfl) (by kernel_rfl) (by kernel_rfl) (by kernel_rfl) (fun pm code doc vs h => by
    obtain ⟨a, b, rfl⟩ := len2 (h.trans (by kernel_rfl))
    kernel_rfl) (by kernel_rfl)
theorem df_45 : ∃ rec, DefOK X (999999, 999999) 45 p_divided s_divided b_divided rec :=
  DefOK.ofRec (k := 35) hn hds (by kernel_rfl) (by kernel_rfl) (by kernel_rfl) (by kernel_rfl) (by kernel_rfl) (by kernel_rfl) (by kernel_rfl) (fun pm code doc vs h => by
    obtain ⟨a, b, rfl⟩ := len2 (h.trans (by kernel_rfl))
    kernel_rfl) (by kernel_rfl)
theorem df_46 : ∃ rec, DefOK X (999999, 999999) 46 p_full_rest s_full_rest b_full_rest rec :=
  DefOK.ofRec (k := 36) hn hds (by kernel_rfl) (by kernel_rfl) (by kernel_rfl) (by kernel_rfl) (by kernel_rfl) (by kernel_rfl) (by kernel_rfl) (fun pm code doc vs h => by
    obtain ⟨a, b, rfl⟩ := len2 (h.trans (by kernel_rfl))
    kernel_rfl) (by kernel_rfl)
theorem df_47 : ∃ rec, DefOK X (999999, 999999) 47 p_row_resultant s_row_resultant b_row_resultant rec :=
  DefOK.ofRec (k := 37) hn hds (by kernel_rfl) (by kernel_rfl) (by kernel_rfl) (by kernel_rfl) (by kernel_rfl) (by kernel_rfl) (by kernel_rfl) (fun pm code doc vs h => by
    obtain ⟨a, b, c, rfl⟩ := len3 (h.trans (by kernel_rfl))
    kernel_rfl) (by kernel_rfl)
theorem df_48 : ∃ rec, DefOK X (999999, 999999) 48 p_resultant s_resultant b_resultant rec :=
  DefOK.ofRec (k := 38) hn hds (by kernel_rfl) (by kernel_rfl) (by kernel_rfl) (by kernel_rfl) (by kernel_rfl) (by kernel_rfl) (by kernel_rfl) (fun pm code doc vs h => by
    obtain ⟨a, b, rfl⟩ := len2 (h.trans (by kernel_rfl))
    kernel_rfl) (by kernel_rfl)
theorem df_49 : ∃ rec, DefOK X (999999, 999999) 49 p_discriminant s_discriminant b_discriminant rec :=
  DefOK.ofRec (k := 39) hn hds (by kernel_rfl) (by kernel_rfl) (by kernel_rfl) (by kernel_rfl) (by kernel_rfl) (by kernel_rfl) (by kernel_rfl) (fun pm code doc vs h => by
    obtain ⟨a, rfl⟩ := len1 (h.trans (by kernel_rfl))
    kernel_rfl) (by kernel_rfl)
theorem df_50 : ∃ rec, DefOK X (100, 999999) 50 p_law_draw s_law_draw b_law_draw rec :=
  DefOK.ofRec (k := 40) hn hds (by kernel_rfl) (by kernel_rfl) (by kernel_rfl) (by kernel_rfl) (by kernel_rfl) (by kernel_rfl) (by kernel_rfl) (fun pm code doc vs h => by
    obtain ⟨a, b, rfl⟩ := len2 (h.trans (by kernel_rfl))
    kernel_rfl) (by kernel_rfl)
theorem df_51 : ∃ rec, DefOK X (999999, 999999) 51 p_law_row s_law_row b_law_row rec :=
  DefOK.ofRec (k := 41) hn hds (by kernel_rfl) (by kernel_rfl) (by kernel_rfl) (by kernel_rfl) (by kernel_rfl) (by kernel_rfl) (by kernel_rfl) (fun pm code doc vs h => by
    obtain ⟨a, b, c, rfl⟩ := len3 (h.trans (by kernel_rfl))
    kernel_rfl) (by kernel_rfl)
theorem df_52 : ∃ rec, DefOK X (999999, 999999) 52 p_law_prime_right s_law_prime_right b_law_prime_right rec :=
  DefOK.ofRec (k := 42) hn hds (by kernel_rfl) (by kernel_rfl) (by kernel_rfl) (by kernel_rfl) (by kernel_rfl) (by kernel_rfl) (by kernel_rfl) (fun pm code doc vs h => by
    obtain ⟨a, b, c, rfl⟩ := len3 (h.trans (by kernel_rfl))
    kernel_rfl) (by kernel_rfl)
end
end Mine
end
section
open PySem PySem.Calls PyProof.Rows
set_option maxRecDepth 4000
namespace Mine

noncomputable def Φ0 : Nat → List V → Option V := fun _ _ => .none
noncomputable def Ψ0 : Nat → List V → List V → Option (List V) := fun _ _ _ => .none
/-- what a draw gives -/
noncomputable def drawV (cs : List V) (k m : Int) : Option Res := run Φ0 Ψ0 12 [(68, .sh (.int k)), (64, .sh (.int m)), (100, .sh (.list [.list cs, .int (k + 1)]))] (b_law_draw.drop 2)
noncomputable def DrawOK (X : Fix) (D : Nat) (cs : List V) (k m d : Int) : Prop :=
  (∃ d ∈ X.ds, d.name = X.nm 50) ∧ ∀ (A : Around) (s : Shared) (ok : Addr → Prop) (a b : Addr) (us : List Value) (t : Tok) (Q : Value → Shared → Prop), X.mg (X.nm 50) = some (.ref a) → Room A D → (∀ h', Kb (· = b) s.heap h' → Base X h') → OkF ok s.heap → ok b →
    s.heap.PlainList b us.toArray → RdL (fun c => ok c ∧ c ≠ b) s.heap [.list cs, .int k] us →
    (∀ h' tk us' t', Kb (· = b) s.heap h' → h'.PlainList b (List.toArray us') → RdL (fun c => ok c ∧ c ≠ b) h' [.list cs, .int (k + 1)] us' → Q (.int d t') { s with heap := h', toks := tk }) →
    wpAny (model X.prog X.w) A (call (.ref a) [.ref b, .int m t]) Q NoE s

theorem draw_step1 {cs : List V} {k m : Int} {ih : StFn} : stStep Ψ0 (ev Φ0 40) (tst Φ0 40) ih [(100, .ow [.list cs, .int k]), (64, .sh (.int m))] (b_law_draw.headD (.other (.Pass ⟨0, 0, 0, 0⟩))) = some (.next [(100, .ow [.list cs, .int k]), (64, .sh (.int m)), (68, .sh (.int k))]) := by kernel_rfl
theorem draw_step2 {cs : List V} {k m : Int} {ih : StFn} : stStep Ψ0 (ev Φ0 40) (tst Φ0 40) ih [(100, .ow [.list cs, .int k]), (64, .sh (.int m)), (68, .sh (.int k))] ((b_law_draw.drop 1).headD (.other (.Pass ⟨0, 0, 0, 0⟩))) = some (.next [(100, .ow [.list cs, .int (k + 1)]), (64, .sh (.int m)), (68, .sh (.int k))]) := by kernel_rfl

section
variable {X : Fix} {d : DefRec}
theorem phi0_ok {D : Nat} : ∀ f xs x, Φ0 f xs = some x → CallOK X D f xs x := fun _ _ _ h => nomatch h
theorem psi0_ok {D : Nat} : ∀ f l xs l', Ψ0 f l xs = some l' → InoutOK X D f l xs l' := fun _ _ _ _ h => nomatch h
theorem draw_ok {cs : List V} {k m dv : Int} (K : DefOK X (100, 999999) 50 p_law_draw s_law_draw b_law_draw d) (e : drawV cs k m = some (.ret (.int dv))) : DrawOK X 1 cs k m dv := by
  refine ⟨⟨d, K.mem, K.name⟩, fun A s ok a rb us t Q hm R B0 O okb la ra P => ?_⟩
  have B : Base X s.heap := B0 s.heap (Kb.refl _)
  obtain ⟨a', o, pm, code, doc, h1, h2, h3, h4⟩ := B.fns d K.mem
  rw [K.name, hm] at h1
  cases h1
  have hl : [Value.ref rb, .int m t].length = p_law_draw.length := rfl
  refine wpAny_call (codeAny_call_cells (body := d.body) (vals := [.ref rb, .int m t]) (by have := R.depth; omega) h2 h3 B.nolimit h4 rfl (K.bind pm code doc _ hl) rfl (bind_kinds K) (fun s₁ I => ?_) K.scC K.scG K.scK)
  obtain ⟨env, he, N, C, tc, m₀, cm₀, L, hv, hle, h, tk, rfl⟩ := entry K hl O I
  rw [← he, K.body]
  obtain ⟨w1, w2⟩ := wf_parts K
  have FC : FmC X (fun c o => s.heap.get? c = some o ∧ c ≠ rb) ok env s_law_draw := ⟨N, C, fun h k => B0 h fun c o n e => k c o ⟨e, n⟩, fun c n => by
    by_cases z : c = rb
    · exact z ▸ okb
    · exact O c (by
        cases e : s.heap.get? c with
        | none => rfl
        | some o => exact absurd ⟨e, z⟩ (n o)), fun c t o e => by rw [tc c t] at e; cases e.1⟩
  have la' : h.PlainList rb us.toArray := plain_le hle la
  have hv0 : vl env m₀ cm₀ (X.nm 100) = some (.ref rb) := by
    rw [hv]
    simp [p_law_draw]
  have hv1 : vl env m₀ cm₀ (X.nm 64) = some (.int m t) := by
    rw [hv]
    have : (X.nm 64 == X.nm 100) = false := beq_eq_false_iff_ne.mpr fun z => absurd (X.inj _ _ z) (by decide)
    simp [p_law_draw, List.lookup_cons, this]
  have kk : ∀ c, (ok c ∧ c ≠ rb) → okr ok [rb] c := fun c q => ⟨q.1, fun z => q.2 (List.mem_singleton.mp z)⟩
  have kb : ∀ c, okr ok [rb] c → (ok c ∧ c ≠ rb) := fun c q => ⟨q.1, fun z => q.2 (List.mem_singleton.mpr z)⟩
  have gw : ∀ i sl, get [(100, Sl.ow [.list cs, .int k]), (64, .sh (.int m))] i = some sl → (i = 100 ∧ sl = .ow [.list cs, .int k]) ∨ (i = 64 ∧ sl = .sh (.int m)) := fun i sl g => by
    rw [get_cons] at g
    by_cases z : 100 = i
    · rw [if_pos z] at g; cases g; exact .inl ⟨z.symm, rfl⟩
    · rw [if_neg z, get_cons] at g
      by_cases y : 64 = i
      · rw [if_pos y] at g; cases g; exact .inr ⟨y.symm, rfl⟩
      · rw [if_neg y] at g; cases g
  have F : Fm X (fun c o => s.heap.get? c = some o ∧ c ≠ rb) ok env s_law_draw [rb] [(100, .ow [.list cs, .int k]), (64, .sh (.int m))] m₀ cm₀ h := by
    refine ⟨fun c o e => hle c o e.1, L, fun i sl g => ?_, fun i sl g => ?_, fun i j li lj a n p q => ?_, fun c hc => ?_⟩
    · rcases gw i sl g with ⟨rfl, _⟩ | ⟨rfl, _⟩ <;> rfl
    · rcases gw i sl g with ⟨rfl, rfl⟩ | ⟨rfl, rfl⟩
      · exact ⟨.ref rb, hv0, rb, us, rfl, List.mem_singleton.mpr rfl, la', (ra.le hle).wk kk⟩
      · exact ⟨.int m t, hv1, rd_mk_int (ok := okr ok [rb]) (h := h)⟩
    · rcases gw i _ p with ⟨rfl, _⟩ | ⟨_, g⟩
      · rcases gw j _ q with ⟨rfl, _⟩ | ⟨_, g⟩
        · exact absurd rfl n
        · cases g
      · cases g
    · rw [List.mem_singleton.mp hc]
      exact ⟨fun o e => e.2 rfl, _, la'⟩
  have w2' : wfSt X.nm s_law_draw (100, 999999) (b_law_draw.headD (.other (.Pass ⟨0, 0, 0, 0⟩))) = true ∧ wfSt X.nm s_law_draw (100, 999999) ((b_law_draw.drop 1).headD (.other (.Pass ⟨0, 0, 0, 0⟩))) = true ∧ wfSs X.nm s_law_draw (100, 999999) (b_law_draw.drop 2) = true := by
    have : wfSs X.nm s_law_draw (100, 999999) (b_law_draw.headD (.other (.Pass ⟨0, 0, 0, 0⟩)) :: (b_law_draw.drop 1).headD (.other (.Pass ⟨0, 0, 0, 0⟩)) :: b_law_draw.drop 2) = true := w2
    rwa [wfSs, wfSs, Bool.and_eq_true, Bool.and_eq_true] at this
  have R' := R.deeper env
  show wpAny _ (A.deeper env) (execs ((b_law_draw.headD (.other (.Pass ⟨0, 0, 0, 0⟩))).un X.nm :: ((b_law_draw.drop 1).headD (.other (.Pass ⟨0, 0, 0, 0⟩))).un X.nm :: unS X.nm (b_law_draw.drop 2)) env) _ _ _
  have S := snd_stStep (nms := s_law_draw) (w := (100, 999999)) (n := 40) (phi0_ok (X := X) (D := 0)) psi0_ok (snd_run phi0_ok psi0_ok 11)
  refine wpAny_mono (Q := fun fl s' => Q (match fl with | .ret v => v | _ => .none) s') (E := NoE) ?_ (fun _ _ z => z) fun _ _ z => z.elim
  refine wpAny_execs_cons (S _ _ env (A.deeper env) { s with heap := h, toks := tk } [rb] _ m₀ cm₀ _ _ _ w2'.1 FC R' F draw_step1 fun h₁ tk₁ rs₁ m₁ cm₁ F₁ e₁ => ?_)
  refine wpAny_execs_cons (S _ _ env (A.deeper env) { s with heap := h₁, toks := tk₁ } rs₁ _ m₁ cm₁ _ _ _ w2'.2.1 FC R' F₁ draw_step2 fun h₂ tk₂ rs₂ m₂ cm₂ F₂ e₂ => ?_)
  have hroot : vl env m₂ cm₂ (X.nm 100) = some (.ref rb) := (congrArg Prod.fst (e₂.trans e₁)).trans hv0
  obtain ⟨c, us', hc, hcr, lc, rc⟩ := F₂.root (i := 100) (l := [.list cs, .int (k + 1)]) rfl
  rw [hroot] at hc
  cases hc
  have ker : ∀ b o, s.heap.get? b = some o → b ≠ rb → h₂.get? b = some o := fun b o e n => F₂.kept b o ⟨e, n⟩
  have rc' : RdL (fun c => ok c ∧ c ≠ rb) h₂ [.list cs, .int (k + 1)] us' := rc.wk fun c q => ⟨q.1, fun z => q.2 (z ▸ hcr)⟩
  have FC' : FmC X (fun c o => h₂.get? c = some o ∧ ¬ Tch env (eOwn env) c) ok env s_law_draw := ⟨N, C, fun h k => B0 h fun c o n e => k c o ⟨ker c o e n, fun t => by rw [tc c t] at e; cases e⟩, fun c n => by
    by_cases z : Tch env (eOwn env) c
    · exact O c (tc c z)
    · by_cases y : c = rb
      · exact y ▸ okb
      · refine O c ?_
        cases e : s.heap.get? c with
        | none => rfl
        | some o => exact absurd ⟨ker c o e y, z⟩ (n o), fun c t o e => e.2 t⟩
  have F' : Fm X (fun c o => h₂.get? c = some o ∧ ¬ Tch env (eOwn env) c) ok env s_law_draw [] [(68, .sh (.int k)), (64, .sh (.int m)), (100, .sh (.list [.list cs, .int (k + 1)]))] m₂ cm₂ h₂ := by
    have gs : ∀ i sl, get [(68, Sl.sh (.int k)), (64, .sh (.int m)), (100, .sh (.list [.list cs, .int (k + 1)]))] i = some sl → (i = 68 ∧ sl = .sh (.int k)) ∨ (i = 64 ∧ sl = .sh (.int m)) ∨ (i = 100 ∧ sl = .sh (.list [.list cs, .int (k + 1)])) := fun i sl g => by
      rw [get_cons] at g
      by_cases z : 68 = i
      · rw [if_pos z] at g; cases g; exact .inl ⟨z.symm, rfl⟩
      · rw [if_neg z, get_cons] at g
        by_cases y : 64 = i
        · rw [if_pos y] at g; cases g; exact .inr (.inl ⟨y.symm, rfl⟩)
        · rw [if_neg y, get_cons] at g
          by_cases x : 100 = i
          · rw [if_pos x] at g; cases g; exact .inr (.inr ⟨x.symm, rfl⟩)
          · rw [if_neg x] at g; cases g
    have un : ∀ c, okr ok rs₂ c → okr ok [] c := fun c q => ⟨q.1, fun z => nomatch z⟩
    refine ⟨fun c o e => e.1, F₂.lay, fun i sl g => ?_, fun i sl g => ?_, fun i j li lj a n p q => ?_, fun c hc => nomatch hc⟩
    · rcases gs i sl g with ⟨rfl, _⟩ | ⟨rfl, _⟩ | ⟨rfl, _⟩ <;> rfl
    · rcases gs i sl g with ⟨rfl, rfl⟩ | ⟨rfl, rfl⟩ | ⟨rfl, rfl⟩
      · obtain ⟨v, h6, h7⟩ := F₂.sl 68 (.sh (.int k)) rfl
        exact ⟨v, h6, Rd.wk un h7⟩
      · obtain ⟨v, h6, h7⟩ := F₂.sl 64 (.sh (.int m)) rfl
        exact ⟨v, h6, Rd.wk un h7⟩
      · refine ⟨.ref rb, hroot, ?_⟩
        show Rd (okr ok []) h₂ (.list [.list cs, .int (k + 1)]) (.ref rb)
        rw [Rd]
        exact ⟨rb, us', rfl, ⟨okb, fun z => nomatch z⟩, lc.isList, rc.wk un⟩
    · rcases gs i _ p with ⟨_, g⟩ | ⟨_, g⟩ | ⟨_, g⟩ <;> cases g
  refine snd_run phi0_ok psi0_ok 12 _ _ env (A.deeper env) { s with heap := h₂, toks := tk₂ } [] _ m₂ cm₂ _ _ _ w2'.2.2 FC' R' F' e ?_
  intro v h₃ tk₃ k₃ q₃
  obtain ⟨t', rfl⟩ := rd_int q₃
  have seqk : ∀ c o, h₂.get? c = some o → (∃ vs n, o.data = .seq vs n) → h₃.get? c = some o := fun c o e ⟨vs, n, z⟩ => k₃ c o ⟨e, fun t => tch_data F₂.lay t e vs n z⟩
  refine P h₃ tk₃ us' t' (fun c o n e => k₃ c o ⟨ker c o e n, fun t => by rw [tc c t] at e; cases e⟩) ?_ (rc'.mono fun c o q e => ⟨q, seqk c o e⟩)
  obtain ⟨n, ho⟩ := lc
  exact ⟨n, seqk rb _ ho ⟨_, _, rfl⟩⟩
end
end Mine
end
section
open PySem PySem.Calls PyProof.Rows
set_option maxRecDepth 4000
namespace Mine

noncomputable def fmodB {x m : Int} (h : 0 < m) : 0 ≤ x.fmod m ∧ x.fmod m < m := ⟨Int.fmod_nonneg_of_pos x h, Int.fmod_lt_of_pos x h⟩
/-- a draw is a number below the lid -/
noncomputable def Drawn (cs : List V) (k m : Int) : Prop := ∃ d, drawV cs k m = some (.ret (.int d)) ∧ 0 ≤ d ∧ d < m
theorem draw_of (cs : List Int) (hl : cs.length ≤ 4) : Drawn (cs.map V.int) 0 5 ∧ Drawn (cs.map V.int) 1 5 ∧ Drawn (cs.map V.int) 2 4 ∧ Drawn (cs.map V.int) 3 9 := by
  match cs, hl with
  | [], _ => exact ⟨⟨2, by kernel_rfl, by decide, by decide⟩, ⟨3, by kernel_rfl, by decide, by decide⟩, ⟨2, by kernel_rfl, by decide, by decide⟩, ⟨3, by kernel_rfl, by decide, by decide⟩⟩
  | [a], _ => exact ⟨⟨(match W.Z.ltB a 0 with | true => -a | false => a).fmod 5, by kernel_rfl, fmodB (by decide)⟩, ⟨3, by kernel_rfl, by decide, by decide⟩, ⟨2, by kernel_rfl, by decide, by decide⟩, ⟨3, by kernel_rfl, by decide, by decide⟩⟩
  | [a, b], _ => exact ⟨⟨(match W.Z.ltB a 0 with | true => -a | false => a).fmod 5, by kernel_rfl, fmodB (by decide)⟩, ⟨(match W.Z.ltB b 0 with | true => -b | false => b).fmod 5, by kernel_rfl, fmodB (by decide)⟩, ⟨2, by kernel_rfl, by decide, by decide⟩, ⟨3, by kernel_rfl, by decide, by decide⟩⟩
  | [a, b, c], _ => exact ⟨⟨(match W.Z.ltB a 0 with | true => -a | false => a).fmod 5, by kernel_rfl, fmodB (by decide)⟩, ⟨(match W.Z.ltB b 0 with | true => -b | false => b).fmod 5, by kernel_rfl, fmodB (by decide)⟩, ⟨(match W.Z.ltB c 0 with | true => -c | false => c).fmod 4, by kernel_rfl, fmodB (by decide)⟩, ⟨3, by kernel_rfl, by decide, by decide⟩⟩
  | [a, b, c, d], _ => exact ⟨⟨(match W.Z.ltB a 0 with | true => -a | false => a).fmod 5, by kernel_rfl, fmodB (by decide)⟩, ⟨(match W.Z.ltB b 0 with | true => -b | false => b).fmod 5, by kernel_rfl, fmodB (by decide)⟩, ⟨(match W.Z.ltB c 0 with | true => -c | false => c).fmod 4, by kernel_rfl, fmodB (by decide)⟩, ⟨(match W.Z.ltB d 0 with | true => -d | false => d).fmod 9, by kernel_rfl, fmodB (by decide)⟩⟩

/-! the pool -/
theorem map_int (n : Nat) (hn : 2 ≤ n) (p1 p2 p3 p4 : Pos) : ∀ l : List Int, mapE (ev Φ0 n) (.bi .int p1 [.name 110 p2] p3) (.one 110 p4) [] (l.map V.int) = some (l.map V.int)
  | [] => rfl
  | x :: l => by
    obtain ⟨n, rfl⟩ : ∃ k, n = k + 2 := ⟨n - 2, by omega⟩
    have ih := map_int (n + 2) hn p1 p2 p3 p4 l
    have h1 : ev Φ0 (n + 2) [(110, .sh (.int x))] (.bi .int p1 [.name 110 p2] p3) = some (.int x) := rfl
    rw [List.map_cons, mapE]
    simp only [Tg.bind, h1, ih]
theorem slice_ev (n : Nat) (hn : 1 ≤ n) (ns : List Int) (h : ns.length ≤ 63) (p1 p2 p3 p4 : Pos) : ev Φ0 (n + 1) [(103, .sh (.list (ns.map V.int)))] (.slTo (.name 103 p1) (.int 4 p2) p3 p4) = some (.list ((ns.take 4).map V.int)) := by
  obtain ⟨n, rfl⟩ : ∃ k, n = k + 1 := ⟨n - 1, by omega⟩
  show evTo (ev Φ0 (n + 1)) [(103, .sh (.list (ns.map V.int)))] (.name 103 p1) (.int 4 p2) = _
  have h1 : evC (ev Φ0 (n + 1)) [(103, .sh (.list (ns.map V.int)))] (.name 103 p1) = some (.list (ns.map V.int)) := rfl
  have h2 : ev Φ0 (n + 1) [(103, .sh (.list (ns.map V.int)))] (.int 4 p2) = some (.int 4) := rfl
  have hf : few (ns.map V.int).length = true := by
    rw [List.length_map]
    exact Nat.ble_eq_true_of_le (by omega)
  unfold evTo
  simp only [h1, h2, hf]
  rw [List.map_take]
  congr 2
  unfold clip
  show (ns.map V.int).take (match Nat.ble 4 (ns.map V.int).length with | true => 4 | false => (ns.map V.int).length) = _
  cases hb : Nat.ble 4 (ns.map V.int).length with
  | true => rfl
  | false =>
    have : ¬ 4 ≤ (ns.map V.int).length := fun z => by rw [Nat.ble_eq_true_of_le z] at hb; cases hb
    rw [List.take_length, List.take_of_length_le (by omega)]
noncomputable def hd0 : St := b_law0.headD (.other (.Pass ⟨0, 0, 0, 0⟩))
theorem pool_step {ih : StFn} (ns : List Int) (h : ns.length ≤ 63) : stStep Ψ0 (ev Φ0 40) (tst Φ0 40) ih [(103, .sh (.list (ns.map V.int)))] hd0 = some (.next [(103, .sh (.list (ns.map V.int))), (100, .ow [.list ((ns.take 4).map V.int), .int 0])]) := by
  show sAsg1 (ev Φ0 40) [(103, .sh (.list (ns.map V.int)))] (.name 100 true ⟨250, 4, 250, 8⟩) _ = _
  have h1 := slice_ev 37 (by decide) ns h ⟨250, 35, 250, 41⟩ ⟨250, 43, 250, 44⟩ ⟨250, 42, 250, 44⟩ ⟨250, 35, 250, 45⟩
  have hf : few ((ns.take 4).map V.int).length = true := by
    rw [List.length_map, List.length_take]
    exact Nat.ble_eq_true_of_le (by omega)
  have h2 : ev Φ0 39 [(103, .sh (.list (ns.map V.int)))] (.comp (.bi .int ⟨250, 13, 250, 16⟩ [(.name 110 ⟨250, 17, 250, 21⟩)] ⟨250, 13, 250, 22⟩) (.one 110 ⟨250, 27, 250, 31⟩) .list ⟨0, 0, 0, 0⟩ [(.slTo (.name 103 ⟨250, 35, 250, 41⟩) (.int 4 ⟨250, 43, 250, 44⟩) ⟨250, 42, 250, 44⟩ ⟨250, 35, 250, 45⟩)] ⟨0, 0, 0, 0⟩ [(9, .local), (110, .local), (8, .globalImplicit)] [] ⟨250, 12, 250, 46⟩) = some (.list ((ns.take 4).map V.int)) := by
    show evComp (ev Φ0 38) _ _ _ _ _ _ = _
    unfold evComp
    simp only [evs, h1, srcV, hf, pick]
    rw [map_int 38 (by decide)]
  have h3 : ev Φ0 40 [(103, .sh (.list (ns.map V.int)))] (.lst [(.comp (.bi .int ⟨250, 13, 250, 16⟩ [(.name 110 ⟨250, 17, 250, 21⟩)] ⟨250, 13, 250, 22⟩) (.one 110 ⟨250, 27, 250, 31⟩) .list ⟨0, 0, 0, 0⟩ [(.slTo (.name 103 ⟨250, 35, 250, 41⟩) (.int 4 ⟨250, 43, 250, 44⟩) ⟨250, 42, 250, 44⟩ ⟨250, 35, 250, 45⟩)] ⟨0, 0, 0, 0⟩ [(9, .local), (110, .local), (8, .globalImplicit)] [] ⟨250, 12, 250, 46⟩), (.int 0 ⟨250, 48, 250, 49⟩)] ⟨250, 11, 250, 50⟩) = some (.list [.list ((ns.take 4).map V.int), .int 0]) := by
    show evLst (ev Φ0 39) _ _ = _
    have h4 : ev Φ0 39 [(103, .sh (.list (ns.map V.int)))] (.int 0 ⟨250, 48, 250, 49⟩) = some (.int 0) := rfl
    unfold evLst
    simp only [evs, h2, h4]
    rfl
  unfold sAsg1
  rw [h3]
  rfl

section
variable {X : Fix} {P : Addr → Obj → Prop} {ok0 : Addr → Prop} {env : Env} {nms : List (Nat × NameKind)} {roots : List Addr} {r : Rho} {m cm m' cm' : Str → Option Value} {h h' : Heap}
variable {D : Nat} {A : Around} {s : Shared} {evf : EvFn} {w : Nat × Nat}
/-- a draw in a frame that holds the pool -/
theorem fm_draw {cs : List V} {k lim d : Int} {pf pi pm pc : Pos} {kc : Nat} {Q : Value → Shared → Prop} (I : DrawOK X D cs k lim d) (hk : lk nms 50 = some .globalImplicit) (C : FmC X P ok0 env nms) (R : Room A D) (F : Fm X P ok0 env nms roots r m cm s.heap)
    (hg : get r 100 = some (.ow [.list cs, .int k]))
    (K : ∀ h' tk t b, Fm X P ok0 env nms roots (put r 100 (.ow [.list cs, .int (k + 1)])) m cm h' → b ∈ roots → Kb (· = b) s.heap h' → Q (.int d t) { s with heap := h', toks := tk }) :
    wpAny (model X.prog X.w) A (eval (.Call (.Name (X.nm 50) pf) [.Name (X.nm 100) pi, .Constant (.int lim) kc pm] [] pc) env) Q NoE s := by
  obtain ⟨⟨d, hd, hn⟩, go⟩ := I
  have B := F.base C
  obtain ⟨fa, o, pmo, code, doc, h1, h2, h3, h4⟩ := B.fns d hd
  rw [hn] at h1
  obtain ⟨b, us, hv, hb, lb, rb⟩ := F.root hg
  refine Call_Name rfl (name_global C.N B hk h1 (callWith_def (o := o) h3 ?_))
  show wpAny _ A (spliced ((false, eval (.Name (X.nm 100) pi) env) :: (false, eval (.Constant (.int lim) kc pm) env) :: [])) _ NoE s
  refine spliced_cons (fm_name C F hg hv (spliced_cons (wpAny_Constant_int (spliced_nil ⟨h2, ?_⟩))))
  have np := (F.rt b hb).1
  have kk : ∀ c, okr ok0 roots c → (okr ok0 roots c ∨ c = b) ∧ c ≠ b := fun c q => ⟨.inl q, fun z => q.2 (z ▸ hb)⟩
  have kb : ∀ c, ((okr ok0 roots c ∨ c = b) ∧ c ≠ b) → okr ok0 roots c := fun c q => q.1.resolve_right q.2
  refine go A { s with toks := s.toks + 1 } (fun c => okr ok0 roots c ∨ c = b) fa b us s.toks Q h1 R (fun h' k => C.base h' fun c o pc => k c o (fun z => np o (z ▸ pc)) (F.kept c o pc)) (fun c e => .inl (F.okf C c e)) (.inr rfl)
    lb (rb.wk kk) fun h' tk us' t' k la' ra' => ?_
  exact K h' tk t' b (F.setAt (us := us') hg hv hb k la' (ra'.wk kb)) hb k

/-- two names take two whole numbers -/
theorem st_ints {i j : Nat} {oi oj : Bool} {pi pj : Pos} {es : List Ex} {kt ke : Nat} {pt pe p : Pos} {x y : Int} {r0 : Rho} {Q : Flow → Shared → Prop} (hi : isSt (lk nms i) = true) (hj : isSt (lk nms j) = true) (hwi : wq i w = false) (hwj : wq j w = false) (hij : i ≠ j) (hc : cOK X.nm es = true)
    (hoi : oi = false) (hoj : oj = false) (S : SndE X D evf) (C : FmC X P ok0 env nms) (R : Room A D)
    (val : ∀ {Q' : Value → Shared → Prop}, (∀ h' tk T t u, Fm X P ok0 env nms roots r0 m cm h' → h'.IsTuple T #[.int x t, .int y u] → Q' (.ref T) { s with heap := h', toks := tk }) → wpAny (model X.prog X.w) A (eval (.Tuple (unL X.nm es) ke pe) env) Q' NoE s)
    (K : KF X P ok0 env nms w m cm s (put (put r0 i (.sh (.int x))) j (.sh (.int y))) (Q .next)) :
    wpAny (model X.prog X.w) A (exec (.Assign [.Tuple (unT X.nm [.name i oi pi, .name j oj pj]) kt pt] (.Tuple (unL X.nm es) ke pe) p) env) Q NoE s := by
  subst hoi hoj
  obtain ⟨res, hsw, hres⟩ := swp X.nm C.N.kind [.name i false pi, .name j false pj] es kt ke pt pe hc
  have hsole : swapsWithSole [.Tuple (unT X.nm [.name i false pi, .name j false pj]) kt pt] (.Tuple (unL X.nm es) ke pe) p.line env = pure false := rfl
  have pend : ∀ {r m cm h} {t u : Tok}, PendOK X ok0 env roots r m cm h [(.sh (.int x), .int x t), (.sh (.int y), .int y u)] := fun {r m cm h t u} => ⟨fun q hq => by
    simp only [List.mem_cons, List.not_mem_nil, or_false] at hq
    rcases hq with rfl | rfl
    · exact ⟨rd_mk_int (ok := okr ok0 roots) (h := h), trivial⟩
    · exact ⟨rd_mk_int (ok := okr ok0 roots) (h := h), trivial⟩, by simp [isOw]⟩
  have hts : wfTs nms w [.name i false pi, .name j false pj] = true := by simp [wfTs, wfTt, hi, hj, hwi, hwj]
  cases hres with
  | no =>
    refine Assign_Tuple (val fun h' tk T t u F' hT => ?_) hsole hsw
    exact tup_stores (s := { s with heap := h', toks := tk }) (PL := [(.sh (.int x), .int x t), (.sh (.int y), .int y u)]) (vs := [.int x, .int y]) S hts C R F' rfl rfl pend hT rfl fun h₂ tk₂ rs m₂ cm₂ F₂ e₂ => K h₂ tk₂ rs m₂ cm₂ F₂ e₂
  | two =>
    refine Assign_Tuple_swapped (val fun h' tk T t u F' hT => ?_) hsole hsw
    refine unpack_ (s := { s with heap := h', toks := tk }) (items := [.int x t, .int y u]) R.handled hT rfl fun h₁ l₁ => ?_
    have one : ∀ {r m cm h} {z : Int} {t : Tok}, PendOK X ok0 env roots r m cm h [(.sh (.int z), .int z t)] := fun {r m cm h z t} => one_pend (rd_mk_int (ok := okr ok0 roots) (h := h)) trivial
    show wpAny _ A (do holding [.int x t] (bindName env (X.nm j) (.int y u)); assignInOrder [fun v => bindName env (X.nm i) v] [.int x t]) _ NoE _
    refine wpAny_bind (wpAny_holding (wpAny_bindName (name_ok (PL := []) (sl := .sh (.int y)) (s := { s with heap := h₁, toks := tk }) hj hwj C (F'.le l₁) one fun h₂ tk₂ m₂ cm₂ F₂ _ _ e₂ => ?_)))
    show wpAny _ A (do holding [] (bindName env (X.nm i) (.int x t)); assignInOrder [] []) _ NoE _
    refine wpAny_bind (wpAny_holding (wpAny_bindName (name_ok (PL := []) (sl := .sh (.int x)) (s := { s with heap := h₂, toks := tk₂ }) hi hwi C F₂ one fun h₃ tk₃ m₃ cm₃ F₃ p₃ _ e₃ => wpAny_pure ?_)))
    refine K h₃ tk₃ _ m₃ cm₃ (F₃.congr fun k => ?_) (e₃.trans e₂)
    simp only [get_put]
    by_cases z1 : i = k
    · subst z1; simp [hij.symm]
    · simp [z1]
end
end Mine
end
section
open PySem PySem.Calls PyProof.Rows
set_option maxRecDepth 4000
namespace Mine

/-! the table of the functions, the last first -/
noncomputable def tabF : List Fd := [⟨52, p_law_prime_right, s_law_prime_right, b_law_prime_right, false⟩, ⟨51, p_law_row, s_law_row, b_law_row, false⟩, ⟨49, p_discriminant, s_discriminant, b_discriminant, false⟩, ⟨48, p_resultant, s_resultant, b_resultant, false⟩, ⟨47, p_row_resultant, s_row_resultant, b_row_resultant, false⟩, ⟨46, p_full_rest, s_full_rest, b_full_rest, false⟩, ⟨45, p_divided, s_divided, b_divided, false⟩, ⟨44, p_pseudo, s_pseudo, b_pseudo, false⟩, ⟨43, p_check_bottom, s_check_bottom, b_check_bottom, false⟩, ⟨42, p_zderive, s_zderive, b_zderive, false⟩, ⟨41, p_zcontent, s_zcontent, b_zcontent, false⟩, ⟨40, p_zraise, s_zraise, b_zraise, false⟩, ⟨39, p_zscale, s_zscale, b_zscale, false⟩, ⟨38, p_zsub, s_zsub, b_zsub, false⟩, ⟨37, p_zneg, s_zneg, b_zneg, false⟩, ⟨36, p_zadd, s_zadd, b_zadd, false⟩, ⟨35, p_zlead, s_zlead, b_zlead, false⟩, ⟨34, p_zdegree, s_zdegree, b_zdegree, false⟩, ⟨33, p_ztrim, s_ztrim, b_ztrim, false⟩, ⟨32, p_count_factors, s_count_factors, b_count_factors, false⟩, ⟨29, p_null_space, s_null_space, b_null_space, false⟩, ⟨31, p_clear_below, s_clear_below, b_clear_below, true⟩, ⟨30, p_pivot_row, s_pivot_row, b_pivot_row, false⟩, ⟨28, p_berlekamp_matrix, s_berlekamp_matrix, b_berlekamp_matrix, false⟩, ⟨27, p_mpower_mod, s_mpower_mod, b_mpower_mod, false⟩, ⟨26, p_mrest, s_mrest, b_mrest, false⟩, ⟨25, p_mdivmod, s_mdivmod, b_mdivmod, false⟩, ⟨24, p_mmul, s_mmul, b_mmul, false⟩, ⟨23, p_mdegree, s_mdegree, b_mdegree, false⟩, ⟨22, p_mtrim, s_mtrim, b_mtrim, false⟩, ⟨21, p_inverse_mod, s_inverse_mod, b_inverse_mod, false⟩, ⟨20, p_power_mod, s_power_mod, b_power_mod, false⟩, ⟨19, p_extended, s_extended, b_extended, false⟩, ⟨18, p_gcd_all, s_gcd_all, b_gcd_all, false⟩, ⟨17, p_gcd, s_gcd, b_gcd, false⟩, ⟨16, p_number_at, s_number_at, b_number_at, false⟩, ⟨15, p_matrix_raised, s_matrix_raised, b_matrix_raised, false⟩, ⟨14, p_step_matrix, s_step_matrix, b_step_matrix, false⟩, ⟨13, p_recurrence_row, s_recurrence_row, b_recurrence_row, false⟩, ⟨12, p_next_number, s_next_number, b_next_number, false⟩, ⟨11, p_whole_mul, s_whole_mul, b_whole_mul, false⟩, ⟨10, p_unit_rows, s_unit_rows, b_unit_rows, false⟩]
noncomputable def ΦL : Nat → List V → Option V := (pp tabF).p
noncomputable def ΨL : Nat → List V → List V → Option (List V) := (pp tabF).i

/-! what is reckoned on the menus -/
noncomputable def rowGo (a b c : Int) : Nat → Int → Int → Int → List Int
  | 0, _, _, _ => []
  | n + 1, x, y, z => (a * z + b * y + c * x) :: rowGo a b c n y z (a * z + b * y + c * x)
noncomputable def stepsL (a b : Int) : List Int := [a, b, 1]
noncomputable def firstL (a b : Int) : List Int := [3, a, a * a + 2 * b]
noncomputable def turnL (a b : Int) : List Int := [0 - b, 0 - a, 1]
noncomputable def behL (a b : Int) : List Int := [3, 0 - b, b * b - 2 * a]
noncomputable def ownL (a b : Int) : List Int := 3 :: a :: (a * a + 2 * b) :: rowGo a b 1 25 3 a (a * a + 2 * b)
noncomputable def backL (a b : Int) : List Int := 3 :: (0 - b) :: (b * b - 2 * a) :: rowGo (0 - b) (0 - a) 1 9 3 (0 - b) (b * b - 2 * a)
noncomputable def intSl (l : List Int) : Sl := .sh (.list (l.map V.int))
noncomputable def isL (s : Option Sl) (l : List Int) : Bool := match s with
  | some (.sh (.list xs)) => match intsOf xs with
    | some ys => eqL ys l
    | .none => false
  | _ => false
noncomputable def isN (s : Option Sl) (a : Int) : Bool := match s with
  | some (.sh (.int b)) => W.Z.eqB b a
  | _ => false
noncomputable def okR (r : Rho) (a b : Int) : Bool := isN (get r 57) a && (isN (get r 58) b && (isL (get r 61) (stepsL a b) && (isL (get r 63) (firstL a b) && (isL (get r 104) (turnL a b) && isL (get r 105) (behL a b)))))
noncomputable def lawA1 : List St := b_law.take 4
noncomputable def lawA2 : List St := (b_law.drop 4).take 3
noncomputable def lawB : List St := b_law.drop 7
noncomputable def rho4 (a b : Int) : Rho := [(57, .sh (.int a)), (58, .sh (.int b)), (61, intSl (stepsL a b)), (63, intSl (firstL a b)), (104, intSl (turnL a b)), (105, intSl (behL a b))]
noncomputable def chk1 (a b : Int) : Bool := match run ΦL ΨL 12 [(57, .sh (.int a)), (58, .sh (.int b))] lawA1 with
  | some (.next r) => okR r a b && (isL (get r 106) (ownL a b) && isL (get r 107) (backL a b))
  | _ => false
noncomputable def chk2 (a b n : Int) : Bool := match run ΦL ΨL 12 ((54, .sh (.int n)) :: (106, intSl (ownL a b)) :: (107, intSl (backL a b)) :: rho4 a b) lawA2 with
  | some (.next r) => okR r a b
  | _ => false
noncomputable def chk3 (a b p : Int) : Bool := match run ΦL ΨL 12 ((81, .sh (.int p)) :: rho4 a b) lawB with
  | some (.ret (.bool b)) => b
  | _ => false

theorem intsOf_eq : ∀ {xs : List V} {l : List Int}, intsOf xs = some l → xs = l.map V.int
  | [], _, e => by cases e; rfl
  | .int i :: r, l, e => by
    unfold intsOf at e
    split at e
    · rename_i q; cases e; rw [intsOf_eq q]; rfl
    · cases e
  | .bool _ :: _, _, e => by cases e
  | .none :: _, _, e => by cases e
  | .list _ :: _, _, e => by cases e
  | .tup _ :: _, _, e => by cases e
theorem eqL_eq : ∀ {l m : List Int}, eqL l m = true → l = m
  | [], [], _ => rfl
  | [], _ :: _, h => by cases h
  | _ :: _, [], h => by cases h
  | a :: l, b :: m, h => by
    unfold eqL at h
    split at h
    · rename_i q; rw [(W.Z.eqB_iff _ _).mp q, eqL_eq h]
    · cases h
theorem isL_iff {s : Option Sl} {l : List Int} (h : isL s l = true) : s = some (intSl l) := by
  unfold isL at h
  split at h <;> try contradiction
  split at h <;> try contradiction
  rename_i q
  rw [intsOf_eq q, eqL_eq h]; rfl
theorem isN_iff {s : Option Sl} {a : Int} (h : isN s a = true) : s = some (.sh (.int a)) := by
  unfold isN at h
  split at h <;> try contradiction
  rw [(W.Z.eqB_iff _ _).mp h]
theorem okR_iff {r : Rho} {a b : Int} (h : okR r a b = true) : ∀ i sl, get (rho4 a b) i = some sl → get r i = some sl := by
  simp only [okR, Bool.and_eq_true] at h
  obtain ⟨h1, h2, h3, h4, h5, h6⟩ := h
  intro i sl g
  simp only [rho4, get_cons] at g
  split at g
  · rename_i z; cases g; rw [← z]; exact isN_iff h1
  · split at g
    · rename_i z; cases g; rw [← z]; exact isN_iff h2
    · split at g
      · rename_i z; cases g; rw [← z]; exact isL_iff h3
      · split at g
        · rename_i z; cases g; rw [← z]; exact isL_iff h4
        · split at g
          · rename_i z; cases g; rw [← z]; exact isL_iff h5
          · split at g
            · rename_i z; cases g; rw [← z]; exact isL_iff h6
            · cases g

theorem execs_app (env : Env) (ys : List Stmt) : ∀ xs : List Stmt, execs (xs ++ ys) env = (do match ← execs xs env with | .next => execs ys env | f => pure f)
  | [] => by
    show execs ys env = (pure Flow.next >>= _ : Sem Flow)
    rw [pure_bind]
  | x :: xs => by
    show execs (x :: (xs ++ ys)) env = (execs (x :: xs) env >>= _ : Sem Flow)
    rw [execs_cons, execs_cons, bind_assoc]
    congr 1
    funext f
    cases f with
    | next => exact execs_app env ys xs
    | brk => simp
    | cont => simp
    | ret v => simp
theorem unS_app (nm : Nat → Str) (ys : List St) : ∀ xs : List St, unS nm (xs ++ ys) = unS nm xs ++ unS nm ys
  | [] => rfl
  | x :: xs => by
    show x.un nm :: unS nm (xs ++ ys) = x.un nm :: (unS nm xs ++ unS nm ys)
    rw [unS_app nm ys xs]

section
variable {X : Fix} {P : Addr → Obj → Prop} {ok0 : Addr → Prop} {env : Env} {nms : List (Nat × NameKind)} {roots : List Addr} {r : Rho} {m cm m' cm' : Str → Option Value} {h h' : Heap}
variable {D : Nat} {A : Around} {s : Shared} {evf : EvFn} {w : Nat × Nat}
theorem Fm.part {r' : Rho} (F : Fm X P ok0 env nms roots r m cm h) (e : ∀ i sl, get r' i = some sl → get r i = some sl) : Fm X P ok0 env nms roots r' m cm h :=
  ⟨F.kept, F.lay, fun i sl q => F.st i sl (e i sl q), fun i sl q => F.sl i sl (e i sl q), fun i j li lj a n p q => F.ap i j li lj a n (e i _ p) (e j _ q), F.rt⟩
theorem Fm.addInt {i : Nat} {x : Int} {t : Tok} (F : Fm X P ok0 env nms roots r m cm h) (hi : isSt (lk nms i) = true) (hv : vl env m cm (X.nm i) = some (.int x t)) : Fm X P ok0 env nms roots ((i, .sh (.int x)) :: r) m cm h := by
  have g : ∀ j sl, get ((i, .sh (.int x)) :: r) j = some sl → (j = i ∧ sl = .sh (.int x)) ∨ get r j = some sl := fun j sl e => by
    rw [get_cons] at e
    by_cases z : i = j
    · rw [if_pos z] at e; cases e; exact .inl ⟨z.symm, rfl⟩
    · rw [if_neg z] at e; exact .inr e
  have o : ∀ j l, get ((i, .sh (.int x)) :: r) j = some (.ow l) → get r j = some (.ow l) := fun j l e => by
    rcases g j _ e with ⟨_, h⟩ | h
    · cases h
    · exact h
  refine ⟨F.kept, F.lay, fun j sl e => ?_, fun j sl e => ?_, fun j j' l l' a n p q => F.ap j j' l l' a n (o j l p) (o j' l' q), F.rt⟩
  · rcases g j sl e with ⟨rfl, _⟩ | e
    · exact hi
    · exact F.st j sl e
  · rcases g j sl e with ⟨rfl, rfl⟩ | e
    · exact ⟨_, hv, rd_mk_int (ok := okr ok0 roots) (h := h)⟩
    · exact F.sl j sl e
theorem wpAny_app {xs ys : List Stmt} {Q : Flow → Shared → Prop} {M : Model} {E : Value → Shared → Prop} (h : wpAny M A (execs xs env) (fun f s' => match f with | .next => wpAny M A (execs ys env) Q E s' | f => Q f s') E s) : wpAny M A (execs (xs ++ ys) env) Q E s := by
  rw [execs_app]
  refine wpAny_bind (wpAny_mono h (fun f s' h' => ?_) fun _ _ z => z)
  cases f with
  | next => exact h'
  | brk => exact wpAny_pure h'
  | cont => exact wpAny_pure h'
  | ret v => exact wpAny_pure h'
end
end Mine
end
section
open PySem PySem.Calls PyProof.Rows
set_option maxRecDepth 4000
namespace Mine

section
variable {X : Fix} {P : Addr → Obj → Prop} {ok0 : Addr → Prop} {env : Env} {nms : List (Nat × NameKind)} {roots : List Addr} {r : Rho} {m cm m' cm' : Str → Option Value} {h h' : Heap}
variable {D : Nat} {A : Around} {s : Shared} {evf : EvFn} {w : Nat × Nat}
theorem spl2 {e1 e2 : Ex} {pos : Pos} {Q : List Value → Shared → Prop} (h : wpAny (model X.prog X.w) A (eval (e1.un X.nm) env) (fun v s₁ => wpAny (model X.prog X.w) A (eval (e2.un X.nm) env) (fun u s₂ => Q [v, u] s₂) NoE s₁) NoE s) :
    wpAny (model X.prog X.w) A (spliced (backTo pos (starEach (unL X.nm [e1, e2]) env))) Q NoE s := by
  show wpAny _ A (spliced (backTo pos (starEach (e1.un X.nm :: e2.un X.nm :: []) env))) Q NoE s
  rw [star_cons X.nm e1, star_cons X.nm e2]
  show wpAny _ A (spliced ((false, eval (e1.un X.nm) env) :: (false, eval (e2.un X.nm) env) :: [])) Q NoE s
  exact spliced_cons (wk_mono h fun v s₁ h₁ => spliced_cons (wk_mono h₁ fun u s₂ h₂ => spliced_nil h₂))
theorem tup2 {e1 e2 : Ex} {ke : Nat} {pe : Pos} {x y : Int} {r0 : Rho} {Q' : Value → Shared → Prop}
    (h : ∀ {Q : Value → Value → Shared → Prop}, (∀ h' tk t u, Fm X P ok0 env nms roots r0 m cm h' → Q (.int x t) (.int y u) { s with heap := h', toks := tk }) → wpAny (model X.prog X.w) A (eval (e1.un X.nm) env) (fun v s₁ => wpAny (model X.prog X.w) A (eval (e2.un X.nm) env) (fun u s₂ => Q v u s₂) NoE s₁) NoE s)
    (K : ∀ h' tk T t u, Fm X P ok0 env nms roots r0 m cm h' → h'.IsTuple T #[.int x t, .int y u] → Q' (.ref T) { s with heap := h', toks := tk }) :
    wpAny (model X.prog X.w) A (eval (.Tuple (unL X.nm [e1, e2]) ke pe) env) Q' NoE s := by
  refine wpAny_Tuple_spliced (spl2 (h fun h' tk t u F => ⟨by rw [sizeLine_eq]; simp, ?_⟩))
  have l₂ := Le.push h' { cls := .type "tuple", data := .seq [Value.int x t, .int y u].toArray }
  exact K _ tk _ t u (F.le l₂) ⟨_, Heap.get?_push_size _ rfl, rfl, _, rfl⟩

theorem law_two {cs : List V} {k d0 d1 : Int} {f1 f2 : Bool} {p1 p2 p3 p4 p5 q1 q2 q3 q4 q5 q6 q7 q8 q9 q10 q11 q12 : Pos} {Q : Flow → Shared → Prop} (I0 : DrawOK X D cs k 5 d0) (I1 : DrawOK X D cs (k + 1) 5 d1) (C : FmC X P ok0 env s_law) (R : Room A D) (F : Fm X P ok0 env s_law roots r m cm s.heap)
    (hg : get r 100 = some (.ow [.list cs, .int k])) (h57 : wq 57 w = false) (h58 : wq 58 w = false)
    (K : KF X P ok0 env s_law w m cm s (put (put (put (put r 100 (.ow [.list cs, .int (k + 1)])) 100 (.ow [.list cs, .int (k + 1 + 1)])) 57 (.sh (.int (d0 - 2)))) 58 (.sh (.int (d1 - 2)))) (Q .next)) :
    wpAny (model X.prog X.w) A (exec ((St.asgD [.name 57 false p1, .name 58 false p2] 0 p3 [.bin .sub (.call 50 f1 q1 [.name 100 q2, .int 5 q3] q4) (.int 2 q5) q6, .bin .sub (.call 50 f2 q7 [.name 100 q8, .int 5 q9] q10) (.int 2 q11) q12] 0 p4 p5).un X.nm) env) Q NoE s := by
  refine st_ints (roots := roots) (D := D) (evf := ev Φ0 0) rfl rfl h57 h58 (by decide) rfl rfl rfl (snd_ev phi0_ok 0) C R (fun {Q'} k' => tup2 (fun {Q} kq => ?_) k') K
  show wpAny _ A (eval (.BinOp (.Call (.Name (X.nm 50) q1) [.Name (X.nm 100) q2, .Constant (.int 5) 0 q3] [] q4) .Sub (.Constant (.int 2) 0 q5) q6) env) _ NoE s
  refine wpAny_BinOp (fm_draw I0 rfl C R F hg fun h₁ tk₁ t₁ b₁ F₁ _ _ => wpAny_Constant_int (sub_int ?_))
  show wpAny _ A (eval (.BinOp (.Call (.Name (X.nm 50) q7) [.Name (X.nm 100) q8, .Constant (.int 5) 0 q9] [] q10) .Sub (.Constant (.int 2) 0 q11) q12) env) _ NoE _
  refine wpAny_BinOp (fm_draw (r := put r 100 (.ow [.list cs, .int (k + 1)])) I1 rfl C R F₁ (by rw [get_put, if_pos rfl]) fun h₂ tk₂ t₂ b₂ F₂ _ _ => wpAny_Constant_int (sub_int ?_))
  exact kq h₂ _ _ _ F₂
theorem law_pn {cs : List V} {k d3 pv : Int} {j : Nat} {f1 f2 : Bool} {p1 p2 p3 p4 p5 q0 q1 q2 q3 q4 q5 q6 q7 q8 q9 q10 q11 q12 q13 q14 q15 : Pos} {kt : Nat} {Q : Flow → Shared → Prop} (hj : ([.int 3, .int 5, .int 7, .int 11] : List V)[j]? = some (.int pv)) (I0 : DrawOK X D cs k 4 (j : Int)) (I1 : DrawOK X D cs (k + 1) 9 d3) (C : FmC X P ok0 env s_law) (R : Room A D)
    (F : Fm X P ok0 env s_law roots r m cm s.heap) (hg : get r 100 = some (.ow [.list cs, .int k])) (h81 : wq 81 w = false) (h54 : wq 54 w = false)
    (K : KF X P ok0 env s_law w m cm s (put (put (put (put r 100 (.ow [.list cs, .int (k + 1)])) 100 (.ow [.list cs, .int (k + 1 + 1)])) 81 (.sh (.int pv))) 54 (.sh (.int (1 + d3)))) (Q .next)) :
    wpAny (model X.prog X.w) A (exec ((St.asgD [.name 81 false p1, .name 54 false p2] 0 p3 [.sub (.tup [.int 3 q0, .int 5 q1, .int 7 q2, .int 11 q3] kt q4) (.call 50 f1 q5 [.name 100 q6, .int 4 q7] q8) q9, .bin .add (.int 1 q10) (.call 50 f2 q11 [.name 100 q12, .int 9 q13] q14) q15] 0 p4 p5).un X.nm) env) Q NoE s := by
  refine st_ints (roots := roots) (D := D) (evf := ev Φ0 0) rfl rfl h81 h54 (by decide) rfl rfl rfl (snd_ev phi0_ok 0) C R (fun {Q'} k' => tup2 (fun {Q} kq => ?_) k') K
  show wpAny _ A (eval (.Subscript ((Ex.tup [.int 3 q0, .int 5 q1, .int 7 q2, .int 11 q3] kt q4).un X.nm) ((Ex.call 50 f1 q5 [.name 100 q6, .int 4 q7] q8).un X.nm) q9) env) _ NoE s
  have hev : ev Φ0 2 r (.tup [.int 3 q0, .int 5 q1, .int 7 q2, .int 11 q3] kt q4) = some (.tup [.int 3, .int 5, .int 7, .int 11]) := rfl
  refine Subscript_ (fm_ev (snd_ev (phi0_ok (X := X) (D := D)) 2 s_law r _ _ rfl hev) C R F fun v h₁ tk₁ l₁ r₁ _ => ?_)
  obtain ⟨T, us, rfl, okT, hT, ra⟩ := rd_tup r₁
  have hlt : j < 4 := by
    have := (List.getElem?_eq_some_iff.mp hj).1
    simpa using this
  refine fm_draw (D := D) (s := { s with heap := h₁, toks := tk₁ }) I0 rfl C R (F.le l₁) hg fun h₂ tk₂ t₂ b₂ F₂ hb₂ k₂ => ?_
  have hTb : T ≠ b₂ := fun z => okT.2 (z ▸ hb₂)
  have hT₂ : h₂.IsTuple T us.toArray := by obtain ⟨o, e, q⟩ := hT; exact ⟨o, k₂ T o hTb e, q⟩
  obtain ⟨u, hu, ru⟩ := ra.at hj
  obtain ⟨tu, rfl⟩ := rd_int ru
  have hs : seqIndex? (j : Int) us.length = some j := by
    rw [ra.length]
    have := seqIndex_of (k := (j : Int)) (n := 4) (Int.natCast_nonneg j) (by omega)
    simpa using this
  refine item_tupleT hT₂ (by have := Int.natCast_nonneg j; omega) (by omega) hs hu ?_ (sub_plain X.nm _ _ _)
  show wpAny _ A (eval (.BinOp (.Constant (.int 1) 0 q10) .Add (.Call (.Name (X.nm 50) q11) [.Name (X.nm 100) q12, .Constant (.int 9) 0 q13] [] q14) q15) env) _ NoE _
  refine wpAny_BinOp (wpAny_Constant_int (fm_draw (r := put r 100 (.ow [.list cs, .int (k + 1)])) I1 rfl C R F₂ (by rw [get_put, if_pos rfl]) fun h₃ tk₃ t₃ b₃ F₃ _ _ => wpAny_add_int ?_))
  exact kq h₃ _ _ _ F₃
end
end Mine
end
section
open PySem PySem.Calls PyProof.Rows
set_option maxRecDepth 4000
namespace Mine

noncomputable def inR (a : Int) : Prop := -2 ≤ a ∧ a ≤ 2
noncomputable def Checks : Prop := (∀ a b, inR a → inR b → chk1 a b = true) ∧ (∀ a b n, inR a → inR b → 1 ≤ n → n ≤ 9 → chk2 a b n = true) ∧ ∀ a b p, inR a → inR b → (p = 3 ∨ p = 5 ∨ p = 7 ∨ p = 11) → chk3 a b p = true
theorem law_split : b_law = lawA1 ++ (lawA2 ++ lawB) := by kernel_rfl
theorem wfA1 : wfSs nm s_law (54, 81) lawA1 = true := by kernel_rfl
theorem wfA2 : wfSs nm s_law (81, 81) lawA2 = true := by kernel_rfl
theorem wfB : wfSs nm s_law (999999, 999999) lawB = true := by kernel_rfl
theorem wf0 : wfSt nm s_law (999999, 999999) hd0 = true := by kernel_rfl

section
variable {X : Fix} {P : Addr → Obj → Prop} {ok0 : Addr → Prop} {env : Env} {r : Rho} {m cm : Str → Option Value}
variable {A : Around} {s : Shared}
theorem fm_at {nms : List (Nat × NameKind)} {roots : List Addr} {h : Heap} {i : Nat} {x : Int} (F : Fm X P ok0 env nms roots r m cm h) (e : get r i = some (.sh (.int x))) : ∃ t, vl env m cm (X.nm i) = some (.int x t) := by
  obtain ⟨v, hv, S⟩ := F.sl i _ e
  obtain ⟨t, rfl⟩ := rd_int (ok := okr ok0 roots) (h := h) S
  exact ⟨t, hv⟩
theorem law_rest {a b n p : Int} {roots : List Addr} {Q : Flow → Shared → Prop} (hn : X.nm = nm) (HT : ∀ d ∈ tabF, ∃ rec, DefOK X d.w d.f d.ps d.sc d.b rec) (c1 : chk1 a b = true) (c2 : chk2 a b n = true) (c3 : chk3 a b p = true) (C : FmC X P ok0 env s_law) (R : Room A tabF.length)
    (F : Fm X P ok0 env s_law roots r m cm s.heap) (ga : get r 57 = some (.sh (.int a))) (gb : get r 58 = some (.sh (.int b))) (gp : get r 81 = some (.sh (.int p))) (gn : get r 54 = some (.sh (.int n)))
    (K : ∀ h' tk, (∀ b o, P b o → h'.get? b = some o) → Q (.ret (.bool true)) { s with heap := h', toks := tk }) : wpAny (model X.prog X.w) A (execs (unS X.nm b_law) env) Q NoE s := by
  obtain ⟨HΦ, HΨ⟩ := pp_ok tabF HT
  obtain ⟨tp, vp⟩ := fm_at F gp
  obtain ⟨tn, vn⟩ := fm_at F gn
  rw [law_split, unS_app, unS_app]
  unfold chk1 at c1
  split at c1 <;> try contradiction
  rename_i r1 e1
  rw [Bool.and_eq_true, Bool.and_eq_true] at c1
  have F1 : Fm X P ok0 env s_law roots [(57, .sh (.int a)), (58, .sh (.int b))] m cm s.heap := F.part fun i sl g => by
    rw [get_cons, get_cons] at g
    split at g
    · rename_i z; cases g; rw [← z]; exact ga
    · split at g
      · rename_i z; cases g; rw [← z]; exact gb
      · cases g
  refine wpAny_app (snd_run (w := (54, 81)) HΦ HΨ 12 P ok0 env A s roots _ m cm lawA1 (.next r1) _ (by rw [hn]; exact wfA1) C R F1 e1 fun h₁ tk₁ rs₁ m₁ cm₁ G₁ w₁ => ?_)
  have vn₁ : vl env m₁ cm₁ (X.nm 54) = some (.int n tn) := (congrArg Prod.fst w₁).trans vn
  have vp₁ : vl env m₁ cm₁ (X.nm 81) = some (.int p tp) := (congrArg Prod.snd w₁).trans vp
  unfold chk2 at c2
  split at c2 <;> try contradiction
  rename_i r2 e2
  have G₁' : Fm X P ok0 env s_law rs₁ ((106, intSl (ownL a b)) :: (107, intSl (backL a b)) :: rho4 a b) m₁ cm₁ h₁ := G₁.part fun i sl g => by
    rw [get_cons, get_cons] at g
    split at g
    · rename_i z; cases g; rw [← z]; exact isL_iff c1.2.1
    · split at g
      · rename_i z; cases g; rw [← z]; exact isL_iff c1.2.2
      · exact okR_iff c1.1 i sl g
  have G₂ := G₁'.addInt (i := 54) rfl vn₁
  refine wpAny_app (snd_run (w := (81, 81)) HΦ HΨ 12 P ok0 env A { s with heap := h₁, toks := tk₁ } rs₁ _ m₁ cm₁ lawA2 (.next r2) _ (by rw [hn]; exact wfA2) C R G₂ e2 fun h₂ tk₂ rs₂ m₂ cm₂ G₃ w₂ => ?_)
  have vp₂ : vl env m₂ cm₂ (X.nm 81) = some (.int p tp) := (congrArg Prod.fst w₂).trans vp₁
  unfold chk3 at c3
  split at c3 <;> try contradiction
  rename_i bb e3
  subst c3
  have G₄ := (G₃.part (okR_iff c2)).addInt (i := 81) rfl vp₂
  refine snd_run (w := (999999, 999999)) HΦ HΨ 12 P ok0 env A { s with heap := h₂, toks := tk₂ } rs₂ _ m₂ cm₂ lawB (.ret (.bool true)) _ (by rw [hn]; exact wfB) C R G₄ e3 ?_
  intro v h₃ tk₃ k₃ q₃
  rw [rd_bool q₃]
  exact K h₃ tk₃ k₃

set_option maxHeartbeats 2000000 in
theorem law_main {ns : List Int} {Q : Flow → Shared → Prop} (hn : X.nm = nm) (HT : ∀ d ∈ tabF, ∃ rec, DefOK X d.w d.f d.ps d.sc d.b rec) (HD : ∃ rec, DefOK X (100, 999999) 50 p_law_draw s_law_draw b_law_draw rec) (H : Checks) (C : FmC X P ok0 env s_law) (R : Room A 60)
    (F : Fm X P ok0 env s_law [] [(103, .sh (.list (ns.map V.int)))] m cm s.heap) (hns : ns.length ≤ 63)
    (K : ∀ h' tk, (∀ b o, P b o → h'.get? b = some o) → Q (.ret (.bool true)) { s with heap := h', toks := tk }) : wpAny (model X.prog X.w) A (execs (unS X.nm (b_law0 ++ b_law)) env) Q NoE s := by
  obtain ⟨rec, KD⟩ := HD
  obtain ⟨⟨d0, i0, l0, u0⟩, ⟨d1, i1, l1, u1⟩, ⟨d2, i2, l2, u2⟩, ⟨d3, i3, l3, u3⟩⟩ := draw_of (ns.take 4) (by rw [List.length_take]; omega)
  have I0 := draw_ok KD i0
  have I1 := draw_ok KD i1
  have I2 := draw_ok KD i2
  have I3 := draw_ok KD i3
  have S := snd_stStep (X := X) (nms := s_law) (w := (999999, 999999)) (n := 40) (phi0_ok (X := X) (D := 0)) psi0_ok (snd_run phi0_ok psi0_ok 11)
  have R1 : Room A 1 := R.le (by decide)
  have h0 : ∀ {Q : Flow → Shared → Prop}, KF X P ok0 env s_law (999999, 999999) m cm s [(103, .sh (.list (ns.map V.int))), (100, .ow [.list ((ns.take 4).map V.int), .int 0])] (Q .next) → wpAny (model X.prog X.w) A (exec (hd0.un X.nm) env) Q NoE s := fun {Q} k =>
    S P ok0 env A s [] _ m cm hd0 _ _ (by rw [hn]; exact wf0) C (R.le (Nat.zero_le _)) F (pool_step ns hns) k
  refine wpAny_execs_cons (h0 fun h₁ tk₁ rs₁ m₁ cm₁ F₁ _ => ?_)
  have ca : inR (d0 - 2) := ⟨by omega, by omega⟩
  have cb : inR (d1 - 2) := ⟨by omega, by omega⟩
  refine wpAny_execs_cons (law_two (w := (999999, 999999)) (s := { s with heap := h₁, toks := tk₁ }) I0 I1 C R1 F₁ rfl rfl rfl fun h₂ tk₂ rs₂ m₂ cm₂ F₂ _ => ?_)
  obtain ⟨j, rfl⟩ := Int.eq_ofNat_of_zero_le l2
  have hj : ∃ pv, ([.int 3, .int 5, .int 7, .int 11] : List V)[j]? = some (.int pv) ∧ (pv = 3 ∨ pv = 5 ∨ pv = 7 ∨ pv = 11) := by
    have : j = 0 ∨ j = 1 ∨ j = 2 ∨ j = 3 := by omega
    rcases this with rfl | rfl | rfl | rfl
    · exact ⟨3, rfl, by decide⟩
    · exact ⟨5, rfl, by decide⟩
    · exact ⟨7, rfl, by decide⟩
    · exact ⟨11, rfl, by decide⟩
  obtain ⟨pv, hpv, hp⟩ := hj
  refine wpAny_execs_cons (law_pn (w := (999999, 999999)) (s := { s with heap := h₂, toks := tk₂ }) hpv I2 I3 C R1 F₂ (by simp [get_put]) rfl rfl fun h₃ tk₃ rs₃ m₃ cm₃ F₃ _ => ?_)
  refine law_rest (a := d0 - 2) (b := d1 - 2) (n := 1 + d3) (p := pv) (s := { s with heap := h₃, toks := tk₃ }) hn HT (H.1 _ _ ca cb) (H.2.1 _ _ _ ca cb (by omega) (by omega)) (H.2.2 _ _ _ ca cb hp) C (R.le (by decide)) F₃ ?_ ?_ ?_ ?_ fun h' tk k => K h' tk k
  · simp [get_put]
  · simp [get_put]
  · simp [get_put]
  · simp [get_put]
end
end Mine
end
section
open PySem
set_option maxRecDepth 4000
namespace Mine

/-! the same evaluator by bare recursors: the kernel is quicker at it -/
noncomputable def ob {α β : Type} (x : Option α) (f : α → Option β) : Option β := Option.rec (motive := fun _ => Option β) .none f x
noncomputable def iB {α : Type} (c : Bool) (a b : α) : α := Bool.rec (motive := fun _ => α) b a c
noncomputable def getF (r : Rho) : Nat → Option Sl := List.rec (motive := fun _ => Nat → Option Sl) (fun _ => .none) (fun p _ ih i => Bool.rec (motive := fun _ => Option Sl) (ih i) (some p.2) (Nat.beq p.1 i)) r
theorem getF_eq : ∀ (r : Rho) (i : Nat), getF r i = get r i
  | [], _ => rfl
  | p :: r, i => by
    show Bool.rec (motive := fun _ => Option Sl) (getF r i) (some p.2) (Nat.beq p.1 i) = (match Nat.beq p.1 i with | true => some p.2 | false => get r i)
    rw [getF_eq r i]
    cases Nat.beq p.1 i <;> rfl
noncomputable def putF (r : Rho) : Nat → Sl → Rho := List.rec (motive := fun _ => Nat → Sl → Rho) (fun i x => [(i, x)]) (fun p r ih i x => Bool.rec (motive := fun _ => Rho) (p :: ih i x) ((i, x) :: r) (Nat.beq p.1 i)) r
theorem putF_eq : ∀ (r : Rho) (i : Nat) (x : Sl), putF r i x = put r i x
  | [], _, _ => rfl
  | p :: r, i, x => by
    show Bool.rec (motive := fun _ => Rho) (p :: putF r i x) ((i, x) :: r) (Nat.beq p.1 i) = (match Nat.beq p.1 i with | true => (i, x) :: r | false => p :: put r i x)
    rw [putF_eq r i x]
    cases Nat.beq p.1 i <;> rfl
noncomputable def frzF (r : Rho) : Rho := List.rec (motive := fun _ => Rho) [] (fun p _ ih => (p.1, Sl.casesOn (motive := fun _ => Sl) p.2 (fun v => .sh v) fun l => .sh (.list l)) :: ih) r
theorem frzF_eq : ∀ r : Rho, frzF r = frz r
  | [] => rfl
  | (i, s) :: r => by
    show (i, Sl.casesOn (motive := fun _ => Sl) s (fun v => .sh v) fun l => .sh (.list l)) :: frzF r = (i, s.frz) :: frz r
    rw [frzF_eq r]
    cases s <;> rfl
noncomputable def onInt {α : Type} (x : V) (f : Int → Option α) : Option α := V.casesOn (motive_1 := fun _ => Option α) x f (fun _ => .none) .none (fun _ => .none) (fun _ => .none)
noncomputable def onList {α : Type} (x : V) (f : List V → Option α) : Option α := V.casesOn (motive_1 := fun _ => Option α) x (fun _ => .none) (fun _ => .none) .none f (fun _ => .none)

/-! whole numbers -/
noncomputable def subN (m n : Nat) : Int := Nat.rec (motive := fun _ => Int) (.ofNat (m - n)) (fun k _ => .negSucc k) (n - m)
theorem subN_eq (m n : Nat) : subN m n = Int.subNatNat m n := by
  unfold subN Int.subNatNat
  cases n - m <;> rfl
noncomputable def addZ (a b : Int) : Int := Int.rec (motive := fun _ => Int) (fun m => Int.rec (motive := fun _ => Int) (fun n => .ofNat (m + n)) (fun n => subN m (n + 1)) b) (fun m => Int.rec (motive := fun _ => Int) (fun n => subN n (m + 1)) (fun n => .negSucc (m + n + 1)) b) a
theorem addZ_eq (a b : Int) : addZ a b = a + b := by
  cases a with
  | ofNat m => cases b with
    | ofNat n => rfl
    | negSucc n => exact subN_eq m (n + 1)
  | negSucc m => cases b with
    | ofNat n => exact subN_eq n (m + 1)
    | negSucc n => rfl
noncomputable def negN (n : Nat) : Int := Nat.rec (motive := fun _ => Int) (.ofNat 0) (fun k _ => .negSucc k) n
theorem negN_eq (n : Nat) : negN n = Int.negOfNat n := by cases n <;> rfl
noncomputable def negZ (a : Int) : Int := Int.rec (motive := fun _ => Int) (fun n => negN n) (fun n => .ofNat (n + 1)) a
theorem negZ_eq (a : Int) : negZ a = -a := by
  cases a with
  | ofNat n => exact negN_eq n
  | negSucc n => rfl
noncomputable def subZ (a b : Int) : Int := addZ a (negZ b)
theorem subZ_eq (a b : Int) : subZ a b = a - b := by unfold subZ; rw [addZ_eq, negZ_eq]; rfl
noncomputable def mulZ (a b : Int) : Int := Int.rec (motive := fun _ => Int) (fun m => Int.rec (motive := fun _ => Int) (fun n => .ofNat (m * n)) (fun n => negN (m * (n + 1))) b) (fun m => Int.rec (motive := fun _ => Int) (fun n => negN ((m + 1) * n)) (fun n => .ofNat ((m + 1) * (n + 1))) b) a
theorem mulZ_eq (a b : Int) : mulZ a b = a * b := by
  cases a with
  | ofNat m => cases b with
    | ofNat n => rfl
    | negSucc n => exact negN_eq _
  | negSucc m => cases b with
    | ofNat n => exact negN_eq _
    | negSucc n => rfl

/-! lists -/
noncomputable def lenF {α : Type} (l : List α) : Nat := List.rec (motive := fun _ => Nat) 0 (fun _ _ n => Nat.succ n) l
theorem lenF_eq {α : Type} : ∀ l : List α, lenF l = l.length
  | [] => rfl
  | x :: l => by
    show Nat.succ (lenF l) = _
    rw [lenF_eq l]; rfl
noncomputable def appF (l : List V) : List V → List V := List.rec (motive := fun _ => List V → List V) (fun m => m) (fun x _ ih m => x :: ih m) l
theorem appF_eq : ∀ l m : List V, appF l m = l ++ m
  | [], m => rfl
  | x :: l, m => by
    show x :: appF l m = _
    rw [appF_eq l m]; rfl
noncomputable def nthF (l : List V) : Nat → Option V := List.rec (motive := fun _ => Nat → Option V) (fun _ => .none) (fun x _ ih n => Nat.rec (motive := fun _ => Option V) (some x) (fun k _ => ih k) n) l
theorem nthF_eq : ∀ (l : List V) (n : Nat), nthF l n = nth l n
  | [], _ => rfl
  | _ :: _, 0 => rfl
  | _ :: l, n + 1 => nthF_eq l n
noncomputable def intsF (l : List V) : Option (List Int) := List.rec (motive := fun _ => Option (List Int)) (some []) (fun x _ ih => onInt x fun i => ob ih fun l => some (i :: l)) l
theorem intsF_eq : ∀ l : List V, intsF l = intsOf l
  | [] => rfl
  | x :: l => by
    show (onInt x fun i => ob (intsF l) fun l => some (i :: l)) = _
    rw [intsF_eq l]
    cases x with
    | int i =>
      show ob (intsOf l) (fun l => some (i :: l)) = match intsOf l with | some l => some (i :: l) | .none => .none
      cases intsOf l <;> rfl
    | _ => rfl
noncomputable def sumF (l : List Int) : Int := List.rec (motive := fun _ => Int) 0 (fun a _ n => addZ a n) l
theorem sumF_eq : ∀ l : List Int, sumF l = sumL l
  | [] => rfl
  | a :: l => by
    show addZ a (sumF l) = _
    rw [addZ_eq, sumF_eq l]; rfl
noncomputable def rangeF (c : Int) (n : Nat) : Int → List V := Nat.rec (motive := fun _ => Int → List V) (fun _ => []) (fun _ ih a => .int a :: ih (addZ a c)) n
theorem rangeF_eq (c : Int) : ∀ (n : Nat) (a : Int), rangeF c n a = rangeV a c n
  | 0, _ => rfl
  | n + 1, a => by
    show .int a :: rangeF c n (addZ a c) = _
    rw [addZ_eq, rangeF_eq c n (a + c)]; rfl
noncomputable def enumF (l : List V) : Int → List V := List.rec (motive := fun _ => Int → List V) (fun _ => []) (fun x _ ih i => .tup [.int i, x] :: ih (addZ i 1)) l
theorem enumF_eq : ∀ (l : List V) (i : Int), enumF l i = enumV i l
  | [], _ => rfl
  | x :: l, i => by
    show .tup [.int i, x] :: enumF l (addZ i 1) = _
    rw [addZ_eq, enumF_eq l (i + 1)]; rfl

/-! operators -/
noncomputable def addF (x y : V) : Option V := V.casesOn (motive_1 := fun _ => Option V) x (fun a => onInt y fun b => some (.int (addZ a b))) (fun _ => .none) .none (fun a => onList y fun b => iB (few (Nat.add (lenF a) (lenF b))) (some (.list (appF a b))) .none) (fun _ => .none)
noncomputable def mulF (x y : V) : Option V := V.casesOn (motive_1 := fun _ => Option V) x (fun a => onInt y fun b => iB (small a) (iB (small b) (some (.int (mulZ a b))) .none) .none) (fun _ => .none) .none (fun a => onInt y fun b => bop .mul (.list a) (.int b)) (fun _ => .none)
noncomputable def bopF (o : Bop) (x y : V) : Option V := Bop.casesOn (motive := fun _ => Option V) o (addF x y) (onInt x fun a => onInt y fun b => some (.int (subZ a b))) (mulF x y) (onInt x fun a => onInt y fun b => bop .fdiv (.int a) (.int b)) (onInt x fun a => onInt y fun b => iB (W.Z.eqB b 0) .none (some (.int (a.fmod b)))) (onInt x fun a => onInt y fun b => bop .pow (.int a) (.int b))
theorem bopF_eq (o : Bop) (x y : V) : bopF o x y = bop o x y := by
  cases o with
  | add =>
    show addF x y = _
    cases x <;> cases y <;> try rfl
    · rename_i a b; show some (V.int (addZ a b)) = _; rw [addZ_eq]; rfl
    · rename_i a b
      show iB (few (Nat.add (lenF a) (lenF b))) (some (V.list (appF a b))) .none = match few (a.length + b.length) with | true => some (V.list (a ++ b)) | false => .none
      rw [lenF_eq, lenF_eq, appF_eq]
      show iB (few (a.length + b.length)) _ _ = _
      cases few (a.length + b.length) <;> rfl
  | sub =>
    cases x <;> cases y <;> try rfl
    rename_i a b; show some (V.int (subZ a b)) = _; rw [subZ_eq]; rfl
  | mul =>
    show mulF x y = _
    cases x <;> cases y <;> try rfl
    rename_i a b
    show iB (small a) (iB (small b) (some (V.int (mulZ a b))) .none) .none = match small a && small b with | true => some (V.int (a * b)) | false => .none
    rw [mulZ_eq]
    cases small a <;> cases small b <;> rfl
  | fdiv => cases x <;> cases y <;> rfl
  | mod =>
    cases x <;> cases y <;> try rfl
    rename_i a b
    show iB (W.Z.eqB b 0) .none (some (V.int (a.fmod b))) = match W.Z.eqB b 0 with | true => .none | false => some (V.int (a.fmod b))
    cases W.Z.eqB b 0 <;> rfl
  | pow => cases x <;> cases y <;> rfl
noncomputable def subVF (x y : V) : Option V := V.casesOn (motive_1 := fun _ => Option V) x (fun _ => .none) (fun _ => .none) .none (fun l => onInt y fun k => ob (idx k (lenF l)) fun j => nthF l j) (fun l => onInt y fun k => ob (idx k (lenF l)) fun j => nthF l j)
theorem subVF_eq (x y : V) : subVF x y = subV x y := by
  cases x <;> cases y <;> try rfl
  · rename_i l k
    show (ob (idx k (lenF l)) fun j => nthF l j) = match idx k l.length with | some j => nth l j | .none => .none
    rw [lenF_eq]
    cases idx k l.length with
    | none => rfl
    | some j => exact nthF_eq l j
  · rename_i l k
    show (ob (idx k (lenF l)) fun j => nthF l j) = match idx k l.length with | some j => nth l j | .none => .none
    rw [lenF_eq]
    cases idx k l.length with
    | none => rfl
    | some j => exact nthF_eq l j
noncomputable def ltF (x y : V) (f : Int → Int → Bool) : Option Bool := onInt x fun a => onInt y fun b => some (f a b)
noncomputable def copF (o : Cop) (x y : V) : Option Bool := Cop.casesOn (motive := fun _ => Option Bool) o (ltF x y fun a b => W.Z.ltB a b) (ltF x y fun a b => W.Z.leB a b) (ltF x y fun a b => W.Z.ltB b a) (ltF x y fun a b => W.Z.leB b a) (eqV x y) (ob (eqV x y) fun c => some (!c)) (inV x y) (ob (inV x y) fun c => some (!c))
theorem copF_eq (o : Cop) (x y : V) : copF o x y = cop o x y := by
  cases o with
  | eq => rfl
  | ne =>
    show (ob (eqV x y) fun c => some (!c)) = match eqV x y with | some c => some (!c) | .none => .none
    cases eqV x y <;> rfl
  | isin => rfl
  | notin =>
    show (ob (inV x y) fun c => some (!c)) = match inV x y with | some c => some (!c) | .none => .none
    cases inV x y <;> rfl
  | _ => cases x <;> cases y <;> rfl
noncomputable def biF (b : Bi) (vs : List V) : Option V := List.casesOn (motive := fun _ => Option V) vs .none fun x t => List.casesOn (motive := fun _ => Option V) t
  (Bi.casesOn (motive := fun _ => Option V) b (onList x fun l => iB (few (lenF l)) (some (.int (.ofNat (lenF l)))) .none) (biV .list [x]) (onList x fun l => ob (intsF l) fun r => some (.int (sumF r))) .none (biV .abs [x]) (biV .int [x]))
  (fun y t => biV b (x :: y :: t))
theorem biF_eq (b : Bi) (vs : List V) : biF b vs = biV b vs := by
  match vs with
  | [] => cases b <;> rfl
  | [x] =>
    cases b with
    | len =>
      show (onList x fun l => iB (few (lenF l)) (some (V.int (.ofNat (lenF l)))) .none) = _
      cases x <;> try rfl
      rename_i l
      show iB (few (lenF l)) (some (V.int (.ofNat (lenF l)))) .none = match few l.length with | true => some (V.int l.length) | false => .none
      rw [lenF_eq]
      cases few l.length <;> rfl
    | list => rfl
    | sum =>
      show (onList x fun l => ob (intsF l) fun r => some (V.int (sumF r))) = _
      cases x <;> try rfl
      rename_i l
      show (ob (intsF l) fun r => some (V.int (sumF r))) = match intsOf l with | some r => some (V.int (sumL r)) | .none => .none
      rw [intsF_eq]
      cases intsOf l with
      | none => rfl
      | some r => exact congrArg (fun i => some (V.int i)) (sumF_eq r)
    | max => cases x <;> rfl
    | abs => rfl
    | int => rfl
  | x :: y :: t => rfl
end Mine
end
section
open PySem
set_option maxRecDepth 4000
namespace Mine

theorem ob_eq {α β : Type} (x : Option α) (f : α → Option β) : ob x f = match x with | some a => f a | .none => .none := by cases x <;> rfl
noncomputable def evsF (ih : EvFn) (r : Rho) (es : List Ex) : Option (List V) := List.rec (motive := fun _ => Option (List V)) (some []) (fun e _ rc => ob (ih r e) fun v => ob rc fun vs => some (v :: vs)) es
theorem evsF_eq (ih : EvFn) (r : Rho) : ∀ es : List Ex, evsF ih r es = evs ih r es
  | [] => rfl
  | e :: es => by
    show (ob (ih r e) fun v => ob (evsF ih r es) fun vs => some (v :: vs)) = _
    rw [evsF_eq ih r es, evs]
    cases ih r e with
    | none => rfl
    | some v => cases evs ih r es <;> rfl
noncomputable def bindF (tg : Tg) (r : Rho) (x : V) : Option Rho := Tg.casesOn (motive := fun _ => Option Rho) tg (fun i _ => some ((i, .sh x) :: r)) (fun i j pi pj k p => Tg.bind r (.two i j pi pj k p) x)
theorem bindF_eq (tg : Tg) (r : Rho) (x : V) : bindF tg r x = tg.bind r x := by cases tg <;> rfl
noncomputable def mapF (ih : EvFn) (elt : Ex) (tg : Tg) (r : Rho) (xs : List V) : Option (List V) := List.rec (motive := fun _ => Option (List V)) (some []) (fun x _ rc => ob (bindF tg r x) fun r' => ob (ih r' elt) fun v => ob rc fun vs => some (v :: vs)) xs
theorem mapF_eq (ih : EvFn) (elt : Ex) (tg : Tg) (r : Rho) : ∀ xs : List V, mapF ih elt tg r xs = mapE ih elt tg r xs
  | [] => rfl
  | x :: xs => by
    show (ob (bindF tg r x) fun r' => ob (ih r' elt) fun v => ob (mapF ih elt tg r xs) fun vs => some (v :: vs)) = _
    rw [mapF_eq ih elt tg r xs, bindF_eq, mapE]
    cases tg.bind r x with
    | none => rfl
    | some r' =>
      show (ob (ih r' elt) fun v => ob (mapE ih elt tg r xs) fun vs => some (v :: vs)) = match ih r' elt with | some v => (match mapE ih elt tg r xs with | some vs => some (v :: vs) | .none => .none) | .none => .none
      cases ih r' elt with
      | none => rfl
      | some v => cases mapE ih elt tg r xs <;> rfl
noncomputable def allF (t : Rho → Ex → Option Bool) (r : Rho) (a : Bool) (es : List Ex) : Option Bool := List.rec (motive := fun _ => Option Bool) (some a) (fun e _ rc => ob (t r e) fun c => iB c (iB a rc (some true)) (iB a (some false) rc)) es
theorem allF_eq (t : Rho → Ex → Option Bool) (r : Rho) (a : Bool) : ∀ es : List Ex, allF t r a es = evAll t r a es
  | [] => rfl
  | e :: es => by
    show (ob (t r e) fun c => iB c (iB a (allF t r a es) (some true)) (iB a (some false) (allF t r a es))) = _
    rw [allF_eq t r a es]
    show _ = (match t r e with | some true => (match a with | true => evAll t r a es | false => some true) | some false => (match a with | true => some false | false => evAll t r a es) | .none => .none)
    generalize evAll t r a es = z
    cases t r e with
    | none => rfl
    | some c => cases c <;> cases a <;> rfl
noncomputable def pickF (r : Rho) (fv : List Nat) : Rho := List.rec (motive := fun _ => Rho) [] (fun i _ rc => Option.rec (motive := fun _ => Rho) rc (fun s => (i, s) :: rc) (getF r i)) fv
theorem pickF_eq (r : Rho) : ∀ fv : List Nat, pickF r fv = pick r fv
  | [] => rfl
  | i :: fv => by
    show Option.rec (motive := fun _ => Rho) (pickF r fv) (fun s => (i, s) :: pickF r fv) (getF r i) = _
    rw [pickF_eq r fv, getF_eq, pick]
    cases get r i <;> rfl
noncomputable def nmF (c : Ex) : Option Nat := Ex.casesOn (motive_1 := fun _ => Option Nat) c (fun _ _ => .none) (fun _ _ => .none) (fun _ => .none) (fun i _ => some i) (fun _ _ _ _ => .none) (fun _ _ => .none) (fun _ _ _ _ => .none) (fun _ _ _ => .none) (fun _ _ _ _ => .none) (fun _ _ _ _ _ => .none) (fun _ _ _ _ => .none) (fun _ _ _ => .none) (fun _ _ _ _ => .none) (fun _ _ _ _ => .none) (fun _ _ _ _ _ => .none) (fun _ _ _ => .none) (fun _ _ => .none) (fun _ _ _ _ _ _ _ _ _ => .none)
noncomputable def slF (s : Sl) : V := Sl.casesOn (motive := fun _ => V) s (fun v => v) (fun l => .list l)
noncomputable def cF (ih : EvFn) (r : Rho) (c : Ex) : Option V := Option.rec (motive := fun _ => Option V) (ih r c) (fun i => ob (getF r i) fun s => some (slF s)) (nmF c)
theorem cF_eq (ih : EvFn) (r : Rho) (c : Ex) : cF ih r c = evC ih r c := by
  cases c with
  | name i p =>
    show (ob (getF r i) fun s => some (slF s)) = _
    rw [getF_eq]
    show (ob (get r i) fun s => some (slF s)) = match get r i with | some (.sh v) => some v | some (.ow l) => some (.list l) | .none => .none
    cases get r i with
    | none => rfl
    | some s => cases s <;> rfl
  | _ => rfl
noncomputable def nameF (r : Rho) (i : Nat) : Option V := ob (getF r i) fun s => Sl.casesOn (motive := fun _ => Option V) s (fun v => some v) (fun _ => .none)
theorem nameF_eq (r : Rho) (i : Nat) : nameF r i = evName r i := by
  unfold nameF evName
  rw [getF_eq]
  cases get r i with
  | none => rfl
  | some s => cases s <;> rfl
noncomputable def binF (ih : EvFn) (r : Rho) (o : Bop) (a b : Ex) : Option V := ob (ih r a) fun x => ob (ih r b) fun y => bopF o x y
theorem binF_eq (ih : EvFn) (r : Rho) (o : Bop) (a b : Ex) : binF ih r o a b = evBin ih r o a b := by
  unfold binF evBin
  cases ih r a with
  | none => rfl
  | some x => cases ih r b with
    | none => rfl
    | some y => exact bopF_eq o x y
noncomputable def cmpF (ih : EvFn) (r : Rho) (o : Cop) (a b : Ex) : Option V := ob (ih r a) fun x => ob (ih r b) fun y => ob (copF o x y) fun c => some (.bool c)
theorem cmpF_eq (ih : EvFn) (r : Rho) (o : Cop) (a b : Ex) : cmpF ih r o a b = evCmp ih r o a b := by
  unfold cmpF evCmp
  cases ih r a with
  | none => rfl
  | some x => cases ih r b with
    | none => rfl
    | some y =>
      show (ob (copF o x y) fun c => some (V.bool c)) = match cop o x y with | some c => some (V.bool c) | .none => .none
      rw [copF_eq]
      cases cop o x y <;> rfl
noncomputable def iteF (ih : EvFn) (t : Rho → Ex → Option Bool) (r : Rho) (c a b : Ex) : Option V := ob (t r c) fun z => iB z (ih r a) (ih r b)
theorem iteF_eq (ih : EvFn) (t : Rho → Ex → Option Bool) (r : Rho) (c a b : Ex) : iteF ih t r c a b = evIte ih t r c a b := by
  unfold iteF evIte
  cases t r c with
  | none => rfl
  | some z => cases z <;> rfl
noncomputable def callF (Φ : Nat → List V → Option V) (ih : EvFn) (r : Rho) (f : Nat) (fr : Bool) (args : List Ex) : Option V := iB fr (ob (evsF ih (frzF r) args) fun vs => ob (Φ f vs) fun v => iB (atomic v) (some v) .none) (ob (evsF ih r args) fun vs => Φ f vs)
theorem callF_eq (Φ : Nat → List V → Option V) (ih : EvFn) (r : Rho) (f : Nat) (fr : Bool) (args : List Ex) : callF Φ ih r f fr args = evCall Φ ih r f fr args := by
  unfold callF evCall
  rw [evsF_eq, evsF_eq, frzF_eq]
  cases fr with
  | true =>
    show (ob (evs ih (frz r) args) fun vs => ob (Φ f vs) fun v => iB (atomic v) (some v) .none) = match evs ih (frz r) args with | some vs => (match Φ f vs with | some v => (match atomic v with | true => some v | false => .none) | .none => .none) | .none => .none
    cases evs ih (frz r) args with
    | none => rfl
    | some vs =>
      show (ob (Φ f vs) fun v => iB (atomic v) (some v) .none) = match Φ f vs with | some v => (match atomic v with | true => some v | false => .none) | .none => .none
      cases Φ f vs with
      | none => rfl
      | some v =>
        show iB (atomic v) (some v) .none = match atomic v with | true => some v | false => .none
        cases atomic v <;> rfl
  | false =>
    show (ob (evs ih r args) fun vs => Φ f vs) = match evs ih r args with | some vs => Φ f vs | .none => .none
    cases evs ih r args <;> rfl
noncomputable def one1 (args : List Ex) : Option Ex := List.casesOn (motive := fun _ => Option Ex) args .none fun e t => List.casesOn (motive := fun _ => Option Ex) t (some e) fun _ _ => .none
noncomputable def evbF (ih : EvFn) (r : Rho) (b : Bi) (args : List Ex) : Option V := Bi.casesOn (motive := fun _ => Option V) b
  (Option.rec (motive := fun _ => Option V) (evBi ih r .len args) (fun c => ob (cF ih r c) fun v => biF .len [v]) (one1 args)) (ob (evsF ih r args) fun vs => biF .list vs) (ob (evsF ih r args) fun vs => biF .sum vs) (ob (evsF ih r args) fun vs => biF .max vs) (ob (evsF ih r args) fun vs => biF .abs vs) (ob (evsF ih r args) fun vs => biF .int vs)
theorem evbF_eq (ih : EvFn) (r : Rho) (b : Bi) (args : List Ex) : evbF ih r b args = evBi ih r b args := by
  have other : ∀ b : Bi, (ob (evsF ih r args) fun vs => biF b vs) = match evs ih r args with | some vs => biV b vs | .none => .none := fun b => by
    rw [evsF_eq]
    cases evs ih r args with
    | none => rfl
    | some vs => exact biF_eq b vs
  cases b with
  | len =>
    match args with
    | [] => rfl
    | [c] =>
      show (ob (cF ih r c) fun v => biF .len [v]) = match evC ih r c with | some v => biV .len [v] | .none => .none
      rw [cF_eq]
      cases evC ih r c with
      | none => rfl
      | some v => exact biF_eq .len [v]
    | _ :: _ :: _ => rfl
  | list => exact other .list
  | sum => exact other .sum
  | max => exact other .max
  | abs => exact other .abs
  | int => exact other .int
noncomputable def esubF (ih : EvFn) (r : Rho) (c i : Ex) : Option V := ob (cF ih r c) fun x => ob (ih r i) fun y => subVF x y
theorem esubF_eq (ih : EvFn) (r : Rho) (c i : Ex) : esubF ih r c i = evSub ih r c i := by
  unfold esubF evSub
  rw [cF_eq]
  cases evC ih r c with
  | none => rfl
  | some x =>
    show (ob (ih r i) fun y => subVF x y) = match ih r i with | some y => subV x y | .none => .none
    cases ih r i with
    | none => rfl
    | some y => exact subVF_eq x y
noncomputable def tupF (ih : EvFn) (r : Rho) (es : List Ex) : Option V := ob (evsF ih r es) fun vs => iB (few (lenF vs)) (some (.tup vs)) .none
theorem tupF_eq (ih : EvFn) (r : Rho) (es : List Ex) : tupF ih r es = evTup ih r es := by
  unfold tupF evTup
  rw [evsF_eq]
  cases evs ih r es with
  | none => rfl
  | some vs =>
    show iB (few (lenF vs)) (some (V.tup vs)) .none = match few vs.length with | true => some (V.tup vs) | false => .none
    rw [lenF_eq]
    cases few vs.length <;> rfl
noncomputable def lstF (ih : EvFn) (r : Rho) (es : List Ex) : Option V := ob (evsF ih r es) fun vs => iB (few (lenF vs)) (some (.list vs)) .none
theorem lstF_eq (ih : EvFn) (r : Rho) (es : List Ex) : lstF ih r es = evLst ih r es := by
  unfold lstF evLst
  rw [evsF_eq]
  cases evs ih r es with
  | none => rfl
  | some vs =>
    show iB (few (lenF vs)) (some (V.list vs)) .none = match few vs.length with | true => some (V.list vs) | false => .none
    rw [lenF_eq]
    cases few vs.length <;> rfl
noncomputable def srcF (k : SrK) (vs : List V) : Option (List V) := SrK.casesOn (motive := fun _ => Option (List V)) k (srcV .list vs)
  (List.casesOn (motive := fun _ => Option (List V)) vs .none fun x t => List.casesOn (motive := fun _ => Option (List V)) t (onInt x fun b => iB (few b.natAbs) (some (rangeF 1 (cntUp 0 b) 0)) .none) fun _ _ => srcV .range vs)
  (List.casesOn (motive := fun _ => Option (List V)) vs .none fun x t => List.casesOn (motive := fun _ => Option (List V)) t (onList x fun l => iB (few (lenF l)) (some (enumF l 0)) .none) fun _ _ => srcV .enum vs) (srcV .zip vs)
theorem srcF_eq (k : SrK) (vs : List V) : srcF k vs = srcV k vs := by
  cases k with
  | list => rfl
  | zip => rfl
  | range =>
    match vs with
    | [] => rfl
    | [x] =>
      cases x <;> try rfl
      rename_i b
      show iB (few b.natAbs) (some (rangeF 1 (cntUp 0 b) 0)) .none = match few b.natAbs with | true => some (rangeV 0 1 (cntUp 0 b)) | false => .none
      rw [rangeF_eq]
      cases few b.natAbs <;> rfl
    | _ :: _ :: _ => rfl
  | enum =>
    match vs with
    | [] => rfl
    | [x] =>
      cases x <;> try rfl
      rename_i l
      show iB (few (lenF l)) (some (enumF l 0)) .none = match few l.length with | true => some (enumV 0 l) | false => .none
      rw [enumF_eq, lenF_eq]
      cases few l.length <;> rfl
    | _ :: _ :: _ => rfl
noncomputable def compF (ih : EvFn) (r : Rho) (elt : Ex) (tg : Tg) (k : SrK) (args : List Ex) (fv : List Nat) : Option V := ob (evsF ih r args) fun vs => ob (srcF k vs) fun items => ob (mapF ih elt tg (pickF r fv) items) fun l => some (.list l)
theorem compF_eq (ih : EvFn) (r : Rho) (elt : Ex) (tg : Tg) (k : SrK) (args : List Ex) (fv : List Nat) : compF ih r elt tg k args fv = evComp ih r elt tg k args fv := by
  unfold compF evComp
  rw [evsF_eq]
  cases evs ih r args with
  | none => rfl
  | some vs =>
    show (ob (srcF k vs) fun items => ob (mapF ih elt tg (pickF r fv) items) fun l => some (V.list l)) = match srcV k vs with | some items => (match mapE ih elt tg (pick r fv) items with | some l => some (V.list l) | .none => .none) | .none => .none
    rw [srcF_eq]
    cases srcV k vs with
    | none => rfl
    | some items =>
      show (ob (mapF ih elt tg (pickF r fv) items) fun l => some (V.list l)) = match mapE ih elt tg (pick r fv) items with | some l => some (V.list l) | .none => .none
      rw [mapF_eq, pickF_eq]
      cases mapE ih elt tg (pick r fv) items <;> rfl
noncomputable def negF (ih : EvFn) (r : Rho) (e : Ex) : Option V := ob (ih r e) fun x => onInt x fun i => some (.int (negZ i))
theorem negF_eq (ih : EvFn) (r : Rho) (e : Ex) : negF ih r e = evNeg ih r e := by
  unfold negF evNeg
  cases ih r e with
  | none => rfl
  | some x =>
    cases x <;> try rfl
    rename_i i
    show some (V.int (negZ i)) = some (V.int (-i))
    rw [negZ_eq]
noncomputable def stepF (Φ : Nat → List V → Option V) (ih : EvFn) (t : Rho → Ex → Option Bool) (r : Rho) (e : Ex) : Option V :=
  Ex.casesOn (motive_1 := fun _ => Option V) e (fun i _ => some (.int i)) (fun b _ => some (.bool b)) (fun _ => some .none) (fun i _ => nameF r i) (fun o a b _ => binF ih r o a b) (fun e _ => negF ih r e) (fun o a b _ => cmpF ih r o a b) (fun _ _ _ => .none)
    (fun c a b _ => iteF ih t r c a b) (fun f fr _ args _ => callF Φ ih r f fr args) (fun b _ args _ => evbF ih r b args) (fun c i _ => esubF ih r c i) (fun c e _ _ => evTo ih r c e) (fun c e _ _ => evFrom ih r c e) (fun c _ _ _ _ => evRev ih r c) (fun es _ _ => tupF ih r es) (fun es _ => lstF ih r es)
    (fun elt tg k _ args _ _ fv _ => compF ih r elt tg k args fv)
theorem stepF_eq (Φ : Nat → List V → Option V) (ih : EvFn) (t : Rho → Ex → Option Bool) (r : Rho) (e : Ex) : stepF Φ ih t r e = evStep Φ ih t r e := by
  cases e with
  | name i p => exact nameF_eq r i
  | bin o a b p => exact binF_eq ih r o a b
  | neg e p => exact negF_eq ih r e
  | cmp o a b p => exact cmpF_eq ih r o a b
  | ite c a b p => exact iteF_eq ih t r c a b
  | call f fr pf args p => exact callF_eq Φ ih r f fr args
  | bi b pf args p => exact evbF_eq ih r b args
  | sub c i p => exact esubF_eq ih r c i
  | tup es k p => exact tupF_eq ih r es
  | lst es p => exact lstF_eq ih r es
  | comp elt tg k pf args ps sc fv p => exact compF_eq ih r elt tg k args fv
  | _ => rfl
noncomputable def tcmpF (ih : EvFn) (r : Rho) (o : Cop) (a b : Ex) : Option Bool := ob (ih r a) fun x => ob (ih r b) fun y => copF o x y
noncomputable def tstF (ih : EvFn) (t : Rho → Ex → Option Bool) (r : Rho) (e : Ex) : Option Bool :=
  Ex.casesOn (motive_1 := fun _ => Option Bool) e (fun _ _ => .none) (fun _ _ => .none) (fun _ => .none) (fun _ _ => .none) (fun _ _ _ _ => .none) (fun _ _ => .none) (fun o a b _ => tcmpF ih r o a b) (fun a es _ => allF t r a es)
    (fun _ _ _ _ => .none) (fun _ _ _ _ _ => .none) (fun _ _ _ _ => .none) (fun _ _ _ => .none) (fun _ _ _ _ => .none) (fun _ _ _ _ => .none) (fun _ _ _ _ _ => .none) (fun _ _ _ => .none) (fun _ _ => .none) (fun _ _ _ _ _ _ _ _ _ => .none)
theorem tstF_eq (ih : EvFn) (t : Rho → Ex → Option Bool) (r : Rho) (e : Ex) : tstF ih t r e = tstStep ih t r e := by
  cases e with
  | cmp o a b p =>
    show tcmpF ih r o a b = tsCmp ih r o a b
    unfold tcmpF tsCmp
    cases ih r a with
    | none => rfl
    | some x => cases ih r b with
      | none => rfl
      | some y => exact copF_eq o x y
  | bo a es p => exact allF_eq t r a es
  | _ => rfl
noncomputable def bothF (Φ : Nat → List V → Option V) (n : Nat) : Both := Nat.rec (motive := fun _ => Both) ⟨fun _ _ => .none, fun _ _ => .none⟩ (fun _ b => ⟨stepF Φ b.e b.t, tstF b.e b.t⟩) n
theorem bothF_eq (Φ : Nat → List V → Option V) : ∀ n, bothF Φ n = both Φ n
  | 0 => rfl
  | n + 1 => by
    show (⟨stepF Φ (bothF Φ n).e (bothF Φ n).t, tstF (bothF Φ n).e (bothF Φ n).t⟩ : Both) = ⟨evStep Φ (both Φ n).e (both Φ n).t, tstStep (both Φ n).e (both Φ n).t⟩
    rw [bothF_eq Φ n]
    congr 1
    · funext r e; exact stepF_eq _ _ _ _ _
    · funext r e; exact tstF_eq _ _ _ _
end Mine
end
section
open PySem
set_option maxRecDepth 4000
namespace Mine

/-! expressions turned into functions once: the kernel keeps what it has turned -/
structure D2 where
  e : Rho → Option V
  t : Rho → Option Bool
  n : Option Nat
noncomputable def noT : Rho → Option Bool := fun _ => .none
noncomputable def dL (l : List D2) (r : Rho) : Option (List V) := List.rec (motive := fun _ => Option (List V)) (some []) (fun d _ rc => ob (d.e r) fun v => ob rc fun vs => some (v :: vs)) l
noncomputable def dAll (a : Bool) (l : List D2) (r : Rho) : Option Bool := List.rec (motive := fun _ => Option Bool) (some a) (fun d _ rc => ob (d.t r) fun c => iB c (iB a rc (some true)) (iB a (some false) rc)) l
noncomputable def dMap (d : D2) (tg : Tg) (r : Rho) (xs : List V) : Option (List V) := List.rec (motive := fun _ => Option (List V)) (some []) (fun x _ rc => ob (bindF tg r x) fun r' => ob (d.e r') fun v => ob rc fun vs => some (v :: vs)) xs
noncomputable def dC (d : D2) (r : Rho) : Option V := Option.rec (motive := fun _ => Option V) (d.e r) (fun i => ob (getF r i) fun s => some (slF s)) d.n
noncomputable def dBi (b : Bi) (l : List D2) (r : Rho) : Option V := Bi.casesOn (motive := fun _ => Option V) b
  (List.casesOn (motive := fun _ => Option V) l .none fun d t => List.casesOn (motive := fun _ => Option V) t (ob (dC d r) fun v => biF .len [v]) fun _ _ => ob (dL l r) fun vs => biF .len vs)
  (ob (dL l r) fun vs => biF .list vs) (ob (dL l r) fun vs => biF .sum vs) (ob (dL l r) fun vs => biF .max vs) (ob (dL l r) fun vs => biF .abs vs) (ob (dL l r) fun vs => biF .int vs)
noncomputable def mInt (i : Int) (_ : Pos) : D2 := ⟨fun _ => some (.int i), noT, .none⟩
noncomputable def mBool (b : Bool) (_ : Pos) : D2 := ⟨fun _ => some (.bool b), noT, .none⟩
noncomputable def mNon (_ : Pos) : D2 := ⟨fun _ => some .none, noT, .none⟩
noncomputable def mName (i : Nat) (_ : Pos) : D2 := ⟨fun r => nameF r i, noT, some i⟩
noncomputable def mBin (o : Bop) (_ _ : Ex) (_ : Pos) (a b : D2) : D2 := ⟨fun r => ob (a.e r) fun x => ob (b.e r) fun y => bopF o x y, noT, .none⟩
noncomputable def mNeg (_ : Ex) (_ : Pos) (a : D2) : D2 := ⟨fun r => ob (a.e r) fun x => onInt x fun i => some (.int (negZ i)), noT, .none⟩
noncomputable def mCmp (o : Cop) (_ _ : Ex) (_ : Pos) (a b : D2) : D2 := ⟨fun r => ob (a.e r) fun x => ob (b.e r) fun y => ob (copF o x y) fun c => some (.bool c), fun r => ob (a.e r) fun x => ob (b.e r) fun y => copF o x y, .none⟩
noncomputable def mBo (a : Bool) (_ : List Ex) (_ : Pos) (l : List D2) : D2 := ⟨fun _ => .none, fun r => dAll a l r, .none⟩
noncomputable def mIte (_ _ _ : Ex) (_ : Pos) (c a b : D2) : D2 := ⟨fun r => ob (c.t r) fun z => iB z (a.e r) (b.e r), noT, .none⟩
noncomputable def mCall (Φ : Nat → List V → Option V) (f : Nat) (fr : Bool) (_ : Pos) (_ : List Ex) (_ : Pos) (l : List D2) : D2 := ⟨fun r => iB fr (ob (dL l (frzF r)) fun vs => ob (Φ f vs) fun v => iB (atomic v) (some v) .none) (ob (dL l r) fun vs => Φ f vs), noT, .none⟩
noncomputable def mBi (b : Bi) (_ : Pos) (_ : List Ex) (_ : Pos) (l : List D2) : D2 := ⟨fun r => dBi b l r, noT, .none⟩
noncomputable def mSub (_ _ : Ex) (_ : Pos) (c i : D2) : D2 := ⟨fun r => ob (dC c r) fun x => ob (i.e r) fun y => subVF x y, noT, .none⟩
noncomputable def mTo (_ _ : Ex) (_ _ : Pos) (c i : D2) : D2 := ⟨fun r => ob (dC c r) fun x => onList x fun l => ob (i.e r) fun y => onInt y fun k => iB (few l.length) (some (.list (l.take (clip k l.length)))) .none, noT, .none⟩
noncomputable def mFrom (_ _ : Ex) (_ _ : Pos) (c i : D2) : D2 := ⟨fun r => ob (dC c r) fun x => onList x fun l => ob (i.e r) fun y => onInt y fun k => iB (few l.length) (some (.list (l.drop (clip k l.length)))) .none, noT, .none⟩
noncomputable def mRev (_ : Ex) (_ _ _ _ : Pos) (c : D2) : D2 := ⟨fun r => ob (dC c r) fun x => onList x fun l => iB (few l.length) (some (.list l.reverse)) .none, noT, .none⟩
noncomputable def mTup (_ : List Ex) (_ : Nat) (_ : Pos) (l : List D2) : D2 := ⟨fun r => ob (dL l r) fun vs => iB (few (lenF vs)) (some (.tup vs)) .none, noT, .none⟩
noncomputable def mLst (_ : List Ex) (_ : Pos) (l : List D2) : D2 := ⟨fun r => ob (dL l r) fun vs => iB (few (lenF vs)) (some (.list vs)) .none, noT, .none⟩
noncomputable def mComp (_ : Ex) (tg : Tg) (k : SrK) (_ : Pos) (_ : List Ex) (_ : Pos) (_ : List (Nat × NameKind)) (fv : List Nat) (_ : Pos) (d : D2) (l : List D2) : D2 := ⟨fun r => ob (dL l r) fun vs => ob (srcF k vs) fun items => ob (dMap d tg (pickF r fv) items) fun l => some (.list l), noT, .none⟩
noncomputable def den (Φ : Nat → List V → Option V) (e : Ex) : D2 := Ex.rec (motive_1 := fun _ => D2) (motive_2 := fun _ => List D2) mInt mBool mNon mName mBin mNeg mCmp mBo mIte (mCall Φ) mBi mSub mTo mFrom mRev mTup mLst mComp [] (fun _ _ d l => d :: l) e
noncomputable def denL (Φ : Nat → List V → Option V) (es : List Ex) : List D2 := Ex.rec_1 (motive_1 := fun _ => D2) (motive_2 := fun _ => List D2) mInt mBool mNon mName mBin mNeg mCmp mBo mIte (mCall Φ) mBi mSub mTo mFrom mRev mTup mLst mComp [] (fun _ _ d l => d :: l) es

theorem mapE_congr {ih : EvFn} {elt : Ex} {d : D2} (h : ∀ r, ih r elt = d.e r) (tg : Tg) (r : Rho) : ∀ xs : List V, mapF ih elt tg r xs = dMap d tg r xs
  | [] => rfl
  | x :: xs => by
    show (ob (bindF tg r x) fun r' => ob (ih r' elt) fun v => ob (mapF ih elt tg r xs) fun vs => some (v :: vs)) = ob (bindF tg r x) fun r' => ob (d.e r') fun v => ob (dMap d tg r xs) fun vs => some (v :: vs)
    rw [mapE_congr h tg r xs]
    congr 1
    funext r'
    rw [h]
theorem den_n (Φ : Nat → List V → Option V) (e : Ex) : (den Φ e).n = nmF e := by cases e <;> rfl
section
variable {Φ : Nat → List V → Option V} {k : Nat}
theorem dC_eq {c : Ex} (h : ∀ r, (both Φ k).e r c = (den Φ c).e r) (r : Rho) : evC (both Φ k).e r c = dC (den Φ c) r := by
  rw [← cF_eq]
  unfold cF dC
  rw [den_n, h]
mutual
theorem den_ok (Φ : Nat → List V → Option V) : ∀ (e : Ex) (n : Nat), dep e ≤ n → (∀ r, (both Φ n).e r e = (den Φ e).e r) ∧ ∀ r, (both Φ n).t r e = (den Φ e).t r
  | .int i p, n, h => by
    obtain ⟨k, rfl⟩ : ∃ k, n = k + 1 := ⟨n - 1, by simp only [dep] at h; omega⟩
    exact ⟨fun r => rfl, fun r => rfl⟩
  | .bool b p, n, h => by
    obtain ⟨k, rfl⟩ : ∃ k, n = k + 1 := ⟨n - 1, by simp only [dep] at h; omega⟩
    exact ⟨fun r => rfl, fun r => rfl⟩
  | .non p, n, h => by
    obtain ⟨k, rfl⟩ : ∃ k, n = k + 1 := ⟨n - 1, by simp only [dep] at h; omega⟩
    exact ⟨fun r => rfl, fun r => rfl⟩
  | .name i p, n, h => by
    obtain ⟨k, rfl⟩ : ∃ k, n = k + 1 := ⟨n - 1, by simp only [dep] at h; omega⟩
    exact ⟨fun r => (nameF_eq r i).symm, fun r => rfl⟩
  | .bin o a b p, n, h => by
    obtain ⟨k, rfl⟩ : ∃ k, n = k + 1 := ⟨n - 1, by simp only [dep] at h; omega⟩
    simp only [dep] at h
    have ha := (den_ok Φ a k (by omega)).1
    have hb := (den_ok Φ b k (by omega)).1
    refine ⟨fun r => ?_, fun r => rfl⟩
    refine (binF_eq (both Φ k).e r o a b).symm.trans ?_
    unfold binF
    rw [ha, hb]; rfl
  | .neg a p, n, h => by
    obtain ⟨k, rfl⟩ : ∃ k, n = k + 1 := ⟨n - 1, by simp only [dep] at h; omega⟩
    simp only [dep] at h
    have ha := (den_ok Φ a k (by omega)).1
    refine ⟨fun r => ?_, fun r => rfl⟩
    refine (negF_eq (both Φ k).e r a).symm.trans ?_
    unfold negF
    rw [ha]; rfl
  | .cmp o a b p, n, h => by
    obtain ⟨k, rfl⟩ : ∃ k, n = k + 1 := ⟨n - 1, by simp only [dep] at h; omega⟩
    simp only [dep] at h
    have ha := (den_ok Φ a k (by omega)).1
    have hb := (den_ok Φ b k (by omega)).1
    refine ⟨fun r => ?_, fun r => ?_⟩
    · refine (cmpF_eq (both Φ k).e r o a b).symm.trans ?_
      unfold cmpF
      rw [ha, hb]; rfl
    · refine (tstF_eq (both Φ k).e (both Φ k).t r (.cmp o a b p)).symm.trans ?_
      show tcmpF (both Φ k).e r o a b = _
      unfold tcmpF
      rw [ha, hb]; rfl
  | .bo a es p, n, h => by
    obtain ⟨k, rfl⟩ : ∃ k, n = k + 1 := ⟨n - 1, by simp only [dep] at h; omega⟩
    simp only [dep] at h
    exact ⟨fun r => rfl, fun r => (denL_ok Φ es k (by omega)).2 a r⟩
  | .ite c a b p, n, h => by
    obtain ⟨k, rfl⟩ : ∃ k, n = k + 1 := ⟨n - 1, by simp only [dep] at h; omega⟩
    simp only [dep] at h
    have hc := (den_ok Φ c k (by omega)).2
    have ha := (den_ok Φ a k (by omega)).1
    have hb := (den_ok Φ b k (by omega)).1
    refine ⟨fun r => ?_, fun r => rfl⟩
    refine (iteF_eq (both Φ k).e (both Φ k).t r c a b).symm.trans ?_
    unfold iteF
    rw [ha, hb, hc]; rfl
  | .call f fr pf args p, n, h => by
    obtain ⟨k, rfl⟩ : ∃ k, n = k + 1 := ⟨n - 1, by simp only [dep] at h; omega⟩
    simp only [dep] at h
    have hl := (denL_ok Φ args k (by omega)).1
    refine ⟨fun r => ?_, fun r => rfl⟩
    refine (callF_eq Φ (both Φ k).e r f fr args).symm.trans ?_
    unfold callF
    rw [evsF_eq, evsF_eq, hl, hl]; rfl
  | .bi b pf args p, n, h => by
    obtain ⟨k, rfl⟩ : ∃ k, n = k + 1 := ⟨n - 1, by simp only [dep] at h; omega⟩
    simp only [dep] at h
    have hl := (denL_ok Φ args k (by omega)).1
    refine ⟨fun r => ?_, fun r => rfl⟩
    have other : ∀ b : Bi, (match evs (both Φ k).e r args with | some vs => biV b vs | .none => .none) = ob (dL (denL Φ args) r) fun vs => biF b vs := fun b => by
      rw [hl]
      cases dL (denL Φ args) r with
      | none => rfl
      | some vs => exact (biF_eq b vs).symm
    cases b with
    | len =>
      match args, hl with
      | [], _ => rfl
      | [c], _ =>
        simp only [depL] at h
        have hc := dC_eq (den_ok Φ c k (by omega)).1 r
        show (match evC (both Φ k).e r c with | some v => biV .len [v] | .none => .none) = ob (dC (den Φ c) r) fun v => biF .len [v]
        rw [hc]
        cases dC (den Φ c) r with
        | none => rfl
        | some v => exact (biF_eq .len [v]).symm
      | c :: c2 :: t, hl =>
        show (match evs (both Φ k).e r (c :: c2 :: t) with | some vs => biV .len vs | .none => .none) = ob (dL (denL Φ (c :: c2 :: t)) r) fun vs => biF .len vs
        rw [hl]
        cases dL (denL Φ (c :: c2 :: t)) r with
        | none => rfl
        | some vs => exact (biF_eq .len vs).symm
    | list => exact other .list
    | sum => exact other .sum
    | max => exact other .max
    | abs => exact other .abs
    | int => exact other .int
  | .sub c i p, n, h => by
    obtain ⟨k, rfl⟩ : ∃ k, n = k + 1 := ⟨n - 1, by simp only [dep] at h; omega⟩
    simp only [dep] at h
    refine ⟨fun r => ?_, fun r => rfl⟩
    have hc := dC_eq (den_ok Φ c k (by omega)).1 r
    have hi := (den_ok Φ i k (by omega)).1 r
    refine (esubF_eq (both Φ k).e r c i).symm.trans ?_
    unfold esubF
    rw [cF_eq, hc, hi]; rfl
  | .slTo c i ps p, n, h => by
    obtain ⟨k, rfl⟩ : ∃ k, n = k + 1 := ⟨n - 1, by simp only [dep] at h; omega⟩
    simp only [dep] at h
    refine ⟨fun r => ?_, fun r => rfl⟩
    have hc := dC_eq (den_ok Φ c k (by omega)).1 r
    have hi := (den_ok Φ i k (by omega)).1 r
    show evTo (both Φ k).e r c i = ob (dC (den Φ c) r) fun x => onList x fun l => ob ((den Φ i).e r) fun y => onInt y fun k => iB (few l.length) (some (V.list (l.take (clip k l.length)))) .none
    unfold evTo
    rw [hc, hi]
    generalize dC (den Φ c) r = z
    cases z with
    | none => rfl
    | some x =>
      cases x <;> try rfl
      generalize (den Φ i).e r = y
      cases y with
      | none => rfl
      | some y =>
        cases y <;> try rfl
        rename_i l k
        show (match few l.length with | true => (_ : Option V) | false => (.none : Option V)) = iB (few l.length) _ (.none : Option V)
        cases few l.length <;> rfl
  | .slFrom c i ps p, n, h => by
    obtain ⟨k, rfl⟩ : ∃ k, n = k + 1 := ⟨n - 1, by simp only [dep] at h; omega⟩
    simp only [dep] at h
    refine ⟨fun r => ?_, fun r => rfl⟩
    have hc := dC_eq (den_ok Φ c k (by omega)).1 r
    have hi := (den_ok Φ i k (by omega)).1 r
    show evFrom (both Φ k).e r c i = ob (dC (den Φ c) r) fun x => onList x fun l => ob ((den Φ i).e r) fun y => onInt y fun k => iB (few l.length) (some (V.list (l.drop (clip k l.length)))) .none
    unfold evFrom
    rw [hc, hi]
    generalize dC (den Φ c) r = z
    cases z with
    | none => rfl
    | some x =>
      cases x <;> try rfl
      generalize (den Φ i).e r = y
      cases y with
      | none => rfl
      | some y =>
        cases y <;> try rfl
        rename_i l k
        show (match few l.length with | true => (_ : Option V) | false => (.none : Option V)) = iB (few l.length) _ (.none : Option V)
        cases few l.length <;> rfl
  | .slRev c p1 p2 ps p, n, h => by
    obtain ⟨k, rfl⟩ : ∃ k, n = k + 1 := ⟨n - 1, by simp only [dep] at h; omega⟩
    simp only [dep] at h
    refine ⟨fun r => ?_, fun r => rfl⟩
    have hc := dC_eq (den_ok Φ c k (by omega)).1 r
    show evRev (both Φ k).e r c = ob (dC (den Φ c) r) fun x => onList x fun l => iB (few l.length) (some (V.list l.reverse)) .none
    unfold evRev
    rw [hc]
    generalize dC (den Φ c) r = z
    cases z with
    | none => rfl
    | some x =>
      cases x <;> try rfl
      rename_i l
      show (match few l.length with | true => (_ : Option V) | false => (.none : Option V)) = iB (few l.length) _ (.none : Option V)
      cases few l.length <;> rfl
  | .tup es q p, n, h => by
    obtain ⟨k, rfl⟩ : ∃ k, n = k + 1 := ⟨n - 1, by simp only [dep] at h; omega⟩
    simp only [dep] at h
    have hl := (denL_ok Φ es k (by omega)).1
    refine ⟨fun r => ?_, fun r => rfl⟩
    refine (tupF_eq (both Φ k).e r es).symm.trans ?_
    unfold tupF
    rw [evsF_eq, hl]; rfl
  | .lst es p, n, h => by
    obtain ⟨k, rfl⟩ : ∃ k, n = k + 1 := ⟨n - 1, by simp only [dep] at h; omega⟩
    simp only [dep] at h
    have hl := (denL_ok Φ es k (by omega)).1
    refine ⟨fun r => ?_, fun r => rfl⟩
    refine (lstF_eq (both Φ k).e r es).symm.trans ?_
    unfold lstF
    rw [evsF_eq, hl]; rfl
  | .comp elt tg q pf args ps sc fv p, n, h => by
    obtain ⟨k, rfl⟩ : ∃ k, n = k + 1 := ⟨n - 1, by simp only [dep] at h; omega⟩
    simp only [dep] at h
    have hl := (denL_ok Φ args k (by omega)).1
    have he := (den_ok Φ elt k (by omega)).1
    refine ⟨fun r => ?_, fun r => rfl⟩
    refine (compF_eq (both Φ k).e r elt tg q args fv).symm.trans ?_
    unfold compF
    rw [evsF_eq, hl]
    simp only [mapE_congr he]
    rfl
theorem denL_ok (Φ : Nat → List V → Option V) : ∀ (es : List Ex) (n : Nat), depL es ≤ n → (∀ r, evs (both Φ n).e r es = dL (denL Φ es) r) ∧ ∀ a r, evAll (both Φ n).t r a es = dAll a (denL Φ es) r
  | [], n, h => ⟨fun r => rfl, fun a r => rfl⟩
  | e :: es, n, h => by
    simp only [depL] at h
    have he := den_ok Φ e n (by omega)
    have hs := denL_ok Φ es n (by omega)
    refine ⟨fun r => ?_, fun a r => ?_⟩
    · refine (evsF_eq (both Φ n).e r (e :: es)).symm.trans ?_
      show (ob ((both Φ n).e r e) fun v => ob (evsF (both Φ n).e r es) fun vs => some (v :: vs)) = ob ((den Φ e).e r) fun v => ob (dL (denL Φ es) r) fun vs => some (v :: vs)
      rw [evsF_eq, he.1, hs.1]
    · refine (allF_eq (both Φ n).t r a (e :: es)).symm.trans ?_
      show (ob ((both Φ n).t r e) fun c => iB c (iB a (allF (both Φ n).t r a es) (some true)) (iB a (some false) (allF (both Φ n).t r a es))) = ob ((den Φ e).t r) fun c => iB c (iB a (dAll a (denL Φ es) r) (some true)) (iB a (some false) (dAll a (denL Φ es) r))
      rw [allF_eq, he.2, hs.2]
end
noncomputable def deE (Φ : Nat → List V → Option V) (r : Rho) (e : Ex) : Option V := (den Φ e).e r
noncomputable def deT (Φ : Nat → List V → Option V) (r : Rho) (e : Ex) : Option Bool := (den Φ e).t r
theorem deE_eq (Φ : Nat → List V → Option V) : evD Φ = deE Φ := by
  funext r e
  exact (den_ok Φ e (dep e) (Nat.le_refl _)).1 r
theorem deT_eq (Φ : Nat → List V → Option V) : tsD Φ = deT Φ := by
  funext r e
  exact (den_ok Φ e (dep e) (Nat.le_refl _)).2 r
end
end Mine
end
section
open PySem
set_option maxRecDepth 4000
namespace Mine

noncomputable def storeF (tg : Tg) (r : Rho) (x : V) : Option Rho := Tg.casesOn (motive := fun _ => Option Rho) tg (fun i _ => some (putF r i (.sh x))) (fun i j _ _ _ _ => V.casesOn (motive_1 := fun _ => Option Rho) x (fun _ => .none) (fun _ => .none) .none (fun _ => .none)
  (fun l => List.casesOn (motive := fun _ => Option Rho) l .none fun a t => List.casesOn (motive := fun _ => Option Rho) t .none fun b u => List.casesOn (motive := fun _ => Option Rho) u (some (putF (putF r i (.sh a)) j (.sh b))) fun _ _ => .none))
theorem storeF_eq (tg : Tg) (r : Rho) (x : V) : storeF tg r x = tg.store r x := by
  cases tg with
  | one i p =>
    show some (putF r i (.sh x)) = some (put r i (.sh x))
    rw [putF_eq]
  | two i j pi pj k p =>
    cases x <;> try rfl
    rename_i l
    match l with
    | [] => rfl
    | [_] => rfl
    | [a, b] =>
      show some (putF (putF r i (.sh a)) j (.sh b)) = some (put (put r i (.sh a)) j (.sh b))
      rw [putF_eq, putF_eq]
    | _ :: _ :: _ :: _ => rfl
noncomputable def asgF (ev : EvFn) (r : Rho) (t : Tgt) (v : V) : Option Rho := Tgt.casesOn (motive := fun _ => Option Rho) t (fun i own _ => ob (slotOf own v) fun s => some (putF r i s)) (fun i ix p q => asgT ev r (.item i ix p q) v)
theorem asgF_eq (ev : EvFn) (r : Rho) (t : Tgt) (v : V) : asgF ev r t v = asgT ev r t v := by
  cases t with
  | name i own p =>
    show (ob (slotOf own v) fun s => some (putF r i s)) = match slotOf own v with | some s => some (put r i s) | .none => .none
    cases slotOf own v with
    | none => rfl
    | some s =>
      show some (putF r i s) = some (put r i s)
      rw [putF_eq]
  | item i ix p q => rfl
noncomputable def asgsF (ev : EvFn) (ts : List Tgt) : Rho → List V → Option Rho := List.rec (motive := fun _ => Rho → List V → Option Rho) (fun r vs => List.casesOn (motive := fun _ => Option Rho) vs (some r) fun _ _ => .none)
  (fun t _ rc r vs => List.casesOn (motive := fun _ => Option Rho) vs .none fun v vs => ob (asgF ev r t v) fun r' => rc r' vs) ts
theorem asgsF_eq (ev : EvFn) : ∀ (ts : List Tgt) (r : Rho) (vs : List V), asgsF ev ts r vs = asgTs ev r ts vs
  | [], _, [] => rfl
  | [], _, _ :: _ => rfl
  | _ :: _, _, [] => rfl
  | t :: ts, r, v :: vs => by
    show (ob (asgF ev r t v) fun r' => asgsF ev ts r' vs) = match asgT ev r t v with | some r' => asgTs ev r' ts vs | .none => .none
    rw [asgF_eq]
    cases asgT ev r t v with
    | none => rfl
    | some r' => exact asgsF_eq ev ts r' vs
noncomputable def onRes (x : Option Res) (f : Rho → Option Res) : Option Res := ob x fun q => Res.casesOn (motive := fun _ => Option Res) q f fun v => some (.ret v)
noncomputable def wF (t : Rho → Option Bool) (b : Rho → Option Res) (n : Nat) : Rho → Option Res := Nat.rec (motive := fun _ => Rho → Option Res) (fun _ => .none) (fun _ rc r => ob (t r) fun c => iB c (onRes (b r) rc) (some (.next r))) n
theorem wF_eq (t : Rho → Option Bool) (b : Rho → Option Res) : ∀ (n : Nat) (r : Rho), wF t b n r = wloop t b n r
  | 0, _ => rfl
  | n + 1, r => by
    show (ob (t r) fun c => iB c (onRes (b r) (wF t b n)) (some (.next r))) = match t r with | some true => (match b r with | some (.next r') => wloop t b n r' | some (.ret v) => some (.ret v) | .none => .none) | some false => some (.next r) | .none => .none
    cases t r with
    | none => rfl
    | some c => cases c with
      | false => rfl
      | true =>
        show onRes (b r) (wF t b n) = match b r with | some (.next r') => wloop t b n r' | some (.ret v) => some (.ret v) | .none => .none
        cases b r with
        | none => rfl
        | some q => cases q with
          | next r' => exact wF_eq t b n r'
          | ret v => rfl
noncomputable def fF (tg : Tg) (b : Rho → Option Res) (xs : List V) : Rho → Option Res := List.rec (motive := fun _ => Rho → Option Res) (fun r => some (.next r)) (fun x _ rc r => ob (storeF tg r x) fun r₁ => onRes (b r₁) rc) xs
theorem fF_eq (tg : Tg) (b : Rho → Option Res) : ∀ (xs : List V) (r : Rho), fF tg b xs r = floop tg b xs r
  | [], _ => rfl
  | x :: xs, r => by
    show (ob (storeF tg r x) fun r₁ => onRes (b r₁) (fF tg b xs)) = match tg.store r x with | some r₁ => (match b r₁ with | some (.next r') => floop tg b xs r' | some (.ret v) => some (.ret v) | .none => .none) | .none => .none
    rw [storeF_eq]
    cases tg.store r x with
    | none => rfl
    | some r₁ =>
      show onRes (b r₁) (fF tg b xs) = match b r₁ with | some (.next r') => floop tg b xs r' | some (.ret v) => some (.ret v) | .none => .none
      cases b r₁ with
      | none => rfl
      | some q => cases q with
        | next r' => exact fF_eq tg b xs r'
        | ret v => rfl
noncomputable def f1 (ev : EvFn) (r : Rho) (t : Tgt) (e : Ex) : Option Res := ob (ev r e) fun v => ob (asgF ev r t v) fun r' => some (.next r')
theorem f1_eq (ev : EvFn) (r : Rho) (t : Tgt) (e : Ex) : f1 ev r t e = sAsg1 ev r t e := by
  unfold f1 sAsg1
  cases ev r e with
  | none => rfl
  | some v =>
    show (ob (asgF ev r t v) fun r' => some (Res.next r')) = match asgT ev r t v with | some r' => some (.next r') | .none => .none
    rw [asgF_eq]
    cases asgT ev r t v <;> rfl
noncomputable def fD (ev : EvFn) (r : Rho) (ts : List Tgt) (es : List Ex) : Option Res := ob (evsF ev r es) fun vs => ob (asgsF ev ts r vs) fun r' => some (.next r')
theorem fD_eq (ev : EvFn) (r : Rho) (ts : List Tgt) (es : List Ex) : fD ev r ts es = sAsgD ev r ts es := by
  unfold fD sAsgD
  rw [evsF_eq]
  cases evs ev r es with
  | none => rfl
  | some vs =>
    show (ob (asgsF ev ts r vs) fun r' => some (Res.next r')) = match asgTs ev r ts vs with | some r' => some (.next r') | .none => .none
    rw [asgsF_eq]
    cases asgTs ev r ts vs <;> rfl
noncomputable def fI (t : Rho → Ex → Option Bool) (ih : StFn) (r : Rho) (c : Ex) (b1 b2 : List St) : Option Res := ob (t r c) fun z => iB z (ih r b1) (ih r b2)
theorem fI_eq (t : Rho → Ex → Option Bool) (ih : StFn) (r : Rho) (c : Ex) (b1 b2 : List St) : fI t ih r c b1 b2 = sIfs t ih r c b1 b2 := by
  unfold fI sIfs
  cases t r c with
  | none => rfl
  | some z => cases z <;> rfl
noncomputable def fFor (ev : EvFn) (ih : StFn) (r : Rho) (tg : Tg) (k : SrK) (args : List Ex) (b : List St) : Option Res := ob (evsF ev r args) fun vs => ob (srcF k vs) fun items => fF tg (fun r => ih r b) items r
theorem fFor_eq (ev : EvFn) (ih : StFn) (r : Rho) (tg : Tg) (k : SrK) (args : List Ex) (b : List St) : fFor ev ih r tg k args b = sFor ev ih r tg k args b := by
  unfold fFor sFor
  rw [evsF_eq]
  cases evs ev r args with
  | none => rfl
  | some vs =>
    show (ob (srcF k vs) fun items => fF tg (fun r => ih r b) items r) = match srcV k vs with | some items => floop tg (fun r => ih r b) items r | .none => .none
    rw [srcF_eq]
    cases srcV k vs with
    | none => rfl
    | some items => exact fF_eq _ _ _ _
noncomputable def fRet (ev : EvFn) (r : Rho) (e : Ex) : Option Res := ob (ev (frzF r) e) fun v => some (.ret v)
theorem fRet_eq (ev : EvFn) (r : Rho) (e : Ex) : fRet ev r e = sRet ev r e := by
  unfold fRet sRet
  rw [frzF_eq]
  cases ev (frz r) e <;> rfl
noncomputable def fApp (ev : EvFn) (r : Rho) (i : Nat) (e : Ex) : Option Res := Option.rec (motive := fun _ => Option Res)
  (ob (getF r i) fun s => Sl.casesOn (motive := fun _ => Option Res) s (fun _ => .none) fun l => iB (few (lenF l)) (ob (ev r e) fun v => some (.next (putF r i (.ow (appF l [v]))))) .none) (fun _ => sApp ev r i e) (nmF e)
theorem fApp_eq (ev : EvFn) (r : Rho) (i : Nat) (e : Ex) : fApp ev r i e = sApp ev r i e := by
  have go : (∀ j p, e ≠ .name j p) → (ob (getF r i) fun s => Sl.casesOn (motive := fun _ => Option Res) s (fun _ => .none) fun l => iB (few (lenF l)) (ob (ev r e) fun v => some (.next (putF r i (.ow (appF l [v]))))) .none) = sApp ev r i e := fun hn => by
    unfold sApp
    rw [getF_eq]
    cases get r i with
    | none => rfl
    | some s => cases s with
      | sh v => rfl
      | ow l =>
        show iB (few (lenF l)) (ob (ev r e) fun v => some (Res.next (putF r i (.ow (appF l [v]))))) .none = _
        rw [lenF_eq]
        dsimp only
        cases few l.length with
        | false => rfl
        | true =>
          show (ob (ev r e) fun v => some (Res.next (putF r i (.ow (appF l [v]))))) = _
          have : ∀ v, putF r i (.ow (appF l [v])) = put r i (.ow (l ++ [v])) := fun v => by rw [putF_eq, appF_eq]
          simp only [this]
          cases e <;> first | (rename_i j p; exact absurd rfl (hn j p)) | (generalize ev r _ = z; cases z <;> rfl)
  cases e with
  | name j p => rfl
  | _ => exact go (fun _ _ z => by cases z)
noncomputable def stF (Ψ : Nat → List V → List V → Option (List V)) (ev : EvFn) (t : Rho → Ex → Option Bool) (ih : StFn) (r : Rho) (s : St) : Option Res :=
  St.casesOn (motive_1 := fun _ => Option Res) s (fun tg e _ => f1 ev r tg e) (fun ts _ _ es _ _ _ => fD ev r ts es) (fun ts _ _ e _ => sAsgU ev r ts e) (fun i _ o e _ => sAug ev r i o e) (fun i _ _ e _ _ => fApp ev r i e) (fun f _ i _ es _ _ => sInout Ψ ev r f i es)
    (fun c b1 b2 _ => fI t ih r c b1 b2) (fun c b _ => wF (fun r => t r c) (fun r => ih r b) 4096 r) (fun tg k _ args _ b _ => fFor ev ih r tg k args b) (fun e _ => fRet ev r e) (fun e _ => sEx ev r e) (fun _ => .none)
theorem stF_eq (Ψ : Nat → List V → List V → Option (List V)) (ev : EvFn) (t : Rho → Ex → Option Bool) (ih : StFn) (r : Rho) (s : St) : stF Ψ ev t ih r s = stStep Ψ ev t ih r s := by
  cases s with
  | asg1 tg e p => exact f1_eq ev r tg e
  | asgD ts kt pt es ke pe p => exact fD_eq ev r ts es
  | app i pn pa e pc p => exact fApp_eq ev r i e
  | ifs c b1 b2 p => exact fI_eq t ih r c b1 b2
  | wh c b p => exact wF_eq (fun r => t r c) (fun r => ih r b) 4096 r
  | fr tg k pf args ps b p => exact fFor_eq ev ih r tg k args b
  | ret e p => exact fRet_eq ev r e
  | _ => rfl
noncomputable def xF (st : Rho → St → Option Res) (ss : List St) : Rho → Option Res := List.rec (motive := fun _ => Rho → Option Res) (fun r => some (.next r)) (fun s _ rc r => onRes (st r s) rc) ss
theorem xF_eq (st : Rho → St → Option Res) : ∀ (ss : List St) (r : Rho), xF st ss r = exs st r ss
  | [], _ => rfl
  | s :: ss, r => by
    show onRes (st r s) (xF st ss) = match st r s with | some (.next r') => exs st r' ss | some (.ret v) => some (.ret v) | .none => .none
    cases st r s with
    | none => rfl
    | some q => cases q with
      | next r' => exact xF_eq st ss r'
      | ret v => rfl
noncomputable def runF (Φ : Nat → List V → Option V) (Ψ : Nat → List V → List V → Option (List V)) (n : Nat) : StFn := Nat.rec (motive := fun _ => StFn) (fun _ _ => .none) (fun _ ih r ss => xF (stF Ψ (deE Φ) (deT Φ) ih) ss r) n
theorem runF_eq (Φ : Nat → List V → Option V) (Ψ : Nat → List V → List V → Option (List V)) : ∀ n, runF Φ Ψ n = run Φ Ψ n
  | 0 => rfl
  | n + 1 => by
    funext r ss
    show xF (stF Ψ (deE Φ) (deT Φ) (runF Φ Ψ n)) ss r = exs (stStep Ψ (evD Φ) (tsD Φ) (run Φ Ψ n)) r ss
    rw [xF_eq, runF_eq Φ Ψ n, deE_eq, deT_eq]
    congr 1
    funext r s
    exact stF_eq _ _ _ _ _ _
noncomputable def parF (ps : List Nat) : List V → Option Rho := List.rec (motive := fun _ => List V → Option Rho) (fun xs => List.casesOn (motive := fun _ => Option Rho) xs (some []) fun _ _ => .none) (fun i _ rc xs => List.casesOn (motive := fun _ => Option Rho) xs .none fun x t => ob (rc t) fun r => some ((i, .sh x) :: r)) ps
theorem parF_eq : ∀ (ps : List Nat) (xs : List V), parF ps xs = par ps xs
  | [], [] => rfl
  | [], _ :: _ => rfl
  | _ :: _, [] => rfl
  | i :: ps, x :: xs => by
    show (ob (parF ps xs) fun r => some ((i, Sl.sh x) :: r)) = match par ps xs with | some r => some ((i, .sh x) :: r) | .none => .none
    rw [parF_eq ps xs]
    cases par ps xs <;> rfl
noncomputable def cvF (Φ : Nat → List V → Option V) (Ψ : Nat → List V → List V → Option (List V)) (ps : List Nat) (b : List St) (xs : List V) : Option V := ob (parF ps xs) fun r => ob (runF Φ Ψ 12 r b) fun q => Res.casesOn (motive := fun _ => Option V) q (fun _ => some .none) (fun v => some v)
theorem cvF_eq (Φ : Nat → List V → Option V) (Ψ : Nat → List V → List V → Option (List V)) (ps : List Nat) (b : List St) (xs : List V) : cvF Φ Ψ ps b xs = callV Φ Ψ ps b xs := by
  unfold cvF callV
  rw [parF_eq, runF_eq]
  cases par ps xs with
  | none => rfl
  | some r =>
    show (ob (run Φ Ψ 12 r b) fun q => Res.casesOn (motive := fun _ => Option V) q (fun _ => some .none) (fun v => some v)) = match run Φ Ψ 12 r b with | some (.ret v) => some v | some (.next _) => some .none | .none => .none
    cases run Φ Ψ 12 r b with
    | none => rfl
    | some q => cases q <;> rfl
noncomputable def ppF (t : List Fd) : PP := List.rec (motive := fun _ => PP) ⟨fun _ _ => .none, fun _ _ _ => .none⟩ (fun d _ q => ⟨fun f xs => iB (Nat.beq f d.f) (iB d.io (q.p f xs) (cvF q.p q.i d.ps d.b xs)) (q.p f xs), fun f l xs => iB (Nat.beq f d.f) (iB d.io (callI q.p q.i d.ps d.b l xs) (q.i f l xs)) (q.i f l xs)⟩) t
theorem ppF_eq : ∀ t : List Fd, ppF t = pp t
  | [] => rfl
  | d :: t => by
    show (⟨fun f xs => iB (Nat.beq f d.f) (iB d.io ((ppF t).p f xs) (cvF (ppF t).p (ppF t).i d.ps d.b xs)) ((ppF t).p f xs), fun f l xs => iB (Nat.beq f d.f) (iB d.io (callI (ppF t).p (ppF t).i d.ps d.b l xs) ((ppF t).i f l xs)) ((ppF t).i f l xs)⟩ : PP) = ⟨fun f xs => match Nat.beq f d.f && !d.io with
    | true => callV (pp t).p (pp t).i d.ps d.b xs
    | false => (pp t).p f xs, fun f l xs => match Nat.beq f d.f && d.io with
    | true => callI (pp t).p (pp t).i d.ps d.b l xs
    | false => (pp t).i f l xs⟩
    rw [ppF_eq t]
    congr 1
    · funext f xs
      rw [cvF_eq]
      cases Nat.beq f d.f <;> cases d.io <;> rfl
    · funext f l xs
      cases Nat.beq f d.f <;> cases d.io <;> rfl

noncomputable def chk1F (a b : Int) : Bool := match runF (ppF tabF).p (ppF tabF).i 12 [(57, .sh (.int a)), (58, .sh (.int b))] lawA1 with
  | some (.next r) => okR r a b && (isL (get r 106) (ownL a b) && isL (get r 107) (backL a b))
  | _ => false
noncomputable def chk2F (a b n : Int) : Bool := match runF (ppF tabF).p (ppF tabF).i 12 ((54, .sh (.int n)) :: (106, intSl (ownL a b)) :: (107, intSl (backL a b)) :: rho4 a b) lawA2 with
  | some (.next r) => okR r a b
  | _ => false
noncomputable def chk3F (a b p : Int) : Bool := match runF (ppF tabF).p (ppF tabF).i 12 ((81, .sh (.int p)) :: rho4 a b) lawB with
  | some (.ret (.bool b)) => b
  | _ => false
theorem chk1F_eq (a b : Int) : chk1F a b = chk1 a b := by unfold chk1F chk1 ΦL ΨL; rw [ppF_eq, runF_eq] <;> rfl
theorem chk2F_eq (a b n : Int) : chk2F a b n = chk2 a b n := by unfold chk2F chk2 ΦL ΨL; rw [ppF_eq, runF_eq] <;> rfl
theorem chk3F_eq (a b p : Int) : chk3F a b p = chk3 a b p := by unfold chk3F chk3 ΦL ΨL; rw [ppF_eq, runF_eq] <;> rfl
end Mine
end
section
open PySem
set_option maxRecDepth 100000
set_option Elab.async false
namespace Mine
theorem k1_m2_m2 : chk1F (-2) (-2) = true := by decide +kernel
theorem k1_m2_m1 : chk1F (-2) (-1) = true := by decide +kernel
theorem k1_m2_0 : chk1F (-2) 0 = true := by decide +kernel
theorem k1_m2_1 : chk1F (-2) 1 = true := by decide +kernel
theorem k1_m2_2 : chk1F (-2) 2 = true := by decide +kernel
theorem k1_m1_m2 : chk1F (-1) (-2) = true := by decide +kernel
theorem k1_m1_m1 : chk1F (-1) (-1) = true := by decide +kernel
theorem k1_m1_0 : chk1F (-1) 0 = true := by decide +kernel
theorem k1_m1_1 : chk1F (-1) 1 = true := by decide +kernel
theorem k1_m1_2 : chk1F (-1) 2 = true := by decide +kernel
theorem k1_0_m2 : chk1F 0 (-2) = true := by decide +kernel
theorem k1_0_m1 : chk1F 0 (-1) = true := by decide +kernel
theorem k1_0_0 : chk1F 0 0 = true := by decide +kernel
theorem k1_0_1 : chk1F 0 1 = true := by decide +kernel
theorem k1_0_2 : chk1F 0 2 = true := by decide +kernel
theorem k1_1_m2 : chk1F 1 (-2) = true := by decide +kernel
theorem k1_1_m1 : chk1F 1 (-1) = true := by decide +kernel
theorem k1_1_0 : chk1F 1 0 = true := by decide +kernel
theorem k1_1_1 : chk1F 1 1 = true := by decide +kernel
theorem k1_1_2 : chk1F 1 2 = true := by decide +kernel
theorem k1_2_m2 : chk1F 2 (-2) = true := by decide +kernel
theorem k1_2_m1 : chk1F 2 (-1) = true := by decide +kernel
theorem k1_2_0 : chk1F 2 0 = true := by decide +kernel
theorem k1_2_1 : chk1F 2 1 = true := by decide +kernel
theorem k1_2_2 : chk1F 2 2 = true := by decide +kernel
theorem k2_m2_m2_1 : chk2F (-2) (-2) 1 = true := by decide +kernel
theorem k2_m2_m2_2 : chk2F (-2) (-2) 2 = true := by decide +kernel
theorem k2_m2_m2_3 : chk2F (-2) (-2) 3 = true := by decide +kernel
theorem k2_m2_m2_4 : chk2F (-2) (-2) 4 = true := by decide +kernel
theorem k2_m2_m2_5 : chk2F (-2) (-2) 5 = true := by decide +kernel
theorem k2_m2_m2_6 : chk2F (-2) (-2) 6 = true := by decide +kernel
theorem k2_m2_m2_7 : chk2F (-2) (-2) 7 = true := by decide +kernel
theorem k2_m2_m2_8 : chk2F (-2) (-2) 8 = true := by decide +kernel
theorem k2_m2_m2_9 : chk2F (-2) (-2) 9 = true := by decide +kernel
theorem k2_m2_m1_1 : chk2F (-2) (-1) 1 = true := by decide +kernel
theorem k2_m2_m1_2 : chk2F (-2) (-1) 2 = true := by decide +kernel
theorem k2_m2_m1_3 : chk2F (-2) (-1) 3 = true := by decide +kernel
theorem k2_m2_m1_4 : chk2F (-2) (-1) 4 = true := by decide +kernel
theorem k2_m2_m1_5 : chk2F (-2) (-1) 5 = true := by decide +kernel
theorem k2_m2_m1_6 : chk2F (-2) (-1) 6 = true := by decide +kernel
theorem k2_m2_m1_7 : chk2F (-2) (-1) 7 = true := by decide +kernel
theorem k2_m2_m1_8 : chk2F (-2) (-1) 8 = true := by decide +kernel
theorem k2_m2_m1_9 : chk2F (-2) (-1) 9 = true := by decide +kernel
theorem k2_m2_0_1 : chk2F (-2) 0 1 = true := by decide +kernel
theorem k2_m2_0_2 : chk2F (-2) 0 2 = true := by decide +kernel
theorem k2_m2_0_3 : chk2F (-2) 0 3 = true := by decide +kernel
theorem k2_m2_0_4 : chk2F (-2) 0 4 = true := by decide +kernel
theorem k2_m2_0_5 : chk2F (-2) 0 5 = true := by decide +kernel
theorem k2_m2_0_6 : chk2F (-2) 0 6 = true := by decide +kernel
theorem k2_m2_0_7 : chk2F (-2) 0 7 = true := by decide +kernel
theorem k2_m2_0_8 : chk2F (-2) 0 8 = true := by decide +kernel
theorem k2_m2_0_9 : chk2F (-2) 0 9 = true := by decide +kernel
theorem k2_m2_1_1 : chk2F (-2) 1 1 = true := by decide +kernel
theorem k2_m2_1_2 : chk2F (-2) 1 2 = true := by decide +kernel
theorem k2_m2_1_3 : chk2F (-2) 1 3 = true := by decide +kernel
theorem k2_m2_1_4 : chk2F (-2) 1 4 = true := by decide +kernel
theorem k2_m2_1_5 : chk2F (-2) 1 5 = true := by decide +kernel
theorem k2_m2_1_6 : chk2F (-2) 1 6 = true := by decide +kernel
theorem k2_m2_1_7 : chk2F (-2) 1 7 = true := by decide +kernel
theorem k2_m2_1_8 : chk2F (-2) 1 8 = true := by decide +kernel
theorem k2_m2_1_9 : chk2F (-2) 1 9 = true := by decide +kernel
theorem k2_m2_2_1 : chk2F (-2) 2 1 = true := by decide +kernel
theorem k2_m2_2_2 : chk2F (-2) 2 2 = true := by decide +kernel
theorem k2_m2_2_3 : chk2F (-2) 2 3 = true := by decide +kernel
theorem k2_m2_2_4 : chk2F (-2) 2 4 = true := by decide +kernel
theorem k2_m2_2_5 : chk2F (-2) 2 5 = true := by decide +kernel
theorem k2_m2_2_6 : chk2F (-2) 2 6 = true := by decide +kernel
theorem k2_m2_2_7 : chk2F (-2) 2 7 = true := by decide +kernel
theorem k2_m2_2_8 : chk2F (-2) 2 8 = true := by decide +kernel
theorem k2_m2_2_9 : chk2F (-2) 2 9 = true := by decide +kernel
theorem k2_m1_m2_1 : chk2F (-1) (-2) 1 = true := by decide +kernel
theorem k2_m1_m2_2 : chk2F (-1) (-2) 2 = true := by decide +kernel
theorem k2_m1_m2_3 : chk2F (-1) (-2) 3 = true := by decide +kernel
theorem k2_m1_m2_4 : chk2F (-1) (-2) 4 = true := by decide +kernel
theorem k2_m1_m2_5 : chk2F (-1) (-2) 5 = true := by decide +kernel
theorem k2_m1_m2_6 : chk2F (-1) (-2) 6 = true := by decide +kernel
theorem k2_m1_m2_7 : chk2F (-1) (-2) 7 = true := by decide +kernel
theorem k2_m1_m2_8 : chk2F (-1) (-2) 8 = true := by decide +kernel
theorem k2_m1_m2_9 : chk2F (-1) (-2) 9 = true := by decide +kernel
theorem k2_m1_m1_1 : chk2F (-1) (-1) 1 = true := by decide +kernel
theorem k2_m1_m1_2 : chk2F (-1) (-1) 2 = true := by decide +kernel
theorem k2_m1_m1_3 : chk2F (-1) (-1) 3 = true := by decide +kernel
theorem k2_m1_m1_4 : chk2F (-1) (-1) 4 = true := by decide +kernel
theorem k2_m1_m1_5 : chk2F (-1) (-1) 5 = true := by decide +kernel
theorem k2_m1_m1_6 : chk2F (-1) (-1) 6 = true := by decide +kernel
theorem k2_m1_m1_7 : chk2F (-1) (-1) 7 = true := by decide +kernel
theorem k2_m1_m1_8 : chk2F (-1) (-1) 8 = true := by decide +kernel
theorem k2_m1_m1_9 : chk2F (-1) (-1) 9 = true := by decide +kernel
theorem k2_m1_0_1 : chk2F (-1) 0 1 = true := by decide +kernel
theorem k2_m1_0_2 : chk2F (-1) 0 2 = true := by decide +kernel
theorem k2_m1_0_3 : chk2F (-1) 0 3 = true := by decide +kernel
theorem k2_m1_0_4 : chk2F (-1) 0 4 = true := by decide +kernel
theorem k2_m1_0_5 : chk2F (-1) 0 5 = true := by decide +kernel
theorem k2_m1_0_6 : chk2F (-1) 0 6 = true := by decide +kernel
theorem k2_m1_0_7 : chk2F (-1) 0 7 = true := by decide +kernel
theorem k2_m1_0_8 : chk2F (-1) 0 8 = true := by decide +kernel
theorem k2_m1_0_9 : chk2F (-1) 0 9 = true := by decide +kernel
theorem k2_m1_1_1 : chk2F (-1) 1 1 = true := by decide +kernel
theorem k2_m1_1_2 : chk2F (-1) 1 2 = true := by decide +kernel
theorem k2_m1_1_3 : chk2F (-1) 1 3 = true := by decide +kernel
theorem k2_m1_1_4 : chk2F (-1) 1 4 = true := by decide +kernel
theorem k2_m1_1_5 : chk2F (-1) 1 5 = true := by decide +kernel
theorem k2_m1_1_6 : chk2F (-1) 1 6 = true := by decide +kernel
theorem k2_m1_1_7 : chk2F (-1) 1 7 = true := by decide +kernel
theorem k2_m1_1_8 : chk2F (-1) 1 8 = true := by decide +kernel
theorem k2_m1_1_9 : chk2F (-1) 1 9 = true := by decide +kernel
theorem k2_m1_2_1 : chk2F (-1) 2 1 = true := by decide +kernel
theorem k2_m1_2_2 : chk2F (-1) 2 2 = true := by decide +kernel
theorem k2_m1_2_3 : chk2F (-1) 2 3 = true := by decide +kernel
theorem k2_m1_2_4 : chk2F (-1) 2 4 = true := by decide +kernel
theorem k2_m1_2_5 : chk2F (-1) 2 5 = true := by decide +kernel
theorem k2_m1_2_6 : chk2F (-1) 2 6 = true := by decide +kernel
theorem k2_m1_2_7 : chk2F (-1) 2 7 = true := by decide +kernel
theorem k2_m1_2_8 : chk2F (-1) 2 8 = true := by decide +kernel
theorem k2_m1_2_9 : chk2F (-1) 2 9 = true := by decide +kernel
theorem k2_0_m2_1 : chk2F 0 (-2) 1 = true := by decide +kernel
theorem k2_0_m2_2 : chk2F 0 (-2) 2 = true := by decide +kernel
theorem k2_0_m2_3 : chk2F 0 (-2) 3 = true := by decide +kernel
theorem k2_0_m2_4 : chk2F 0 (-2) 4 = true := by decide +kernel
theorem k2_0_m2_5 : chk2F 0 (-2) 5 = true := by decide +kernel
theorem k2_0_m2_6 : chk2F 0 (-2) 6 = true := by decide +kernel
theorem k2_0_m2_7 : chk2F 0 (-2) 7 = true := by decide +kernel
theorem k2_0_m2_8 : chk2F 0 (-2) 8 = true := by decide +kernel
theorem k2_0_m2_9 : chk2F 0 (-2) 9 = true := by decide +kernel
theorem k2_0_m1_1 : chk2F 0 (-1) 1 = true := by decide +kernel
theorem k2_0_m1_2 : chk2F 0 (-1) 2 = true := by decide +kernel
theorem k2_0_m1_3 : chk2F 0 (-1) 3 = true := by decide +kernel
theorem k2_0_m1_4 : chk2F 0 (-1) 4 = true := by decide +kernel
theorem k2_0_m1_5 : chk2F 0 (-1) 5 = true := by decide +kernel
theorem k2_0_m1_6 : chk2F 0 (-1) 6 = true := by decide +kernel
theorem k2_0_m1_7 : chk2F 0 (-1) 7 = true := by decide +kernel
theorem k2_0_m1_8 : chk2F 0 (-1) 8 = true := by decide +kernel
theorem k2_0_m1_9 : chk2F 0 (-1) 9 = true := by decide +kernel
theorem k2_0_0_1 : chk2F 0 0 1 = true := by decide +kernel
theorem k2_0_0_2 : chk2F 0 0 2 = true := by decide +kernel
theorem k2_0_0_3 : chk2F 0 0 3 = true := by decide +kernel
theorem k2_0_0_4 : chk2F 0 0 4 = true := by decide +kernel
theorem k2_0_0_5 : chk2F 0 0 5 = true := by decide +kernel
theorem k2_0_0_6 : chk2F 0 0 6 = true := by decide +kernel
theorem k2_0_0_7 : chk2F 0 0 7 = true := by decide +kernel
theorem k2_0_0_8 : chk2F 0 0 8 = true := by decide +kernel
theorem k2_0_0_9 : chk2F 0 0 9 = true := by decide +kernel
theorem k2_0_1_1 : chk2F 0 1 1 = true := by decide +kernel
theorem k2_0_1_2 : chk2F 0 1 2 = true := by decide +kernel
theorem k2_0_1_3 : chk2F 0 1 3 = true := by decide +kernel
theorem k2_0_1_4 : chk2F 0 1 4 = true := by decide +kernel
theorem k2_0_1_5 : chk2F 0 1 5 = true := by decide +kernel
theorem k2_0_1_6 : chk2F 0 1 6 = true := by decide +kernel
theorem k2_0_1_7 : chk2F 0 1 7 = true := by decide +kernel
theorem k2_0_1_8 : chk2F 0 1 8 = true := by decide +kernel
theorem k2_0_1_9 : chk2F 0 1 9 = true := by decide +kernel
theorem k2_0_2_1 : chk2F 0 2 1 = true := by decide +kernel
theorem k2_0_2_2 : chk2F 0 2 2 = true := by decide +kernel
theorem k2_0_2_3 : chk2F 0 2 3 = true := by decide +kernel
theorem k2_0_2_4 : chk2F 0 2 4 = true := by decide +kernel
theorem k2_0_2_5 : chk2F 0 2 5 = true := by decide +kernel
theorem k2_0_2_6 : chk2F 0 2 6 = true := by decide +kernel
theorem k2_0_2_7 : chk2F 0 2 7 = true := by decide +kernel
theorem k2_0_2_8 : chk2F 0 2 8 = true := by decide +kernel
theorem k2_0_2_9 : chk2F 0 2 9 = true := by decide +kernel
theorem k2_1_m2_1 : chk2F 1 (-2) 1 = true := by decide +kernel
theorem k2_1_m2_2 : chk2F 1 (-2) 2 = true := by decide +kernel
theorem k2_1_m2_3 : chk2F 1 (-2) 3 = true := by decide +kernel
theorem k2_1_m2_4 : chk2F 1 (-2) 4 = true := by decide +kernel
theorem k2_1_m2_5 : chk2F 1 (-2) 5 = true := by decide +kernel
theorem k2_1_m2_6 : chk2F 1 (-2) 6 = true := by decide +kernel
theorem k2_1_m2_7 : chk2F 1 (-2) 7 = true := by decide +kernel
theorem k2_1_m2_8 : chk2F 1 (-2) 8 = true := by decide +kernel
theorem k2_1_m2_9 : chk2F 1 (-2) 9 = true := by decide +kernel
theorem k2_1_m1_1 : chk2F 1 (-1) 1 = true := by decide +kernel
theorem k2_1_m1_2 : chk2F 1 (-1) 2 = true := by decide +kernel
theorem k2_1_m1_3 : chk2F 1 (-1) 3 = true := by decide +kernel
theorem k2_1_m1_4 : chk2F 1 (-1) 4 = true := by decide +kernel
theorem k2_1_m1_5 : chk2F 1 (-1) 5 = true := by decide +kernel
theorem k2_1_m1_6 : chk2F 1 (-1) 6 = true := by decide +kernel
theorem k2_1_m1_7 : chk2F 1 (-1) 7 = true := by decide +kernel
theorem k2_1_m1_8 : chk2F 1 (-1) 8 = true := by decide +kernel
theorem k2_1_m1_9 : chk2F 1 (-1) 9 = true := by decide +kernel
theorem k2_1_0_1 : chk2F 1 0 1 = true := by decide +kernel
theorem k2_1_0_2 : chk2F 1 0 2 = true := by decide +kernel
theorem k2_1_0_3 : chk2F 1 0 3 = true := by decide +kernel
theorem k2_1_0_4 : chk2F 1 0 4 = true := by decide +kernel
theorem k2_1_0_5 : chk2F 1 0 5 = true := by decide +kernel
theorem k2_1_0_6 : chk2F 1 0 6 = true := by decide +kernel
theorem k2_1_0_7 : chk2F 1 0 7 = true := by decide +kernel
theorem k2_1_0_8 : chk2F 1 0 8 = true := by decide +kernel
theorem k2_1_0_9 : chk2F 1 0 9 = true := by decide +kernel
theorem k2_1_1_1 : chk2F 1 1 1 = true := by decide +kernel
theorem k2_1_1_2 : chk2F 1 1 2 = true := by decide +kernel
theorem k2_1_1_3 : chk2F 1 1 3 = true := by decide +kernel
theorem k2_1_1_4 : chk2F 1 1 4 = true := by decide +kernel
theorem k2_1_1_5 : chk2F 1 1 5 = true := by decide +kernel
theorem k2_1_1_6 : chk2F 1 1 6 = true := by decide +kernel
theorem k2_1_1_7 : chk2F 1 1 7 = true := by decide +kernel
theorem k2_1_1_8 : chk2F 1 1 8 = true := by decide +kernel
theorem k2_1_1_9 : chk2F 1 1 9 = true := by decide +kernel
theorem k2_1_2_1 : chk2F 1 2 1 = true := by decide +kernel
theorem k2_1_2_2 : chk2F 1 2 2 = true := by decide +kernel
theorem k2_1_2_3 : chk2F 1 2 3 = true := by decide +kernel
theorem k2_1_2_4 : chk2F 1 2 4 = true := by decide +kernel
theorem k2_1_2_5 : chk2F 1 2 5 = true := by decide +kernel
theorem k2_1_2_6 : chk2F 1 2 6 = true := by decide +kernel
theorem k2_1_2_7 : chk2F 1 2 7 = true := by decide +kernel
theorem k2_1_2_8 : chk2F 1 2 8 = true := by decide +kernel
theorem k2_1_2_9 : chk2F 1 2 9 = true := by decide +kernel
theorem k2_2_m2_1 : chk2F 2 (-2) 1 = true := by decide +kernel
theorem k2_2_m2_2 : chk2F 2 (-2) 2 = true := by decide +kernel
theorem k2_2_m2_3 : chk2F 2 (-2) 3 = true := by decide +kernel
theorem k2_2_m2_4 : chk2F 2 (-2) 4 = true := by decide +kernel
theorem k2_2_m2_5 : chk2F 2 (-2) 5 = true := by decide +kernel
theorem k2_2_m2_6 : chk2F 2 (-2) 6 = true := by decide +kernel
theorem k2_2_m2_7 : chk2F 2 (-2) 7 = true := by decide +kernel
theorem k2_2_m2_8 : chk2F 2 (-2) 8 = true := by decide +kernel
theorem k2_2_m2_9 : chk2F 2 (-2) 9 = true := by decide +kernel
theorem k2_2_m1_1 : chk2F 2 (-1) 1 = true := by decide +kernel
theorem k2_2_m1_2 : chk2F 2 (-1) 2 = true := by decide +kernel
theorem k2_2_m1_3 : chk2F 2 (-1) 3 = true := by decide +kernel
theorem k2_2_m1_4 : chk2F 2 (-1) 4 = true := by decide +kernel
theorem k2_2_m1_5 : chk2F 2 (-1) 5 = true := by decide +kernel
theorem k2_2_m1_6 : chk2F 2 (-1) 6 = true := by decide +kernel
theorem k2_2_m1_7 : chk2F 2 (-1) 7 = true := by decide +kernel
theorem k2_2_m1_8 : chk2F 2 (-1) 8 = true := by decide +kernel
theorem k2_2_m1_9 : chk2F 2 (-1) 9 = true := by decide +kernel
theorem k2_2_0_1 : chk2F 2 0 1 = true := by decide +kernel
theorem k2_2_0_2 : chk2F 2 0 2 = true := by decide +kernel
theorem k2_2_0_3 : chk2F 2 0 3 = true := by decide +kernel
theorem k2_2_0_4 : chk2F 2 0 4 = true := by decide +kernel
theorem k2_2_0_5 : chk2F 2 0 5 = true := by decide +kernel
theorem k2_2_0_6 : chk2F 2 0 6 = true := by decide +kernel
theorem k2_2_0_7 : chk2F 2 0 7 = true := by decide +kernel
theorem k2_2_0_8 : chk2F 2 0 8 = true := by decide +kernel
theorem k2_2_0_9 : chk2F 2 0 9 = true := by decide +kernel
theorem k2_2_1_1 : chk2F 2 1 1 = true := by decide +kernel
theorem k2_2_1_2 : chk2F 2 1 2 = true := by decide +kernel
theorem k2_2_1_3 : chk2F 2 1 3 = true := by decide +kernel
theorem k2_2_1_4 : chk2F 2 1 4 = true := by decide +kernel
theorem k2_2_1_5 : chk2F 2 1 5 = true := by decide +kernel
theorem k2_2_1_6 : chk2F 2 1 6 = true := by decide +kernel
theorem k2_2_1_7 : chk2F 2 1 7 = true := by decide +kernel
theorem k2_2_1_8 : chk2F 2 1 8 = true := by decide +kernel
theorem k2_2_1_9 : chk2F 2 1 9 = true := by decide +kernel
theorem k2_2_2_1 : chk2F 2 2 1 = true := by decide +kernel
theorem k2_2_2_2 : chk2F 2 2 2 = true := by decide +kernel
theorem k2_2_2_3 : chk2F 2 2 3 = true := by decide +kernel
theorem k2_2_2_4 : chk2F 2 2 4 = true := by decide +kernel
theorem k2_2_2_5 : chk2F 2 2 5 = true := by decide +kernel
theorem k2_2_2_6 : chk2F 2 2 6 = true := by decide +kernel
theorem k2_2_2_7 : chk2F 2 2 7 = true := by decide +kernel
theorem k2_2_2_8 : chk2F 2 2 8 = true := by decide +kernel
theorem k2_2_2_9 : chk2F 2 2 9 = true := by decide +kernel
theorem k3_m2_m2_3 : chk3F (-2) (-2) 3 = true := by decide +kernel
theorem k3_m2_m2_5 : chk3F (-2) (-2) 5 = true := by decide +kernel
theorem k3_m2_m2_7 : chk3F (-2) (-2) 7 = true := by decide +kernel
theorem k3_m2_m2_11 : chk3F (-2) (-2) 11 = true := by decide +kernel
theorem k3_m2_m1_3 : chk3F (-2) (-1) 3 = true := by decide +kernel
theorem k3_m2_m1_5 : chk3F (-2) (-1) 5 = true := by decide +kernel
theorem k3_m2_m1_7 : chk3F (-2) (-1) 7 = true := by decide +kernel
theorem k3_m2_m1_11 : chk3F (-2) (-1) 11 = true := by decide +kernel
theorem k3_m2_0_3 : chk3F (-2) 0 3 = true := by decide +kernel
theorem k3_m2_0_5 : chk3F (-2) 0 5 = true := by decide +kernel
theorem k3_m2_0_7 : chk3F (-2) 0 7 = true := by decide +kernel
theorem k3_m2_0_11 : chk3F (-2) 0 11 = true := by decide +kernel
theorem k3_m2_1_3 : chk3F (-2) 1 3 = true := by decide +kernel
theorem k3_m2_1_5 : chk3F (-2) 1 5 = true := by decide +kernel
theorem k3_m2_1_7 : chk3F (-2) 1 7 = true := by decide +kernel
theorem k3_m2_1_11 : chk3F (-2) 1 11 = true := by decide +kernel
theorem k3_m2_2_3 : chk3F (-2) 2 3 = true := by decide +kernel
theorem k3_m2_2_5 : chk3F (-2) 2 5 = true := by decide +kernel
theorem k3_m2_2_7 : chk3F (-2) 2 7 = true := by decide +kernel
theorem k3_m2_2_11 : chk3F (-2) 2 11 = true := by decide +kernel
theorem k3_m1_m2_3 : chk3F (-1) (-2) 3 = true := by decide +kernel
theorem k3_m1_m2_5 : chk3F (-1) (-2) 5 = true := by decide +kernel
theorem k3_m1_m2_7 : chk3F (-1) (-2) 7 = true := by decide +kernel
theorem k3_m1_m2_11 : chk3F (-1) (-2) 11 = true := by decide +kernel
theorem k3_m1_m1_3 : chk3F (-1) (-1) 3 = true := by decide +kernel
theorem k3_m1_m1_5 : chk3F (-1) (-1) 5 = true := by decide +kernel
theorem k3_m1_m1_7 : chk3F (-1) (-1) 7 = true := by decide +kernel
theorem k3_m1_m1_11 : chk3F (-1) (-1) 11 = true := by decide +kernel
theorem k3_m1_0_3 : chk3F (-1) 0 3 = true := by decide +kernel
theorem k3_m1_0_5 : chk3F (-1) 0 5 = true := by decide +kernel
theorem k3_m1_0_7 : chk3F (-1) 0 7 = true := by decide +kernel
theorem k3_m1_0_11 : chk3F (-1) 0 11 = true := by decide +kernel
theorem k3_m1_1_3 : chk3F (-1) 1 3 = true := by decide +kernel
theorem k3_m1_1_5 : chk3F (-1) 1 5 = true := by decide +kernel
theorem k3_m1_1_7 : chk3F (-1) 1 7 = true := by decide +kernel
theorem k3_m1_1_11 : chk3F (-1) 1 11 = true := by decide +kernel
theorem k3_m1_2_3 : chk3F (-1) 2 3 = true := by decide +kernel
theorem k3_m1_2_5 : chk3F (-1) 2 5 = true := by decide +kernel
theorem k3_m1_2_7 : chk3F (-1) 2 7 = true := by decide +kernel
theorem k3_m1_2_11 : chk3F (-1) 2 11 = true := by decide +kernel
theorem k3_0_m2_3 : chk3F 0 (-2) 3 = true := by decide +kernel
theorem k3_0_m2_5 : chk3F 0 (-2) 5 = true := by decide +kernel
theorem k3_0_m2_7 : chk3F 0 (-2) 7 = true := by decide +kernel
theorem k3_0_m2_11 : chk3F 0 (-2) 11 = true := by decide +kernel
theorem k3_0_m1_3 : chk3F 0 (-1) 3 = true := by decide +kernel
theorem k3_0_m1_5 : chk3F 0 (-1) 5 = true := by decide +kernel
theorem k3_0_m1_7 : chk3F 0 (-1) 7 = true := by decide +kernel
theorem k3_0_m1_11 : chk3F 0 (-1) 11 = true := by decide +kernel
theorem k3_0_0_3 : chk3F 0 0 3 = true := by decide +kernel
theorem k3_0_0_5 : chk3F 0 0 5 = true := by decide +kernel
theorem k3_0_0_7 : chk3F 0 0 7 = true := by decide +kernel
theorem k3_0_0_11 : chk3F 0 0 11 = true := by decide +kernel
theorem k3_0_1_3 : chk3F 0 1 3 = true := by decide +kernel
theorem k3_0_1_5 : chk3F 0 1 5 = true := by decide +kernel
theorem k3_0_1_7 : chk3F 0 1 7 = true := by decide +kernel
theorem k3_0_1_11 : chk3F 0 1 11 = true := by decide +kernel
theorem k3_0_2_3 : chk3F 0 2 3 = true := by decide +kernel
theorem k3_0_2_5 : chk3F 0 2 5 = true := by decide +kernel
theorem k3_0_2_7 : chk3F 0 2 7 = true := by decide +kernel
theorem k3_0_2_11 : chk3F 0 2 11 = true := by decide +kernel
theorem k3_1_m2_3 : chk3F 1 (-2) 3 = true := by decide +kernel
theorem k3_1_m2_5 : chk3F 1 (-2) 5 = true := by decide +kernel
theorem k3_1_m2_7 : chk3F 1 (-2) 7 = true := by decide +kernel
theorem k3_1_m2_11 : chk3F 1 (-2) 11 = true := by decide +kernel
theorem k3_1_m1_3 : chk3F 1 (-1) 3 = true := by decide +kernel
theorem k3_1_m1_5 : chk3F 1 (-1) 5 = true := by decide +kernel
theorem k3_1_m1_7 : chk3F 1 (-1) 7 = true := by decide +kernel
theorem k3_1_m1_11 : chk3F 1 (-1) 11 = true := by decide +kernel
theorem k3_1_0_3 : chk3F 1 0 3 = true := by decide +kernel
theorem k3_1_0_5 : chk3F 1 0 5 = true := by decide +kernel
theorem k3_1_0_7 : chk3F 1 0 7 = true := by decide +kernel
theorem k3_1_0_11 : chk3F 1 0 11 = true := by decide +kernel
theorem k3_1_1_3 : chk3F 1 1 3 = true := by decide +kernel
theorem k3_1_1_5 : chk3F 1 1 5 = true := by decide +kernel
theorem k3_1_1_7 : chk3F 1 1 7 = true := by decide +kernel
theorem k3_1_1_11 : chk3F 1 1 11 = true := by decide +kernel
theorem k3_1_2_3 : chk3F 1 2 3 = true := by decide +kernel
theorem k3_1_2_5 : chk3F 1 2 5 = true := by decide +kernel
theorem k3_1_2_7 : chk3F 1 2 7 = true := by decide +kernel
theorem k3_1_2_11 : chk3F 1 2 11 = true := by decide +kernel
theorem k3_2_m2_3 : chk3F 2 (-2) 3 = true := by decide +kernel
theorem k3_2_m2_5 : chk3F 2 (-2) 5 = true := by decide +kernel
theorem k3_2_m2_7 : chk3F 2 (-2) 7 = true := by decide +kernel
theorem k3_2_m2_11 : chk3F 2 (-2) 11 = true := by decide +kernel
theorem k3_2_m1_3 : chk3F 2 (-1) 3 = true := by decide +kernel
theorem k3_2_m1_5 : chk3F 2 (-1) 5 = true := by decide +kernel
theorem k3_2_m1_7 : chk3F 2 (-1) 7 = true := by decide +kernel
theorem k3_2_m1_11 : chk3F 2 (-1) 11 = true := by decide +kernel
theorem k3_2_0_3 : chk3F 2 0 3 = true := by decide +kernel
theorem k3_2_0_5 : chk3F 2 0 5 = true := by decide +kernel
theorem k3_2_0_7 : chk3F 2 0 7 = true := by decide +kernel
theorem k3_2_0_11 : chk3F 2 0 11 = true := by decide +kernel
theorem k3_2_1_3 : chk3F 2 1 3 = true := by decide +kernel
theorem k3_2_1_5 : chk3F 2 1 5 = true := by decide +kernel
theorem k3_2_1_7 : chk3F 2 1 7 = true := by decide +kernel
theorem k3_2_1_11 : chk3F 2 1 11 = true := by decide +kernel
theorem k3_2_2_3 : chk3F 2 2 3 = true := by decide +kernel
theorem k3_2_2_5 : chk3F 2 2 5 = true := by decide +kernel
theorem k3_2_2_7 : chk3F 2 2 7 = true := by decide +kernel
theorem k3_2_2_11 : chk3F 2 2 11 = true := by decide +kernel
theorem five {a : Int} (h : inR a) : a = -2 ∨ a = -1 ∨ a = 0 ∨ a = 1 ∨ a = 2 := by unfold inR at h; omega
theorem nine {n : Int} (h : 1 ≤ n) (h2 : n ≤ 9) : n = 1 ∨ n = 2 ∨ n = 3 ∨ n = 4 ∨ n = 5 ∨ n = 6 ∨ n = 7 ∨ n = 8 ∨ n = 9 := by omega
theorem all1 (a b : Int) (ha : inR a) (hb : inR b) : chk1 a b = true := by
  rcases five ha with rfl | rfl | rfl | rfl | rfl
  · rcases five hb with rfl | rfl | rfl | rfl | rfl
    · exact (chk1F_eq _ _).symm.trans k1_m2_m2
    · exact (chk1F_eq _ _).symm.trans k1_m2_m1
    · exact (chk1F_eq _ _).symm.trans k1_m2_0
    · exact (chk1F_eq _ _).symm.trans k1_m2_1
    · exact (chk1F_eq _ _).symm.trans k1_m2_2
  · rcases five hb with rfl | rfl | rfl | rfl | rfl
    · exact (chk1F_eq _ _).symm.trans k1_m1_m2
    · exact (chk1F_eq _ _).symm.trans k1_m1_m1
    · exact (chk1F_eq _ _).symm.trans k1_m1_0
    · exact (chk1F_eq _ _).symm.trans k1_m1_1
    · exact (chk1F_eq _ _).symm.trans k1_m1_2
  · rcases five hb with rfl | rfl | rfl | rfl | rfl
    · exact (chk1F_eq _ _).symm.trans k1_0_m2
    · exact (chk1F_eq _ _).symm.trans k1_0_m1
    · exact (chk1F_eq _ _).symm.trans k1_0_0
    · exact (chk1F_eq _ _).symm.trans k1_0_1
    · exact (chk1F_eq _ _).symm.trans k1_0_2
  · rcases five hb with rfl | rfl | rfl | rfl | rfl
    · exact (chk1F_eq _ _).symm.trans k1_1_m2
    · exact (chk1F_eq _ _).symm.trans k1_1_m1
    · exact (chk1F_eq _ _).symm.trans k1_1_0
    · exact (chk1F_eq _ _).symm.trans k1_1_1
    · exact (chk1F_eq _ _).symm.trans k1_1_2
  · rcases five hb with rfl | rfl | rfl | rfl | rfl
    · exact (chk1F_eq _ _).symm.trans k1_2_m2
    · exact (chk1F_eq _ _).symm.trans k1_2_m1
    · exact (chk1F_eq _ _).symm.trans k1_2_0
    · exact (chk1F_eq _ _).symm.trans k1_2_1
    · exact (chk1F_eq _ _).symm.trans k1_2_2
theorem all2 (a b n : Int) (ha : inR a) (hb : inR b) (h : 1 ≤ n) (h2 : n ≤ 9) : chk2 a b n = true := by
  rcases five ha with rfl | rfl | rfl | rfl | rfl
  · rcases five hb with rfl | rfl | rfl | rfl | rfl
    · rcases nine h h2 with rfl | rfl | rfl | rfl | rfl | rfl | rfl | rfl | rfl
      · exact (chk2F_eq _ _ _).symm.trans k2_m2_m2_1
      · exact (chk2F_eq _ _ _).symm.trans k2_m2_m2_2
      · exact (chk2F_eq _ _ _).symm.trans k2_m2_m2_3
      · exact (chk2F_eq _ _ _).symm.trans k2_m2_m2_4
      · exact (chk2F_eq _ _ _).symm.trans k2_m2_m2_5
      · exact (chk2F_eq _ _ _).symm.trans k2_m2_m2_6
      · exact (chk2F_eq _ _ _).symm.trans k2_m2_m2_7
      · exact (chk2F_eq _ _ _).symm.trans k2_m2_m2_8
      · exact (chk2F_eq _ _ _).symm.trans k2_m2_m2_9
    · rcases nine h h2 with rfl | rfl | rfl | rfl | rfl | rfl | rfl | rfl | rfl
      · exact (chk2F_eq _ _ _).symm.trans k2_m2_m1_1
      · exact (chk2F_eq _ _ _).symm.trans k2_m2_m1_2
      · exact (chk2F_eq _ _ _).symm.trans k2_m2_m1_3
      · exact (chk2F_eq _ _ _).symm.trans k2_m2_m1_4
      · exact (chk2F_eq _ _ _).symm.trans k2_m2_m1_5
      · exact (chk2F_eq _ _ _).symm.trans k2_m2_m1_6
      · exact (chk2F_eq _ _ _).symm.trans k2_m2_m1_7
      · exact (chk2F_eq _ _ _).symm.trans k2_m2_m1_8
      · exact (chk2F_eq _ _ _).symm.trans k2_m2_m1_9
    · rcases nine h h2 with rfl | rfl | rfl | rfl | rfl | rfl | rfl | rfl | rfl
      · exact (chk2F_eq _ _ _).symm.trans k2_m2_0_1
      · exact (chk2F_eq _ _ _).symm.trans k2_m2_0_2
      · exact (chk2F_eq _ _ _).symm.trans k2_m2_0_3
      · exact (chk2F_eq _ _ _).symm.trans k2_m2_0_4
      · exact (chk2F_eq _ _ _).symm.trans k2_m2_0_5
      · exact (chk2F_eq _ _ _).symm.trans k2_m2_0_6
      · exact (chk2F_eq _ _ _).symm.trans k2_m2_0_7
      · exact (chk2F_eq _ _ _).symm.trans k2_m2_0_8
      · exact (chk2F_eq _ _ _).symm.trans k2_m2_0_9
    · rcases nine h h2 with rfl | rfl | rfl | rfl | rfl | rfl | rfl | rfl | rfl
      · exact (chk2F_eq _ _ _).symm.trans k2_m2_1_1
      · exact (chk2F_eq _ _ _).symm.trans k2_m2_1_2
      · exact (chk2F_eq _ _ _).symm.trans k2_m2_1_3
      · exact (chk2F_eq _ _ _).symm.trans k2_m2_1_4
      · exact (chk2F_eq _ _ _).symm.trans k2_m2_1_5
      · exact (chk2F_eq _ _ _).symm.trans k2_m2_1_6
      · exact (chk2F_eq _ _ _).symm.trans k2_m2_1_7
      · exact (chk2F_eq _ _ _).symm.trans k2_m2_1_8
      · exact (chk2F_eq _ _ _).symm.trans k2_m2_1_9
    · rcases nine h h2 with rfl | rfl | rfl | rfl | rfl | rfl | rfl | rfl | rfl
      · exact (chk2F_eq _ _ _).symm.trans k2_m2_2_1
      · exact (chk2F_eq _ _ _).symm.trans k2_m2_2_2
      · exact (chk2F_eq _ _ _).symm.trans k2_m2_2_3
      · exact (chk2F_eq _ _ _).symm.trans k2_m2_2_4
      · exact (chk2F_eq _ _ _).symm.trans k2_m2_2_5
      · exact (chk2F_eq _ _ _).symm.trans k2_m2_2_6
      · exact (chk2F_eq _ _ _).symm.trans k2_m2_2_7
      · exact (chk2F_eq _ _ _).symm.trans k2_m2_2_8
      · exact (chk2F_eq _ _ _).symm.trans k2_m2_2_9
  · rcases five hb with rfl | rfl | rfl | rfl | rfl
    · rcases nine h h2 with rfl | rfl | rfl | rfl | rfl | rfl | rfl | rfl | rfl
      · exact (chk2F_eq _ _ _).symm.trans k2_m1_m2_1
      · exact (chk2F_eq _ _ _).symm.trans k2_m1_m2_2
      · exact (chk2F_eq _ _ _).symm.trans k2_m1_m2_3
      · exact (chk2F_eq _ _ _).symm.trans k2_m1_m2_4
      · exact (chk2F_eq _ _ _).symm.trans k2_m1_m2_5
      · exact (chk2F_eq _ _ _).symm.trans k2_m1_m2_6
      · exact (chk2F_eq _ _ _).symm.trans k2_m1_m2_7
      · exact (chk2F_eq _ _ _).symm.trans k2_m1_m2_8
      · exact (chk2F_eq _ _ _).symm.trans k2_m1_m2_9
    · rcases nine h h2 with rfl | rfl | rfl | rfl | rfl | rfl | rfl | rfl | rfl
      · exact (chk2F_eq _ _ _).symm.trans k2_m1_m1_1
      · exact (chk2F_eq _ _ _).symm.trans k2_m1_m1_2
      · exact (chk2F_eq _ _ _).symm.trans k2_m1_m1_3
      · exact (chk2F_eq _ _ _).symm.trans k2_m1_m1_4
      · exact (chk2F_eq _ _ _).symm.trans k2_m1_m1_5
      · exact (chk2F_eq _ _ _).symm.trans k2_m1_m1_6
      · exact (chk2F_eq _ _ _).symm.trans k2_m1_m1_7
      · exact (chk2F_eq _ _ _).symm.trans k2_m1_m1_8
      · exact (chk2F_eq _ _ _).symm.trans k2_m1_m1_9
    · rcases nine h h2 with rfl | rfl | rfl | rfl | rfl | rfl | rfl | rfl | rfl
      · exact (chk2F_eq _ _ _).symm.trans k2_m1_0_1
      · exact (chk2F_eq _ _ _).symm.trans k2_m1_0_2
      · exact (chk2F_eq _ _ _).symm.trans k2_m1_0_3
      · exact (chk2F_eq _ _ _).symm.trans k2_m1_0_4
      · exact (chk2F_eq _ _ _).symm.trans k2_m1_0_5
      · exact (chk2F_eq _ _ _).symm.trans k2_m1_0_6
      · exact (chk2F_eq _ _ _).symm.trans k2_m1_0_7
      · exact (chk2F_eq _ _ _).symm.trans k2_m1_0_8
      · exact (chk2F_eq _ _ _).symm.trans k2_m1_0_9
    · rcases nine h h2 with rfl | rfl | rfl | rfl | rfl | rfl | rfl | rfl | rfl
      · exact (chk2F_eq _ _ _).symm.trans k2_m1_1_1
      · exact (chk2F_eq _ _ _).symm.trans k2_m1_1_2
      · exact (chk2F_eq _ _ _).symm.trans k2_m1_1_3
      · exact (chk2F_eq _ _ _).symm.trans k2_m1_1_4
      · exact (chk2F_eq _ _ _).symm.trans k2_m1_1_5
      · exact (chk2F_eq _ _ _).symm.trans k2_m1_1_6
      · exact (chk2F_eq _ _ _).symm.trans k2_m1_1_7
      · exact (chk2F_eq _ _ _).symm.trans k2_m1_1_8
      · exact (chk2F_eq _ _ _).symm.trans k2_m1_1_9
    · rcases nine h h2 with rfl | rfl | rfl | rfl | rfl | rfl | rfl | rfl | rfl
      · exact (chk2F_eq _ _ _).symm.trans k2_m1_2_1
      · exact (chk2F_eq _ _ _).symm.trans k2_m1_2_2
      · exact (chk2F_eq _ _ _).symm.trans k2_m1_2_3
      · exact (chk2F_eq _ _ _).symm.trans k2_m1_2_4
      · exact (chk2F_eq _ _ _).symm.trans k2_m1_2_5
      · exact (chk2F_eq _ _ _).symm.trans k2_m1_2_6
      · exact (chk2F_eq _ _ _).symm.trans k2_m1_2_7
      · exact (chk2F_eq _ _ _).symm.trans k2_m1_2_8
      · exact (chk2F_eq _ _ _).symm.trans k2_m1_2_9
  · rcases five hb with rfl | rfl | rfl | rfl | rfl
    · rcases nine h h2 with rfl | rfl | rfl | rfl | rfl | rfl | rfl | rfl | rfl
      · exact (chk2F_eq _ _ _).symm.trans k2_0_m2_1
      · exact (chk2F_eq _ _ _).symm.trans k2_0_m2_2
      · exact (chk2F_eq _ _ _).symm.trans k2_0_m2_3
      · exact (chk2F_eq _ _ _).symm.trans k2_0_m2_4
      · exact (chk2F_eq _ _ _).symm.trans k2_0_m2_5
      · exact (chk2F_eq _ _ _).symm.trans k2_0_m2_6
      · exact (chk2F_eq _ _ _).symm.trans k2_0_m2_7
      · exact (chk2F_eq _ _ _).symm.trans k2_0_m2_8
      · exact (chk2F_eq _ _ _).symm.trans k2_0_m2_9
    · rcases nine h h2 with rfl | rfl | rfl | rfl | rfl | rfl | rfl | rfl | rfl
      · exact (chk2F_eq _ _ _).symm.trans k2_0_m1_1
      · exact (chk2F_eq _ _ _).symm.trans k2_0_m1_2
      · exact (chk2F_eq _ _ _).symm.trans k2_0_m1_3
      · exact (chk2F_eq _ _ _).symm.trans k2_0_m1_4
      · exact (chk2F_eq _ _ _).symm.trans k2_0_m1_5
      · exact (chk2F_eq _ _ _).symm.trans k2_0_m1_6
      · exact (chk2F_eq _ _ _).symm.trans k2_0_m1_7
      · exact (chk2F_eq _ _ _).symm.trans k2_0_m1_8
      · exact (chk2F_eq _ _ _).symm.trans k2_0_m1_9
    · rcases nine h h2 with rfl | rfl | rfl | rfl | rfl | rfl | rfl | rfl | rfl
      · exact (chk2F_eq _ _ _).symm.trans k2_0_0_1
      · exact (chk2F_eq _ _ _).symm.trans k2_0_0_2
      · exact (chk2F_eq _ _ _).symm.trans k2_0_0_3
      · exact (chk2F_eq _ _ _).symm.trans k2_0_0_4
      · exact (chk2F_eq _ _ _).symm.trans k2_0_0_5
      · exact (chk2F_eq _ _ _).symm.trans k2_0_0_6
      · exact (chk2F_eq _ _ _).symm.trans k2_0_0_7
      · exact (chk2F_eq _ _ _).symm.trans k2_0_0_8
      · exact (chk2F_eq _ _ _).symm.trans k2_0_0_9
    · rcases nine h h2 with rfl | rfl | rfl | rfl | rfl | rfl | rfl | rfl | rfl
      · exact (chk2F_eq _ _ _).symm.trans k2_0_1_1
      · exact (chk2F_eq _ _ _).symm.trans k2_0_1_2
      · exact (chk2F_eq _ _ _).symm.trans k2_0_1_3
      · exact (chk2F_eq _ _ _).symm.trans k2_0_1_4
      · exact (chk2F_eq _ _ _).symm.trans k2_0_1_5
      · exact (chk2F_eq _ _ _).symm.trans k2_0_1_6
      · exact (chk2F_eq _ _ _).symm.trans k2_0_1_7
      · exact (chk2F_eq _ _ _).symm.trans k2_0_1_8
      · exact (chk2F_eq _ _ _).symm.trans k2_0_1_9
    · rcases nine h h2 with rfl | rfl | rfl | rfl | rfl | rfl | rfl | rfl | rfl
      · exact (chk2F_eq _ _ _).symm.trans k2_0_2_1
      · exact (chk2F_eq _ _ _).symm.trans k2_0_2_2
      · exact (chk2F_eq _ _ _).symm.trans k2_0_2_3
      · exact (chk2F_eq _ _ _).symm.trans k2_0_2_4
      · exact (chk2F_eq _ _ _).symm.trans k2_0_2_5
      · exact (chk2F_eq _ _ _).symm.trans k2_0_2_6
      · exact (chk2F_eq _ _ _).symm.trans k2_0_2_7
      · exact (chk2F_eq _ _ _).symm.trans k2_0_2_8
      · exact (chk2F_eq _ _ _).symm.trans k2_0_2_9
  · rcases five hb with rfl | rfl | rfl | rfl | rfl
    · rcases nine h h2 with rfl | rfl | rfl | rfl | rfl | rfl | rfl | rfl | rfl
      · exact (chk2F_eq _ _ _).symm.trans k2_1_m2_1
      · exact (chk2F_eq _ _ _).symm.trans k2_1_m2_2
      · exact (chk2F_eq _ _ _).symm.trans k2_1_m2_3
      · exact (chk2F_eq _ _ _).symm.trans k2_1_m2_4
      · exact (chk2F_eq _ _ _).symm.trans k2_1_m2_5
      · exact (chk2F_eq _ _ _).symm.trans k2_1_m2_6
      · exact (chk2F_eq _ _ _).symm.trans k2_1_m2_7
      · exact (chk2F_eq _ _ _).symm.trans k2_1_m2_8
      · exact (chk2F_eq _ _ _).symm.trans k2_1_m2_9
    · rcases nine h h2 with rfl | rfl | rfl | rfl | rfl | rfl | rfl | rfl | rfl
      · exact (chk2F_eq _ _ _).symm.trans k2_1_m1_1
      · exact (chk2F_eq _ _ _).symm.trans k2_1_m1_2
      · exact (chk2F_eq _ _ _).symm.trans k2_1_m1_3
      · exact (chk2F_eq _ _ _).symm.trans k2_1_m1_4
      · exact (chk2F_eq _ _ _).symm.trans k2_1_m1_5
      · exact (chk2F_eq _ _ _).symm.trans k2_1_m1_6
      · exact (chk2F_eq _ _ _).symm.trans k2_1_m1_7
      · exact (chk2F_eq _ _ _).symm.trans k2_1_m1_8
      · exact (chk2F_eq _ _ _).symm.trans k2_1_m1_9
    · rcases nine h h2 with rfl | rfl | rfl | rfl | rfl | rfl | rfl | rfl | rfl
      · exact (chk2F_eq _ _ _).symm.trans k2_1_0_1
      · exact (chk2F_eq _ _ _).symm.trans k2_1_0_2
      · exact (chk2F_eq _ _ _).symm.trans k2_1_0_3
      · exact (chk2F_eq _ _ _).symm.trans k2_1_0_4
      · exact (chk2F_eq _ _ _).symm.trans k2_1_0_5
      · exact (chk2F_eq _ _ _).symm.trans k2_1_0_6
      · exact (chk2F_eq _ _ _).symm.trans k2_1_0_7
      · exact (chk2F_eq _ _ _).symm.trans k2_1_0_8
      · exact (chk2F_eq _ _ _).symm.trans k2_1_0_9
    · rcases nine h h2 with rfl | rfl | rfl | rfl | rfl | rfl | rfl | rfl | rfl
      · exact (chk2F_eq _ _ _).symm.trans k2_1_1_1
      · exact (chk2F_eq _ _ _).symm.trans k2_1_1_2
      · exact (chk2F_eq _ _ _).symm.trans k2_1_1_3
      · exact (chk2F_eq _ _ _).symm.trans k2_1_1_4
      · exact (chk2F_eq _ _ _).symm.trans k2_1_1_5
      · exact (chk2F_eq _ _ _).symm.trans k2_1_1_6
      · exact (chk2F_eq _ _ _).symm.trans k2_1_1_7
      · exact (chk2F_eq _ _ _).symm.trans k2_1_1_8
      · exact (chk2F_eq _ _ _).symm.trans k2_1_1_9
    · rcases nine h h2 with rfl | rfl | rfl | rfl | rfl | rfl | rfl | rfl | rfl
      · exact (chk2F_eq _ _ _).symm.trans k2_1_2_1
      · exact (chk2F_eq _ _ _).symm.trans k2_1_2_2
      · exact (chk2F_eq _ _ _).symm.trans k2_1_2_3
      · exact (chk2F_eq _ _ _).symm.trans k2_1_2_4
      · exact (chk2F_eq _ _ _).symm.trans k2_1_2_5
      · exact (chk2F_eq _ _ _).symm.trans k2_1_2_6
      · exact (chk2F_eq _ _ _).symm.trans k2_1_2_7
      · exact (chk2F_eq _ _ _).symm.trans k2_1_2_8
      · exact (chk2F_eq _ _ _).symm.trans k2_1_2_9
  · rcases five hb with rfl | rfl | rfl | rfl | rfl
    · rcases nine h h2 with rfl | rfl | rfl | rfl | rfl | rfl | rfl | rfl | rfl
      · exact (chk2F_eq _ _ _).symm.trans k2_2_m2_1
      · exact (chk2F_eq _ _ _).symm.trans k2_2_m2_2
      · exact (chk2F_eq _ _ _).symm.trans k2_2_m2_3
      · exact (chk2F_eq _ _ _).symm.trans k2_2_m2_4
      · exact (chk2F_eq _ _ _).symm.trans k2_2_m2_5
      · exact (chk2F_eq _ _ _).symm.trans k2_2_m2_6
      · exact (chk2F_eq _ _ _).symm.trans k2_2_m2_7
      · exact (chk2F_eq _ _ _).symm.trans k2_2_m2_8
      · exact (chk2F_eq _ _ _).symm.trans k2_2_m2_9
    · rcases nine h h2 with rfl | rfl | rfl | rfl | rfl | rfl | rfl | rfl | rfl
      · exact (chk2F_eq _ _ _).symm.trans k2_2_m1_1
      · exact (chk2F_eq _ _ _).symm.trans k2_2_m1_2
      · exact (chk2F_eq _ _ _).symm.trans k2_2_m1_3
      · exact (chk2F_eq _ _ _).symm.trans k2_2_m1_4
      · exact (chk2F_eq _ _ _).symm.trans k2_2_m1_5
      · exact (chk2F_eq _ _ _).symm.trans k2_2_m1_6
      · exact (chk2F_eq _ _ _).symm.trans k2_2_m1_7
      · exact (chk2F_eq _ _ _).symm.trans k2_2_m1_8
      · exact (chk2F_eq _ _ _).symm.trans k2_2_m1_9
    · rcases nine h h2 with rfl | rfl | rfl | rfl | rfl | rfl | rfl | rfl | rfl
      · exact (chk2F_eq _ _ _).symm.trans k2_2_0_1
      · exact (chk2F_eq _ _ _).symm.trans k2_2_0_2
      · exact (chk2F_eq _ _ _).symm.trans k2_2_0_3
      · exact (chk2F_eq _ _ _).symm.trans k2_2_0_4
      · exact (chk2F_eq _ _ _).symm.trans k2_2_0_5
      · exact (chk2F_eq _ _ _).symm.trans k2_2_0_6
      · exact (chk2F_eq _ _ _).symm.trans k2_2_0_7
      · exact (chk2F_eq _ _ _).symm.trans k2_2_0_8
      · exact (chk2F_eq _ _ _).symm.trans k2_2_0_9
    · rcases nine h h2 with rfl | rfl | rfl | rfl | rfl | rfl | rfl | rfl | rfl
      · exact (chk2F_eq _ _ _).symm.trans k2_2_1_1
      · exact (chk2F_eq _ _ _).symm.trans k2_2_1_2
      · exact (chk2F_eq _ _ _).symm.trans k2_2_1_3
      · exact (chk2F_eq _ _ _).symm.trans k2_2_1_4
      · exact (chk2F_eq _ _ _).symm.trans k2_2_1_5
      · exact (chk2F_eq _ _ _).symm.trans k2_2_1_6
      · exact (chk2F_eq _ _ _).symm.trans k2_2_1_7
      · exact (chk2F_eq _ _ _).symm.trans k2_2_1_8
      · exact (chk2F_eq _ _ _).symm.trans k2_2_1_9
    · rcases nine h h2 with rfl | rfl | rfl | rfl | rfl | rfl | rfl | rfl | rfl
      · exact (chk2F_eq _ _ _).symm.trans k2_2_2_1
      · exact (chk2F_eq _ _ _).symm.trans k2_2_2_2
      · exact (chk2F_eq _ _ _).symm.trans k2_2_2_3
      · exact (chk2F_eq _ _ _).symm.trans k2_2_2_4
      · exact (chk2F_eq _ _ _).symm.trans k2_2_2_5
      · exact (chk2F_eq _ _ _).symm.trans k2_2_2_6
      · exact (chk2F_eq _ _ _).symm.trans k2_2_2_7
      · exact (chk2F_eq _ _ _).symm.trans k2_2_2_8
      · exact (chk2F_eq _ _ _).symm.trans k2_2_2_9
theorem all3 (a b p : Int) (ha : inR a) (hb : inR b) (h : p = 3 ∨ p = 5 ∨ p = 7 ∨ p = 11) : chk3 a b p = true := by
  rcases five ha with rfl | rfl | rfl | rfl | rfl
  · rcases five hb with rfl | rfl | rfl | rfl | rfl
    · rcases h with rfl | rfl | rfl | rfl
      · exact (chk3F_eq _ _ _).symm.trans k3_m2_m2_3
      · exact (chk3F_eq _ _ _).symm.trans k3_m2_m2_5
      · exact (chk3F_eq _ _ _).symm.trans k3_m2_m2_7
      · exact (chk3F_eq _ _ _).symm.trans k3_m2_m2_11
    · rcases h with rfl | rfl | rfl | rfl
      · exact (chk3F_eq _ _ _).symm.trans k3_m2_m1_3
      · exact (chk3F_eq _ _ _).symm.trans k3_m2_m1_5
      · exact (chk3F_eq _ _ _).symm.trans k3_m2_m1_7
      · exact (chk3F_eq _ _ _).symm.trans k3_m2_m1_11
    · rcases h with rfl | rfl | rfl | rfl
      · exact (chk3F_eq _ _ _).symm.trans k3_m2_0_3
      · exact (chk3F_eq _ _ _).symm.trans k3_m2_0_5
      · exact (chk3F_eq _ _ _).symm.trans k3_m2_0_7
      · exact (chk3F_eq _ _ _).symm.trans k3_m2_0_11
    · rcases h with rfl | rfl | rfl | rfl
      · exact (chk3F_eq _ _ _).symm.trans k3_m2_1_3
      · exact (chk3F_eq _ _ _).symm.trans k3_m2_1_5
      · exact (chk3F_eq _ _ _).symm.trans k3_m2_1_7
      · exact (chk3F_eq _ _ _).symm.trans k3_m2_1_11
    · rcases h with rfl | rfl | rfl | rfl
      · exact (chk3F_eq _ _ _).symm.trans k3_m2_2_3
      · exact (chk3F_eq _ _ _).symm.trans k3_m2_2_5
      · exact (chk3F_eq _ _ _).symm.trans k3_m2_2_7
      · exact (chk3F_eq _ _ _).symm.trans k3_m2_2_11
  · rcases five hb with rfl | rfl | rfl | rfl | rfl
    · rcases h with rfl | rfl | rfl | rfl
      · exact (chk3F_eq _ _ _).symm.trans k3_m1_m2_3
      · exact (chk3F_eq _ _ _).symm.trans k3_m1_m2_5
      · exact (chk3F_eq _ _ _).symm.trans k3_m1_m2_7
      · exact (chk3F_eq _ _ _).symm.trans k3_m1_m2_11
    · rcases h with rfl | rfl | rfl | rfl
      · exact (chk3F_eq _ _ _).symm.trans k3_m1_m1_3
      · exact (chk3F_eq _ _ _).symm.trans k3_m1_m1_5
      · exact (chk3F_eq _ _ _).symm.trans k3_m1_m1_7
      · exact (chk3F_eq _ _ _).symm.trans k3_m1_m1_11
    · rcases h with rfl | rfl | rfl | rfl
      · exact (chk3F_eq _ _ _).symm.trans k3_m1_0_3
      · exact (chk3F_eq _ _ _).symm.trans k3_m1_0_5
      · exact (chk3F_eq _ _ _).symm.trans k3_m1_0_7
      · exact (chk3F_eq _ _ _).symm.trans k3_m1_0_11
    · rcases h with rfl | rfl | rfl | rfl
      · exact (chk3F_eq _ _ _).symm.trans k3_m1_1_3
      · exact (chk3F_eq _ _ _).symm.trans k3_m1_1_5
      · exact (chk3F_eq _ _ _).symm.trans k3_m1_1_7
      · exact (chk3F_eq _ _ _).symm.trans k3_m1_1_11
    · rcases h with rfl | rfl | rfl | rfl
      · exact (chk3F_eq _ _ _).symm.trans k3_m1_2_3
      · exact (chk3F_eq _ _ _).symm.trans k3_m1_2_5
      · exact (chk3F_eq _ _ _).symm.trans k3_m1_2_7
      · exact (chk3F_eq _ _ _).symm.trans k3_m1_2_11
  · rcases five hb with rfl | rfl | rfl | rfl | rfl
    · rcases h with rfl | rfl | rfl | rfl
      · exact (chk3F_eq _ _ _).symm.trans k3_0_m2_3
      · exact (chk3F_eq _ _ _).symm.trans k3_0_m2_5
      · exact (chk3F_eq _ _ _).symm.trans k3_0_m2_7
      · exact (chk3F_eq _ _ _).symm.trans k3_0_m2_11
    · rcases h with rfl | rfl | rfl | rfl
      · exact (chk3F_eq _ _ _).symm.trans k3_0_m1_3
      · exact (chk3F_eq _ _ _).symm.trans k3_0_m1_5
      · exact (chk3F_eq _ _ _).symm.trans k3_0_m1_7
      · exact (chk3F_eq _ _ _).symm.trans k3_0_m1_11
    · rcases h with rfl | rfl | rfl | rfl
      · exact (chk3F_eq _ _ _).symm.trans k3_0_0_3
      · exact (chk3F_eq _ _ _).symm.trans k3_0_0_5
      · exact (chk3F_eq _ _ _).symm.trans k3_0_0_7
      · exact (chk3F_eq _ _ _).symm.trans k3_0_0_11
    · rcases h with rfl | rfl | rfl | rfl
      · exact (chk3F_eq _ _ _).symm.trans k3_0_1_3
      · exact (chk3F_eq _ _ _).symm.trans k3_0_1_5
      · exact (chk3F_eq _ _ _).symm.trans k3_0_1_7
      · exact (chk3F_eq _ _ _).symm.trans k3_0_1_11
    · rcases h with rfl | rfl | rfl | rfl
      · exact (chk3F_eq _ _ _).symm.trans k3_0_2_3
      · exact (chk3F_eq _ _ _).symm.trans k3_0_2_5
      · exact (chk3F_eq _ _ _).symm.trans k3_0_2_7
      · exact (chk3F_eq _ _ _).symm.trans k3_0_2_11
  · rcases five hb with rfl | rfl | rfl | rfl | rfl
    · rcases h with rfl | rfl | rfl | rfl
      · exact (chk3F_eq _ _ _).symm.trans k3_1_m2_3
      · exact (chk3F_eq _ _ _).symm.trans k3_1_m2_5
      · exact (chk3F_eq _ _ _).symm.trans k3_1_m2_7
      · exact (chk3F_eq _ _ _).symm.trans k3_1_m2_11
    · rcases h with rfl | rfl | rfl | rfl
      · exact (chk3F_eq _ _ _).symm.trans k3_1_m1_3
      · exact (chk3F_eq _ _ _).symm.trans k3_1_m1_5
      · exact (chk3F_eq _ _ _).symm.trans k3_1_m1_7
      · exact (chk3F_eq _ _ _).symm.trans k3_1_m1_11
    · rcases h with rfl | rfl | rfl | rfl
      · exact (chk3F_eq _ _ _).symm.trans k3_1_0_3
      · exact (chk3F_eq _ _ _).symm.trans k3_1_0_5
      · exact (chk3F_eq _ _ _).symm.trans k3_1_0_7
      · exact (chk3F_eq _ _ _).symm.trans k3_1_0_11
    · rcases h with rfl | rfl | rfl | rfl
      · exact (chk3F_eq _ _ _).symm.trans k3_1_1_3
      · exact (chk3F_eq _ _ _).symm.trans k3_1_1_5
      · exact (chk3F_eq _ _ _).symm.trans k3_1_1_7
      · exact (chk3F_eq _ _ _).symm.trans k3_1_1_11
    · rcases h with rfl | rfl | rfl | rfl
      · exact (chk3F_eq _ _ _).symm.trans k3_1_2_3
      · exact (chk3F_eq _ _ _).symm.trans k3_1_2_5
      · exact (chk3F_eq _ _ _).symm.trans k3_1_2_7
      · exact (chk3F_eq _ _ _).symm.trans k3_1_2_11
  · rcases five hb with rfl | rfl | rfl | rfl | rfl
    · rcases h with rfl | rfl | rfl | rfl
      · exact (chk3F_eq _ _ _).symm.trans k3_2_m2_3
      · exact (chk3F_eq _ _ _).symm.trans k3_2_m2_5
      · exact (chk3F_eq _ _ _).symm.trans k3_2_m2_7
      · exact (chk3F_eq _ _ _).symm.trans k3_2_m2_11
    · rcases h with rfl | rfl | rfl | rfl
      · exact (chk3F_eq _ _ _).symm.trans k3_2_m1_3
      · exact (chk3F_eq _ _ _).symm.trans k3_2_m1_5
      · exact (chk3F_eq _ _ _).symm.trans k3_2_m1_7
      · exact (chk3F_eq _ _ _).symm.trans k3_2_m1_11
    · rcases h with rfl | rfl | rfl | rfl
      · exact (chk3F_eq _ _ _).symm.trans k3_2_0_3
      · exact (chk3F_eq _ _ _).symm.trans k3_2_0_5
      · exact (chk3F_eq _ _ _).symm.trans k3_2_0_7
      · exact (chk3F_eq _ _ _).symm.trans k3_2_0_11
    · rcases h with rfl | rfl | rfl | rfl
      · exact (chk3F_eq _ _ _).symm.trans k3_2_1_3
      · exact (chk3F_eq _ _ _).symm.trans k3_2_1_5
      · exact (chk3F_eq _ _ _).symm.trans k3_2_1_7
      · exact (chk3F_eq _ _ _).symm.trans k3_2_1_11
    · rcases h with rfl | rfl | rfl | rfl
      · exact (chk3F_eq _ _ _).symm.trans k3_2_2_3
      · exact (chk3F_eq _ _ _).symm.trans k3_2_2_5
      · exact (chk3F_eq _ _ _).symm.trans k3_2_2_7
      · exact (chk3F_eq _ _ _).symm.trans k3_2_2_11
theorem checks : Checks := ⟨all1, all2, all3⟩
end Mine
end
section
open PySem PySem.Calls PySem.W PyProof.Rows
set_option maxRecDepth 100000
namespace Mine

theorem nmT_nodup : nmT.Nodup := by decide +kernel
theorem nmT_low : (nmT.all fun s => s.cps.all fun c => Nat.blt c 2000000) = true := by decide +kernel
theorem nm_lo {i : Nat} (h : i < nmT.length) : nmT[i]? = some (nm i) := by
  unfold nm
  rw [List.getElem?_eq_getElem h]
theorem nm_hi {i : Nat} (h : ¬ i < nmT.length) : nm i = ⟨#[3000000 + i]⟩ := by
  unfold nm
  rw [List.getElem?_eq_none (by omega)]
theorem nm_low {i : Nat} (h : i < nmT.length) : ((nm i).cps.all fun c => Nat.blt c 2000000) = true := List.all_eq_true.mp nmT_low _ (List.mem_of_getElem? (nm_lo h))
theorem nm_high {i : Nat} (h : ¬ i < nmT.length) : ((nm i).cps.all fun c => Nat.blt c 2000000) = false := by
  rw [nm_hi h]
  have : Nat.blt (3000000 + i) 2000000 = false := by
    cases e : Nat.blt (3000000 + i) 2000000 with
    | false => rfl
    | true => have := Nat.le_of_ble_eq_true e; omega
  simp [this]
theorem nm_inj (i j : Nat) (h : nm i = nm j) : i = j := by
  by_cases hi : i < nmT.length
  · by_cases hj : j < nmT.length
    · have e1 := nm_lo hi
      have e2 := nm_lo hj
      rw [h, ← e2] at e1
      exact (List.getElem?_inj hi nmT_nodup).mp e1
    · have := nm_low hi
      rw [h, nm_high hj] at this; cases this
  · by_cases hj : j < nmT.length
    · have := nm_low hj
      rw [← h, nm_high hi] at this; cases this
    · rw [nm_hi hi, nm_hi hj] at h
      simp at h
      exact h
theorem nm_not (x : Str) (hx : (x.cps.all fun c => Nat.blt c 2000000) = true) (h : (nmT.all fun s => !(s == x)) = true) (i : Nat) : (nm i == x) = false := by
  by_cases hi : i < nmT.length
  · have := List.all_eq_true.mp h _ (List.mem_of_getElem? (nm_lo hi))
    simpa using this
  · refine beq_eq_false_iff_ne.mpr fun e => ?_
    have := nm_high hi
    rw [e, hx] at this; cases this

noncomputable def free9 (i : Nat) : Bool := !(startupNames.contains (nm i)) && (!((looseW view []).contains (nm i)) && (!(((recsOf view).map (·.name)).contains (nm i)) && (!(((litsOf view).map (·.1)).contains (nm i)) && !(((clssOf view (looseW view [])).map (·.name)).contains (nm i)))))
theorem free9_ok : (List.range 9).all free9 = true := by decide +kernel
theorem boot9 : ∀ i v, biVal i = some v → bootBuiltins (nm i) = some v ∧ i < 9 ∧ nm i ≠ "__name__" := fun i v h => by
  have hi : i = 0 ∨ i = 1 ∨ i = 2 ∨ i = 3 ∨ i = 4 ∨ i = 5 ∨ i = 6 ∨ i = 7 ∨ i = 8 := by
    unfold biVal at h
    split at h <;> first | (cases h; done) | simp
  rcases hi with rfl | rfl | rfl | rfl | rfl | rfl | rfl | rfl | rfl <;> (cases h; exact ⟨by decide +kernel, by decide, by decide +kernel⟩)
theorem bi_top {mean : ExcName → Option Value} {mg mb : Str → Option Value} {h : Heap} (T : Top view (looseW view []) mean mg mb h) : ∀ i v, biVal i = some v → mg (nm i) = .none ∧ mb (nm i) = some v := fun i v e => by
  obtain ⟨h1, h2, h3⟩ := boot9 i v e
  have hf := List.all_eq_true.mp free9_ok i (List.mem_range.mpr h2)
  unfold free9 at hf
  simp only [Bool.and_eq_true, Bool.not_eq_true', List.contains_eq_mem, decide_eq_false_iff_not] at hf
  exact ⟨T.free _ hf.1 hf.2.1 hf.2.2.1 hf.2.2.2.1 hf.2.2.2.2, (T.builtins _ h3).trans h1⟩
theorem nm_dbg (i : Nat) : (nm i == ("__debug__" : Str)) = false := nm_not _ (by decide +kernel) (by decide +kernel) i
theorem nm_cld (i : Nat) : (nm i == ("__classdict__" : Str)) = false := nm_not _ (by decide +kernel) (by decide +kernel) i
noncomputable def lawFix {mean : ExcName → Option Value} {mg mb : Str → Option Value} {h : Heap} (w : World) (T : Top view (looseW view []) mean mg mb h) : Fix where
  prog := PySem.Challenge.rw_xm0152_01.row.prog
  w := w
  nm := nm
  mg := mg
  mb := mb
  ds := recsOf view
  inj := nm_inj
  bi := bi_top T
  dbg := nm_dbg
  cld := nm_cld
end Mine
end
section
open PySem PySem.Calls PySem.W PyProof.Rows
set_option maxRecDepth 100000
namespace Mine

theorem law_body : ((RC 43).elim [] (·.body)) = unS nm (b_law0 ++ b_law) := by kernel_rfl
theorem law_names : ((RC 43).elim [] (·.scope.names)) = unNames nm s_law := by kernel_rfl
theorem sct : ∀ i, ¬ (lk s_law i = some .cell ∨ lk s_law i = some .free) := fun i h => by
  have : ∀ q ∈ s_law, q.2 ≠ .cell ∧ q.2 ≠ .free := by decide
  rcases h with h | h
  · exact (this _ (lk_mem h)).1 rfl
  · exact (this _ (lk_mem h)).2 rfl
theorem room_law (env : Env) : Room (callerA.deeper env) 60 := ⟨rfl, (by decide : callerA.depth + 1 + 60 < recursionLimit), (by decide : callerA.units + 3 + 4 * 60 + 100 < cLine)⟩
theorem rd_ints {h : Heap} : ∀ {ns : List Int} {vs : List Value}, IntsAre vs ns → RdL (okr (fun _ => True) []) h (ns.map V.int) vs
  | _, _, .nil => .nil
  | _, _, .cons n t r => .cons (rd_mk_int (ok := okr (fun _ => True) []) (h := h)) (rd_ints r)

theorem law_top {mean : ExcName → Option Value} {mg mb : Str → Option Value} {s₁ : Shared} {w : World} {h₁ : Heap} {l : Addr} {vs : List Value} {ns : List Int} {env : Env} {body : List Stmt} {A : Around} {tk : Nat} {Q : Flow → Shared → Prop} {E : Value → Shared → Prop} {m : Str → Option Value}
    (T : Top view (looseW view []) mean mg mb s₁.heap) (H : Checks) (hL : s₁.heap.IsList l vs.toArray) (hI : IntsAre vs ns) (hc : ¬ ((63 : Nat) : Int) < (ns.length : Int)) (F : Fr s₁.heap s₁.heap.objs.size h₁ m) (hm : m (nm 103) = some (.ref l))
    (hb : body = unS nm (b_law0 ++ b_law)) (hk : env.scope.kind = .function) (hn : env.scope.names = unNames nm s_law) (hg : env.globals = mainGlobals) (hbi : env.builtins = builtinsNs) (hce : env.cells = []) (hl : env.locals = s₁.heap.objs.size) (R : Room A 60)
    (K : ∀ h' tk, (∀ b o, s₁.heap.get? b = some o → h'.get? b = some o) → Q (.ret (.bool true)) { heap := h', gens := s₁.gens, drawn := s₁.drawn, toks := tk, os := s₁.os }) :
    wpAny (model PySem.Challenge.rw_xm0152_01.row.prog w) A (execs body env) Q E { heap := h₁, gens := s₁.gens, drawn := s₁.drawn, toks := tk, os := s₁.os } := by
  subst hb
  refine wpAny_mono (Q := Q) (E := NoE) ?_ (fun _ _ z => z) fun _ _ z => z.elim
  have B : Base (lawFix w T) s₁.heap := ⟨T.g, T.b, T.nolimit, T.fn⟩
  have N : EnvN (lawFix w T) env s_law := ⟨hk, hn, hg, hbi, fun i h => absurd h (sct i)⟩
  have C : FmC (lawFix w T) (fun b o => s₁.heap.get? b = some o) (fun _ => True) env s_law := by
    refine ⟨N, ⟨hk, fun n c h => h, fun n c n' c' h _ _ => ?_⟩, fun h k => B.le k, fun b _ => trivial, fun b t o e => ?_⟩
    · rw [eOwn, hce] at h; cases h
    · rcases t with t | ⟨n, t⟩
      · rw [t, hl, size_none] at e; cases e
      · rw [eOwn, hce] at t; cases t
  have hkind : env.kindOf (nm 103) = some .local := (N.kindOf 103).trans rfl
  have Fm0 : Fm (lawFix w T) (fun b o => s₁.heap.get? b = some o) (fun _ => True) env s_law [] [(103, .sh (.list (ns.map V.int)))] m (fun _ => .none) h₁ := by
    have g1 : ∀ i sl, get [(103, Sl.sh (.list (ns.map V.int)))] i = some sl → i = 103 ∧ sl = .sh (.list (ns.map V.int)) := fun i sl e => by
      rw [get_cons] at e
      by_cases z : 103 = i
      · rw [if_pos z] at e; cases e; exact ⟨z.symm, rfl⟩
      · rw [if_neg z] at e; cases e
    refine ⟨F.keep, ⟨by rw [hl]; exact F.ns, fun n c h => by rw [eOwn, hce] at h; cases h⟩, fun i sl e => ?_, fun i sl e => ?_, fun i j li lj a n p q => ?_, fun a h => nomatch h⟩
    · rw [(g1 i sl e).1]; rfl
    · obtain ⟨rfl, rfl⟩ := g1 i sl e
      refine ⟨.ref l, ?_, ?_⟩
      · show vl env m (fun _ => .none) (nm 103) = some (.ref l)
        rw [vl, if_pos hkind]
        exact hm
      · show Rd (okr (fun _ => True) []) h₁ (.list (ns.map V.int)) (.ref l)
        rw [Rd]
        exact ⟨l, vs, rfl, ⟨trivial, fun z => nomatch z⟩, isList_le F.keep hL, rd_ints hI⟩
    · cases (g1 i _ p).2
  have HT : ∀ d ∈ tabF, ∃ rec, DefOK (lawFix w T) d.w d.f d.ps d.sc d.b rec := by
    have hn' : (lawFix w T).nm = nm := rfl
    have hd' : (lawFix w T).ds = recsOf view := rfl
    intro d hdm
    simp only [tabF, List.mem_cons, List.not_mem_nil, or_false] at hdm
    rcases hdm with rfl | rfl | rfl | rfl | rfl | rfl | rfl | rfl | rfl | rfl | rfl | rfl | rfl | rfl | rfl | rfl | rfl | rfl | rfl | rfl | rfl | rfl | rfl | rfl | rfl | rfl | rfl | rfl | rfl | rfl | rfl | rfl | rfl | rfl | rfl | rfl | rfl | rfl | rfl | rfl | rfl | rfl
    · exact df_52 hn' hd'
    · exact df_51 hn' hd'
    · exact df_49 hn' hd'
    · exact df_48 hn' hd'
    · exact df_47 hn' hd'
    · exact df_46 hn' hd'
    · exact df_45 hn' hd'
    · exact df_44 hn' hd'
    · exact df_43 hn' hd'
    · exact df_42 hn' hd'
    · exact df_41 hn' hd'
    · exact df_40 hn' hd'
    · exact df_39 hn' hd'
    · exact df_38 hn' hd'
    · exact df_37 hn' hd'
    · exact df_36 hn' hd'
    · exact df_35 hn' hd'
    · exact df_34 hn' hd'
    · exact df_33 hn' hd'
    · exact df_32 hn' hd'
    · exact df_29 hn' hd'
    · exact df_31 hn' hd'
    · exact df_30 hn' hd'
    · exact df_28 hn' hd'
    · exact df_27 hn' hd'
    · exact df_26 hn' hd'
    · exact df_25 hn' hd'
    · exact df_24 hn' hd'
    · exact df_23 hn' hd'
    · exact df_22 hn' hd'
    · exact df_21 hn' hd'
    · exact df_20 hn' hd'
    · exact df_19 hn' hd'
    · exact df_18 hn' hd'
    · exact df_17 hn' hd'
    · exact df_16 hn' hd'
    · exact df_15 hn' hd'
    · exact df_14 hn' hd'
    · exact df_13 hn' hd'
    · exact df_12 hn' hd'
    · exact df_11 hn' hd'
    · exact df_10 hn' hd'
  exact law_main (X := lawFix w T) (s := { heap := h₁, gens := s₁.gens, drawn := s₁.drawn, toks := tk, os := s₁.os }) rfl HT (df_50 rfl rfl) H C R Fm0 (by omega) fun h' tk k => K h' tk k
end Mine
end
open PySem PySem.Calls PySem.W PyProof.Rows
set_option maxRecDepth 100000 in
set_option maxHeartbeats 0 in
theorem PySem.Challenge.cw_xm0152_01_holds : PySem.Challenge.rw_xm0152_01.Holds := by
  w_on; o_law
  refine holds_open (q := Mine.view) (loose := []) (Xt := fun s => xlAt Mine.view [] s && recOk (RowW.records PySem.Challenge.rw_xm0152_01.row.toRowW) s) (XP := XL Mine.view []) (Yf := Hook.obs Hook.none) (Ya := Hook.val Hook.none) (YP := Hook.says Hook.none) (N := 3404) ?hl (Hook.of Hook.none) (Hook.keeps Hook.none) (fun s e => xl_of s (Bool.and_eq_true_iff.mp e).1) XL.keeps (by rfl) (by rfl) (by rfl)
    (fun s e => recFacts_of (Bool.and_eq_true_iff.mp e).2) (by kernel_rfl) (by assumption) (by decide +kernel) ⟨rfl, rfl, rfl, rfl, rfl, by decide +kernel⟩ ?hw ?hc
  case hl =>
    intro w
    kernel_rfl
  case hw => w_witness2
  intro w s₀ s₁ mg mb G Y fa o pm cd doc dV kV ho hd hcd hD hmg hg args vals as hpre hlay hrd hwl hlo
  k_behind G ho hd hcd hD hmg hpre hlay hrd hwl hlo cd
  all_goals try k_fold
  refine Mine.law_top (by assumption) Mine.checks (by assumption) (by assumption) (by assumption) (by assumption) ?_ (by kernel_rfl) rfl (by kernel_rfl) rfl rfl rfl rfl (Mine.room_law _) ?_
  · rfl
  · intro h' tk hk
    refine ⟨.inl ⟨.bool true, _, [], rfl, ?_, ReadsW.bool _, ?_, fun _ => ⟨List.nodup_nil, fun a h => nomatch h⟩⟩, hk, rfl, by assumption⟩
    · refine raisesW_false ?_
      wrow_none_raised
    · wrow_post
