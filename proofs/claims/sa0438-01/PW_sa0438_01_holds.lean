import PyProof.Rows.All
import Wide.All
import OpenK.AllK
import Wide.FinOn
import PySem.Challenge.RW_sa0438_01
set_option Elab.async false
set_option maxRecDepth 100000

section
open PySem PySem.W PyProof.Rows PySem.Calls PySem.Spec
namespace Mine

/-! ## the evaluator -/
abbrev Loc := List (Str × PyData)

/-- a result: none of ours, an exception in flight, a value -/
inductive Rs (α : Type) where
  | no
  | exc
  | ok (a : α)
namespace Rs
noncomputable def bind {α β : Type} (x : Rs α) (f : α → Rs β) : Rs β := match x with
  | .no => .no
  | .exc => .exc
  | .ok a => f a
noncomputable def of {α : Type} : Option α → Rs α
  | none => .no
  | some a => .ok a
end Rs

inductive SOut where
  | ret (d : PyData)
  | next (ρ : Loc)

structure Fn where
  addr : Addr
  qual : Str
  pars : List Str
  body : List Stmt
  scope : Scope

structure Tbl where
  fns : Str → Option Fn
  prim : Str → Option (List PyData → Option PyData)
  tab : Str → Str → Option PyData
  exc : Str

structure Lv where
  e : Scope → Loc → Expr → Rs PyData
  t : Scope → Loc → Expr → Rs Bool
  ss : Scope → Loc → List Stmt → Rs SOut
  k : Nat

noncomputable def mulB (a b : Int) : Bool := !(decide (Builtin.Int.intBits a > shortFactorBits) && decide (Builtin.Int.intBits b > shortFactorBits) && Builtin.Int.intTooBig (↑(Builtin.Int.intBits a) + ↑(Builtin.Int.intBits b)))

noncomputable def twoI (a b : PyData) (f : Int → Int → Option PyData) : Option PyData := match a, b with
  | .int x, .int y => f x y
  | _, _ => none
noncomputable def addS (a b : PyData) : Option PyData := match a, b with
  | .int a, .int b => some (.int (a + b))
  | .str x, .str y => if (decide (x.length ≤ 1000) && decide (y.length ≤ 1000)) = true then some (.str (x ++ y)) else none
  | _, _ => none
noncomputable def binop (op : Operator) (a b : PyData) : Option PyData := match op with
  | .Add => addS a b
  | .Sub => twoI a b fun a b => some (.int (a - b))
  | .Mult => twoI a b fun a b => if mulB a b = true then some (.int (a * b)) else none
  | .FloorDiv => twoI a b fun a b => if (b != 0 && !Builtin.divisionGoesByPylong a b) = true then some (.int (Int.fdiv a b)) else none
  | .Mod => twoI a b fun a b => if (b != 0) = true then some (.int (Int.fmod a b)) else none
  | .Pow => twoI a b fun a n => if (decide (0 ≤ n) && decide (n ≤ 1000) && decide (a.natAbs < 2 ^ 64)) = true then some (.int (a ^ n.toNat)) else none
  | .BitAnd => twoI a b fun a b => some (.int (Builtin.bitAnd a b))
  | .BitOr => twoI a b fun a b => some (.int (Builtin.bitOr a b))
  | .BitXor => twoI a b fun a b => some (.int (Builtin.bitXor a b))
  | _ => none

noncomputable def strsOf : List PyData → Option (List Str)
  | [] => some []
  | .str x :: r => (strsOf r).map (x :: ·)
  | _ :: _ => none

noncomputable def cmpI (a b : PyData) (f : Int → Int → Bool) : Option PyData := match a, b with
  | .int x, .int y => some (.bool (f x y))
  | .bool x, .bool y => some (.bool (f (b2i x) (b2i y)))
  | _, _ => none
noncomputable def isS (a b : PyData) : Option PyData := match b with
  | .none => (match a with
    | .none => some (.bool true)
    | .int _ => some (.bool false)
    | _ => none)
  | _ => none
noncomputable def inS (a b : PyData) (f : Bool → Bool) : Option PyData := match a, b with
  | .str x, .tuple ds => (strsOf ds).map fun ys => .bool (f (ys.any fun y => y == x))
  | _, _ => none
noncomputable def cmpop (op : CmpOp) (a b : PyData) : Option PyData := match op with
  | .Eq => if (SeqAt.shaped a && SeqAt.shaped b) = true then some (.bool (PyData.eqv a b)) else none
  | .NotEq => if (SeqAt.shaped a && SeqAt.shaped b) = true then some (.bool (!PyData.eqv a b)) else none
  | .Lt => cmpI a b fun x y => decide (x < y)
  | .LtE => cmpI a b fun x y => decide (x ≤ y)
  | .Gt => cmpI a b fun x y => decide (y < x)
  | .GtE => cmpI a b fun x y => decide (y ≤ x)
  | .Is => isS a b
  | .In => inS a b id
  | .NotIn => inS a b not
  | _ => none

noncomputable def unop : UnaryOp → PyData → Option PyData
  | .Not, .bool b => some (.bool (!b))
  | .USub, .int i => some (.int (-i))
  | _, _ => none

noncomputable def args (lv : Lv) (sc : Scope) (ρ : Loc) : List Expr → Rs (List PyData)
  | [] => .ok []
  | e :: r => (lv.e sc ρ e).bind fun d => (args lv sc ρ r).bind fun ds => .ok (d :: ds)

noncomputable def noStars : List Expr → Bool
  | [] => true
  | .Starred .. :: _ => false
  | _ :: r => noStars r

noncomputable def callF (T : Tbl) (lv : Lv) (f : Str) (ds : List PyData) : Rs PyData := match T.fns f with
  | some fn => if (fn.pars.length == ds.length) = true then
      (lv.ss fn.scope (fn.pars.zip ds).reverse fn.body).bind fun o => match o with
        | .ret d => .ok d
        | .next _ => .ok .none
    else .no
  | none => if (f == "abs") = true then (match ds with
      | [.int a] => .ok (.int (if a < 0 then -a else a))
      | _ => .no)
    else match T.prim f with
      | some g => if 20 ≤ lv.k then .of (g ds) else .no
      | none => .no

noncomputable def known (T : Tbl) (f : Str) : Bool := (T.fns f).isSome || f == "abs" || (T.prim f).isSome

noncomputable def relabelS (sc2 sc : Scope) : Scope :=
  { sc2 with names := sc2.names.map fun (n, k) => if (k == .free && sc.kind == .function && sc.names.lookup n == some .cell) then (n, .cell) else (n, k) }

mutual
noncomputable def noList : PyData → Bool
  | .list _ => false
  | .dict _ => false
  | .tuple xs => noLists xs
  | _ => true
noncomputable def noLists : List PyData → Bool
  | [] => true
  | x :: r => noList x && noLists r
end

noncomputable def comp (lv : Lv) (sc : Scope) (x : Str) (ρ : Loc) (elt : Expr) : List PyData → Option (List PyData)
  | [] => some []
  | d :: r => match lv.e sc ((x, d) :: ρ) elt with
    | .ok y => if noList y = true then (comp lv sc x ρ elt r).map (y :: ·) else none
    | _ => none

noncomputable def isGlob (sc : Scope) (f : Str) : Bool := sc.names.lookup f == some .globalImplicit && !(f == "__debug__")

noncomputable def stepE (T : Tbl) (lv : Lv) (sc : Scope) (ρ : Loc) : Expr → Rs PyData
  | .Constant c _ _ => (match c with
      | .int i => .ok (.int i)
      | .str x => .ok (.str x)
      | .bool b => .ok (.bool b)
      | .none => .ok .none
      | _ => .no)
  | .Name x _ => .of (ρ.lookup x)
  | .BinOp l op r _ => (lv.e sc ρ l).bind fun a => (lv.e sc ρ r).bind fun b => .of (binop op a b)
  | .UnaryOp op x _ => (lv.e sc ρ x).bind fun a => .of (unop op a)
  | .Compare l ops rs _ => (match ops, rs with
      | [op], [r] => if behindInMarks op r = true then .no else
          (lv.e sc ρ l).bind fun a => (lv.e sc ρ r).bind fun b => .of (cmpop op a b)
      | [op₁, op₂], [r₁, r₂] => if lastMarks [op₁, op₂] [r₁, r₂] = true then .no else
          (lv.e sc ρ l).bind fun a => (lv.e sc ρ r₁).bind fun b => match cmpop op₁ a b with
            | some (.bool true) => (lv.e sc ρ r₂).bind fun c => .of (cmpop op₂ b c)
            | some (.bool false) => .ok (.bool false)
            | _ => .no
      | _, _ => .no)
  | .BoolOp op es p => (match op, es with
      | _, [x] => lv.e sc ρ x
      | .And, x :: y :: r => (lv.e sc ρ x).bind fun a => match a with
          | .bool true => lv.e sc ρ (.BoolOp .And (y :: r) p)
          | .bool false => .ok (.bool false)
          | _ => .no
      | .Or, x :: y :: r => (lv.e sc ρ x).bind fun a => match a with
          | .bool false => lv.e sc ρ (.BoolOp .Or (y :: r) p)
          | .bool true => .ok (.bool true)
          | _ => .no
      | _, _ => .no)
  | .IfExp t b o _ => (lv.t sc ρ t).bind fun c => if c = true then lv.e sc ρ b else lv.e sc ρ o
  | .Call fe as ks _ => (match fe, as, ks with
      | .Name f _, x :: r, [] => if (isGlob sc f && noStars (x :: r) && known T f) = true then
          (args lv sc ρ (x :: r)).bind fun ds => callF T lv f ds else .no
      | _, _, _ => .no)
  | .Tuple es _ _ => if (noStars es && decide (es.length ≤ 1000)) = true then (args lv sc ρ es).bind fun ds => .ok (.tuple ds) else .no
  | .List es _ => if (noStars es && decide (es.length ≤ 1000)) = true then (args lv sc ρ es).bind fun ds => .ok (.list ds) else .no
  | .Subscript ae be _ => (match ae, be with
      | .Name x _, .Constant (.int i) _ _ => (match ρ.lookup x with
          | some (.str y) => if (fitsSsize i && decide (-(y.length : Int) ≤ i) && decide (i < (y.length : Int))) = true then .ok (.str (Txt.item y i)) else .no
          | _ => .no)
      | .Name g _, .Name k _ => if isGlob sc g = true then (match ρ.lookup k with
          | some (.str y) => .of (T.tab g y)
          | _ => .no) else .no
      | _, _ => .no)
  | .ListComp elt gens sc2 _ => (match gens with
      | [⟨.Name x _, .List es _, [], 0⟩] => if (noStars es && decide (es.length ≤ 1000) && sc.kind == .function && sc2.kind == .function && sc2.names.lookup x == some .local && !(x == "__debug__") && !(x == "__classdict__") &&
            sc2.names.all (fun y => y.2 != .cell && (y.2 != .local || sc2.names.lookup y.1 == some .local) && (y.2 != .free || sc.names.lookup y.1 == some .cell))) = true then
          (args lv sc ρ es).bind fun ds => if ds.length ≤ 1000 then .of ((comp lv (relabelS sc2 sc) x (ρ.filter fun y => sc2.names.lookup y.1 == some .free) elt ds).map .list) else .no else .no
      | _ => .no)
  | _ => .no

noncomputable def plainTest : Expr → Bool
  | .UnaryOp .Not _ _ | .BoolOp .. | .IfExp .. | .Compare .. => false
  | _ => true

noncomputable def stepT (lv : Lv) (sc : Scope) (ρ : Loc) : Expr → Rs Bool
  | .UnaryOp op x _ => (match op with
      | .Not => (lv.t sc ρ x).bind fun b => .ok (!b)
      | _ => .no)
  | .BoolOp op es p => (match op, es with
      | .And, [] => .ok true
      | .And, x :: r => (lv.t sc ρ x).bind fun c => if c = true then lv.t sc ρ (.BoolOp .And r p) else .ok false
      | .Or, [] => .ok false
      | .Or, x :: r => (lv.t sc ρ x).bind fun c => if c = true then .ok true else lv.t sc ρ (.BoolOp .Or r p))
  | .Compare l ops rs _ => (match ops, rs with
      | [op], [r] => if behindInMarks op r = true then .no else
          (lv.e sc ρ l).bind fun a => (lv.e sc ρ r).bind fun b => match cmpop op a b with
            | some (.bool c) => .ok c
            | _ => .no
      | [op₁, op₂], [r₁, r₂] => if lastMarks [op₁, op₂] [r₁, r₂] = true then .no else
          (lv.e sc ρ l).bind fun a => (lv.e sc ρ r₁).bind fun b => match cmpop op₁ a b with
            | some (.bool true) => (lv.e sc ρ r₂).bind fun c => (match cmpop op₂ b c with
              | some (.bool d) => .ok d
              | _ => .no)
            | some (.bool false) => .ok false
            | _ => .no
      | _, _ => .no)
  | .Call f as ks p => (lv.e sc ρ (.Call f as ks p)).bind fun a => match a with
      | .bool b => .ok b
      | _ => .no
  | _ => .no

noncomputable def stepSS (T : Tbl) (lv : Lv) (sc : Scope) (ρ : Loc) : List Stmt → Rs SOut
  | [] => .ok (.next ρ)
  | st :: r => (match st with
    | .Return eo _ => (match eo with
        | some e => (lv.e sc ρ e).bind fun d => .ok (.ret d)
        | none => .no)
    | .If t b o _ => (lv.t sc ρ t).bind fun c => (lv.ss sc ρ (if c = true then b else o)).bind fun q => match q with
        | .ret d => .ok (.ret d)
        | .next ρ' => lv.ss sc ρ' r
    | .Assign ts v _ => (match ts with
        | [.Name x p'] => if (swapsWithB v (some (.Name x p')) && okName sc x) = true then (lv.e sc ρ v).bind fun d => lv.ss sc ((x, d) :: ρ) r else .no
        | [.Tuple [.Name x _, .Name y _, .Name z _] _ _] => (match v with
            | .Call f as ks cp => if (okName sc x && okName sc y && okName sc z) = true then
                (lv.e sc ρ (.Call f as ks cp)).bind fun d => (match d with
                  | .tuple [a, b, c] => lv.ss sc ((z, c) :: (y, b) :: (x, a) :: ρ) r
                  | _ => .no) else .no
            | _ => .no)
        | _ => .no)
    | .Raise eo co _ => (match eo, co with
        | some (.Call (.Name f _) [a] [] _), none => if (f == T.exc && isGlob sc f && noStars [a]) = true then
            (lv.e sc ρ a).bind fun d => (match d with
              | .str x => if x.length ≤ 1000 then .exc else .no
              | _ => .no) else .no
        | _, _ => .no)
    | _ => .no)
where
  okName (sc : Scope) (x : Str) : Bool := (sc.names.lookup x == some .local || sc.names.lookup x == some .cell) && !(x == "__debug__") && !(x == "__classdict__")
  swapsWithB (v : Expr) (_ : Option Expr) : Bool := match v with
    | .ListComp .. | .SetComp .. | .DictComp .. => false
    | _ => true

noncomputable def lvl (T : Tbl) : Nat → Lv
  | 0 => ⟨fun _ _ _ => .no, fun _ _ _ => .no, fun _ _ _ => .no, 0⟩
  | n + 1 => ⟨stepE T (lvl T n), stepT (lvl T n), stepSS T (lvl T n), n + 1⟩
end Mine
end

section
open PySem PySem.W PyProof.Rows PySem.Calls PySem.Spec
namespace Mine

/-! ## values and heaps -/
mutual
inductive Rd (h : Heap) : Value → PyData → Prop
  | none : Rd h .none .none
  | bool (b) : Rd h (.bool b) (.bool b)
  | int (i t) : Rd h (.int i t) (.int i)
  | str (x t) : Rd h (.str x t) (.str x)
  | list {a o vs n xs} : h.get? a = some o → o.cls = .type "list" → o.data = .seq vs n → RdAll h vs.toList xs → Rd h (.ref a) (.list xs)
  | tuple {a o vs n xs} : h.get? a = some o → o.cls = .type "tuple" → o.data = .seq vs n → RdAll h vs.toList xs → Rd h (.ref a) (.tuple xs)
inductive RdAll (h : Heap) : List Value → List PyData → Prop
  | nil : RdAll h [] []
  | cons {v vs d ds} : Rd h v d → RdAll h vs ds → RdAll h (v :: vs) (d :: ds)
end

/-- every object with items stays -/
noncomputable def SeqKeep (h h' : Heap) : Prop := ∀ b o vs n, o.data = .seq vs n → h.get? b = some o → h'.get? b = some o
theorem SeqKeep.of {h h' : Heap} (k : h.StaysIn h') : SeqKeep h h' := fun b o _ _ _ e => k b o e
mutual
theorem Rd.keep {h h' : Heap} (k : SeqKeep h h') : ∀ {v : Value} {d : PyData}, Rd h v d → Rd h' v d
  | _, _, .none => .none
  | _, _, .bool b => .bool b
  | _, _, .int i t => .int i t
  | _, _, .str x t => .str x t
  | _, _, .list h1 h2 h3 h4 => .list (k _ _ _ _ h3 h1) h2 h3 (RdAll.keep k h4)
  | _, _, .tuple h1 h2 h3 h4 => .tuple (k _ _ _ _ h3 h1) h2 h3 (RdAll.keep k h4)
theorem RdAll.keep {h h' : Heap} (k : SeqKeep h h') : ∀ {vs : List Value} {ds : List PyData}, RdAll h vs ds → RdAll h' vs ds
  | _, _, .nil => .nil
  | _, _, .cons h1 h2 => .cons (Rd.keep k h1) (RdAll.keep k h2)
end
mutual
theorem Rd.keepT {h h' : Heap} (k : ∀ b o vs n, o.cls = .type "tuple" → o.data = .seq vs n → h.get? b = some o → h'.get? b = some o) : ∀ {v : Value} {d : PyData}, noList d = true → Rd h v d → Rd h' v d
  | _, _, _, .none => .none
  | _, _, _, .bool b => .bool b
  | _, _, _, .int i t => .int i t
  | _, _, _, .str x t => .str x t
  | _, _, q, .list _ _ _ _ => absurd q (by simp [noList])
  | _, _, q, .tuple h1 h2 h3 h4 => .tuple (k _ _ _ _ h2 h3 h1) h2 h3 (RdAll.keepT k (by simpa [noList] using q) h4)
theorem RdAll.keepT {h h' : Heap} (k : ∀ b o vs n, o.cls = .type "tuple" → o.data = .seq vs n → h.get? b = some o → h'.get? b = some o) : ∀ {vs : List Value} {ds : List PyData}, noLists ds = true → RdAll h vs ds → RdAll h' vs ds
  | _, _, _, .nil => .nil
  | _, _, q, .cons h1 h2 => .cons (Rd.keepT k (by simp [noLists] at q; exact q.1) h1) (RdAll.keepT k (by simp [noLists] at q; exact q.2) h2)
end
theorem noLists_append : ∀ (a b : List PyData), noLists (a ++ b) = (noLists a && noLists b)
  | [], _ => rfl
  | x :: r, b => by show (noList x && noLists (r ++ b)) = ((noList x && noLists r) && noLists b); rw [noLists_append r b, Bool.and_assoc]
theorem Rd.stays {h h' : Heap} {v : Value} {d : PyData} (x : Rd h v d) (k : h.StaysIn h') : Rd h' v d := x.keep (.of k)
theorem RdAll.stays {h h' : Heap} {v : List Value} {d : List PyData} (x : RdAll h v d) (k : h.StaysIn h') : RdAll h' v d := x.keep (.of k)
mutual
theorem Rd.reads {h : Heap} : ∀ {v : Value} {d : PyData}, Rd h v d → ∃ as, Reads h v d as
  | _, _, .none => ⟨_, .none⟩
  | _, _, .bool b => ⟨_, .bool b⟩
  | _, _, .int i t => ⟨_, .int i t⟩
  | _, _, .str x t => ⟨_, .str x t⟩
  | _, _, .list h1 h2 h3 h4 => let ⟨_, r⟩ := RdAll.reads h4; ⟨_, .list h1 h2 h3 r⟩
  | _, _, .tuple h1 h2 h3 h4 => let ⟨_, r⟩ := RdAll.reads h4; ⟨_, .tuple h1 h2 h3 r⟩
theorem RdAll.reads {h : Heap} : ∀ {vs : List Value} {ds : List PyData}, RdAll h vs ds → ∃ as, ReadsAll h vs ds as
  | _, _, .nil => ⟨_, .nil⟩
  | _, _, .cons h1 h2 => let ⟨_, r⟩ := Rd.reads h1; let ⟨_, q⟩ := RdAll.reads h2; ⟨_, .cons r q⟩
end
theorem RdAll.length {h : Heap} : ∀ {vs : List Value} {ds : List PyData}, RdAll h vs ds → vs.length = ds.length
  | _, _, .nil => rfl
  | _, _, .cons _ r => by rw [List.length_cons, List.length_cons, RdAll.length r]
theorem Rd.int_inv {h : Heap} {v : Value} {i : Int} (x : Rd h v (.int i)) : ∃ t, v = .int i t := by cases x; exact ⟨_, rfl⟩
theorem Rd.str_inv {h : Heap} {v : Value} {i : Str} (x : Rd h v (.str i)) : ∃ t, v = .str i t := by cases x; exact ⟨_, rfl⟩
theorem Rd.bool_inv {h : Heap} {v : Value} {i : Bool} (x : Rd h v (.bool i)) : v = .bool i := by cases x; rfl
theorem Rd.none_inv {h : Heap} {v : Value} (x : Rd h v .none) : v = .none := by cases x; rfl
theorem Rd.tuple_inv {h : Heap} {v : Value} {xs : List PyData} (x : Rd h v (.tuple xs)) : ∃ a o vs n, v = .ref a ∧ h.get? a = some o ∧ o.cls = .type "tuple" ∧ o.data = .seq vs n ∧ RdAll h vs.toList xs := by
  cases x with
  | tuple a b c d => exact ⟨_, _, _, _, rfl, a, b, c, d⟩
theorem strsAre_of {h : Heap} : ∀ {vs : List Value} {ds : List PyData} {ys : List Str}, RdAll h vs ds → strsOf ds = some ys → StrsAre vs ys
  | _, _, _, .nil, e => by cases e; exact .nil
  | _, _, _, .cons (d := d) h1 h2, e => by
    cases d with
    | str x =>
      obtain ⟨t, rfl⟩ := h1.str_inv
      simp only [strsOf, Option.map_eq_some_iff] at e
      obtain ⟨ys, e1, rfl⟩ := e
      exact .cons _ _ (strsAre_of h2 e1)
    | none | bool | int | list | tuple | dict => exact absurd (show (none : Option (List Str)) = some _ from e) (by simp)

/-! ## an exception in flight -/
noncomputable def InFl (base : Heap) (l : List Env) (cls : Value) (e : Addr) (h : Heap) : Prop :=
  base.StaysIn h ∧ base.get? e = none ∧ h.FunFrames base l ∧
    ((∃ oe vs a0, h.get? e = some oe ∧ oe.cls = cls ∧ oe.data = .fields vs ∧ vs[1]? = some .none ∧ vs[0]? = some a0) ∨ ∃ a0, h.TracedW base e cls a0)
noncomputable def Fly (base : Heap) (l : List Env) (cls : Value) (e : Addr) (h : Heap) : Prop := ∃ a0, Heap.FlyingW base l e cls a0 h
theorem Fly.infl {base : Heap} {l : List Env} {cls : Value} {e : Addr} {h : Heap} (x : Fly base l cls e h) : InFl base l cls e h := by
  obtain ⟨a0, k1, k2, k3, k4⟩ := x
  exact ⟨k1, k2, k3, .inr ⟨a0, k4⟩⟩

theorem leave_ {M : Model} {A : Around} {env : Env} {l : List Env} {base : Heap} {L e : Addr} {cls : Value} {s : Shared} {Q : Unit → Shared → Prop} {E : Value → Shared → Prop}
    (hfr : A.frames = some (env :: l)) (hf : env.frame = some L) (x : InFl base (env :: l) cls e s.heap)
    (hq : ∀ h', Fly base l cls e h' → s.heap.UpToSlots h' → Q () { s with heap := h' }) : wpAny M A (leaving env (.ref e)) Q E s := by
  obtain ⟨k1, k2, k3, k4⟩ := x
  rcases k4 with ⟨oe, vs, a0, he, hc, hd, h1, h0⟩ | ⟨a0, k4⟩
  · subst hc
    refine wpAny_leaving_firstW hfr k3 hf he k1 k2 hd h1 h0 fun h' hL => ?_
    obtain ⟨q1, ⟨_, _, q2⟩, q3, q4⟩ := hL
    exact hq h' ⟨a0, q1, k2, q2, q3⟩ q4
  · refine wpAny_leaving_nextW hfr k3 hf k4 k1 k2 fun h' hL => ?_
    obtain ⟨q1, ⟨_, _, q2⟩, q3, q4⟩ := hL
    exact hq h' ⟨a0, q1, k2, q2, q3⟩ q4

/-! ## where an expression stands -/
noncomputable def Look (env : Env) (h : Heap) (x : Str) (v : Value) : Prop :=
  (env.kindOf x = some .local ∧ ∃ m, h.Ns env.locals m ∧ m x = some v) ∨
  ((env.kindOf x = some .cell ∨ env.kindOf x = some .free) ∧ ∃ c, env.cells.lookup x = some c ∧ h.IsCell c (some v))
theorem Look.keeps {env : Env} {h h' : Heap} {x : Str} {v : Value} (k : h.StaysIn h') (q : Look env h x v) : Look env h' x v := by
  rcases q with ⟨a, m, b, c⟩ | ⟨a, c, b, d⟩
  · exact .inl ⟨a, m, b.keeps k, c⟩
  · exact .inr ⟨a, c, b, d.keeps k⟩

structure EG (A : Around) (env : Env) (l : List Env) (base : Heap) (ρ : Loc) (h : Heap) : Prop where
  B : Below A base l h
  hand : A.handled = none
  ek : env.scope.kind = .function
  eg : env.globals = mainGlobals
  eb : env.builtins = builtinsNs
  cl : ∀ y, env.scope.names.lookup y = some .cell → ∃ c, env.cells.lookup y = some c
  vars : ∀ x d, ρ.lookup x = some d → (x == ("__debug__" : Str)) = false ∧ (x == ("__classdict__" : Str)) = false ∧ ∃ v, Look env h x v ∧ Rd h v d

theorem Below.more {A : Around} {base h h' : Heap} {l : List Env} (B : Below A base l h) (k : h.StaysIn h') : Below A base l h' :=
  ⟨B.stack, fun b o e => k b o (B.stays b o e), B.frames.of_keeps fun b o e _ => ⟨o, k b o e, rfl⟩⟩
theorem EG.more {A : Around} {env : Env} {l : List Env} {base h h' : Heap} {ρ : Loc} (G : EG A env l base ρ h) (k : h.StaysIn h') : EG A env l base ρ h' :=
  ⟨Below.more G.B k, G.hand, G.ek, G.eg, G.eb, G.cl, fun x d e => let ⟨a, b, v, c, r⟩ := G.vars x d e; ⟨a, b, v, c.keeps k, r.stays k⟩⟩

theorem stays_refl (h : Heap) : h.StaysIn h := fun _ _ e => e
theorem stays_trans {a b c : Heap} (x : a.StaysIn b) (y : b.StaysIn c) : a.StaysIn c := fun p o e => y p o (x p o e)
theorem upto_of {h h' : Heap} (k : h.StaysIn h') : h.UpToSlots h' := Heap.UpToSlots.of_keeps k

noncomputable def Room (A : Around) (n : Nat) : Prop := A.depth + n + 40 < recursionLimit ∧ A.units + 3 * n + 400 < cLine
theorem Room.le {A : Around} {n k : Nat} (r : Room A n) (h : k ≤ n) : Room A k := ⟨by have := r.1; omega, by have := r.2; omega⟩
theorem Room.deeper {A : Around} {n : Nat} {env : Env} (r : Room A (n + 1)) : Room (A.deeper env) n := by
  have r1 := r.1
  have r2 := r.2
  constructor
  · show A.depth + 1 + n + 40 < _; omega
  · show A.units + 3 + 3 * n + 400 < _; omega

/-- what a tree gives: a value that out says, or the exception in flight -/
noncomputable def Gives {α β : Type} (M : Model) (A : Around) (base : Heap) (l : List Env) (cls : Value) (R : Heap → β → α → Prop) (t : Sem β) (out : Rs α) (s : Shared) : Prop :=
  ∀ (Q : β → Shared → Prop) (E : Value → Shared → Prop), out ≠ .no →
    (∀ a, out = .ok a → ∀ b h' tk, s.heap.StaysIn h' → R h' b a → Q b { s with heap := h', toks := tk }) →
    (out = .exc → ∀ x h' tk, InFl base l cls x h' → s.heap.UpToSlots h' → E (.ref x) { s with heap := h', toks := tk }) → wpAny M A t Q E s

theorem bind_ok {α β : Type} {x : Rs α} {f : α → Rs β} {a : α} (e : x = .ok a) : x.bind f = f a := by rw [e]; rfl
theorem bind_exc {α β : Type} {x : Rs α} {f : α → Rs β} (e : x = .exc) : x.bind f = .exc := by rw [e]; rfl
theorem bind_no {α β : Type} {x : Rs α} {f : α → Rs β} (h : x.bind f ≠ .no) : x ≠ .no := fun e => h (by rw [e]; rfl)
theorem of_ok {α : Type} {x : Option α} (h : Rs.of x ≠ .no) : ∃ a, x = some a := by
  cases x with
  | none => exact absurd rfl h
  | some a => exact ⟨a, rfl⟩

/-- the first step of a road: its tree gives x, the rest goes on behind it -/
theorem Gives.then {α β γ : Type} {M : Model} {A : Around} {base : Heap} {l : List Env} {cls : Value} {R : Heap → β → α → Prop} {t : Sem β} {x : Rs α} {s : Shared} {f : α → Rs γ}
    {E : Value → Shared → Prop} {P : β → Shared → Prop} (g : Gives M A base l cls R t x s) (hn : x.bind f ≠ .no)
    (hx : x.bind f = .exc → ∀ e h' tk, InFl base l cls e h' → s.heap.UpToSlots h' → E (.ref e) { s with heap := h', toks := tk })
    (hp : ∀ a, x.bind f = f a → ∀ b h' tk, s.heap.StaysIn h' → R h' b a → P b { s with heap := h', toks := tk }) : wpAny M A t P E s :=
  g P E (bind_no hn) (fun a e b h' tk k r => hp a (bind_ok e) b h' tk k r) (fun e ex h' tk i u => hx (bind_exc e) ex h' tk i u)
end Mine
end

section
open PySem PySem.W PyProof.Rows PySem.Calls PySem.Spec
namespace Mine

section ops
variable {prog : Program} {w : World} {A : Around} {E : Value → Shared → Prop} {s : Shared} {Q : Value → Shared → Prop}

theorem twoI_inv {a b d : PyData} {f : Int → Int → Option PyData} (e : twoI a b f = some d) : ∃ x y, a = .int x ∧ b = .int y ∧ f x y = some d := by
  unfold twoI at e
  split at e
  · exact ⟨_, _, rfl, rfl, e⟩
  · cases e

theorem binop_sound {op : Operator} {a b : PyData} {d : PyData} {va vb : Value} (e : binop op a b = some d) (ra : Rd s.heap va a) (rb : Rd s.heap vb b)
    (h : ∀ v tk, Rd s.heap v d → Q v { s with toks := tk }) : wpAny (model prog w) A (binaryOp op va vb) Q E s := by
  unfold binop at e
  have I : ∀ {f : Int → Int → Option PyData}, twoI a b f = some d → ∃ x y t u, va = .int x t ∧ vb = .int y u ∧ f x y = some d := fun e => by
    obtain ⟨x, y, rfl, rfl, e⟩ := twoI_inv e
    obtain ⟨t, rfl⟩ := ra.int_inv
    obtain ⟨u, rfl⟩ := rb.int_inv
    exact ⟨x, y, t, u, rfl, rfl, e⟩
  cases op with
  | Add =>
    dsimp only at e
    unfold addS at e
    split at e
    · cases e; obtain ⟨t, rfl⟩ := ra.int_inv; obtain ⟨u, rfl⟩ := rb.int_inv
      exact add_int (h _ _ (.int _ _))
    · split at e
      · rename_i hm
        cases e; obtain ⟨t, rfl⟩ := ra.str_inv; obtain ⟨u, rfl⟩ := rb.str_inv
        simp only [Bool.and_eq_true, decide_eq_true_eq] at hm
        refine add_str (fun t' tk => h _ _ (.str _ _)) ?_
        rw [sizeLine_eq]; omega
      · cases e
    · cases e
  | Sub =>
    obtain ⟨x, y, t, u, rfl, rfl, e⟩ := I e
    cases e; exact sub_int (h _ _ (.int _ _))
  | Mult =>
    obtain ⟨x, y, t, u, rfl, rfl, e⟩ := I e
    split at e
    · rename_i hm
      cases e
      refine mul_int (h _ _ (.int _ _)) ?_
      unfold mulB at hm
      intro q
      rw [q] at hm
      exact absurd hm (by decide)
    · cases e
  | FloorDiv =>
    obtain ⟨x, y, t, u, rfl, rfl, e⟩ := I e
    split at e
    · rename_i hm
      cases e
      simp only [Bool.and_eq_true, bne_iff_ne, ne_eq, Bool.not_eq_true'] at hm
      exact floordiv_int hm.1 (h _ _ (.int _ _)) (.inl hm.2)
    · cases e
  | Mod =>
    obtain ⟨x, y, t, u, rfl, rfl, e⟩ := I e
    split at e
    · rename_i hm
      cases e
      simp only [bne_iff_ne, ne_eq] at hm
      exact mod_int' hm (h _ _ (.int _ _))
    · cases e
  | Pow =>
    obtain ⟨x, y, t, u, rfl, rfl, e⟩ := I e
    split at e
    · rename_i hm
      cases e
      simp only [Bool.and_eq_true, decide_eq_true_eq] at hm
      exact pow_int_small hm.1.1 (by omega) hm.2 (h _ _ (.int _ _))
    · cases e
  | BitAnd =>
    obtain ⟨x, y, t, u, rfl, rfl, e⟩ := I e
    cases e; exact and_int (h _ _ (.int _ _))
  | BitOr =>
    obtain ⟨x, y, t, u, rfl, rfl, e⟩ := I e
    cases e; exact or_int (h _ _ (.int _ _))
  | BitXor =>
    obtain ⟨x, y, t, u, rfl, rfl, e⟩ := I e
    cases e; exact xor_int (h _ _ (.int _ _))
  | _ => cases e

theorem unop_sound {op : UnaryOp} {a : PyData} {d : PyData} {va : Value} (e : unop op a = some d) (ra : Rd s.heap va a)
    (h : ∀ v tk, Rd s.heap v d → Q v { s with toks := tk }) : wpAny (model prog w) A (unaryOp op va) Q E s := by
  unfold unop at e
  split at e
  · cases e; obtain rfl := ra.bool_inv
    exact not_of (wpAny_truthy_bool (h _ s.toks (.bool _)))
  · cases e; obtain ⟨t, rfl⟩ := ra.int_inv
    exact neg_int (h _ _ (.int _ _))
  · cases e

theorem tup_inv {h : Heap} {v : Value} {ds : List PyData} {ys : List Str} (x : Rd h v (.tuple ds)) (e : strsOf ds = some ys) : ∃ t its, v = .ref t ∧ IsTup h t its ∧ StrsAre its.toList ys := by
  obtain ⟨a, o, vs, n, rfl, h1, h2, h3, h4⟩ := x.tuple_inv
  exact ⟨a, vs, rfl, ⟨o, h1, h2, n, h3⟩, strsAre_of h4 e⟩

theorem cmpI_inv {a b d : PyData} {f : Int → Int → Bool} (e : cmpI a b f = some d) : (∃ x y, a = .int x ∧ b = .int y ∧ d = .bool (f x y)) ∨ ∃ x y, a = .bool x ∧ b = .bool y ∧ d = .bool (f (b2i x) (b2i y)) := by
  unfold cmpI at e
  split at e
  · cases e; exact .inl ⟨_, _, rfl, rfl, rfl⟩
  · cases e; exact .inr ⟨_, _, rfl, rfl, rfl⟩
  · cases e
theorem inS_inv {a b d : PyData} {f : Bool → Bool} (e : inS a b f = some d) : ∃ x ds ys, a = .str x ∧ b = .tuple ds ∧ strsOf ds = some ys ∧ d = .bool (f (ys.any fun y => y == x)) := by
  unfold inS at e
  split at e
  · simp only [Option.map_eq_some_iff] at e
    obtain ⟨ys, e1, rfl⟩ := e
    exact ⟨_, _, ys, rfl, rfl, e1, rfl⟩
  · cases e
theorem isS_inv {a b d : PyData} (e : isS a b = some d) : b = .none ∧ ((a = .none ∧ d = .bool true) ∨ ∃ i, a = .int i ∧ d = .bool false) := by
  unfold isS at e
  split at e
  · split at e
    · cases e; exact ⟨rfl, .inl ⟨rfl, rfl⟩⟩
    · cases e; exact ⟨rfl, .inr ⟨_, rfl, rfl⟩⟩
    · cases e
  · cases e

theorem cmpop_sound {op : CmpOp} {a b : PyData} {d : PyData} {va vb : Value} (e : cmpop op a b = some d) (ra : Rd s.heap va a) (rb : Rd s.heap vb b) (hu : A.units + 64 < cLine)
    (h : ∀ v, Rd s.heap v d → Q v s) : wpAny (model prog w) A (compareOp op va vb) Q E s := by
  unfold cmpop at e
  have O : ∀ {f : Int → Int → Bool}, cmpI a b f = some d → (∃ x y t u, va = .int x t ∧ vb = .int y u ∧ d = .bool (f x y)) ∨ ∃ x y, va = .bool x ∧ vb = .bool y ∧ d = .bool (f (b2i x) (b2i y)) := fun e => by
    rcases cmpI_inv e with ⟨x, y, rfl, rfl, rfl⟩ | ⟨x, y, rfl, rfl, rfl⟩
    · obtain ⟨t, rfl⟩ := ra.int_inv; obtain ⟨u, rfl⟩ := rb.int_inv
      exact .inl ⟨x, y, t, u, rfl, rfl, rfl⟩
    · obtain rfl := ra.bool_inv; obtain rfl := rb.bool_inv
      exact .inr ⟨x, y, rfl, rfl, rfl⟩
  cases op with
  | Eq =>
    dsimp only at e
    split at e
    · rename_i hm
      cases e
      simp only [Bool.and_eq_true] at hm
      obtain ⟨as, ra⟩ := ra.reads
      obtain ⟨bs, rb⟩ := rb.reads
      exact eq_dataH ra rb hm.1 hm.2 hu (h _ (.bool _))
    · cases e
  | NotEq =>
    dsimp only at e
    split at e
    · rename_i hm
      cases e
      simp only [Bool.and_eq_true] at hm
      obtain ⟨as, ra⟩ := ra.reads
      obtain ⟨bs, rb⟩ := rb.reads
      exact ne_dataH ra rb hm.1 hm.2 hu (h _ (.bool _))
    · cases e
  | Lt =>
    rcases O e with ⟨x, y, t, u, rfl, rfl, rfl⟩ | ⟨x, y, rfl, rfl, rfl⟩
    · exact lt_int (h _ (.bool _))
    · exact lt_bool (h _ (.bool _))
  | LtE =>
    rcases O e with ⟨x, y, t, u, rfl, rfl, rfl⟩ | ⟨x, y, rfl, rfl, rfl⟩
    · exact le_int (h _ (.bool _))
    · exact le_bool (h _ (.bool _))
  | Gt =>
    rcases O e with ⟨x, y, t, u, rfl, rfl, rfl⟩ | ⟨x, y, rfl, rfl, rfl⟩
    · exact gt_int (h _ (.bool _))
    · exact gt_bool (h _ (.bool _))
  | GtE =>
    rcases O e with ⟨x, y, t, u, rfl, rfl, rfl⟩ | ⟨x, y, rfl, rfl, rfl⟩
    · exact ge_int (h _ (.bool _))
    · exact ge_bool (h _ (.bool _))
  | Is =>
    obtain ⟨rfl, ⟨rfl, rfl⟩ | ⟨i, rfl, rfl⟩⟩ := isS_inv e
    · obtain rfl := ra.none_inv; obtain rfl := rb.none_inv; exact wpAny_is_self (by rfl) (h _ (.bool _))
    · obtain ⟨t, rfl⟩ := ra.int_inv; obtain rfl := rb.none_inv; exact wpAny_is_other (by rfl) (by intro x; cases x) (h _ (.bool _))
  | In =>
    obtain ⟨x, ds, ys, rfl, rfl, e1, rfl⟩ := inS_inv e
    obtain ⟨u, rfl⟩ := ra.str_inv
    obtain ⟨t, its, rfl, it, sa⟩ := tup_inv rb e1
    exact in_tuple_strs it sa (h _ (.bool _))
  | NotIn =>
    obtain ⟨x, ds, ys, rfl, rfl, e1, rfl⟩ := inS_inv e
    obtain ⟨u, rfl⟩ := ra.str_inv
    obtain ⟨t, its, rfl, it, sa⟩ := tup_inv rb e1
    exact notin_tuple_strs it sa (h _ (.bool _))
  | _ => cases e
end ops

/-! ## the text's own facts -/
structure KB (K : Frag) (p : Program) (loose : List Str) (mg mb : Str → Option Value) (base : Heap) : Prop where
  X : K.In base
  T : TopRead p loose mg mb base

structure FnOk (K : Frag) (f : Str) (fn : Fn) : Prop where
  glob : nsIn K mainGlobals f = some (some (.ref fn.addr))
  keep : keepIn K (.ref fn.addr) = true
  code : ∃ name params dV kV doc pm an cdv ct oc od osl, K.lookup fn.addr = some ⟨oc, od, .func (fnX name fn.qual params fn.body fn.scope [] dV kV doc pm an cdv ct), osl⟩ ∧ codeIn K cdv fn.qual = true ∧
    ∀ vs : List Value, vs.length = fn.pars.length → bindArgs (fnX name fn.qual params fn.body fn.scope [] dV kV doc pm an cdv ct) ⟨vs, []⟩ = pure (fn.pars.zip vs)
  pars : fn.pars.all (stepSS.okName fn.scope) = true
  cells : ∀ x n, fn.scope.names.lookup x = some .cell → ((cellsFrom n fn.scope.names []).lookup x).isSome = true
  nodup : fn.pars.Nodup
  co : fn.scope.isCoroutine = false
  gen : fn.scope.isGenerator = false
  kind : fn.scope.kind = .function

/-- a call of a def that the evaluator does not open -/
def PrimOk (prog : Program) (w : World) (K : Frag) (p : Program) (loose : List Str) (mg mb : Str → Option Value) (f : Str) (g : List PyData → Option PyData) : Prop :=
  ∃ a, nsIn K mainGlobals f = some (some (.ref a)) ∧ keepIn K (.ref a) = true ∧
    ∀ (A : Around) (base : Heap) (l : List Env) (s : Shared) (vs : List Value) (ds : List PyData) (d : PyData) (Q : Value → Shared → Prop) (E : Value → Shared → Prop), g ds = some d → KB K p loose mg mb base → Below A base l s.heap → A.handled = none → Room A 20 → RdAll s.heap vs ds →
      (∀ v h' tk, s.heap.StaysIn h' → Rd h' v d → Q v { s with heap := h', toks := tk }) → wpAny (model prog w) A (call (.ref a) vs) Q E s

structure Cx (prog : Program) (w : World) (K : Frag) (p : Program) (loose : List Str) (mg mb : Str → Option Value) (cls : Value) (T : Tbl) : Prop where
  fns : ∀ f fn, T.fns f = some fn → FnOk K f fn
  prims : ∀ f g, T.prim f = some g → PrimOk prog w K p loose mg mb f g
  tabs : ∀ g y d, T.tab g y = some d → ∃ a es n v, nsIn K mainGlobals g = some (some (.ref a)) ∧ K.lookup a = some { cls := .type "dict", data := .dict es n } ∧ KeysLit w.params es.toList ∧ nsIn K a y = some (some v) ∧ ∀ h, Rd h v d
  abs : nsIn K mainGlobals "abs" = some none ∧ bootBuiltins "abs" = some (.builtin "abs")
  exc : ∀ (A : Around) (env : Env) (base : Heap) (l : List Env) (s : Shared) (arg : Expr) (np cpos pos : Pos) (Q : Flow → Shared → Prop) (E : Value → Shared → Prop), KB K p loose mg mb base → Below A base l s.heap → A.handled = none → Room A 0 →
    env.scope.kind = .function → env.globals = mainGlobals → isGlob env.scope T.exc = true → noStars [arg] = true →
    wpAny (model prog w) A (eval arg env) (fun v s₁ => ∃ msg t h' tk, v = .str msg t ∧ msg.length ≤ 1000 ∧ s₁ = { s with heap := h', toks := tk } ∧ s.heap.StaysIn h' ∧
      ∀ x h'' tk'', InFl base l cls x h'' → h'.UpToSlots h'' → E (.ref x) { s with heap := h'', toks := tk'' }) E s →
    wpAny (model prog w) A (exec (.Raise (some (.Call (.Name T.exc np) [arg] [] cpos)) none pos) env) Q E s

section
variable {prog : Program} {w : World} {K : Frag} {p : Program} {loose : List Str} {mg mb : Str → Option Value} {cls : Value} {T : Tbl}
variable {A : Around} {env : Env} {l : List Env} {base : Heap} {ρ : Loc} {s : Shared}

theorem isGlob_inv {sc : Scope} {f : Str} (h : isGlob sc f = true) : sc.names.lookup f = some .globalImplicit ∧ (f == ("__debug__" : Str)) = false := by
  unfold isGlob at h
  simp only [Bool.and_eq_true, beq_iff_eq, Bool.not_eq_true'] at h
  exact h

theorem glob_ {f : Str} {v : Value} {pos : Pos} {Q : Value → Shared → Prop} {E : Value → Shared → Prop} (kb : KB K p loose mg mb base) (G : EG A env l base ρ s.heap) (hg : isGlob env.scope f = true) (e : nsIn K mainGlobals f = some (some v)) (h : Q v s) :
    wpAny (model prog w) A (eval (.Name f pos) env) Q E s := by
  obtain ⟨h1, h2⟩ := isGlob_inv hg
  exact Name_function_global G.ek h1 (loadGlobal_global (env := env) (by rw [G.eg]; exact (kb.T.keeps G.B.stays).g) (mg_of (kb.X.keeps G.B.stays) (kb.T.keeps G.B.stays).g e) h) h2
theorem globB_ {f : Str} {v : Value} {pos : Pos} {Q : Value → Shared → Prop} {E : Value → Shared → Prop} (kb : KB K p loose mg mb base) (G : EG A env l base ρ s.heap) (hg : isGlob env.scope f = true) (e : nsIn K mainGlobals f = some none) (hb : bootBuiltins f = some v)
    (hn : f ≠ "__name__") (h : Q v s) :
    wpAny (model prog w) A (eval (.Name f pos) env) Q E s := by
  obtain ⟨h1, h2⟩ := isGlob_inv hg
  have T := kb.T.keeps G.B.stays
  exact Name_function_global G.ek h1 (loadGlobal_builtin (env := env) (by rw [G.eg]; exact T.g) (mg_none_of (kb.X.keeps G.B.stays) T.g e) (by rw [G.eb]; exact T.b) ((T.builtins f hn).trans hb) h) h2

theorem name_ {x : Str} {d : PyData} {pos : Pos} {Q : Value → Shared → Prop} {E : Value → Shared → Prop} (G : EG A env l base ρ s.heap) (e : ρ.lookup x = some d) (h : ∀ v, Rd s.heap v d → Q v s) :
    wpAny (model prog w) A (eval (.Name x pos) env) Q E s := by
  obtain ⟨h1, h2, v, hl, r⟩ := G.vars x d e
  refine wpAny_Name ?_ h1
  rcases hl with ⟨a, m, b, c⟩ | ⟨a | a, c, b, q⟩
  · exact wpAny_loadName_local G.ek a b c (h v r)
  · exact wpAny_loadName_cell G.ek a b q (h v r)
  · exact wpAny_loadName_free G.ek a b q (h v r) h2
end
end Mine
end

section
open PySem PySem.W PyProof.Rows PySem.Calls PySem.Spec
namespace Mine

/-- the locals of a def's own frame -/
noncomputable def Vars (env : Env) (m cm : Str → Option Value) (ρ : Loc) (h : Heap) : Prop :=
  ∀ x d, ρ.lookup x = some d → (x == ("__debug__" : Str)) = false ∧ (x == ("__classdict__" : Str)) = false ∧
    ∃ v, ((env.kindOf x = some .local ∧ m x = some v) ∨ (env.kindOf x = some .cell ∧ cm x = some v ∧ ∃ c, env.cells.lookup x = some c)) ∧ Rd h v d

structure FE (env : Env) : Prop where
  frame : env.frame = some env.locals
  kind : env.scope.kind = .function
  glob : env.globals = mainGlobals
  bui : env.builtins = builtinsNs
  cl : ∀ y, env.scope.names.lookup y = some .cell → ∃ c, env.cells.lookup y = some c

theorem frOf {s₀ s : Shared} {L : Addr} {m cm : Str → Option Value} {cs : List (Str × Addr)} (x : InCallC s₀ L m cs cm s) : Fr s₀.heap L s.heap m := ⟨x.toInCall.ns, x.toInCall.keep, x.toInCall.fresh⟩

theorem egOf {A₀ : Around} {env : Env} {l : List Env} {base : Heap} {s₀ s : Shared} {m cm : Str → Option Value} {ρ : Loc} (fe : FE env) (B : Below A₀ base l s₀.heap) (hh : A₀.handled = none) (x : InCallC s₀ env.locals m env.cells cm s) (V : Vars env m cm ρ s.heap) :
    EG (A₀.deeper env) env (env :: l) base ρ s.heap :=
  ⟨pushX B (frOf x) fe.frame fe.kind, hh, fe.kind, fe.glob, fe.bui, fe.cl, fun y d e => by
    obtain ⟨h1, h2, v, hl, r⟩ := V y d e
    refine ⟨h1, h2, v, ?_, r⟩
    rcases hl with ⟨a, b⟩ | ⟨a, b, c, d⟩
    · exact .inl ⟨a, m, x.toInCall.ns, b⟩
    · exact .inr ⟨.inl a, c, d, b ▸ x.cell y c d⟩⟩

noncomputable def GivesS (M : Model) (A : Around) (base : Heap) (l : List Env) (cls : Value) (env : Env) (s₀ : Shared) (t : Sem Flow) (out : Rs SOut) (s : Shared) : Prop :=
  ∀ (Q : Flow → Shared → Prop) (E : Value → Shared → Prop), out ≠ .no →
    (∀ d, out = .ok (.ret d) → ∀ v h' tk, s₀.heap.StaysIn h' → Rd h' v d → Q (.ret v) { s₀ with heap := h', toks := tk }) →
    (∀ ρ', out = .ok (.next ρ') → ∀ m' cm' s', InCallC s₀ env.locals m' env.cells cm' s' → Vars env m' cm' ρ' s'.heap → Q .next s') →
    (out = .exc → ∀ x h' tk, InFl base (env :: l) cls x h' → s₀.heap.UpToSlots h' → E (.ref x) { s₀ with heap := h', toks := tk }) → wpAny M A t Q E s

structure Sound (prog : Program) (w : World) (K : Frag) (p : Program) (loose : List Str) (mg mb : Str → Option Value) (cls : Value) (lv : Lv) (n : Nat) : Prop where
  e : ∀ (A : Around) (env : Env) (l : List Env) (base : Heap) (ρ : Loc) (s : Shared) (e : Expr), KB K p loose mg mb base → EG A env l base ρ s.heap → Room A n →
    Gives (model prog w) A base l cls Rd (eval e env) (lv.e env.scope ρ e) s
  t : ∀ (A : Around) (env : Env) (l : List Env) (base : Heap) (ρ : Loc) (s : Shared) (e : Expr), KB K p loose mg mb base → EG A env l base ρ s.heap → Room A n →
    Gives (model prog w) A base l cls (fun _ b a => b = a) (isTrue e env (eval e env)) (lv.t env.scope ρ e) s
  ss : ∀ (A₀ : Around) (env : Env) (l : List Env) (base : Heap) (ρ : Loc) (s₀ s : Shared) (m cm : Str → Option Value) (ss : List Stmt), KB K p loose mg mb base → FE env → Below A₀ base l s₀.heap → A₀.handled = none → Room (A₀.deeper env) n →
    InCallC s₀ env.locals m env.cells cm s → Vars env m cm ρ s.heap → GivesS (model prog w) (A₀.deeper env) base l cls env s₀ (execs ss env) (lv.ss env.scope ρ ss) s
  k : lv.k ≤ n

theorem sound0 {prog : Program} {w : World} {K : Frag} {p : Program} {loose : List Str} {mg mb : Str → Option Value} {cls : Value} {T : Tbl} {n : Nat} : Sound prog w K p loose mg mb cls (lvl T 0) n :=
  ⟨fun _ _ _ _ _ _ _ _ _ _ _ _ hn => absurd rfl hn, fun _ _ _ _ _ _ _ _ _ _ _ _ hn => absurd rfl hn, fun _ _ _ _ _ _ _ _ _ _ _ _ _ _ _ _ _ _ _ hn => absurd rfl hn, Nat.zero_le _⟩

section
variable {prog : Program} {w : World} {K : Frag} {p : Program} {loose : List Str} {mg mb : Str → Option Value} {cls : Value} {T : Tbl} {lv : Lv} {n : Nat}
variable {A : Around} {env : Env} {l : List Env} {base : Heap} {ρ : Loc} {s : Shared}

theorem noStars_cons {e : Expr} {r : List Expr} (h : noStars (e :: r) = true) : starEach (e :: r) env = (false, eval e env) :: starEach r env ∧ noStars r = true := by
  cases e <;> first | exact ⟨rfl, h⟩ | (exact absurd h (by simp [noStars]))

theorem noStars_plain {pos : Pos} : ∀ {es : List Expr}, noStars es = true → (backTo pos (starEach es env)).any (·.1) = false
  | [], _ => rfl
  | e :: r, h => by
    obtain ⟨h1, h2⟩ := noStars_cons (env := env) h
    rw [h1]
    show (false || (backTo pos (starEach r env)).any (·.1)) = false
    rw [noStars_plain h2]; rfl

theorem args_sound (S : Sound prog w K p loose mg mb cls lv n) (kb : KB K p loose mg mb base) (hr : Room A n) {pos : Pos} : ∀ (es : List Expr) (s : Shared), EG A env l base ρ s.heap → noStars es = true →
    Gives (model prog w) A base l cls RdAll (spliced (backTo pos (starEach es env))) (args lv env.scope ρ es) s
  | [], s, G, _ => fun Q E _ hq _ => spliced_none (hq [] rfl [] s.heap s.toks (stays_refl _) .nil)
  | e :: r, s, G, h => fun Q E hn hq hx => by
    obtain ⟨h1, h2⟩ := noStars_cons (env := env) h
    unfold args at hn hq hx
    refine spliced_more ?_ h1
    refine (S.e A env l base ρ s e kb G hr).then hn hx fun a ea v h' tk k rd => ?_
    rw [ea] at hn hq hx
    refine (args_sound S kb hr r { s with heap := h', toks := tk } (G.more k) h2).then hn (fun eq x h'' tk' i u => hx eq x h'' tk' i ((upto_of k).trans u)) fun as eas vs h'' tk' k' rds => ?_
    rw [eas] at hq
    exact hq _ rfl _ _ _ (stays_trans k k') (.cons (rd.stays k') rds)

/-! ## a call -/
theorem zip_vars {env : Env} {h : Heap} : ∀ (ps : List Str) (vs : List Value) (ds : List PyData) (m cm : Str → Option Value) (ρ : Loc), RdAll h vs ds → ps.length = ds.length → ps.Nodup →
    (∀ x ∈ ps, stepSS.okName env.scope x = true) → (∀ x, env.scope.names.lookup x = some .cell → (env.cells.lookup x).isSome = true) → Vars env m cm ρ h →
    Vars env (bindL env.kindOf (ps.zip vs) m) (bindC env.kindOf (ps.zip vs) cm) ((ps.zip ds).reverse ++ ρ) h
  | [], _, _, _, _, _, .nil, _, _, _, _, V => V
  | x :: ps, _, _, m, cm, ρ, .cons (v := v) (vs := vs) (d := d) (ds := ds) r rs, hl, hnd, hok, hc, V => by
    have hx := hok x (.head _)
    unfold stepSS.okName at hx
    simp only [Bool.and_eq_true, Bool.or_eq_true, beq_iff_eq, Bool.not_eq_true'] at hx
    have key : Vars env (if env.kindOf x = some .local then fun y => if y = x then some v else m y else m) (if env.kindOf x = some .local then cm else fun y => if y = x then some v else cm y) ((x, d) :: ρ) h := by
      intro y e hy
      by_cases hyx : y = x
      · subst hyx
        rw [List.lookup_cons_self] at hy
        cases hy
        refine ⟨hx.1.2, hx.2, v, ?_, r⟩
        rcases hx.1.1 with q | q
        · have q' : env.kindOf y = some .local := q
          exact .inl ⟨q, by rw [if_pos q']; simp⟩
        · refine .inr ⟨q, ?_, Option.isSome_iff_exists.mp (hc y q)⟩
          have : ¬ env.kindOf y = some .local := by rw [show env.kindOf y = some .cell from q]; decide
          rw [if_neg this]; simp
      · rw [List.lookup_cons, beq_false_of_ne hyx] at hy
        obtain ⟨h1, h2, u, hu, ru⟩ := V y e hy
        refine ⟨h1, h2, u, ?_, ru⟩
        rcases hu with ⟨a, b⟩ | ⟨a, b, c⟩
        · refine .inl ⟨a, ?_⟩
          split
          · simp only [if_neg hyx]; exact b
          · exact b
        · refine .inr ⟨a, ?_, c⟩
          split
          · exact b
          · simp only [if_neg hyx]; exact b
    have z := zip_vars ps vs ds _ _ _ rs (by simpa using hl) hnd.of_cons (fun y hy => hok y (.tail _ hy)) hc key
    rw [List.zip_cons_cons, List.zip_cons_cons, List.reverse_cons, List.append_assoc]
    exact z

theorem callFn_sound (S : Sound prog w K p loose mg mb cls lv n) (kb : KB K p loose mg mb base) (B : Below A base l s.heap) (hh : A.handled = none) (hr : Room A (n + 1)) {f : Str} {fn : Fn} (F : FnOk K f fn) {vs : List Value} {ds : List PyData} (rd : RdAll s.heap vs ds)
    (hl : (fn.pars.length == ds.length) = true) :
    Gives (model prog w) A base l cls Rd (call (.ref fn.addr) vs) ((lv.ss fn.scope (fn.pars.zip ds).reverse fn.body).bind fun o => match o with
        | .ret d => .ok d
        | .next _ => .ok .none) s := fun Q E hn hq hx => by
  obtain ⟨name, params, dV, kV, doc, pm, an, cdv, ct, oc, od, osl, hlk, hcd, hbind⟩ := F.code
  have X := kb.X.keeps B.stays
  have TR := kb.T.keeps B.stays
  have hl' : fn.pars.length = ds.length := beq_iff_eq.mp hl
  have hlv : vs.length = fn.pars.length := by rw [rd.length, hl']
  have hok : ∀ x ∈ fn.pars, stepSS.okName fn.scope x = true := List.all_eq_true.mp F.pars
  refine wpAny_call (codeAny_call_cells (fd := fnX name fn.qual params fn.body fn.scope [] dV kV doc pm an cdv ct) (by have := hr.1; omega) (X _ _ hlk) rfl TR.nolimit (codeRec_of X hcd) rfl (hbind vs hlv) rfl
    (fun x hx => ?_) (fun s₁ x => ?_) F.co F.gen F.kind)
  · have hm := List.of_mem_zip hx
    have q := hok x.1 hm.1
    unfold stepSS.okName at q
    simp only [Bool.and_eq_true, Bool.or_eq_true, beq_iff_eq] at q
    exact q.1.1.imp id fun q => ⟨q, F.cells _ _ q⟩
  generalize he : callEnvC (fnX name fn.qual params fn.body fn.scope [] dV kV doc pm an cdv ct) s.heap.objs.size fn.addr = env' at x ⊢
  have hsc : env'.scope = fn.scope := by rw [← he]; rfl
  have hfe : FE env' := by rw [← he]; exact ⟨rfl, F.kind, rfl, rfl, fun y hy => Option.isSome_iff_exists.mp (F.cells y _ hy)⟩
  have hcl : ∀ y, env'.scope.names.lookup y = some .cell → (env'.cells.lookup y).isSome = true := by rw [← he]; exact fun y hy => F.cells y _ hy
  have hst := x.toInCall.keep
  have V : Vars env' (bindL env'.kindOf (fn.pars.zip vs) fun _ => none) (bindC env'.kindOf (fn.pars.zip vs) fun _ => none) ((fn.pars.zip ds).reverse ++ []) s₁.heap :=
    zip_vars fn.pars vs ds _ _ [] (rd.stays hst) hl' F.nodup (by rw [hsc]; exact hok) hcl (fun y d e => by simp at e)
  rw [List.append_nil] at V
  have hA : (A.deeper env').frames = some (env' :: l) := Around.frames_deeper B.stack
  have Z := S.ss A env' l base _ s s₁ _ _ fn.body kb hfe B hh hr.deeper x V
  rw [hsc] at Z
  refine Z _ _ (bind_no hn) (fun d ed v h' tk k r => ?_) (fun ρ' ed m' cm' s' x' V' => ?_) (fun ex e h' tk i u => ?_)
  · rw [ed] at hq
    exact hq d rfl v h' tk k r
  · rw [ed] at hq
    obtain ⟨h', tk, rfl, hk⟩ := x'.done
    exact hq .none rfl .none h' tk hk .none
  · refine leave_ hA hfe.frame i fun h'' fl u' => ?_
    exact hx (bind_exc ex) e h'' tk fl.infl (u.trans u')
end
end Mine
end

section
open PySem PySem.W PyProof.Rows PySem.Calls PySem.Spec
namespace Mine
section
variable {prog : Program} {w : World} {K : Frag} {p : Program} {loose : List Str} {mg mb : Str → Option Value} {cls : Value} {T : Tbl} {lv : Lv} {n : Nat}
variable {A : Around} {env : Env} {l : List Env} {base : Heap} {ρ : Loc} {s : Shared}

/-- a call by a global name -/
theorem call_sound (C : Cx prog w K p loose mg mb cls T) (S : Sound prog w K p loose mg mb cls lv n) (kb : KB K p loose mg mb base) (G : EG A env l base ρ s.heap) (hr : Room A (n + 1)) {f : Str} {np pos : Pos} {x : Expr} {r : List Expr}
    (hg : isGlob env.scope f = true) (hs : noStars (x :: r) = true) (hk : known T f = true) :
    Gives (model prog w) A base l cls Rd (eval (.Call (.Name f np) (x :: r) [] pos) env) ((args lv env.scope ρ (x :: r)).bind fun ds => callF T lv f ds) s := fun Q E hn hq hx => by
  obtain ⟨h1, h2⟩ := noStars_cons (env := env) hs
  have hp := noStars_plain (env := env) (pos := pos) h2
  refine Call_ ?_
  have road : ∀ (v : Value) (t : List Value → Sem Value), (∀ ds vs s₁, RdAll s₁.heap vs ds → s.heap.StaysIn s₁.heap → Gives (model prog w) A base l cls Rd (t vs) (callF T lv f ds) s₁) →
      wpAny (model prog w) A (spliced (backTo pos (starEach (x :: r) env))) (fun vs s₁ => K.In s₁.heap ∧ wpAny (model prog w) A (t vs) Q E s₁) E s := fun v t ht => by
    refine (args_sound S kb (hr.le (by omega)) (x :: r) s G hs).then hn hx fun ds eds vs h' tk k rds => ?_
    rw [eds] at hn hq hx
    exact ⟨(kb.X.keeps G.B.stays).keeps k, ht ds vs _ rds k Q E hn (fun a ea b h'' tk' k' rd => hq a ea b h'' tk' (stays_trans k k') rd) (fun ex e h'' tk' i u => hx ex e h'' tk' i ((upto_of k).trans u))⟩
  cases hf : T.fns f with
  | some fn =>
    have F := C.fns f fn hf
    refine glob_ kb G hg F.glob ?_
    refine callWith_K kb.X F.keep ?_ h1 hp
    refine road (.ref fn.addr) (fun vs => call (.ref fn.addr) ([] ++ vs)) fun ds vs s₁ rds k => ?_
    unfold callF
    rw [hf]
    dsimp only
    by_cases hl : (fn.pars.length == ds.length) = true
    · rw [if_pos hl]
      exact callFn_sound S kb (Below.more G.B k) G.hand hr F rds hl
    · rw [if_neg hl]
      exact fun _ _ hn => absurd rfl hn
  | none =>
    by_cases ha : (f == ("abs" : Str)) = true
    · obtain rfl := beq_iff_eq.mp ha
      refine globB_ kb G hg C.abs.1 C.abs.2 (by decide +kernel) ?_
      refine callWith_builtin1 ?_ h1 hp
      refine wpAny_mono (road (.builtin "abs") (fun vs => call (.builtin "abs") vs) fun ds vs s₁ rds k => ?_) (fun _ _ q => q.2) fun _ _ e => e
      unfold callF
      rw [hf]
      dsimp only
      rw [if_pos ha]
      split
      · cases rds with
        | cons r1 r2 =>
          cases r2
          obtain ⟨t, rfl⟩ := r1.int_inv
          exact fun Q E _ hq _ => call_abs_int fun u tk => hq _ rfl _ s₁.heap tk (stays_refl _) (.int _ _)
      · exact fun _ _ hn => absurd rfl hn
    · cases hpr : T.prim f with
      | none =>
        refine absurd hk ?_
        unfold known
        rw [hf, hpr]
        simp only [Option.isSome_none, Bool.or_false, Bool.false_or]
        exact ha
      | some g =>
        obtain ⟨a, e1, e2, e3⟩ := C.prims f g hpr
        refine glob_ kb G hg e1 ?_
        refine callWith_K kb.X e2 ?_ h1 hp
        refine road (.ref a) (fun vs => call (.ref a) ([] ++ vs)) fun ds vs s₁ rds k => ?_
        unfold callF
        rw [hf]
        dsimp only
        rw [if_neg ha, hpr]
        dsimp only
        intro Q E hn hq _
        split at hn
        case isFalse => exact absurd rfl hn
        rename_i hk20
        rw [if_pos hk20] at hq
        have hS := S.k
        obtain ⟨d, ed⟩ := of_ok hn
        rw [ed] at hq
        exact e3 A base l s₁ vs ds d Q E ed kb (Below.more G.B k) G.hand (hr.le (by omega)) rds fun v h' tk k' rd => hq d rfl v h' tk k' rd
end
end Mine
end

section
open PySem PySem.W PyProof.Rows PySem.Calls PySem.Spec
namespace Mine
section
variable {prog : Program} {w : World} {K : Frag} {p : Program} {loose : List Str} {mg mb : Str → Option Value} {cls : Value} {T : Tbl} {lv : Lv} {n : Nat}
variable {A : Around} {env : Env} {l : List Env} {base : Heap} {ρ : Loc} {s : Shared}

theorem closure_loop {env : Env} : ∀ (names : List (Str × NameKind)) (acc : List (Str × Addr)), (∀ y ∈ names, y.2 = .free → ∃ c, env.cells.lookup y.1 = some c) →
    ∃ cs, (forIn (m := Sem) names acc fun x r => (if x.2 == .free then do let a ← cellOf env x.1; pure (ForInStep.yield ((x.1, a) :: r)) else pure (ForInStep.yield r))) = pure cs ∧
      ∀ y c, env.cells.lookup y = some c → ((∃ k, (y, k) ∈ names ∧ k = NameKind.free) ∨ acc.lookup y = some c) → cs.lookup y = some c
  | [], acc, _ => ⟨acc, rfl, fun y c _ h => by rcases h with ⟨_, h, _⟩ | h; · simp at h
                                               · exact h⟩
  | (x, k) :: r, acc, h => by
    rw [List.forIn_cons]
    by_cases hk : k = .free
    · subst hk
      obtain ⟨c, hc⟩ := h (x, .free) (.head _) rfl
      obtain ⟨cs, e, q⟩ := closure_loop r ((x, c) :: acc) fun y hy => h y (.tail _ hy)
      refine ⟨cs, ?_, fun y c' hy hm => q y c' hy ?_⟩
      · have : cellOf env x = pure c := by unfold cellOf; rw [hc]
        rw [this]
        exact e
      · by_cases hyx : y = x
        · subst hyx
          right
          rw [List.lookup_cons_self, ← hc, hy]
        · rcases hm with ⟨k', hm, hk'⟩ | hm
          · rcases List.mem_cons.mp hm with e2 | hm
            · exact absurd (Prod.mk.inj e2).1 hyx
            · exact .inl ⟨k', hm, hk'⟩
          · right
            rw [List.lookup_cons, beq_false_of_ne hyx]
            exact hm
    · obtain ⟨cs, e, q⟩ := closure_loop r acc fun y hy => h y (.tail _ hy)
      refine ⟨cs, ?_, fun y c' hy hm => q y c' hy ?_⟩
      · have : (k == NameKind.free) = false := by simpa using hk
        simp only [this]
        exact e
      · rcases hm with ⟨k', hm, hk'⟩ | hm
        · rcases List.mem_cons.mp hm with e2 | hm
          · exact absurd ((Prod.mk.inj e2).2.symm.trans hk') hk
          · exact .inl ⟨k', hm, hk'⟩
        · exact .inr hm

theorem closure_is {env : Env} {sc : Scope} (h : ∀ y ∈ sc.names, y.2 = .free → ∃ c, env.cells.lookup y.1 = some c) :
    ∃ cs, closureFor sc env = pure cs ∧ ∀ y c, env.cells.lookup y = some c → sc.names.lookup y = some .free → cs.lookup y = some c := by
  obtain ⟨cs, e, q⟩ := closure_loop sc.names [] h
  refine ⟨cs, ?_, fun y c hy hl => q y c hy (.inl ⟨_, mem_of_lookup hl, rfl⟩)⟩
  unfold closureFor
  show (forIn (m := Sem) sc.names [] _ >>= fun cs => pure cs) = pure cs
  have : (fun (x : Str × NameKind) (r : List (Str × Addr)) => (if x.2 == .free then do let a ← cellOf env x.1; pure (ForInStep.yield ((x.1, a) :: r)) else pure (ForInStep.yield r) : Sem (ForInStep (List (Str × Addr))))) = fun x r => (match x with
      | (name, kind) => if (kind == NameKind.free) = true then do
            let __do_lift ← cellOf env name
            pure (ForInStep.yield ((name, __do_lift) :: r))
          else pure (ForInStep.yield r)) := by funext x r; rfl
  first
    | (rw [← this, e]; rfl)
    | (simp only [bind_pure]; rw [← e]; rfl)

theorem relabel_free {env : Env} (hk : env.scope.kind = .function) : ∀ {names : List (Str × NameKind)} {y : Str}, names.lookup y = some .free → env.kindOf y = some .cell →
    (names.map fun (n, k) => if (k == NameKind.free && env.scope.kind == .function && env.kindOf n == some .cell) then (n, NameKind.cell) else (n, k)).lookup y = some .cell
  | [], y, h, _ => by simp at h
  | (n, k) :: r, y, h, hc => by
    have ih := @relabel_free env hk r y
    show List.lookup y ((if (k == NameKind.free && env.scope.kind == .function && env.kindOf n == some .cell) = true then (n, NameKind.cell) else (n, k)) :: _) = _
    cases hx : y == n with
    | true =>
      simp only [List.lookup_cons, hx] at h
      cases h
      obtain rfl := beq_iff_eq.mp hx
      simp [List.lookup_cons, hk, hc]
    | false =>
      simp only [List.lookup_cons, hx] at h
      split <;> (simp only [List.lookup_cons, hx]; exact ih h hc)

theorem relabel_cell_inv {env : Env} : ∀ {names : List (Str × NameKind)} {y : Str},
    (names.map fun (n, k) => if (k == NameKind.free && env.scope.kind == .function && env.kindOf n == some .cell) then (n, NameKind.cell) else (n, k)).lookup y = some .cell →
    names.lookup y = some .cell ∨ (names.lookup y = some .free ∧ env.kindOf y = some .cell)
  | [], y, h => by simp at h
  | (n, k) :: r, y, h => by
    have ih := @relabel_cell_inv env r y
    replace h : List.lookup y ((if (k == NameKind.free && env.scope.kind == .function && env.kindOf n == some .cell) = true then (n, NameKind.cell) else (n, k)) :: (r.map fun (n, k) => if (k == NameKind.free && env.scope.kind == .function && env.kindOf n == some .cell) then (n, NameKind.cell) else (n, k))) = some .cell := h
    cases hx : y == n with
    | true =>
      obtain rfl := beq_iff_eq.mp hx
      simp only [List.lookup_cons_self]
      split at h
      · rename_i hc
        simp only [Bool.and_eq_true, beq_iff_eq] at hc
        exact .inr ⟨by rw [hc.1.1], hc.2⟩
      · simp only [List.lookup_cons_self] at h
        exact .inl h
    | false =>
      simp only [List.lookup_cons, hx]
      split at h <;> (simp only [List.lookup_cons, hx] at h; exact ih h)

theorem lookup_filter {f : Str → Bool} : ∀ {ρ : Loc} {y : Str} {d : PyData}, (ρ.filter fun z => f z.1).lookup y = some d → ρ.lookup y = some d ∧ f y = true
  | [], _, _, h => by simp at h
  | (x, e) :: r, y, d, h => by
    by_cases hf : f x = true
    · rw [List.filter_cons_of_pos (p := fun z : Str × PyData => f z.1) (a := (x, e)) hf] at h
      by_cases hy : y = x
      · subst hy
        rw [List.lookup_cons_self] at h ⊢
        exact ⟨h, hf⟩
      · rw [List.lookup_cons, beq_false_of_ne hy] at h ⊢
        exact lookup_filter h
    · rw [List.filter_cons_of_neg (p := fun z : Str × PyData => f z.1) (a := (x, e)) hf] at h
      obtain ⟨h1, h2⟩ := lookup_filter h
      by_cases hy : y = x
      · subst hy; exact absurd h2 hf
      · rw [List.lookup_cons, beq_false_of_ne hy]
        exact ⟨h1, h2⟩

theorem RdAll.get {h : Heap} : ∀ {vs : List Value} {ds : List PyData} (_ : RdAll h vs ds) {i : Nat} {v : Value}, vs[i]? = some v → ∃ d, ds[i]? = some d ∧ Rd h v d
  | _, _, .nil, _, _, e => by simp at e
  | _, _, .cons r rs, 0, _, e => by simp at e; subst e; exact ⟨_, rfl, r⟩
  | _, _, .cons r rs, i + 1, _, e => by
    obtain ⟨d, h1, h2⟩ := RdAll.get rs (by simpa using e)
    exact ⟨d, by simpa using h1, h2⟩
theorem RdAll.append {h : Heap} : ∀ {vs ws : List Value} {ds es : List PyData}, RdAll h vs ds → RdAll h ws es → RdAll h (vs ++ ws) (ds ++ es)
  | _, _, _, _, .nil, q => q
  | _, _, _, _, .cons r rs, q => .cons r (RdAll.append rs q)

theorem rd3 {h : Heap} {L : List Value} {a b c : PyData} (r : RdAll h L [a, b, c]) : ∃ va vb vc, L = [va, vb, vc] ∧ Rd h va a ∧ Rd h vb b ∧ Rd h vc c := by
  cases r with
  | cons r1 r =>
    cases r with
    | cons r2 r =>
      cases r with
      | cons r3 r =>
        cases r
        exact ⟨_, _, _, rfl, r1, r2, r3⟩

theorem comp_core (S : Sound prog w K p loose mg mb cls lv n) (kb : KB K p loose mg mb base) (hr : Room A n) {elt : Expr} {x : Str} {px pos : Pos} {iter : Expr} {sc2 : Scope} {s₀ : Shared} {Q : Value → Shared → Prop} {E : Value → Shared → Prop}
    (hit : ∀ v, foldedSetIterable iter env v = pure v) (hk2 : sc2.kind = .function) (hx : sc2.names.lookup x = some .local) (hd1 : (x == ("__debug__" : Str)) = false) (hd2 : (x == ("__classdict__" : Str)) = false)
    (hall : ∀ y ∈ sc2.names, y.2 ≠ .cell ∧ (y.2 = .local → sc2.names.lookup y.1 = some .local) ∧ (y.2 = .free → env.scope.names.lookup y.1 = some .cell)) (hcl : ∀ y, env.scope.names.lookup y = some .cell → ∃ c, env.cells.lookup y = some c)
    (hev : wpAny (model prog w) A (eval iter env) (fun v s => ∃ la vs ds zs, v = .ref la ∧ EG A env l base ρ s.heap ∧ s.heap.IsList la vs.toArray ∧ RdAll s.heap vs ds ∧ ds.length ≤ 1000 ∧
      comp lv (relabelS sc2 env.scope) x (ρ.filter fun y => sc2.names.lookup y.1 == some .free) elt ds = some zs ∧ ∀ u h' tk, s.heap.StaysIn h' → Rd h' u (.list zs) → Q u { s with heap := h', toks := tk }) E s₀) :
    wpAny (model prog w) A (eval (.ListComp elt [⟨.Name x px, iter, [], 0⟩] sc2 pos) env) Q E s₀ := by
  obtain ⟨cl, hclo, hcll⟩ := closure_is (env := env) (sc := sc2) fun y hy hf => hcl y.1 ((hall y hy).2.2 hf)
  rw [eval_ListComp]
  refine wpAny_comprehension_free (use := none) rfl hit hclo hk2 (fun y hy hl => (hall y hy).2.1 hl) ?_
  show wpAny _ A (eval iter env) _ E s₀
  refine wpAny_mono hev (fun v s hv => ?_) fun _ _ e => e
  obtain ⟨la, vs, ds, zs, rfl, G, lB, rdB, hdl, ezs, hq⟩ := hv
  have hvl : vs.length = ds.length := rdB.length
  have hlaB : @LT.lt Nat _ la s.heap.objs.size := by
    obtain ⟨o, e, _⟩ := lB
    exact Heap.lt_size e
  have kB : s.heap.StaysIn s.heap := stays_refl _
  refine wpAny_pyIter_list lB ?_
  have szI : ∀ o, (s.heap.push o).objs.size = s.heap.objs.size + 1 := fun o => Heap.size_push ..
  refine wpAny_newObj_type ?_ (by show (0 : Nat) ≤ sizeLine; omega)
  refine wpAny_newFunctionEnv (fun y hy => (hall y hy).1) (by intro y hy; simp at hy) (fun h₁ hns₁ hsb₁ => ?_) hk2
  dsimp only at hns₁ hsb₁ ⊢
  generalize hI : s.heap.push { cls := .type "list_iterator", dict := none, data := .fields #[.ref la, .int 0 0] } = HI at hns₁ hsb₁ ⊢
  generalize hD : HI.push { cls := .type "list", dict := none, data := .seq ([] : List Value).toArray } = HD at hns₁ hsb₁ ⊢
  have zI : HI.objs.size = s.heap.objs.size + 1 := by rw [← hI, Heap.size_push]
  have zD : HD.objs.size = s.heap.objs.size + 2 := by rw [← hD, Heap.size_push, zI]
  have kI : s.heap.StaysIn HI := fun b o e => hI ▸ Heap.get?_push_of_some _ e
  have kD : HI.StaysIn HD := fun b o e => hD ▸ Heap.get?_push_of_some _ e
  have k1 : HD.StaysIn h₁ := fun b o e => hsb₁.extBut b o (Nat.ne_of_lt (Heap.lt_size e)) (Heap.get?_push_of_some _ e)
  have hIe : h₁.get? s.heap.objs.size = some { cls := .type "list_iterator", dict := none, data := .fields #[.ref la, .int 0 0] } := k1 _ _ (kD _ _ (hI ▸ Heap.get?_push_size _ rfl))
  have hDe : h₁.get? HI.objs.size = some (LCg.lst []) := k1 _ _ (hD ▸ Heap.get?_push_size _ rfl)
  have kB1 : s.heap.StaysIn h₁ := stays_trans kI (stays_trans kD k1)
  have W := Walks.list (prog := prog) (w := w) G.hand s.heap.objs.size la (Nat.ne_of_lt (by omega)) vs.toArray
  have st0 : h₁.IsListIter s.heap.objs.size la 0 ∧ h₁.IsList la vs.toArray := ⟨⟨_, hIe, rfl, rfl⟩, by obtain ⟨o, e, r⟩ := lB; exact ⟨o, kB1 _ _ e, r⟩⟩
  have hnI : ∀ b o, s.heap.get? b = some o → b ≠ s.heap.objs.size ∧ b ≠ HI.objs.size ∧ b ≠ HD.objs.size := fun b o e => by
    have hb : @LT.lt Nat _ b s.heap.objs.size := Heap.lt_size e
    exact ⟨Nat.ne_of_lt hb, Nat.ne_of_lt (by omega), Nat.ne_of_lt (by omega)⟩
  have loop : ∀ s₃ : Shared, s₃ = { s with heap := h₁, toks := s.toks + ([] : List (Str × Value)).length } →
      codeAny (model prog w) A (.compLoop (.ListComp elt [⟨.Name x px, iter, [], 0⟩] sc2 pos) 0 (.ref s.heap.objs.size) (.ref HI.objs.size) (compEnvC sc2 cl HD.objs.size env))
        (compPost (model prog w) A E none Q (.ref HI.objs.size) HD.objs.size) s₃ := by
    rintro s₃ rfl
    refine codeAny_compLoop_tests
      (fun k s' => ∃ h' tk i ys dn zr m', s' = { s with heap := h', toks := tk } ∧ i ≤ vs.length ∧ k = vs.length + 1 - i ∧ ys.length = i ∧ (h'.IsListIter s.heap.objs.size la i ∧ h'.IsList la vs.toArray) ∧ s.heap.StaysIn h' ∧ h'.Ns HD.objs.size m' ∧
        h'.get? HI.objs.size = some (LCg.lst ys) ∧ RdAll h' ys dn ∧ comp lv (relabelS sc2 env.scope) x (ρ.filter fun y => sc2.names.lookup y.1 == some .free) elt (ds.drop i) = some zr ∧ zs = dn ++ zr ∧ noLists dn = true) ?_ (vs.length + 1)
      ⟨h₁, _, 0, [], [], zs, _, rfl, Nat.zero_le _, rfl, rfl, st0, kB1, hns₁, hDe, .nil, ezs, rfl, rfl⟩
    rintro k s' ⟨h', tk, i, ys, dn, zr, m', rfl, hi, rfl, hyl, hst, hkB, hns, hD', rdn, ezr, rfl, hnl⟩
    by_cases hlt : i < vs.length
    · refine W.item i _ _ _ (by rw [List.size_toArray]; exact hlt) hst fun v h₂ tk₂ hPv hst₂ hk₂ => ?_
      have hPv' : vs[i]? = some v := by simpa using hPv
      obtain ⟨d, hd, rd⟩ := rdB.get hPv'
      have hdr : ds.drop i = d :: ds.drop (i + 1) := by
        rw [List.getElem?_eq_some_iff] at hd
        obtain ⟨hlt', e⟩ := hd
        rw [← e]
        exact (List.getElem_cons_drop (h := hlt')).symm
      have off₂ : ∀ b o, b ≠ s.heap.objs.size → h'.get? b = some o → h₂.get? b = some o := fun b o hb e => hk₂ b o (by simpa using hb) e
      refine wpAny_assign_Name (wpAny_storeName_local (lookup_relabel_local hx) (hns.at' fun o e => off₂ _ o (show HD.objs.size ≠ s.heap.objs.size from Nat.ne_of_gt (by omega)) e) (fun h₃ hn₃ hs₃ => ?_) (by simp [compEnvC, relabel, hk2]))
      refine wpAny_tests_nil ?_
      simp only [if_true]
      rw [hdr] at ezr
      unfold comp at ezr
      have off₃ : ∀ b o, b ≠ HD.objs.size → h₂.get? b = some o → h₃.get? b = some o := fun b o hb e => hs₃.extBut b o hb e
      have kB3 : s.heap.StaysIn h₃ := fun b o e => off₃ b o (hnI b o e).2.2 (off₂ b o (hnI b o e).1 (hkB b o e))
      have hD3 : h₃.get? HI.objs.size = some (LCg.lst ys) := off₃ _ _ (Nat.ne_of_lt (by omega)) (off₂ _ _ (Nat.ne_of_gt (by omega)) hD')
      have hst3 := W.frame _ _ _ hst₂ fun b hb o e => off₃ b o (by
        rcases List.mem_cons.mp hb with rfl | hb
        · exact Nat.ne_of_lt (by omega)
        · rw [List.mem_singleton.mp hb]; exact Nat.ne_of_lt (by omega)) e
      have sq2 : SeqKeep h' h₃ := fun b o vs' n' hd' e => by
        refine off₃ b o (fun q => ?_) (off₂ b o (fun q => ?_) e)
        · obtain ⟨o', es', ep', e', hd'', _⟩ := hns
          rw [q, e'] at e; cases e; rw [hd''] at hd'; cases hd'
        · obtain ⟨o', e', _, hf'⟩ := hst.1
          rw [q, e'] at e; cases e; rw [hf'] at hd'; cases hd'
      have rdn3 := rdn.keep sq2
      have G3 : EG A (compEnvC sc2 cl HD.objs.size env) l base ((x, d) :: (ρ.filter fun y => sc2.names.lookup y.1 == some .free)) h₃ := by
        refine ⟨Below.more G.B (stays_trans kB kB3), G.hand, hk2, G.eg, G.eb, fun y hy => ?_, fun y e hy => ?_⟩
        · rcases relabel_cell_inv hy with q | ⟨q, q'⟩
          · exact absurd rfl (hall (y, .cell) (mem_of_lookup q)).1
          · obtain ⟨c, hc⟩ := G.cl y q'
            exact ⟨c, hcll y c hc q⟩
        by_cases hyx : y = x
        · subst hyx
          rw [List.lookup_cons_self] at hy
          cases hy
          exact ⟨hd1, hd2, v, .inl ⟨lookup_relabel_local hx, _, hn₃, by simp⟩, rd.stays kB3⟩
        · rw [List.lookup_cons, beq_false_of_ne hyx] at hy
          obtain ⟨h1, h2⟩ := lookup_filter (f := fun z => sc2.names.lookup z == some .free) hy
          have h2' : sc2.names.lookup y = some .free := beq_iff_eq.mp h2
          have hcell : env.kindOf y = some .cell := (hall (y, .free) (mem_of_lookup h2')).2.2 rfl
          obtain ⟨q1, q2, u, hl, ru⟩ := G.vars y e h1
          refine ⟨q1, q2, u, ?_, ru.stays (stays_trans kB kB3)⟩
          rcases hl with ⟨a, _⟩ | ⟨_, c, a, b⟩
          · rw [hcell] at a; cases a
          · exact .inr ⟨.inl (relabel_free G.ek h2' hcell), c, hcll y c a h2', b.keeps (stays_trans kB kB3)⟩
      have Z := S.e A (compEnvC sc2 cl HD.objs.size env) l base _ { s with heap := h₃, toks := tk₂ + 1 } elt kb G3 hr
      have hsc : (compEnvC sc2 cl HD.objs.size env).scope = relabelS sc2 env.scope := rfl
      rw [hsc] at Z
      split at ezr
      case h_2 => cases ezr
      rename_i y ey
      split at ezr
      case isFalse => cases ezr
      rename_i hny
      rw [Option.map_eq_some_iff] at ezr
      obtain ⟨zr', ezr', rfl⟩ := ezr
      rw [ey] at Z
      refine Z _ _ (by intro q; cases q) (fun a ea yv h₄ tk₄ k₄ ry => ?_) (fun q => by cases q)
      cases ea
      refine append_at (hsz := by show ys.toArray.size ≤ sizeLine; rw [List.size_toArray, sizeLine_eq]; omega) (k₄ _ _ hD3) fun h₅ hs₅ hD₅ => ?_
      have off₅ : ∀ b o, b ≠ HI.objs.size → h₄.get? b = some o → h₅.get? b = some o := fun b o hb e => hs₅.extBut b o hb e
      have hst4 := W.frame _ _ _ hst3 fun b hb o e => off₅ b o (by
        rcases List.mem_cons.mp hb with rfl | hb
        · exact Nat.ne_of_lt (by omega)
        · rw [List.mem_singleton.mp hb]; exact Nat.ne_of_lt (by omega)) (k₄ b o e)
      have kB5 : s.heap.StaysIn h₅ := fun b o e => off₅ b o (hnI b o e).2.1 (k₄ b o (kB3 b o e))
      refine ⟨vs.length + 1 - (i + 1), by omega, h₅, tk₄, i + 1, ys ++ [yv], dn ++ [y], zr', _, rfl, hlt, rfl, by rw [List.length_append, List.length_singleton, hyl], hst4, kB5, (hn₃.keeps k₄).sameBut hs₅ (show HD.objs.size ≠ HI.objs.size from Nat.ne_of_gt (by omega)),
        hD₅.trans (congrArg some (LCg.lst_snoc ys yv)), ?_, ezr', by simp, by rw [noLists_append, hnl, noLists, hny]; rfl⟩
      have kT : ∀ b o vs' n', o.cls = .type "tuple" → o.data = .seq vs' n' → h₄.get? b = some o → h₅.get? b = some o := fun b o vs' n' hc _ e => off₅ b o (fun q => by
        rw [q, k₄ _ _ hD3] at e
        cases e
        exact absurd (show Value.type "list" = Value.type "tuple" from hc) (by decide)) e
      exact ((rdn3.stays k₄).keepT kT hnl).append (.cons (ry.keepT kT hny) .nil)
    · obtain rfl : i = vs.length := by omega
      refine W.done _ _ _ (by rw [List.size_toArray]; exact hst) fun h₂ tk₂ hk₂ => ?_
      have off₂ : ∀ b o, b ≠ s.heap.objs.size → h'.get? b = some o → h₂.get? b = some o := fun b o hb e => hk₂ b o (by simpa using hb) e
      rw [show ds.drop vs.length = [] by rw [hvl, List.drop_length]] at ezr
      unfold comp at ezr
      cases ezr
      rw [List.append_nil] at hq
      refine ⟨_, hns.at' fun o e => off₂ _ o (show HD.objs.size ≠ s.heap.objs.size from Nat.ne_of_gt (by omega)) e, fun h₃ hs₃ => ?_⟩
      have off₃ : ∀ b o, b ≠ HD.objs.size → h₂.get? b = some o → h₃.get? b = some o := fun b o hb e => hs₃.extBut b o hb e
      have sq2 : SeqKeep h' h₃ := fun b o vs' n' hd' e => by
        refine off₃ b o (fun q => ?_) (off₂ b o (fun q => ?_) e)
        · obtain ⟨o', es', ep', e', hd'', _⟩ := hns
          rw [q, e'] at e; cases e; rw [hd''] at hd'; cases hd'
        · obtain ⟨o', e', _, hf'⟩ := hst.1
          rw [q, e'] at e; cases e; rw [hf'] at hd'; cases hd'
      refine hq (.ref HI.objs.size) h₃ tk₂ (fun b o e => off₃ b o (hnI b o (kB b o e)).2.2 (off₂ b o (hnI b o (kB b o e)).1 (hkB b o (kB b o e)))) ?_
      exact .list (sq2 _ _ _ _ rfl hD') rfl rfl (rdn.keep sq2)
  exact codeAny_compStart_list (loop _ rfl) (W.self 0 _ _ _ st0 (loop _ rfl))

theorem comp_sound (S : Sound prog w K p loose mg mb cls lv n) (kb : KB K p loose mg mb base) (G : EG A env l base ρ s.heap) (hr : Room A n) {elt : Expr} {x : Str} {px lp pos : Pos} {es : List Expr} {sc2 : Scope}
    (hs : noStars es = true) (hk2 : sc2.kind = .function) (hx : sc2.names.lookup x = some .local) (hd1 : (x == ("__debug__" : Str)) = false) (hd2 : (x == ("__classdict__" : Str)) = false)
    (hall : ∀ y ∈ sc2.names, y.2 ≠ .cell ∧ (y.2 = .local → sc2.names.lookup y.1 = some .local) ∧ (y.2 = .free → env.scope.names.lookup y.1 = some .cell)) :
    Gives (model prog w) A base l cls Rd (eval (.ListComp elt [⟨.Name x px, .List es lp, [], 0⟩] sc2 pos) env)
      ((args lv env.scope ρ es).bind fun ds => if ds.length ≤ 1000 then .of ((comp lv (relabelS sc2 env.scope) x (ρ.filter fun y => sc2.names.lookup y.1 == some .free) elt ds).map .list) else .no) s := fun Q E hn hq hex => by
  refine comp_core (l := l) (ρ := ρ) S kb hr (fun _ => rfl) hk2 hx hd1 hd2 hall G.cl (List_ ?_)
  refine (args_sound S kb hr es s G hs).then hn hex fun ds eds vs hA tkA kA rds => ?_
  rw [eds] at hn hq
  clear eds hex
  have hdl : ds.length ≤ 1000 := by
    by_cases q : ds.length ≤ 1000
    · exact q
    · rw [if_neg q] at hn; exact absurd rfl hn
  rw [if_pos hdl] at hn hq
  obtain ⟨dl, edl⟩ := of_ok hn
  rw [Option.map_eq_some_iff] at edl
  obtain ⟨zs, ezs, rfl⟩ := edl
  rw [ezs] at hq
  replace hq := hq (.list zs) rfl
  have hvl : vs.length = ds.length := rds.length
  refine wpAny_newObj_type ?_ (by show vs.toArray.size ≤ sizeLine; rw [List.size_toArray, sizeLine_eq]; omega)
  have kp : hA.StaysIn (hA.push { cls := .type "list", dict := none, data := .seq vs.toArray }) := fun b o e => Heap.get?_push_of_some _ e
  exact ⟨hA.objs.size, vs, ds, zs, rfl, G.more (stays_trans kA kp), ⟨_, Heap.get?_push_size _ rfl, rfl, _, rfl⟩, rds.stays kp, hdl, ezs, fun u h' tk k r => hq u h' tk (stays_trans (stays_trans kA kp) k) r⟩
end
end Mine
end

section
open PySem PySem.W PyProof.Rows PySem.Calls PySem.Spec
namespace Mine
section
variable {prog : Program} {w : World} {K : Frag} {p : Program} {loose : List Str} {mg mb : Str → Option Value} {cls : Value} {T : Tbl} {lv : Lv} {n : Nat}
variable {A : Around} {env : Env} {l : List Env} {base : Heap} {ρ : Loc} {s : Shared}

theorem room_cmp {n : Nat} (hr : Room A n) : A.units + 64 < cLine := by have := hr.2; omega

theorem args_len {sc : Scope} {ρ : Loc} : ∀ {es : List Expr} {ds : List PyData}, args lv sc ρ es = .ok ds → ds.length = es.length
  | [], _, e => by cases e; rfl
  | x :: r, ds, e => by
    unfold args at e
    cases h1 : lv.e sc ρ x with
    | no => rw [h1] at e; cases e
    | exc => rw [h1] at e; cases e
    | ok d =>
      rw [h1] at e
      cases h2 : args lv sc ρ r with
      | no => rw [h2] at e; cases e
      | exc => rw [h2] at e; cases e
      | ok ds' =>
        rw [h2] at e
        cases e
        rw [List.length_cons, List.length_cons, args_len h2]

theorem stepE_sound (C : Cx prog w K p loose mg mb cls T) (S : Sound prog w K p loose mg mb cls lv n) (kb : KB K p loose mg mb base) (G : EG A env l base ρ s.heap) (hr : Room A (n + 1)) (e : Expr) :
    Gives (model prog w) A base l cls Rd (eval e env) (stepE T lv env.scope ρ e) s := by
  have hr' : Room A n := hr.le (by omega)
  have hu := room_cmp hr
  have SE := fun (s : Shared) (e : Expr) (G : EG A env l base ρ s.heap) => S.e A env l base ρ s e kb G hr'
  have ST := fun (s : Shared) (e : Expr) (G : EG A env l base ρ s.heap) => S.t A env l base ρ s e kb G hr'
  unfold stepE
  split
  · split
    · exact fun Q E _ hq _ => wpAny_Constant_int (hq _ rfl _ s.heap _ (stays_refl _) (.int _ _))
    · exact fun Q E _ hq _ => Calls.Constant_str (hq _ rfl _ s.heap _ (stays_refl _) (.str _ _))
    · exact fun Q E _ hq _ => Constant_bool (hq _ rfl _ s.heap s.toks (stays_refl _) (.bool _))
    · exact fun Q E _ hq _ => wpAny_Constant_none (hq _ rfl _ s.heap s.toks (stays_refl _) .none)
    · exact fun _ _ hn => absurd rfl hn
  · intro Q E hn hq _
    obtain ⟨d, ed⟩ := of_ok hn
    rw [ed] at hq
    exact name_ G ed fun v r => hq d rfl v s.heap s.toks (stays_refl _) r
  · -- BinOp
    intro Q E hn hq hx
    refine wpAny_BinOp ((SE s _ G).then hn hx fun a ea v h' tk k r => ?_)
    rw [ea] at hn hq hx
    refine (SE { s with heap := h', toks := tk } _ (G.more k)).then hn (fun eq x h'' tk' i u => hx eq x h'' tk' i ((upto_of k).trans u)) fun b eb v' h'' tk' k' r' => ?_
    rw [eb] at hn hq
    obtain ⟨d, ed⟩ := of_ok hn
    rw [ed] at hq
    exact binop_sound ed (r.stays k') r' fun u tk'' ru => hq d rfl u h'' tk'' (stays_trans k k') ru
  · -- UnaryOp
    intro Q E hn hq hx
    refine UnaryOp_ ((SE s _ G).then hn hx fun a ea v h' tk k r => ?_)
    rw [ea] at hn hq
    obtain ⟨d, ed⟩ := of_ok hn
    rw [ed] at hq
    exact unop_sound ed r fun u tk'' ru => hq d rfl u h' tk'' k ru
  · split
    · -- Compare, one
      split
      · exact fun _ _ hn => absurd rfl hn
      rename_i hm
      intro Q E hn hq hx
      refine wpAny_Compare1 ((SE s _ G).then hn hx fun a ea v h' tk k r => ?_) (by simpa using hm)
      rw [ea] at hn hq hx
      refine (SE { s with heap := h', toks := tk } _ (G.more k)).then hn (fun eq x h'' tk' i u => hx eq x h'' tk' i ((upto_of k).trans u)) fun b eb v' h'' tk' k' r' => ?_
      rw [eb] at hn hq
      obtain ⟨d, ed⟩ := of_ok hn
      rw [ed] at hq
      exact cmpop_sound ed (r.stays k') r' hu fun u ru => hq d rfl u h'' tk' (stays_trans k k') ru
    · -- Compare, two
      split
      · exact fun _ _ hn => absurd rfl hn
      rename_i hm
      intro Q E hn hq hx
      refine Compare_chain ((SE s _ G).then hn hx fun a ea v h' tk k r => ?_) (by simpa using hm)
      rw [ea] at hn hq hx
      refine chain_link ((SE { s with heap := h', toks := tk } _ (G.more k)).then hn (fun eq x h'' tk' i u => hx eq x h'' tk' i ((upto_of k).trans u)) fun b eb v' h'' tk' k' r' => ?_)
      rw [eb] at hn hq hx
      split at hn
      · rename_i ec
        rw [ec] at hq hx
        dsimp only at hq hx
        refine cmpop_sound ec (r.stays k') r' hu fun u ru => ?_
        obtain rfl := ru.bool_inv
        refine wpAny_truthy_bool ?_
        rw [if_pos rfl]
        refine chain_last ((SE { s with heap := h'', toks := tk' } _ (G.more (stays_trans k k'))).then hn (fun eq x h3 tk' i u => hx eq x h3 tk' i ((upto_of (stays_trans k k')).trans u)) fun c ec v'' h3 tk3 k3 r3 => ?_)
        rw [ec] at hn hq
        obtain ⟨d, ed⟩ := of_ok hn
        rw [ed] at hq
        exact cmpop_sound ed (r'.stays k3) r3 hu fun u ru => hq d rfl u h3 tk3 (stays_trans (stays_trans k k') k3) ru
      · rename_i ec
        rw [ec] at hq
        dsimp only at hq
        refine cmpop_sound ec (r.stays k') r' hu fun u ru => ?_
        obtain rfl := ru.bool_inv
        refine wpAny_truthy_bool ?_
        rw [if_neg Bool.false_ne_true]
        exact hq _ rfl _ h'' tk' (stays_trans k k') (.bool _)
      · exact absurd rfl hn
    · exact fun _ _ hn => absurd rfl hn
  · split
    · -- BoolOp, one
      intro Q E hn hq hx
      exact BoolOp_one (SE s _ G Q E hn hq hx)
    · -- And
      intro Q E hn hq hx
      refine BoolOp_and ((SE s _ G).then hn hx fun a ea v h' tk k r => ?_)
      rw [ea] at hn hq hx
      obtain ⟨b, rfl⟩ : ∃ b, a = .bool b := by
        cases a with
        | bool b => exact ⟨b, rfl⟩
        | none | int | str | list | tuple | dict => exact absurd rfl hn
      obtain rfl := r.bool_inv
      refine wpAny_truthy_bool ?_
      cases b with
      | true =>
        rw [if_pos rfl]
        exact SE { s with heap := h', toks := tk } _ (G.more k) Q E hn (fun a ea b h'' tk' k' r => hq a ea b h'' tk' (stays_trans k k') r) (fun eq x h'' tk' i u => hx eq x h'' tk' i ((upto_of k).trans u))
      | false =>
        rw [if_neg Bool.false_ne_true]
        exact hq _ rfl _ h' tk k (.bool _)
    · -- Or
      intro Q E hn hq hx
      refine BoolOp_or ((SE s _ G).then hn hx fun a ea v h' tk k r => ?_)
      rw [ea] at hn hq hx
      obtain ⟨b, rfl⟩ : ∃ b, a = .bool b := by
        cases a with
        | bool b => exact ⟨b, rfl⟩
        | none | int | str | list | tuple | dict => exact absurd rfl hn
      obtain rfl := r.bool_inv
      refine wpAny_truthy_bool ?_
      cases b with
      | false =>
        rw [if_neg Bool.false_ne_true]
        exact SE { s with heap := h', toks := tk } _ (G.more k) Q E hn (fun a ea b h'' tk' k' r => hq a ea b h'' tk' (stays_trans k k') r) (fun eq x h'' tk' i u => hx eq x h'' tk' i ((upto_of k).trans u))
      | true =>
        rw [if_pos rfl]
        exact hq _ rfl _ h' tk k (.bool _)
    · exact fun _ _ hn => absurd rfl hn
  · -- IfExp
    intro Q E hn hq hx
    refine IfExp_ ((ST s _ G).then hn hx fun c ec b h' tk k r => ?_)
    subst r
    rw [ec] at hn hq hx
    cases b with
    | true =>
      rw [if_pos rfl] at hn hq hx ⊢
      exact SE { s with heap := h', toks := tk } _ (G.more k) Q E hn (fun a ea b h'' tk' k' r => hq a ea b h'' tk' (stays_trans k k') r) (fun eq x h'' tk' i u => hx eq x h'' tk' i ((upto_of k).trans u))
    | false =>
      rw [if_neg Bool.false_ne_true] at hn hq hx ⊢
      exact SE { s with heap := h', toks := tk } _ (G.more k) Q E hn (fun a ea b h'' tk' k' r => hq a ea b h'' tk' (stays_trans k k') r) (fun eq x h'' tk' i u => hx eq x h'' tk' i ((upto_of k).trans u))
  · split
    · -- Call
      split
      · rename_i hc
        simp only [Bool.and_eq_true] at hc
        exact call_sound C S kb G hr hc.1.1 hc.1.2 hc.2
      · exact fun _ _ hn => absurd rfl hn
    · exact fun _ _ hn => absurd rfl hn
  · -- Tuple
    split
    · rename_i es _ _ hc
      simp only [Bool.and_eq_true, decide_eq_true_eq] at hc
      intro Q E hn hq hx
      refine Tuple_ ((args_sound S kb hr' es s G hc.1) _ _ (bind_no hn) (fun ds eds vs h' tk k rds => ?_) fun ex => hx (bind_exc ex))
      rw [eds] at hq
      have hl := rds.length.trans (args_len eds)
      refine wpAny_newObj_type ?_ (by show vs.toArray.size ≤ sizeLine; rw [List.size_toArray, sizeLine_eq]; omega)
      have kp : h'.StaysIn (h'.push { cls := .type "tuple", dict := none, data := .seq vs.toArray }) := fun b o e => Heap.get?_push_of_some _ e
      exact hq _ rfl _ _ _ (stays_trans k kp) (.tuple (Heap.get?_push_size _ rfl) rfl rfl (rds.stays kp))
    · exact fun _ _ hn => absurd rfl hn
  · -- List
    split
    · rename_i es _ hc
      simp only [Bool.and_eq_true, decide_eq_true_eq] at hc
      intro Q E hn hq hx
      refine List_ ((args_sound S kb hr' es s G hc.1) _ _ (bind_no hn) (fun ds eds vs h' tk k rds => ?_) fun ex => hx (bind_exc ex))
      rw [eds] at hq
      have hl := rds.length.trans (args_len eds)
      refine wpAny_newObj_type ?_ (by show vs.toArray.size ≤ sizeLine; rw [List.size_toArray, sizeLine_eq]; omega)
      have kp : h'.StaysIn (h'.push { cls := .type "list", dict := none, data := .seq vs.toArray }) := fun b o e => Heap.get?_push_of_some _ e
      exact hq _ rfl _ _ _ (stays_trans k kp) (.list (Heap.get?_push_size _ rfl) rfl rfl (rds.stays kp))
    · exact fun _ _ hn => absurd rfl hn
  · split
    · -- a sign of a text
      split
      · split
        · rename_i i _ _ _ _ y hy hc
          simp only [Bool.and_eq_true, decide_eq_true_eq] at hc
          intro Q E hn hq hx
          refine Subscript_ (name_ G hy fun v r => ?_)
          obtain ⟨t, rfl⟩ := r.str_inv
          refine wpAny_Constant_int ?_
          exact item_str hc.1.1 hc.1.2 hc.2 (fun _ => hq _ rfl _ s.heap _ (stays_refl _) (.str _ _)) 
        · exact fun _ _ hn => absurd rfl hn
      · exact fun _ _ hn => absurd rfl hn
    · -- a table's item
      split
      · rename_i g _ k _ hg
        split
        · rename_i y hy
          intro Q E hn hq hx
          obtain ⟨d, ed⟩ := of_ok hn
          rw [ed] at hq
          obtain ⟨a, es, c, v, e1, e2, e3, e4, e5⟩ := C.tabs g y d ed
          refine Subscript_ (glob_ kb G hg e1 (name_ G hy fun v' r => ?_))
          obtain ⟨t, rfl⟩ := r.str_inv
          have hm := mapOf_K (prog := prog) (kb.X.keeps G.B.stays) e2 e3
          exact tail_any hm.typeIs slot_dict_getitem.lookup (wpAny_getItem_of (strKind_is prog w y t) hm (find_K e2 e4) (hq d rfl v s.heap _ (stays_refl _) (e5 _))) (by with_unfolding_all rfl)
        · exact fun _ _ hn => absurd rfl hn
      · exact fun _ _ hn => absurd rfl hn
    · exact fun _ _ hn => absurd rfl hn
  · split
    · -- a list comprehension
      split
      · rename_i elt x px es lp sc2 pos hc
        simp only [Bool.and_eq_true, decide_eq_true_eq, beq_iff_eq, Bool.not_eq_true', List.all_eq_true, Bool.or_eq_true, bne_iff_ne, ne_eq] at hc
        obtain ⟨⟨⟨⟨⟨⟨⟨c1, c2⟩, c3⟩, c4⟩, c5⟩, c6⟩, c7⟩, c8⟩ := hc
        exact comp_sound S kb G hr' c1 c4 c5 c6 c7 fun y hy => ⟨(c8 y hy).1.1, fun q => (c8 y hy).1.2.resolve_left fun z => z q, fun q => (c8 y hy).2.resolve_left fun z => z q⟩
      · exact fun _ _ hn => absurd rfl hn
    · exact fun _ _ hn => absurd rfl hn
  · exact fun _ _ hn => absurd rfl hn
end
end Mine
end

section
open PySem PySem.W PyProof.Rows PySem.Calls PySem.Spec
namespace Mine
section
variable {prog : Program} {w : World} {K : Frag} {p : Program} {loose : List Str} {mg mb : Str → Option Value} {cls : Value} {T : Tbl} {lv : Lv} {n : Nat}
variable {A A₀ : Around} {env : Env} {l : List Env} {base : Heap} {ρ : Loc} {s s₀ : Shared} {m cm : Str → Option Value}

theorem stepT_sound (S : Sound prog w K p loose mg mb cls lv n) (kb : KB K p loose mg mb base) (G : EG A env l base ρ s.heap) (hr : Room A (n + 1)) (e : Expr) :
    Gives (model prog w) A base l cls (fun _ b a => b = a) (isTrue e env (eval e env)) (stepT lv env.scope ρ e) s := by
  have hr' : Room A n := hr.le (by omega)
  have hu := room_cmp hr
  have SE := fun (s : Shared) (e : Expr) (G : EG A env l base ρ s.heap) => S.e A env l base ρ s e kb G hr'
  have ST := fun (s : Shared) (e : Expr) (G : EG A env l base ρ s.heap) => S.t A env l base ρ s e kb G hr'
  unfold stepT
  split
  · split
    · intro Q E hn hq hx
      refine isTrue_not ((ST s _ G).then hn hx fun c ec b h' tk k r => ?_)
      subst r
      rw [ec] at hq
      exact hq _ rfl _ h' tk k rfl
    · exact fun _ _ hn => absurd rfl hn
  · split
    · exact fun Q E _ hq _ => isTrue_and_nil (hq _ rfl _ s.heap s.toks (stays_refl _) rfl)
    · intro Q E hn hq hx
      refine isTrue_and ((ST s _ G).then hn hx fun c ec b h' tk k r => ?_)
      subst r
      rw [ec] at hn hq hx
      cases b with
      | true =>
        rw [if_pos rfl] at hn hq hx ⊢
        exact ST { s with heap := h', toks := tk } _ (G.more k) Q E hn (fun a ea b h'' tk' k' r => hq a ea b h'' tk' (stays_trans k k') r) (fun eq x h'' tk' i u => hx eq x h'' tk' i ((upto_of k).trans u))
      | false =>
        rw [if_neg Bool.false_ne_true] at hq ⊢
        exact hq _ rfl _ h' tk k rfl
    · exact fun Q E _ hq _ => isTrue_or_nil (hq _ rfl _ s.heap s.toks (stays_refl _) rfl)
    · intro Q E hn hq hx
      refine isTrue_or ((ST s _ G).then hn hx fun c ec b h' tk k r => ?_)
      subst r
      rw [ec] at hn hq hx
      cases b with
      | false =>
        rw [if_neg Bool.false_ne_true] at hn hq hx ⊢
        exact ST { s with heap := h', toks := tk } _ (G.more k) Q E hn (fun a ea b h'' tk' k' r => hq a ea b h'' tk' (stays_trans k k') r) (fun eq x h'' tk' i u => hx eq x h'' tk' i ((upto_of k).trans u))
      | true =>
        rw [if_pos rfl] at hq ⊢
        exact hq _ rfl _ h' tk k rfl
  · split
    · split
      · exact fun _ _ hn => absurd rfl hn
      rename_i hm
      intro Q E hn hq hx
      refine wpAny_isTrue_Compare1 ((SE s _ G).then hn hx fun a ea v h' tk k r => ?_) (by simpa using hm)
      rw [ea] at hn hq hx
      refine (SE { s with heap := h', toks := tk } _ (G.more k)).then hn (fun eq x h'' tk' i u => hx eq x h'' tk' i ((upto_of k).trans u)) fun b eb v' h'' tk' k' r' => ?_
      rw [eb] at hn hq
      split at hn
      · rename_i c ec
        rw [ec] at hq
        refine cmpop_sound ec (r.stays k') r' hu fun u ru => ?_
        obtain rfl := ru.bool_inv
        exact wpAny_truthy_bool (hq _ rfl _ h'' tk' (stays_trans k k') rfl)
      · exact absurd rfl hn
    · split
      · exact fun _ _ hn => absurd rfl hn
      rename_i hm
      intro Q E hn hq hx
      refine isTrue_chain ((SE s _ G).then hn hx fun a ea v h' tk k r => ?_) (by simpa using hm)
      rw [ea] at hn hq hx
      refine test_link ((SE { s with heap := h', toks := tk } _ (G.more k)).then hn (fun eq x h'' tk' i u => hx eq x h'' tk' i ((upto_of k).trans u)) fun b eb v' h'' tk' k' r' => ?_)
      rw [eb] at hn hq hx
      split at hn
      · rename_i ec
        rw [ec] at hq hx
        dsimp only at hq hx
        refine cmpop_sound ec (r.stays k') r' hu fun u ru => ?_
        obtain rfl := ru.bool_inv
        refine wpAny_truthy_bool ?_
        rw [if_pos rfl]
        refine test_last ((SE { s with heap := h'', toks := tk' } _ (G.more (stays_trans k k'))).then hn (fun eq x h3 tk' i u => hx eq x h3 tk' i ((upto_of (stays_trans k k')).trans u)) fun c ec v'' h3 tk3 k3 r3 => ?_)
        rw [ec] at hn hq
        split at hn
        · rename_i c' ec'
          rw [ec'] at hq
          refine cmpop_sound ec' (r'.stays k3) r3 hu fun u ru => ?_
          obtain rfl := ru.bool_inv
          exact wpAny_truthy_bool (hq _ rfl _ h3 tk3 (stays_trans (stays_trans k k') k3) rfl)
        · exact absurd rfl hn
      · rename_i ec
        rw [ec] at hq
        dsimp only at hq
        refine cmpop_sound ec (r.stays k') r' hu fun u ru => ?_
        obtain rfl := ru.bool_inv
        refine wpAny_truthy_bool ?_
        rw [if_neg Bool.false_ne_true]
        exact hq _ rfl _ h'' tk' (stays_trans k k') rfl
      · exact absurd rfl hn
    · exact fun _ _ hn => absurd rfl hn
  · intro Q E hn hq hx
    refine isTrue_plain ((SE s _ G).then hn hx fun a ea v h' tk k r => ?_)
    rw [ea] at hn hq
    obtain ⟨b, rfl⟩ : ∃ b, a = .bool b := by
      cases a with
      | bool b => exact ⟨b, rfl⟩
      | none | int | str | list | tuple | dict => exact absurd rfl hn
    obtain rfl := r.bool_inv
    exact wpAny_truthy_bool (hq _ rfl _ h' tk k rfl)
  · exact fun _ _ hn => absurd rfl hn

theorem okName_inv {sc : Scope} {x : Str} (h : stepSS.okName sc x = true) : (sc.names.lookup x = some .local ∨ sc.names.lookup x = some .cell) ∧ (x == ("__debug__" : Str)) = false ∧ (x == ("__classdict__" : Str)) = false := by
  unfold stepSS.okName at h
  simp only [Bool.and_eq_true, Bool.or_eq_true, beq_iff_eq, Bool.not_eq_true'] at h
  exact ⟨h.1.1, h.1.2, h.2⟩

theorem store_ {M : Model} {x : Str} {v : Value} {d : PyData} {Q : Unit → Shared → Prop} {E : Value → Shared → Prop} (fe : FE env) (hok : stepSS.okName env.scope x = true) (X : InCallC s₀ env.locals m env.cells cm s) (V : Vars env m cm ρ s.heap) (r : Rd s.heap v d)
    (h : ∀ m' cm' s', InCallC s₀ env.locals m' env.cells cm' s' → Vars env m' cm' ((x, d) :: ρ) s'.heap → SeqKeep s.heap s'.heap → Q () s') : wpAny M A (storeName env x v) Q E s := by
  obtain ⟨h1, h2, h3⟩ := okName_inv hok
  rcases h1 with hl | hl
  · refine wpAny_storeName_local hl X.toInCall.ns (fun h' hn' hs' => ?_) (by rw [fe.kind]; rfl)
    have sq : SeqKeep s.heap h' := fun b o vs n hd e => hs'.extBut b o (fun q => by
      obtain ⟨o', es', ep', e', hd', _⟩ := X.toInCall.ns
      rw [q, e'] at e; cases e; rw [hd'] at hd; cases hd) e
    refine h (fun y => if y = x then some v else m y) cm _ ⟨⟨?_, hn', fun b o e => ?_, X.toInCall.fresh⟩, fun k c hc => ?_, X.apart, X.above⟩ (fun y e hy => ?_) sq
    · obtain ⟨h₁, tk, rfl⟩ := X.toInCall.same
      exact ⟨h', _, rfl⟩
    · exact hs'.extBut b o (Nat.ne_of_lt (Nat.lt_of_lt_of_le (Heap.lt_size e) X.toInCall.fresh)) (X.toInCall.keep b o e)
    · exact (X.cell k c hc).sameBut hs' (Nat.ne_of_gt (X.above k c (mem_of_lookup hc)))
    · by_cases hyx : y = x
      · subst hyx
        rw [List.lookup_cons_self] at hy
        cases hy
        exact ⟨h2, h3, v, .inl ⟨hl, by simp⟩, r.keep sq⟩
      · rw [List.lookup_cons, beq_false_of_ne hyx] at hy
        obtain ⟨q1, q2, u, hu, ru⟩ := V y e hy
        exact ⟨q1, q2, u, hu.imp (fun ⟨a, b⟩ => ⟨a, by simp only [if_neg hyx]; exact b⟩) id, ru.keep sq⟩
  · obtain ⟨c, hc⟩ := fe.cl x hl
    have hLc := X.above x c (mem_of_lookup hc)
    refine wpAny_storeName_cell fe.kind hl hc (X.cell x c hc) fun h' hc' hs' => ?_
    have sq : SeqKeep s.heap h' := fun b o vs n hd e => hs'.extBut b o (fun q => by
      obtain ⟨o', e', hd'⟩ := X.cell x c hc
      rw [q, e'] at e; cases e; rw [hd'] at hd; cases hd) e
    refine h m (fun y => if y = x then some v else cm y) _ ⟨⟨?_, X.toInCall.ns.sameBut hs' (Nat.ne_of_lt hLc), fun b o e => ?_, X.toInCall.fresh⟩, fun k c' hk' => ?_, X.apart, X.above⟩ (fun y e hy => ?_) sq
    · obtain ⟨h₁, tk, rfl⟩ := X.toInCall.same
      exact ⟨h', _, rfl⟩
    · exact hs'.extBut b o (Nat.ne_of_lt (Nat.lt_trans (Nat.lt_of_lt_of_le (Heap.lt_size e) X.toInCall.fresh) hLc)) (X.toInCall.keep b o e)
    · by_cases hkn : k = x
      · subst hkn
        rw [hc] at hk'; cases hk'
        simpa using hc'
      · rw [if_neg hkn]
        exact (X.cell k c' hk').sameBut hs' fun e => hkn (name_of_addr X.apart (mem_of_lookup hk') (e ▸ mem_of_lookup hc))
    · by_cases hyx : y = x
      · subst hyx
        rw [List.lookup_cons_self] at hy
        cases hy
        exact ⟨h2, h3, v, .inr ⟨hl, by simp, c, hc⟩, r.keep sq⟩
      · rw [List.lookup_cons, beq_false_of_ne hyx] at hy
        obtain ⟨q1, q2, u, hu, ru⟩ := V y e hy
        exact ⟨q1, q2, u, hu.imp id (fun ⟨a, b, c⟩ => ⟨a, by simp only [if_neg hyx]; exact b, c⟩), ru.keep sq⟩

theorem vars_stays {h h' : Heap} (V : Vars env m cm ρ h) (k : h.StaysIn h') : Vars env m cm ρ h' := fun x d e => let ⟨a, b, v, c, r⟩ := V x d e; ⟨a, b, v, c, r.stays k⟩

theorem swaps_of {v : Expr} {t : Option Expr} {ln : Nat} (h : stepSS.swapsWithB v t = true) : swapsWith v t ln env = pure false := by
  cases v <;> first | rfl | exact absurd h (by simp [stepSS.swapsWithB])

theorem extBut_stays {h h' : Heap} (x : Heap.ExtBut h.objs.size h h') : h.StaysIn h' := fun b o e => x b o (Nat.ne_of_lt (Heap.lt_size e)) e

theorem stepSS_sound (C : Cx prog w K p loose mg mb cls T) (S : Sound prog w K p loose mg mb cls lv n) (kb : KB K p loose mg mb base) (fe : FE env) (B : Below A₀ base l s₀.heap) (hh : A₀.handled = none) (hr : Room (A₀.deeper env) (n + 1))
    (X : InCallC s₀ env.locals m env.cells cm s) (V : Vars env m cm ρ s.heap) (ss : List Stmt) : GivesS (model prog w) (A₀.deeper env) base l cls env s₀ (execs ss env) (stepSS T lv env.scope ρ ss) s := by
  have hr' : Room (A₀.deeper env) n := hr.le (by omega)
  have G := egOf fe B hh X V
  have SE := S.e (A₀.deeper env) env (env :: l) base ρ s
  obtain ⟨hp, tkp, hs, hkeep⟩ := X.done
  unfold stepSS
  split
  · exact fun Q E _ _ hnx _ => wpAny_execs_nil (hnx _ rfl m cm s X V)
  · split
    · split
      · -- return
        intro Q E hn hq _ hx
        refine wpAny_execs_cons (wpAny_Return_some ((SE _ kb G hr').then hn (fun eq x h' tk i u => ?_) fun d ed v h' tk k r => ?_))
        · rw [hs]
          exact hx eq x h' tk i ((upto_of X.toInCall.keep).trans u)
        · rw [ed] at hq
          rw [hs]
          exact hq d rfl v h' tk (stays_trans X.toInCall.keep k) r
      · exact fun _ _ hn => absurd rfl hn
    · -- if
      rename_i rr _ tt bb oo pp
      intro Q E hn hq hnx hx
      refine wpAny_execs_cons (wpAny_If ((S.t (A₀.deeper env) env (env :: l) base ρ s _ kb G hr').then hn (fun eq x h' tk i u => ?_) fun c ec b' h' tk k r => ?_))
      · rw [hs]
        exact hx eq x h' tk i ((upto_of X.toInCall.keep).trans u)
      · subst r
        rw [ec] at hn hq hnx hx
        have X' := X.kept (tk := tk) k
        have V' := vars_stays V k
        have Z := fun ss => S.ss A₀ env l base ρ s₀ { s with heap := h', toks := tk } m cm ss kb fe B hh hr' X' V'
        have fin : ∀ ss, ((lv.ss env.scope ρ ss).bind fun q => match q with
              | .ret d => .ok (.ret d)
              | .next ρ' => lv.ss env.scope ρ' rr) ≠ Rs.no → _ → _ → _ → wpAny (model prog w) (A₀.deeper env) (execs ss env) (fun f s' => match f with | .next => wpAny (model prog w) (A₀.deeper env) (execs rr env) Q E s' | f => Q f s') E { s with heap := h', toks := tk } := fun ss hn
            (hq : ∀ d, ((lv.ss env.scope ρ ss).bind fun q => match q with
              | .ret d => .ok (.ret d)
              | .next ρ' => lv.ss env.scope ρ' rr) = Rs.ok (SOut.ret d) → ∀ v h' tk, s₀.heap.StaysIn h' → Rd h' v d → Q (.ret v) { s₀ with heap := h', toks := tk })
            (hnx : ∀ ρ', ((lv.ss env.scope ρ ss).bind fun q => match q with
              | .ret d => .ok (.ret d)
              | .next ρ' => lv.ss env.scope ρ' rr) = Rs.ok (SOut.next ρ') → ∀ m' cm' s', InCallC s₀ env.locals m' env.cells cm' s' → Vars env m' cm' ρ' s'.heap → Q .next s')
            (hx : ((lv.ss env.scope ρ ss).bind fun q => match q with
              | .ret d => .ok (.ret d)
              | .next ρ' => lv.ss env.scope ρ' rr) = Rs.exc → ∀ x h' tk, InFl base (env :: l) cls x h' → s₀.heap.UpToSlots h' → E (.ref x) { s₀ with heap := h', toks := tk }) => by
          refine Z ss _ _ (bind_no hn) (fun d ed v h'' tk' k' r => ?_) (fun ρ' ed m' cm' s' X'' V'' => ?_) fun ex => hx (bind_exc ex)
          · rw [ed] at hq
            exact hq d rfl v h'' tk' k' r
          · rw [ed] at hn hq hnx hx
            exact S.ss A₀ env l base ρ' s₀ s' m' cm' rr kb fe B hh hr' X'' V'' Q E hn hq hnx hx
        cases b' with
        | true => rw [if_pos rfl] at hn hq hnx hx ⊢; exact fin _ hn hq hnx hx
        | false => rw [if_neg Bool.false_ne_true] at hn hq hnx hx ⊢; exact fin _ hn hq hnx hx
    · split
      · -- a name
        split
        · rename_i hc
          simp only [Bool.and_eq_true] at hc
          intro Q E hn hq hnx hx
          refine wpAny_execs_cons (wpAny_Assign_Name ((SE _ kb G hr').then hn (fun eq x h' tk i u => ?_) fun d ed v h' tk k r => ?_) (swaps_of hc.1))
          · rw [hs]
            exact hx eq x h' tk i ((upto_of X.toInCall.keep).trans u)
          · rw [ed] at hn hq hnx hx
            refine store_ fe hc.2 (X.kept (tk := tk) k) (vars_stays V k) r fun m' cm' s' X' V' _ => ?_
            exact S.ss A₀ env l base _ s₀ s' m' cm' _ kb fe B hh hr' X' V' Q E hn hq hnx hx
        · exact fun _ _ hn => absurd rfl hn
      · split
        · -- three names
          split
          · rename_i hc
            simp only [Bool.and_eq_true] at hc
            intro Q E hn hq hnx hx
            refine wpAny_execs_cons (Assign_Tuple ((SE _ kb G hr').then hn (fun eq x h' tk i u => ?_) fun d ed v h' tk k r => ?_))
            · rw [hs]
              exact hx eq x h' tk i ((upto_of X.toInCall.keep).trans u)
            · rw [ed] at hn hq hnx hx
              split at hn
              · rename_i a b c
                dsimp only at hq hnx hx
                obtain ⟨t, o, vs, q, rfl, e1, e2, e3, rds⟩ := r.tuple_inv
                rw [arm_assign_Tuple]
                refine wpAny_bind (wpAny_standAt ?_)
                obtain ⟨va, vb, vc, hvs, ra, rb, rc⟩ := rd3 rds
                refine wpAny_unpack_tuple hh ⟨o, e1, e2, q, e3⟩ (by rw [← Array.length_toList, hvs]; rfl) rfl fun h₁ hx₁ => ?_
                rw [hvs]
                have k1 := stays_trans k (extBut_stays hx₁)
                refine assignInOrder_cons (PyProof.Rows.assign_Name (store_ fe hc.1.1 (X.kept (tk := tk) k1) (vars_stays V k1) (ra.stays (extBut_stays hx₁)) fun m1 cm1 s1 X1 V1 q1 => ?_))
                refine assignInOrder_cons (PyProof.Rows.assign_Name (store_ fe hc.1.2 X1 V1 ((rb.stays (extBut_stays hx₁)).keep q1) fun m2 cm2 s2 X2 V2 q2 => ?_))
                refine assignInOrder_cons (PyProof.Rows.assign_Name (store_ fe hc.2 X2 V2 (((rc.stays (extBut_stays hx₁)).keep q1).keep q2) fun m3 cm3 s3 X3 V3 q3 => ?_))
                refine assignInOrder_nil ?_
                exact S.ss A₀ env l base _ s₀ s3 m3 cm3 _ kb fe B hh hr' X3 V3 Q E hn hq hnx hx
              · exact absurd rfl hn
          · exact fun _ _ hn => absurd rfl hn
        · exact fun _ _ hn => absurd rfl hn
      · exact fun _ _ hn => absurd rfl hn
    · split
      · -- raise
        split
        · rename_i f np a cpos hc
          simp only [Bool.and_eq_true, beq_iff_eq] at hc
          obtain ⟨⟨rfl, hg⟩, hst⟩ := hc
          intro Q E hn hq hnx hx
          refine wpAny_execs_cons (C.exc (A₀.deeper env) env base (env :: l) s a np cpos _ _ E kb G.B hh (hr.le (by omega)) fe.kind fe.glob hg hst ?_)
          refine (SE _ kb G hr').then hn (fun eq x h' tk i u => ?_) fun d ed v h' tk k r => ?_
          · rw [hs]
            exact hx eq x h' tk i ((upto_of X.toInCall.keep).trans u)
          · rw [ed] at hn hx
            cases d with
            | str y =>
              dsimp only at hn hx
              obtain ⟨t, rfl⟩ := r.str_inv
              by_cases hy : y.length ≤ 1000
              · rw [if_pos hy] at hx
                refine ⟨y, t, h', tk, rfl, hy, rfl, k, fun x h'' tk'' i u => ?_⟩
                rw [hs]
                exact hx rfl x h'' tk'' i ((upto_of (stays_trans X.toInCall.keep k)).trans u)
              · rw [if_neg hy] at hn; exact absurd rfl hn
            | none | int | bool | list | tuple | dict => exact absurd rfl hn
        · exact fun _ _ hn => absurd rfl hn
      · exact fun _ _ hn => absurd rfl hn
    · exact fun _ _ hn => absurd rfl hn

theorem sound (C : Cx prog w K p loose mg mb cls T) : ∀ n, Sound prog w K p loose mg mb cls (lvl T n) n
  | 0 => sound0
  | n + 1 =>
    have S := sound C n
    ⟨fun _ _ _ _ _ _ e kb G hr => stepE_sound C S kb G hr e, fun _ _ _ _ _ _ e kb G hr => stepT_sound S kb G hr e, fun _ _ _ _ _ _ _ _ _ ss kb fe B hh hr X V => stepSS_sound C S kb fe B hh hr X V ss, Nat.le_refl _⟩
end
end Mine
end

section
open PySem PySem.W PyProof.Rows
namespace Mine
set_option maxRecDepth 100000 in
set_option maxHeartbeats 8000000 in
open_top hd for PySem.Challenge.rw_sa0438_01
end Mine
end

section
open PySem PySem.W PyProof.Rows PySem.Calls PySem.Spec
namespace Mine
noncomputable abbrev KK (w : World) : Frag := Mine.hd.heap_39 w.params

section
variable {prog : Program} {w : World} {A : Around} {R : Result → Shared → Prop} {E : Value → Shared → Prop} {h : Heap} {g : Array GenState} {d : Drawn} {t : Nat} {os : OsState}
noncomputable abbrev tfObj (a : Addr) : Obj := { cls := .ref 45, data := .fields #[.ref a, .none, .none, .none, .bool false, .none] }
noncomputable abbrev tup1 (v : Value) : Obj := { cls := .type "tuple", data := .seq #[v] }

noncomputable abbrev tfCls : Obj := excClassObj "TypeFault" "TypeFault" 45 44 [.ref 32] [.ref 32, .type "Exception", .type "BaseException", .type "object"] true [] [] false none none (some (.ref 36)) none (some (.str "TypeFault" 221)) (some (.str "TypeFault" 229)) (some (.bool true)) "Exception.__new__"
theorem tf_cls (X : (KK w).In h) : h.get? 45 = some tfCls := X _ _ (by kernel_rfl)

theorem tf_new (X : (KK w).In h) (v : Value) (hq : R (.ok (.ret (.ref (h.objs.size + 1)))) ⟨(h.push (tup1 v)).push (tfObj h.objs.size), g, d, t, os⟩) :
    codeAny (model prog w) A (.builtin "Exception.__new__" ⟨[.ref 45, v], []⟩) R ⟨h, g, d, t, os⟩ := by
  have F := PySem.F.excBase_Exception
  have hends := F.ends
  have l1 : Looks (model prog w) h (isSubtype (.ref 45) (.type "Exception")) true := Looks.of_peek X (by kernel_rfl)
  have l2 : Looks (model prog w) h (isSubtype (.ref 45) (.type "AttributeError")) false := Looks.of_peek X (by kernel_rfl)
  have l3 : Looks (model prog w) h (isSubtype (.ref 45) (.type "NameError")) false := Looks.of_peek X (by kernel_rfl)
  have l4 : Looks (model prog w) h (Bind.madeHere "BaseException.__new__" (.ref 45)) () := Looks.of_peek X (by kernel_rfl)
  have l5 : Looks (model prog w) h (isType (.ref 45)) true := Looks.of_peek X (by kernel_rfl)
  have hs : [v].length ≤ sizeLine := by rw [sizeLine_eq]; simp
  refine codeAny_builtinAt F.entry ?_
  unfold Builtin.«BaseException.__new__»
  refine PySem.wpAt_bind ?_
  show PySem.wpAt _ _ _ (stack >>= _) _ _ _
  refine PySem.wpAt_bind (PySem.wpAt_stack fun p below => PySem.wpAt_of_wpAny ?_)
  wp_walk
  refine PySem.wpAt_of_wpAny ?_
  rw [F.owner]
  repeat (first | with_reducible refine Looks.at (by assumption) ?_ | wp_step)
  refine wpAny_load (Heap.get?_push_of_some _ (Heap.get?_push_of_some _ (tf_cls X))) ?_
  repeat (first | with_reducible refine Looks.at (by assumption) ?_ | wp_step)
  show R _ _
  rw [Heap.size_push]
  exact hq

theorem tf_type_call (X : (KK w).In h) (v : Value) {Q : Fin → Shared → Prop}
    (hq : ∀ h' e, Heap.MadeExcOf h h' e (.ref 45) [v] → codeAny (model prog w) A (.call (.ref 29) ⟨[.ref e, v], []⟩) (fun r s' => match r with | .ok (.ret u) => u = .none ∧ Q (.done (.ret (.ref e))) s' | .ok _ => False | .error x => E x s') ⟨h', g, d, t, os⟩) :
    wpAny (model prog w) A (Builtin.«type.__call__» ⟨[.ref 45, v], []⟩) Q E ⟨h, g, d, t, os⟩ := by
  have F := PySem.F.excBase_Exception
  have l1 : Looks (model prog w) h (mroOf (.ref 45)) [.ref 45, .ref 32, .type "Exception", .type "BaseException", .type "object"] := Looks.of_peek X (by kernel_rfl)
  have l2 : Looks (model prog w) h (Bind.madeBy (.ref 45)) (some "Exception.__new__") := Looks.of_peek X (by kernel_rfl)
  have l3 : Looks (model prog w) h (checkBuiltinCall "Exception.__new__" ⟨[.ref 45, v], []⟩) () := Looks.of_peek X (by kernel_rfl)
  have hC := tf_cls X
  repeat (first | with_reducible refine wpAny_loadPart_at hC ?_ | with_reducible refine Looks.at (by assumption) ?_ | wp_step)
  refine codeAny_call_builtin_code (Code.quiet_builtin _ F.quiet) (l3.at ?_)
  refine tf_new X v ?_
  show wpAny _ _ _ _ _ _
  have k : ∀ b o, h.get? b = some o → ((h.push (tup1 v)).push (tfObj h.objs.size)).get? b = some o := fun b o e => Heap.get?_push_of_some _ (Heap.get?_push_of_some _ e)
  have X₁ := X.keeps k
  have hget : ((h.push (tup1 v)).push (tfObj h.objs.size)).get? (h.objs.size + 1) = some (tfObj h.objs.size) := Heap.get?_push_at (by rw [Heap.size_push]) rfl
  have m1 : Looks (model prog w) _ (isSubtype (.ref 45) (.ref 45)) true := Looks.of_peek X₁ (by kernel_rfl)
  have m2 : Looks (model prog w) _ (typeLookup (.ref 45) "__init__") (some (.ref 29)) := Looks.of_peek X₁ (by kernel_rfl)
  have m3 : Looks (model prog w) _ (typeOf (.ref 29)) (.type "function") := Looks.of_peek X₁ (by kernel_rfl)
  have m4 : Looks (model prog w) _ (typeOf (.ref (h.objs.size + 1))) (.ref 45) := (Looks.ld hget).andThen .now
  have m5 : Looks (model prog w) _ (bindSpecial (.ref 29) (.ref (h.objs.size + 1))) (.ref 29, [.ref (h.objs.size + 1)]) := bind_fn X₁ _ (by kernel_rfl)
  unfold isInstance callSpecial? specialOf
  repeat (first | with_reducible refine Looks.at (by assumption) ?_ | wp_step)
  refine codeAny_mono (hq _ (h.objs.size + 1) ⟨k, Heap.get?_none_of_le (Nat.le_succ _), h.objs.size, hget, Heap.get?_none_of_le (Nat.le_refl _), Heap.get?_push_of_some _ (Heap.get?_push_at rfl rfl)⟩) fun r s' z => ?_
  rcases r with e | (u | _ | _ | _) <;> first | exact z | exact z.elim | skip
  obtain ⟨rfl, z⟩ := z
  exact wpAny_pure (wpAny_pure z)

theorem tf_call {Q : Value → Shared → Prop} (X : (KK w).In h) (v : Value)
    (hq : ∀ h' e, Heap.MadeExcOf h h' e (.ref 45) [v] → codeAny (model prog w) (A.under (.builtin "type.__call__" ⟨[.ref 45, v], []⟩)) (.call (.ref 29) ⟨[.ref e, v], []⟩)
      (fun r s' => match r with | .ok (.ret u) => u = .none ∧ Q (.ref e) s' | .ok _ => False | .error x => E x s') ⟨h', g, d, t, os⟩) :
    wpAny (model prog w) A (call (.ref 45) [v]) Q E ⟨h, g, d, t, os⟩ := by
  have hC := tf_cls X
  have l1 : Looks (model prog w) h (specialOf (.ref 45) "__call__") (some (.builtin "type.__call__")) := Looks.of_peek X (by kernel_rfl)
  have l2 : Looks (model prog w) h (isInstance (.ref 45) (.type "type")) true := Looks.of_peek X (by kernel_rfl)
  refine wpAny_call (codeAny_of_tree ?_)
  show wpAny _ _ (callAny (.ref 45) _) _ _ _
  refine nd_load hC ?_
  show wpAny _ _ (callAny.viaDunder (.ref 45) _) _ _ _
  unfold callAny.viaDunder
  refine wpAny_bind (l1.at ?_)
  dsimp only
  rw [tc_bind]
  refine wpAny_bind (wpAny_pure (wpAny_bind (wpAny_pure ?_)))
  refine wpAny_pure (a := Fin.again (.call (.builtin "type.__call__") ⟨[.ref 45, v], []⟩)) (And.intro rfl ?_)
  refine codeAny_call_builtin_at (Code.quiet_builtin _ (by decide +kernel)) entry_typeCall (check_slot tc_kind tc_split l2 (tc_args _ _ _) (tf_type_call X v fun h' e hm => ?_))
  refine codeAny_mono (hq h' e hm) fun r s' z => ?_
  rcases r with e | (u | _ | _ | _) <;> exact z
end
end Mine
end

section
open PySem PySem.W PyProof.Rows PySem.Calls PySem.Spec
open Builtin Builtin.ObjectAttr
namespace Mine

/-- the exception made, its dict at work, and the frame of the def that dresses it -/
noncomputable def TI (h₀ : Heap) (L e : Addr) (m mA : Str → Option Value) (h : Heap) : Prop :=
  h₀.StaysIn h ∧ h.Ns L m ∧ h₀.get? L = none ∧ L ≠ e ∧ h₀.get? e = none ∧
    ∃ o a, h.get? e = some o ∧ o.cls = .ref 45 ∧ o.data = .fields #[.ref a, .none, .none, .none, .bool false, .none] ∧
      ((o.dict = none ∧ ∀ n, mA n = none) ∨ ∃ dx, o.dict = some dx ∧ dx ≠ e ∧ dx ≠ L ∧ h₀.get? dx = none ∧ h.Ns1 dx mA)

section
variable {prog : Program} {w : World} {A : Around} {R : Result → Shared → Prop} {E : Value → Shared → Prop} {h₀ h : Heap} {g : Array GenState} {d : Drawn} {t : Nat} {os : OsState} {L e : Addr} {m mA : Str → Option Value} {name : Str} {v : Value} {ns : List Str}

theorem tf_store {tk : Tok} {Q : Fin → Shared → Prop} (X₀ : (KK w).In h₀) (T : TI h₀ L e m mA h) (hna : findIn (KK w) (.ref 45) name = some none) (hw : Within mA ns) (hsz : ns.length ≤ 100)
    (hq : ∀ h' tk', TI h₀ L e m (fun y => if y = name then some v else mA y) h' → Q (.done (.ret .none)) ⟨h', g, d, tk', os⟩) :
    wpAny (model prog w) A (Builtin.«object.__setattr__» ⟨[.ref e, .str name tk, v], []⟩) Q E ⟨h, g, d, t, os⟩ := by
  obtain ⟨k, hL, hLn, hLe, hen, o, a, ho, hc, hd, hdict⟩ := T
  have X := X₀.keeps k
  obtain ⟨oc, od, odt, osl⟩ := o
  dsimp only at hc hd hdict
  subst hc
  subst hd
  have hC := tf_cls X
  have l0 : Looks (model prog w) h (typeOf (.ref e)) (.ref 45) := (Looks.ld ho).andThen .now
  have l1 : Looks (model prog w) h (mroOf (.ref 45)) [.ref 45, .ref 32, .type "Exception", .type "BaseException", .type "object"] := Looks.of_peek X (by kernel_rfl)
  have l2 : Looks (model prog w) h (typeLookup (.ref 45) name) none := looks_findIn X hna
  have l3 : Looks (model prog w) h (refuseLoop (.ref e) "__setattr__" [.ref 45, .ref 32, .type "Exception", .type "BaseException", .type "object"]) () := by
    rw [refuseLoop_ref, refuseLoop_ref]
    exact Looks.of_pure (PySem.F.store_Exception.passes _)
  unfold Builtin.«object.__setattr__»
  repeat (first | rw [refuse_eq] | with_reducible refine Looks.at (by assumption) ?_ | with_reducible refine wpAny_loadPart_at ho ?_ | wp_step)
  dsimp only
  repeat (first | with_reducible refine wpAny_load hC ?_ | with_reducible refine wpAny_loadPart_at hC ?_ | wp_step)
  rcases hdict with ⟨rfl, hmA⟩ | ⟨dx, rfl, hxe, hxL, hxn, hns⟩
  · dsimp only
    rw [if_neg (by simp [typeHasDict])]
    have hes : e ≠ h.objs.size := Nat.ne_of_lt (Heap.lt_size ho)
    refine wpAny_bind (wpAny_alloc' (wpAny_bind (wpAny_update' (Heap.get?_push_of_some _ ho) (wpAny_pure ?_))))
    generalize hH : (h.push { cls := .type "dict", data := .dict #[] }).update e (fun o => { cls := o.cls, dict := some h.objs.size, data := o.data, slots := o.slots }) = H
    have keep : ∀ b o, b ≠ e → h.get? b = some o → H.get? b = some o := fun b o hb q => by
      rw [← hH, Heap.get?_update_ne _ _ _ _ hb]; exact Heap.get?_push_of_some _ q
    have hgd : H.get? h.objs.size = some { cls := .type "dict", data := .dict #[] } := by
      rw [← hH, Heap.get?_update_ne _ _ _ _ hes.symm]; exact Heap.get?_push_at rfl rfl
    have hge : H.get? e = some { cls := .ref 45, dict := some h.objs.size, data := .fields #[.ref a, .none, .none, .none, .bool false, .none], slots := osl } := by
      rw [← hH, Heap.get?_update_self _ (Heap.get?_push_of_some _ ho) rfl]
    have hnd : H.Ns h.objs.size (fun _ => none) := ⟨_, #[], _, hgd, rfl, fun e he => absurd he (by simp), fun _ => rfl⟩
    have hszn : h₀.get? h.objs.size = none := by
      cases q : h₀.get? h.objs.size with
      | none => rfl
      | some o => exact absurd (Heap.lt_size (k _ _ q)) (Nat.lt_irrefl _)
    have hLs : h.objs.size ≠ L := Nat.ne_of_gt hL.lt
    have hL' : H.Ns L m := let ⟨o, es, ep, q, r⟩ := hL; ⟨o, es, ep, keep _ _ hLe q, r⟩
    have kH : h₀.StaysIn H := fun b o hb => keep b o (fun z => by rw [z, hen] at hb; cases hb) (k b o hb)
    show wpAny _ _ (storeInDict h.objs.size (.str name tk) name v) _ _ _
    unfold storeInDict newKeyGuard
    refine wpAny_bind (wpAny_pure (wpAny_bind (wpAny_nsSet1 (Heap.Ns1.of_empty hnd) fun h' hn' hs => ?_)))
    obtain ⟨oD, esD, epD, hoD, hdD, hcD⟩ := hn'.count (Within.cons name v Within.nil)
    refine wpAny_bind (wpAny_lookBehind hoD (by rw [hdD]; exact pastItsLine_dict (Nat.le_trans hcD (by rw [List.length_cons, List.length_nil, sizeLine_eq]; omega))) ?_)
    wp_walk
    have hn2 : h'.Ns1 h.objs.size (fun y => if y = name then some v else mA y) := by
      obtain ⟨o', es, ep, e1, e2, e3, eu, e4⟩ := hn'
      exact ⟨o', es, ep, e1, e2, e3, eu, fun y => by rw [e4 y]; by_cases hy : y = name <;> simp [hy, hmA]⟩
    exact hq h' _ ⟨fun b o hb => (hs.2 b fun z => by rw [z, hszn] at hb; cases hb).trans (kH b o hb), hL'.sameBut hs (Ne.symm hLs), hLn, hLe, hen, _, a, (hs.2 e hes).trans hge, rfl, rfl, .inr ⟨h.objs.size, rfl, hes.symm, hLs, hszn, hn2⟩⟩
  · dsimp only
    refine wpAny_pure ?_
    show wpAny _ _ (storeInDict dx (.str name tk) name v) _ _ _
    unfold storeInDict newKeyGuard
    refine wpAny_bind (wpAny_pure (wpAny_bind (wpAny_nsSet1 hns fun h' hn' hs => ?_)))
    obtain ⟨oD, esD, epD, hoD, hdD, hcD⟩ := hn'.count (Within.cons name v hw)
    refine wpAny_bind (wpAny_lookBehind hoD (by rw [hdD]; exact pastItsLine_dict (Nat.le_trans hcD (by rw [List.length_cons, sizeLine_eq]; omega))) ?_)
    wp_walk
    refine hq h' _ ⟨fun b o hb => (hs.2 b fun z => by rw [z, hxn] at hb; cases hb).trans (k b o hb), hL.sameBut hs (Ne.symm hxL), hLn, hLe, hen, _, a, (hs.2 e (Ne.symm hxe)).trans ho, rfl, rfl, .inr ⟨dx, rfl, hxe, hxL, hxn, hn'⟩⟩

theorem tf_set {s : Shared} {Q : Unit → Shared → Prop} (X₀ : (KK w).In h₀) (T : TI h₀ L e m mA s.heap) (hna : findIn (KK w) (.ref 45) name = some none) (hw : Within mA ns) (hsz : ns.length ≤ 100)
    (hq : ∀ h' tk', TI h₀ L e m (fun y => if y = name then some v else mA y) h' → Q () { s with heap := h', toks := tk' }) :
    wpAny (model prog w) A (setAttr (.ref e) name v) Q E s := by
  obtain ⟨h, g, d, t, os⟩ := s
  have T0 := T
  obtain ⟨k, hL, hLn, hLe, hen, o, a, ho, hc, hd, hdict⟩ := T
  have X := X₀.keeps k
  have l0 : Looks (model prog w) h (typeOf (.ref e)) (.ref 45) := hc ▸ (Looks.ld ho).andThen .now
  have l2 : Looks (model prog w) h (isInstance (.ref e) (.type "object")) true := by
    have l9 : Looks (model prog w) h (isSubtype (.ref 45) (.type "object")) true := Looks.of_peek X (by kernel_rfl)
    unfold isInstance
    exact l0.andThen l9
  have hI : ∃ od, InstAt h e o 45 od := by
    have hno : notCls o = true := by unfold notCls; rw [hd]
    rcases hdict with ⟨hn, _⟩ | ⟨dx, hdx, _, _, _, ox, _, _, hox, _⟩
    · exact ⟨none, ho, hc, hno, by rw [hn]; trivial⟩
    · exact ⟨some ox, ho, hc, hno, by rw [hdx]; exact hox⟩
  obtain ⟨od, hI⟩ := hI
  have hs : findIn (KK w) (.ref 45) "__setattr__" = some (some (.builtin "object.__setattr__")) := by kernel_rfl
  refine set_plain (s := ⟨h, g, d, t, os⟩) X hI hs ?_
  refine codeAny_call_builtin PySem.F.store_object.slot.plain PySem.F.entry_object_sa ?_
  refine @check_slot (model prog w) _ _ ⟨h, g, d, t + 1, os⟩ "object.__setattr__" "object" "__setattr__" (.ref e) [.str name t, v] [] _ PySem.F.store_object.kind PySem.F.store_object.split l2 (PySem.F.store_object.args _ _ _) ?_
  exact tf_store X₀ T0 hna hw hsz fun h' tk' T' => hq h' tk' T'
end
end Mine
end

section
open PySem PySem.W PyProof.Rows PySem.Calls PySem.Spec
open Builtin Builtin.ObjectAttr
namespace Mine
section
variable {prog : Program} {w : World} {A : Around} {R : Result → Shared → Prop} {E : Value → Shared → Prop} {h₀ h : Heap} {g : Array GenState} {d : Drawn} {t : Nat} {os : OsState} {L e : Addr} {m mA : Str → Option Value} {name : Str} {v : Value} {ns : List Str}

theorem ei_find : findCls [] (.type "Exception") (.type "type") "__init__" = some (.val (.builtin "Exception.__init__")) := by kernel_rfl

theorem ti_field0 {x : Addr} (T : TI h₀ L e m mA h) : TI h₀ L e m mA (h.update e (Obj.mapFields (·.setIfInBounds 0 (.ref x)))) := by
  obtain ⟨k, hL, hLn, hLe, hen, o, a, ho, hc, hd, hdict⟩ := T
  have other : ∀ b, b ≠ e → (h.update e (Obj.mapFields (·.setIfInBounds 0 (Value.ref x)))).get? b = h.get? b := fun b hb => Heap.get?_update_other _ _ (Ne.symm hb)
  have hd₃ := Obj.data_mapFields hd (·.setIfInBounds 0 (Value.ref x))
  have he₃ := Heap.get?_update_self (Obj.mapFields (·.setIfInBounds 0 (Value.ref x))) ho (Obj.isFreed_of_fields hd₃)
  refine ⟨fun b ob hb => (other b fun z => by rw [z, hen] at hb; cases hb).trans (k b ob hb), ?_, hLn, hLe, hen, _, x, he₃, ?_, ?_, ?_⟩
  · obtain ⟨ol, es, ep, q, r⟩ := hL
    exact ⟨ol, es, ep, (other L hLe).trans q, r⟩
  · exact (Obj.cls_mapFields _ _).trans hc
  · exact hd₃
  · have hdd : (Obj.mapFields (·.setIfInBounds 0 (Value.ref x)) o).dict = o.dict := by
      obtain ⟨oc, od, odt, osl⟩ := o
      dsimp only at hd
      subst hd
      rfl
    rw [hdd]
    rcases hdict with z | ⟨dx, q1, q2, q3, q4, q5⟩
    · exact .inl z
    · exact .inr ⟨dx, q1, q2, q3, q4, q5.at fun o ho => (other dx q2).trans ho⟩

theorem tf_base {s : Shared} {Q : Value → Shared → Prop} (X₀ : (KK w).In h₀) (T : TI h₀ L e m mA s.heap)
    (hq : ∀ h' tk', TI h₀ L e m mA h' → Q .none { s with heap := h', toks := tk' }) :
    wpAny (model prog w) A (call (.builtin "Exception.__init__") [.ref e, v]) Q E s := by
  have F := PySem.F.excBase_Exception
  obtain ⟨hh, g, d, t, os⟩ := s
  have T0 := T
  obtain ⟨k, hL, hLn, hLe, hen, o, a, ho, hc, hd, hdict⟩ := T
  dsimp only at k hL ho hdict
  have X := X₀.keeps k
  have hC := tf_cls X
  obtain ⟨oc, od, odt, osl⟩ := o
  dsimp only at hc hd hdict
  subst hc
  subst hd
  have l0 : Looks (model prog w) hh (typeOf (.ref e)) (.ref 45) := (Looks.ld ho).andThen .now
  have l2 : Looks (model prog w) hh (isInstance (.ref e) (.type "Exception")) true := by
    have l9 : Looks (model prog w) hh (isSubtype (.ref 45) (.type "Exception")) true := Looks.of_peek X (by kernel_rfl)
    unfold isInstance
    exact l0.andThen l9
  refine wpAny_call (codeAny_call_builtin F.init.plain F.initEntry ?_)
  have hshort := F.noStar
  simp only [checkBuiltinCall, F.initKind, F.initSplit, F.initRow]
  refine wpAny_bind (l2.here ?_)
  repeat (first | with_reducible refine wpAny_loadPart_at ho ?_ | with_reducible refine wpAny_loadPart_at hC ?_ | with_reducible refine wpAny_load hC ?_ | with_reducible refine wpAny_load ho ?_ | wp_step)
  have k2 : hh.StaysIn (hh.push (tup1 v)) := fun b o hb => Heap.get?_push_of_some _ hb
  have T1 : TI h₀ L e m mA (hh.push (tup1 v)) := by
    refine ⟨stays_trans k k2, hL.keeps k2, hLn, hLe, hen, _, a, k2 _ _ ho, rfl, rfl, ?_⟩
    rcases hdict with z | ⟨dx, q1, q2, q3, q4, q5⟩
    · exact .inl z
    · exact .inr ⟨dx, q1, q2, q3, q4, q5.keeps k2⟩
  exact hq _ t (ti_field0 (x := hh.objs.size) T1)
end
end Mine
end

section
open PySem PySem.W PyProof.Rows PySem.Calls PySem.Spec
namespace Mine
noncomputable def clsIn : List Stmt → Str → List Stmt
  | .ClassDef n _ _ b _ _ _ _ _ _ _ :: r, x => if (n == x) = true then b else clsIn r x
  | _ :: r, x => clsIn r x
  | [], _ => []
noncomputable def defIn : List Stmt → Str → Arguments × List Stmt × Scope
  | .FunctionDef n a b _ _ _ sc _ _ _ :: r, x => if (n == x) = true then (a, b, sc) else defIn r x
  | _ :: r, x => defIn r x
  | [], _ => (⟨[], [], none, [], [], none, []⟩, [], default)
/-- the own __init__ of LendError, as the row has it -/
noncomputable def initF : Arguments × List Stmt × Scope := defIn (clsIn PySem.Challenge.pw_sa0438_01.main.body "LendError") "__init__"
noncomputable abbrev initScope : Scope := initF.2.2
theorem init_is : ∃ p1 p2 p3 p4 p5 p6 p7 p8 p9 q1 q2 q3 q4 q5, initF.2.1 = [.Expr (.Call (.Attribute (.Name "Exception" p1) "__init__" p2) [.Name "self" p3, .Name "message" p4] [] p5) p6,
    .Assign [.Attribute (.Name "self" p7) "message" p8] (.Name "message" p9) q1, .Assign [.Attribute (.Name "self" q2) "spot" q3] (.Name "spot" q4) q5] ∧ (p2.endLine == p5.line) = true := by
  exact ⟨_, _, _, _, _, _, _, _, _, _, _, _, _, _, rfl, rfl⟩
theorem ini_kind : initScope.kind = .function := by kernel_rfl
theorem ini_exc : initScope.names.lookup ("Exception" : Str) = some NameKind.globalImplicit := by kernel_rfl
theorem ini_self : initScope.names.lookup ("self" : Str) = some NameKind.local := by kernel_rfl
theorem ini_message : initScope.names.lookup ("message" : Str) = some NameKind.local := by kernel_rfl
theorem ini_spot : initScope.names.lookup ("spot" : Str) = some NameKind.local := by kernel_rfl
theorem ini_nocell : ∀ x ∈ initScope.names, x.2 ≠ .cell := by decide +kernel
noncomputable abbrev initFd : FuncData := fnOf "__init__" "LendError.__init__" initF.1 initF.2.1 initScope (.ref 22) .none .none (.str "lendcore.errors" 187) none (.ref 28) .none

section
variable {prog : Program} {w : World} {A : Around} {R : Result → Shared → Prop} {E : Value → Shared → Prop} {h₀ h : Heap} {L e : Addr} {m mA : Str → Option Value} {v : Value} {s : Shared}
variable {p : Program} {loose : List Str} {mg mb : Str → Option Value}

theorem tf_fd : (KK w).lookup 29 = some ⟨.type "function", none, .func initFd, #[]⟩ := by kernel_rfl
theorem tf_binds (X : (KK w).In s.heap) : BindsTo s initFd ⟨[.ref e, v], []⟩ [("self", .ref e), ("message", v), ("spot", .int 0 201)] := fun M A E Q q =>
  (Looks.of_peek (M := M) X (show peek (KK w) _ (bindArgs initFd ⟨[.ref e, v], []⟩) = some ([("self", .ref e), ("message", v), ("spot", .int 0 201)] : List (Str × Value)) by kernel_rfl)).here q

noncomputable abbrev initEnv (L : Addr) : Env := callEnv initFd L 29
theorem gm_exc {pl : Sem Bool} {Q : Value × List Value → Shared → Prop} (X : (KK w).In s.heap) (h : Q (.builtin "Exception.__init__", []) { s with toks := s.toks + 1 }) :
    wpAny (model prog w) A (getMethod (.type "Exception") "__init__" pl) Q E s := by
  have X' : Frag.In [] s.heap := fun a o q => by cases q
  have hstub : opaqueClassAbove (.type "Exception") = pure none := by unfold opaqueClassAbove; dsimp only; rw [show Manifest.isStub "Exception" = false by decide +kernel]; rfl
  have ht : typeOf (.type "Exception") = pure (.type "type") := by first | rfl | kernel_rfl
  have L0 : Looks (model prog w) s.heap (typeOf (.type "Exception")) (.type "type") := Looks.of_pure ht
  have LO : Looks (model prog w) s.heap (opaqueClassAbove (.type "Exception")) none := Looks.of_pure hstub
  unfold getMethod specialOf
  refine wpAny_bind (wpAny_bind (L0.here ((looks_findIn X' type_tga).here ?_)))
  dsimp only
  rw [if_pos canon_tga]
  refine wpAny_bind (wpAny_mono (Q := fun v => Q (v, [])) (E := E) ?_ (fun _ _ z => wpAny_pure z) fun _ _ z => z)
  refine cls_open X' LO L0 type_tga (looks_hook X' (r := none) (by rfl)) (by show subIn [] _ _ = _; rfl) ei_find ?_
  refine wpAny_pure ?_
  show wpAny _ _ (handedOut (.builtin "Exception.__init__")) _ _ _
  rw [handedOut_of (by kernel_rfl)]
  exact wpAny_pure h
theorem tf_call1 (X₀ : (KK w).In h₀) (TR : TopRead p loose mg mb h₀) {Q : Flow → Shared → Prop} (T : TI h₀ L e m mA s.heap) (ms : m "self" = some (.ref e)) (mm : m "message" = some v) {p1 p2 p3 p4 p5 p6 : Pos} (hl : (p2.endLine == p5.line) = true)
    (hq : ∀ h' tk', TI h₀ L e m mA h' → Q .next { s with heap := h', toks := tk' }) :
    wpAny (model prog w) A (exec (.Expr (.Call (.Attribute (.Name "Exception" p1) "__init__" p2) [.Name "self" p3, .Name "message" p4] [] p5) p6) (initEnv L)) Q E s := by
  have T0 := T
  obtain ⟨k, hL, hLn, hLe, hen, o, a, ho, hc, hd, hdict⟩ := T
  have X := X₀.keeps k
  have TR' := TR.keeps k
  refine wpAny_Expr_any ?_
  rw [arm_eval_Call]
  refine wpAny_bind ?_
  show wpAny _ _ (eval (.Name "Exception" _) _) _ _ _
  refine Name_function_global ini_kind ini_exc (loadGlobal_builtin (env := initEnv L) TR'.g (mg_none_of X TR'.g (by kernel_rfl)) TR'.b ((TR'.builtins "Exception" (by decide +kernel)).trans PyProof.Rows.Boot.«Exception») ?_)
  refine wpAny_bind (wpAny_standAt ?_)
  unfold methodCall
  refine wpAny_bind (wpAny_holding ?_)
  show wpAny _ _ (getMethod (.type "Exception") "__init__" _) _ _ _
  refine gm_exc X ?_
  refine wpAny_bind (wpAny_of_eq (a := p5) (by show methodCallPos true _ _ _ _ = pure p5; unfold methodCallPos; simp [hl]) ?_)
  refine PyProof.Rows.callWith_builtin1 ?_
  refine PyProof.Rows.args_cons (wpAny_Name (wpAny_loadName_local ini_kind ini_self hL ms ?_) (by decide))
  refine PyProof.Rows.args_cons (wpAny_Name (wpAny_loadName_local ini_kind ini_message hL mm ?_) (by decide))
  refine PyProof.Rows.args_nil ?_
  exact tf_base (s := { s with toks := s.toks + 1 }) X₀ T0 fun h' tk' T' => hq h' tk' T'

theorem tf_assign (X₀ : (KK w).In h₀) {Q : Flow → Shared → Prop} (T : TI h₀ L e m mA s.heap) {x : Str} {p1 p2 p3 p4 : Pos} {ns : List Str} (ms : m "self" = some (.ref e)) (mm : m x = some v) (hna : findIn (KK w) (.ref 45) x = some none) (hw : Within mA ns) (hsz : ns.length ≤ 100)
    (hx : (x == ("__debug__" : Str)) = false) (hk : (initEnv L).kindOf x = some .local)
    (hq : ∀ h' tk', TI h₀ L e m (fun y => if y = x then some v else mA y) h' → Q .next { s with heap := h', toks := tk' }) :
    wpAny (model prog w) A (exec (.Assign [.Attribute (.Name "self" p1) x p2] (.Name x p3) p4) (initEnv L)) Q E s := by
  have hL := T.2.1
  refine plainObj_wpAny_Assign_Attribute ?_
  refine wpAny_Name (wpAny_loadName_local ini_kind hk hL mm ?_) hx
  refine wpAny_Name (wpAny_loadName_local ini_kind ini_self hL ms ?_) (by decide)
  exact tf_set X₀ T hna hw hsz hq

theorem tf_init (X₀ : (KK w).In h₀) (TR : TopRead p loose mg mb h₀) (hr : A.depth < recursionLimit) (hm : Heap.MadeExcOf h₀ s.heap e (.ref 45) [v])
    (hq : ∀ h' tk', h₀.StaysIn h' → h₀.get? e = none → (∃ o a, h'.get? e = some o ∧ o.cls = .ref 45 ∧ o.data = .fields #[.ref a, .none, .none, .none, .bool false, .none]) → R (.ok (.ret .none)) { s with heap := h', toks := tk' }) :
    codeAny (model prog w) A (.call (.ref 29) ⟨[.ref e, v], []⟩) R s := by
  have X := X₀.keeps hm.keeps
  obtain ⟨a, he, _, _⟩ := hm.there
  have fin : ∀ h' tk' mA m L, TI h₀ L e m mA h' → R (.ok (.ret .none)) { s with heap := h', toks := tk' } := fun h' tk' mA m L T => by
    obtain ⟨k, hL, hLn, hLe, hen, o, a, ho, hc, hd, hdict⟩ := T
    exact hq h' tk' k hen ⟨o, a, ho, hc, hd⟩
  refine codeAny_call_def hr (X _ _ tf_fd) rfl (TR.keeps hm.keeps).nolimit (codeRec_of X (by kernel_rfl)) rfl (tf_binds X) ini_nocell (locs (by kernel_rfl)) (fun h₁ hn hk => ?_) (by kernel_rfl) (by kernel_rfl) ini_kind
  have T : TI h₀ s.heap.objs.size e (fun x => ([("self", .ref e), ("message", v), ("spot", .int 0 201)] : List (Str × Value)).reverse.lookup x) (fun _ => none) h₁ := by
    refine ⟨stays_trans hm.keeps hk, hn, ?_, Nat.ne_of_gt (Heap.lt_size he), hm.new, _, a, hk _ _ he, rfl, rfl, .inl ⟨rfl, fun _ => rfl⟩⟩
    cases q : h₀.get? s.heap.objs.size with
    | none => rfl
    | some o => exact absurd (Heap.lt_size (hm.keeps _ _ q)) (Nat.lt_irrefl _)
  obtain ⟨p1, p2, p3, p4, p5, p6, p7, p8, p9, q1, q2, q3, q4, q5, hb, hl⟩ := init_is
  show wpAny _ _ (execs initF.2.1 _) _ _ _
  rw [hb]
  refine wpAny_execs_cons (tf_call1 (v := v) X₀ TR T (by kernel_rfl) (by kernel_rfl) hl fun h₂ tk₂ T₂ => ?_)
  refine wpAny_execs_cons (tf_assign (v := v) X₀ T₂ (by kernel_rfl) (by kernel_rfl) (by kernel_rfl) Within.nil (by simp) (by decide) ini_message fun h₃ tk₃ T₃ => ?_)
  refine wpAny_execs_cons (tf_assign (v := .int 0 201) X₀ T₃ (by kernel_rfl) (by kernel_rfl) (by kernel_rfl) (Within.cons "message" v Within.nil) (by simp) (by decide) ini_spot fun h₄ tk₄ T₄ => ?_)
  exact wpAny_execs_nil (fin _ _ _ _ _ T₄)
end
end Mine
end

section
open PySem PySem.W PyProof.Rows PySem.Calls PySem.Spec
namespace Mine
section
variable {prog : Program} {w : World} {A : Around} {E : Value → Shared → Prop} {s : Shared} {env : Env}

theorem tf_raise {x : Sem Value} {Q : Flow → Shared → Prop} (hh : A.handled = none)
    (h : wpAny (model prog w) A x (fun v s₁ => ∃ e o a, v = .ref e ∧ (KK w).In s₁.heap ∧ s₁.heap.get? e = some o ∧ o.cls = .ref 45 ∧ o.data = .fields #[.ref a, .none, .none, .none, .bool false, .none] ∧ E (.ref e) s₁) E s) :
    wpAny (model prog w) A (raiseStmt env (some x) none) Q E s := by
  unfold raiseStmt
  refine wpAny_bind (wpAny_mono h (fun v s₁ h₁ => ?_) fun _ _ x => x)
  obtain ⟨e, ⟨oc, od, odt, osl⟩, a, rfl, X, he, hc, hd, hE⟩ := h₁
  dsimp only at hc hd
  subst hc
  subst hd
  obtain ⟨hp, g, d, tk, os⟩ := s₁
  have hC := tf_cls X
  have l1 : Looks (model prog w) hp (isSubtype (.ref 45) (.type "BaseException")) true := Looks.of_peek X (by kernel_rfl)
  repeat (first | with_reducible refine wpAny_loadPart_at he ?_ | with_reducible refine wpAny_loadPart_at hC ?_ | with_reducible refine Looks.at (by assumption) ?_ | wp_step)
  exact wpAny_raiseNew_none hh hE

theorem tf_exc {p : Program} {loose : List Str} {mg mb : Str → Option Value} {base : Heap} {l : List Env} {arg : Expr} {np cpos pos : Pos} {Q : Flow → Shared → Prop}
    (kb : KB (KK w) p loose mg mb base) (B : Below A base l s.heap) (hh : A.handled = none) (hr : Room A 0) (hk : env.scope.kind = .function) (hg : env.globals = mainGlobals) (hgl : isGlob env.scope "TypeFault" = true) (hst : noStars [arg] = true)
    (h : wpAny (model prog w) A (eval arg env) (fun v s₁ => ∃ msg t h' tk, v = .str msg t ∧ msg.length ≤ 1000 ∧ s₁ = { s with heap := h', toks := tk } ∧ s.heap.StaysIn h' ∧
      ∀ x h'' tk'', InFl base l (.ref 45) x h'' → h'.UpToSlots h'' → E (.ref x) { s with heap := h'', toks := tk'' }) E s) :
    wpAny (model prog w) A (exec (.Raise (some (.Call (.Name "TypeFault" np) [arg] [] cpos)) none pos) env) Q E s := by
  obtain ⟨g1, g2⟩ := isGlob_inv hgl
  obtain ⟨h1, h2⟩ := noStars_cons (env := env) hst
  have hp := noStars_plain (env := env) (pos := cpos) h2
  have X := kb.X.keeps B.stays
  have T := kb.T.keeps B.stays
  rw [arm_exec_Raise]
  refine wpAny_bind (wpAny_standAt ?_)
  refine tf_raise hh ?_
  refine wpAny_bind ?_
  refine Call_ ?_
  refine Name_function_global hk g1 (loadGlobal_global (env := env) (v := .ref 45) (by rw [hg]; exact T.g) (mg_of X T.g (by kernel_rfl)) ?_) g2
  refine callWith_K X (by kernel_rfl) ?_ h1 hp
  refine spliced_more ?_ h1
  refine wpAny_mono h (fun v s₁ q => ?_) fun _ _ z => z
  obtain ⟨msg, t, h', tk, rfl, hm, rfl, k, hE⟩ := q
  refine spliced_none ⟨X.keeps k, ?_⟩
  have X' := X.keeps k
  refine tf_call X' _ fun h₂ e hme => ?_
  refine tf_init X' (T.keeps k) (by have := hr.1; rw [depth_under_make]; omega) hme fun h₃ tk₃ k₃ hen ho => ?_
  obtain ⟨o, a, ho, hc, hd⟩ := ho
  have B' := Below.more B (stays_trans k k₃)
  refine ⟨rfl, wpAny_bind (wpAny_standAt (wpAny_pure ⟨e, o, a, rfl, X'.keeps k₃, ho, hc, hd, ?_⟩))⟩
  exact hE e h₃ tk₃ ⟨B'.stays, fresh_of_stays (Below.more B k).stays hen, B'.frames, .inl ⟨o, _, _, ho, hc, hd, rfl, rfl⟩⟩ (upto_of k₃)
end
end Mine
end

section
open PySem PySem.W PyProof.Rows PySem.Calls PySem.Spec
namespace Mine

noncomputable def fnAt (f : Str) (a : Addr) : Fn := match PySem.Challenge.pw_sa0438_01.theDef f with
  | some (pa, body, sc) => ⟨a, f, pa.args.map (·.arg), body, sc⟩
  | none => ⟨a, f, [], [], default⟩

noncomputable def fnList : List (Str × Fn) := [("is_signed", fnAt "is_signed" 55), ("least", fnAt "least" 62), ("greatest", fnAt "greatest" 69), ("fits", fnAt "fits" 76), ("wrapped", fnAt "wrapped" 83),
  ("cut_quotient", fnAt "cut_quotient" 90), ("exact", fnAt "exact" 97), ("checked", fnAt "checked" 104), ("shifted", fnAt "shifted" 111), ("negated", fnAt "negated" 118), ("inverted", fnAt "inverted" 125), ("compared", fnAt "compared" 132), ("_law_rims_right", fnAt "_law_rims_right" 181)]

/-- a kind's bits, its least and its greatest number -/
noncomputable def kindRows : List (Str × (Int × Int × Int)) := [("i8", (-128, 127, 8)), ("i16", (-32768, 32767, 16)), ("i32", (-2147483648, 2147483647, 32)), ("i64", (-9223372036854775808, 9223372036854775807, 64)), ("u8", (0, 255, 8)), ("u16", (0, 65535, 16)),
  ("u32", (0, 4294967295, 32)), ("u64", (0, 18446744073709551615, 64)), ("usize", (0, 18446744073709551615, 64))]
noncomputable def boundsP : List PyData → Option PyData
  | [.str k] => (kindRows.lookup k).map fun r => .tuple [.int r.1, .int r.2.1, .int r.2.2]
  | _ => none

noncomputable def tbl : Tbl where
  fns f := fnList.lookup f
  prim f := if (f == "_law_bounds") = true then some boundsP else none
  tab g y := if (g == "BITS") = true then (kindRows.lookup y).map fun r => .int r.2.2 else none
  exc := "TypeFault"

noncomputable def rims (k : Str) : Rs PyData := callF tbl (lvl tbl 60) "_law_rims_right" [.str k]
noncomputable def isT : Rs PyData → Bool
  | .ok (.bool true) => true
  | _ => false
noncomputable def ev (f : Str) (ds : List PyData) : Rs PyData := callF tbl (lvl tbl 40) f ds
noncomputable def isOk : Rs PyData → Bool
  | .ok _ => true
  | _ => false
noncomputable def isExc : Rs PyData → Bool
  | .exc => true
  | _ => false

noncomputable abbrev k9 : List Str := ["i8", "i16", "i32", "i64", "u8", "u16", "u32", "u64", "usize"]
end Mine
end

section
open PySem PySem.W PyProof.Rows PySem.Calls PySem.Spec
namespace Mine
noncomputable def parsOf (f : Str) : Arguments := match PySem.Challenge.pw_sa0438_01.theDef f with
  | some (pa, _, _) => pa
  | none => default
noncomputable def pmOf (K : Frag) (a : Addr) : Value := match K.lookup a with
  | some ⟨_, _, .func fd, _⟩ => fd.pyModule
  | _ => .none
noncomputable abbrev fdOf (w : World) (f : Str) (a : Addr) : FuncData := fnX f (fnAt f a).qual (parsOf f) (fnAt f a).body (fnAt f a).scope [] .none .none .none (pmOf (KK w) a) none (.ref (a - 1)) .none

noncomputable def okB (f : Str) (a : Addr) (k : Nat) : Bool :=
  (fnAt f a).pars.all (stepSS.okName (fnAt f a).scope) && decide (fnAt f a).pars.Nodup && !(fnAt f a).scope.isCoroutine && !(fnAt f a).scope.isGenerator && (fnAt f a).scope.kind == .function && (fnAt f a).pars.length == k
theorem fnOk_of {w : World} {f : Str} {a : Addr} {k : Nat} (h1 : nsIn (KK w) mainGlobals f = some (some (.ref a))) (h2 : keepIn (KK w) (.ref a) = true) (h3 : (KK w).lookup a = some ⟨.type "function", none, .func (fdOf w f a), #[]⟩)
    (h4 : codeIn (KK w) (.ref (a - 1)) (fnAt f a).qual = true) (h5 : ∀ vs : List Value, vs.length = k → bindArgs (fdOf w f a) ⟨vs, []⟩ = pure ((fnAt f a).pars.zip vs)) (h6 : okB f a k = true) : FnOk (KK w) f (fnAt f a) := by
  unfold okB at h6
  simp only [Bool.and_eq_true, decide_eq_true_eq, Bool.not_eq_true', beq_iff_eq] at h6
  obtain ⟨⟨⟨⟨⟨q1, q2⟩, q3⟩, q4⟩, q5⟩, q6⟩ := h6
  have ha : (fnAt f a).addr = a := by unfold fnAt; split <;> rfl
  exact ⟨by rw [ha]; exact h1, by rw [ha]; exact h2, ⟨_, _, _, _, _, _, _, _, _, _, _, _, by rw [ha]; exact h3, h4, fun vs hv => h5 vs (hv.trans q6)⟩, q1, fun x n h => cellsFrom_some _ _ _ (.inl h), q2, q3, q4, q5⟩
theorem fn_is_signed (w : World) : FnOk (KK w) "is_signed" (fnAt "is_signed" 55) :=
  fnOk_of (k := 1) (by kernel_rfl) (by kernel_rfl) (by kernel_rfl) (by kernel_rfl) (fun vs h => by
    match vs, h with
    | [v0], _ => kernel_rfl) (by decide +kernel)
theorem fn_least (w : World) : FnOk (KK w) "least" (fnAt "least" 62) :=
  fnOk_of (k := 1) (by kernel_rfl) (by kernel_rfl) (by kernel_rfl) (by kernel_rfl) (fun vs h => by
    match vs, h with
    | [v0], _ => kernel_rfl) (by decide +kernel)
theorem fn_greatest (w : World) : FnOk (KK w) "greatest" (fnAt "greatest" 69) :=
  fnOk_of (k := 1) (by kernel_rfl) (by kernel_rfl) (by kernel_rfl) (by kernel_rfl) (fun vs h => by
    match vs, h with
    | [v0], _ => kernel_rfl) (by decide +kernel)
theorem fn_fits (w : World) : FnOk (KK w) "fits" (fnAt "fits" 76) :=
  fnOk_of (k := 2) (by kernel_rfl) (by kernel_rfl) (by kernel_rfl) (by kernel_rfl) (fun vs h => by
    match vs, h with
    | [v0, v1], _ => kernel_rfl) (by decide +kernel)
theorem fn_wrapped (w : World) : FnOk (KK w) "wrapped" (fnAt "wrapped" 83) :=
  fnOk_of (k := 2) (by kernel_rfl) (by kernel_rfl) (by kernel_rfl) (by kernel_rfl) (fun vs h => by
    match vs, h with
    | [v0, v1], _ => kernel_rfl) (by decide +kernel)
theorem fn_cut_quotient (w : World) : FnOk (KK w) "cut_quotient" (fnAt "cut_quotient" 90) :=
  fnOk_of (k := 2) (by kernel_rfl) (by kernel_rfl) (by kernel_rfl) (by kernel_rfl) (fun vs h => by
    match vs, h with
    | [v0, v1], _ => kernel_rfl) (by decide +kernel)
theorem fn_exact (w : World) : FnOk (KK w) "exact" (fnAt "exact" 97) :=
  fnOk_of (k := 3) (by kernel_rfl) (by kernel_rfl) (by kernel_rfl) (by kernel_rfl) (fun vs h => by
    match vs, h with
    | [v0, v1, v2], _ => kernel_rfl) (by decide +kernel)
theorem fn_checked (w : World) : FnOk (KK w) "checked" (fnAt "checked" 104) :=
  fnOk_of (k := 4) (by kernel_rfl) (by kernel_rfl) (by kernel_rfl) (by kernel_rfl) (fun vs h => by
    match vs, h with
    | [v0, v1, v2, v3], _ => kernel_rfl) (by decide +kernel)
theorem fn_shifted (w : World) : FnOk (KK w) "shifted" (fnAt "shifted" 111) :=
  fnOk_of (k := 4) (by kernel_rfl) (by kernel_rfl) (by kernel_rfl) (by kernel_rfl) (fun vs h => by
    match vs, h with
    | [v0, v1, v2, v3], _ => kernel_rfl) (by decide +kernel)
theorem fn_negated (w : World) : FnOk (KK w) "negated" (fnAt "negated" 118) :=
  fnOk_of (k := 2) (by kernel_rfl) (by kernel_rfl) (by kernel_rfl) (by kernel_rfl) (fun vs h => by
    match vs, h with
    | [v0, v1], _ => kernel_rfl) (by decide +kernel)
theorem fn_inverted (w : World) : FnOk (KK w) "inverted" (fnAt "inverted" 125) :=
  fnOk_of (k := 2) (by kernel_rfl) (by kernel_rfl) (by kernel_rfl) (by kernel_rfl) (fun vs h => by
    match vs, h with
    | [v0, v1], _ => kernel_rfl) (by decide +kernel)
theorem fn_compared (w : World) : FnOk (KK w) "compared" (fnAt "compared" 132) :=
  fnOk_of (k := 3) (by kernel_rfl) (by kernel_rfl) (by kernel_rfl) (by kernel_rfl) (fun vs h => by
    match vs, h with
    | [v0, v1, v2], _ => kernel_rfl) (by decide +kernel)
theorem fn_law_rims_right (w : World) : FnOk (KK w) "_law_rims_right" (fnAt "_law_rims_right" 181) :=
  fnOk_of (k := 1) (by kernel_rfl) (by kernel_rfl) (by kernel_rfl) (by kernel_rfl) (fun vs h => by
    match vs, h with
    | [v0], _ => kernel_rfl) (by decide +kernel)
end Mine
end

section
open PySem PySem.W PyProof.Rows PySem.Calls PySem.Spec
namespace Mine
noncomputable def T0 : Tbl := ⟨fun _ => none, fun _ => none, fun _ _ => none, "__debug__"⟩

section
variable {prog : Program} {w : World} {p : Program} {loose : List Str} {mg mb : Str → Option Value} {cls : Value} {lv : Lv} {n : Nat}
variable {A : Around} {env : Env} {l : List Env} {base : Heap} {ρ : Loc} {s : Shared} {E : Value → Shared → Prop}

theorem cx0 : Cx prog w (KK w) p loose mg mb cls T0 where
  fns f fn h := by cases h
  prims f g h := by cases h
  tabs g y d h := by cases h
  abs := ⟨by kernel_rfl, PyProof.Rows.Boot.«abs»⟩
  exc := fun A env base l s arg np cpos pos Q E _ _ _ _ _ _ hg _ _ => by
    exfalso
    have := (isGlob_inv hg).2
    exact absurd this (by decide)

noncomputable def evD (lv : Lv) (sc : Scope) : List (Option Expr) → List Expr → Option (List (Str × PyData))
  | [], [] => some []
  | some (.Constant (.str k) _ _) :: ks, v :: vs => match lv.e sc [] v with
    | .ok d => (evD lv sc ks vs).map ((k, d) :: ·)
    | _ => none
  | _, _ => none

inductive RdP (h : Heap) : List (Str × Value) → List (Str × PyData) → Prop
  | nil : RdP h [] []
  | cons {k v d a b} : Rd h v d → noList d = true → RdP h a b → RdP h ((k, v) :: a) ((k, d) :: b)
theorem RdP.keepT {h h' : Heap} (k : ∀ b o vs n, o.cls = .type "tuple" → o.data = .seq vs n → h.get? b = some o → h'.get? b = some o) {a b} (x : RdP h a b) : RdP h' a b := by
  induction x with
  | nil => exact .nil
  | cons r n _ ih => exact .cons (r.keepT k n) n ih
theorem RdP.keys {h : Heap} {a b} (x : RdP h a b) : a.map (·.1) = b.map (·.1) := by
  induction x with
  | nil => rfl
  | cons r _ _ ih => rw [List.map_cons, List.map_cons, ih]
theorem RdP.length {h : Heap} {a b} (x : RdP h a b) : a.length = b.length := by
  have := congrArg List.length x.keys
  simpa using this

theorem pairs_sound (S : Sound prog w (KK w) p loose mg mb cls lv n) (kb : KB (KK w) p loose mg mb base) (hr : Room A n) {pos : Pos} :
    ∀ (ks : List (Option Expr)) (vs : List Expr) (rows : List (Str × PyData)) (s : Shared) (Q : List (Value × Value) → Shared → Prop), EG A env l base [] s.heap → evD lv env.scope ks vs = some rows → (rows.all fun r => noList r.2) = true →
      (∀ h' tk ps, s.heap.StaysIn h' → allStrKeys ps = true → RdP h' (strPairs ps) rows → Q ps { s with heap := h', toks := tk }) → wpAny (model prog w) A (evalPairs (pairTrees ks vs env pos)) Q E s := by
  intro ks
  induction ks with
  | nil =>
    intro vs rows s Q G e hno hq
    cases vs with
    | cons _ _ => simp [evD] at e
    | nil => simp [evD] at e; subst e; exact pairTrees_nil_walk (hq s.heap s.toks [] (stays_refl _) rfl .nil)
  | cons k ks ih =>
    intro vs rows s Q G e hno hq
    unfold evD at e
    split at e
    · rename_i hh; cases hh
    · rename_i k' kd kp ks' v vs' hh
      cases hh
      split at e
      · rename_i d ed
        simp only [Option.map_eq_some_iff] at e
        obtain ⟨rows', e', rfl⟩ := e
        simp only [List.all_cons, Bool.and_eq_true] at hno
        refine pairTrees_cons_walk (Calls.Constant_str ?_)
        refine S.e A env l base [] { s with toks := s.toks + 1 } v kb G hr _ _ (by rw [ed]; intro z; cases z) (fun a ea b h' tk hk r => ?_) (fun ea => by rw [ed] at ea; cases ea)
        rw [ed] at ea; cases ea
        refine ih vs' rows' { s with heap := h', toks := tk } _ (G.more hk) e' hno.2 fun h'' tk' ps hk' hs hrp => ?_
        refine hq h'' tk' _ (stays_trans hk hk') hs ?_
        exact .cons (r.stays hk') hno.1 hrp
      · cases e
    · cases e

theorem dict_not_seq {knd : KeyKind prog w Str} {h : Heap} {d : Addr} {kvs : List (Str × Value)} (x : h.DictOf knd d kvs) {o : Obj} (ho : h.get? d = some o) : o.cls ≠ .type "tuple" ∧ ∀ vs n, o.data ≠ .seq vs n := by
  obtain ⟨o', es, ep, ho', hx, hd, _⟩ := x
  have : o' = o := Option.some.inj (ho'.symm.trans ho)
  subst this
  refine ⟨?_, fun vs n q => by rw [hd] at q; cases q⟩
  have := hx.1
  intro q
  rw [q] at this
  exact absurd this (by decide)

theorem disp_sound (S : Sound prog w (KK w) p loose mg mb cls lv n) (kb : KB (KK w) p loose mg mb base) (hr : Room A n) {pos : Pos} {ks : List (Option Expr)} {vs : List Expr} {rows : List (Str × PyData)} {Q : Value → Shared → Prop}
    (G : EG A env l base [] s.heap) (e : evD lv env.scope ks vs = some rows) (hno : (rows.all fun r => noList r.2) = true) (hnd : (rows.map (·.1)).Nodup) (hall : ks.all (·.isSome) = true) (hl : ks.length = vs.length) (h0 : ks ≠ []) (h15 : ks.length ≤ 15)
    (hq : ∀ h' tk d ps, s.heap.StaysIn h' → s.heap.get? d = none → s.heap.objs.size ≤ d → h'.DictOf (strKind prog w) d ps → RdP h' ps rows → Q (.ref d) { s with heap := h', toks := tk }) :
    wpAny (model prog w) A (eval (.Dict ks vs pos) env) Q E s := by
  refine wpAny_Dict_walk (knd := strKind prog w) hall hl h0 h15 ?_
  have k0 : s.heap.StaysIn (s.heap.push { cls := .type "dict", data := .dict #[] }) := fun b o q => Heap.get?_push_of_some _ q
  refine pairs_sound S kb hr ks vs rows { s with heap := s.heap.push { cls := .type "dict", data := .dict #[] } } _ (G.more k0) e hno fun h' tk ps k hs hrp => ?_
  have hD : h'.DictOf (strKind prog w) s.heap.objs.size [] := (Heap.DictOf.new s.heap).keep k
  refine display_done_str hs (by rw [hrp.keys]; exact hnd) hD fun h'' hm hsb => ?_
  refine hq h'' _ s.heap.objs.size (strPairs ps) (fun b o q => (hsb.2 b (Nat.ne_of_lt (Heap.lt_size q))).trans (k _ _ (k0 _ _ q))) (Heap.get?_none_of_le (Nat.le_refl _)) (Nat.le_refl _) hm (hrp.keepT fun b o vs n hc _ q => ?_)
  refine (hsb.2 b fun z => ?_).trans q
  subst z
  exact (dict_not_seq hD q).1 hc

theorem call_update {d o : Addr} {kvs more : List (Str × Value)} {R : Value → Shared → Prop} (hdo : d ≠ o) (hoS : (o == sysModules) = false) (hd : s.heap.DictOf (strKind prog w) d kvs) (ho : s.heap.DictOf (strKind prog w) o more) (hsz : kvs.length + more.length ≤ sizeLine)
    (h : ∀ h', h'.DictOf (strKind prog w) d (merged kvs more) → Heap.SameBut d s.heap h' → R .none { s with heap := h' }) :
    wpAny (model prog w) A (call (.builtin "dict.update") [.ref d, .ref o]) R E s :=
  call_meetsIn PySem.F.slot_dict_update hd.typeIs PySem.F.entry_dict_update (PySem.F.args_dict_update_2 _ _) (meets_dict_update (strKind prog w) d o hdo hoS)
    ⟨kvs, more, hd, ho, hsz, fun h' hmm _ hs => h h' hmm hs⟩
end
end Mine
end

section
open PySem PySem.W PyProof.Rows PySem.Calls PySem.Spec
namespace Mine
theorem mem_lookup {y : Str} {v : NameKind} : ∀ {l : List (Str × NameKind)}, l.lookup y = some v → (y, v) ∈ l
  | (a, b) :: r, h => by
    rw [List.lookup_cons] at h
    split at h
    · rename_i q; cases h; rw [beq_iff_eq.mp q]; exact .head _
    · exact .tail _ (mem_lookup h)
noncomputable def rowsL : List (Str × PyData) := kindRows.map fun r => (r.1, .tuple [.int r.2.1, .int r.2.2.1, .int r.2.2.2])
noncomputable def rows1 := rowsL.take 3
noncomputable def rows2 := (rowsL.drop 3).take 3
noncomputable def rows3 := (rowsL.drop 6).take 2
noncomputable abbrev lbS : Scope := (fnAt "_law_bounds" 162).scope
noncomputable abbrev lbEnv (L : Addr) : Env := envOf "_law_bounds" lbS L 162 (.ref 161)

/-- the i-th statement of a def of the row -/
noncomputable def stAt (f : Str) (a : Addr) (i : Nat) : Stmt := ((fnAt f a).body[i]?).getD (.Pass ⟨0, 0, 0, 0⟩)
noncomputable def dictSt : Stmt → Pos × List (Option Expr) × List Expr × Pos × Pos
  | .Assign [.Name _ p'] (.Dict ks vs q) p => (p', ks, vs, q, p)
  | _ => (⟨0, 0, 0, 0⟩, [], [], ⟨0, 0, 0, 0⟩, ⟨0, 0, 0, 0⟩)
noncomputable def updSt : Stmt → Pos × Pos × List (Option Expr) × List Expr × Pos × Pos × Pos
  | .Expr (.Call (.Attribute (.Name _ p1) _ p2) [.Dict ks vs p3] [] p4) p5 => (p1, p2, ks, vs, p3, p4, p5)
  | _ => (⟨0, 0, 0, 0⟩, ⟨0, 0, 0, 0⟩, [], [], ⟨0, 0, 0, 0⟩, ⟨0, 0, 0, 0⟩, ⟨0, 0, 0, 0⟩)
noncomputable def retSt : Stmt → Pos × Expr × Pos × Pos
  | .Return (some (.Subscript (.Name _ p1) i p2)) p3 => (p1, i, p2, p3)
  | _ => (⟨0, 0, 0, 0⟩, .Name "" ⟨0, 0, 0, 0⟩, ⟨0, 0, 0, 0⟩, ⟨0, 0, 0, 0⟩)
noncomputable abbrev lb0 : Stmt := stAt "_law_bounds" 162 0
noncomputable abbrev lb1 : Stmt := stAt "_law_bounds" 162 1
noncomputable abbrev lb2 : Stmt := stAt "_law_bounds" 162 2
noncomputable abbrev lb3 : Stmt := stAt "_law_bounds" 162 3
theorem lb_body : (fnAt "_law_bounds" 162).body = [lb0, lb1, lb2, lb3] := by kernel_rfl
theorem lb0_is : lb0 = .Assign [.Name "rows" (dictSt lb0).1] (.Dict (dictSt lb0).2.1 (dictSt lb0).2.2.1 (dictSt lb0).2.2.2.1) (dictSt lb0).2.2.2.2 := by kernel_rfl
theorem lb1_is : lb1 = .Expr (.Call (.Attribute (.Name "rows" (updSt lb1).1) "update" (updSt lb1).2.1) [.Dict (updSt lb1).2.2.1 (updSt lb1).2.2.2.1 (updSt lb1).2.2.2.2.1] [] (updSt lb1).2.2.2.2.2.1) (updSt lb1).2.2.2.2.2.2 := by kernel_rfl
theorem lb2_is : lb2 = .Expr (.Call (.Attribute (.Name "rows" (updSt lb2).1) "update" (updSt lb2).2.1) [.Dict (updSt lb2).2.2.1 (updSt lb2).2.2.2.1 (updSt lb2).2.2.2.2.1] [] (updSt lb2).2.2.2.2.2.1) (updSt lb2).2.2.2.2.2.2 := by kernel_rfl
theorem lb3_is : lb3 = .Return (some (.Subscript (.Name "rows" (retSt lb3).1) (retSt lb3).2.1 (retSt lb3).2.2.1)) (retSt lb3).2.2.2 := by kernel_rfl
theorem lb0_e : evD (lvl T0 8) lbS (dictSt lb0).2.1 (dictSt lb0).2.2.1 = some rows1 := by kernel_rfl
theorem lb1_e : evD (lvl T0 8) lbS (updSt lb1).2.2.1 (updSt lb1).2.2.2.1 = some rows2 := by kernel_rfl
theorem lb2_e : evD (lvl T0 8) lbS (updSt lb2).2.2.1 (updSt lb2).2.2.2.1 = some rows3 := by kernel_rfl
noncomputable def keyOf (k : Str) : Str := if (k == ("usize" : Str)) = true then "u64" else k
theorem lb_nocell : ∀ x ∈ lbS.names, x.2 ≠ .cell := by decide +kernel
theorem lb_kind : lbS.kind = .function := by kernel_rfl
theorem lb_rows : lbS.names.lookup ("rows" : Str) = some NameKind.local := by kernel_rfl
theorem k9_cases {P : Str → Prop} (h0 : P "i8") (h1 : P "i16") (h2 : P "i32") (h3 : P "i64") (h4 : P "u8") (h5 : P "u16") (h6 : P "u32") (h7 : P "u64") (h8 : P "usize") : ∀ k ∈ k9, P k := by
  intro k hk
  simp only [List.mem_cons, List.not_mem_nil, or_false] at hk
  rcases hk with rfl | rfl | rfl | rfl | rfl | rfl | rfl | rfl | rfl <;> assumption
theorem lb3_e : ∀ k ∈ k9, (lvl T0 8).e lbS [("kind", .str k)] (retSt lb3).2.1 = .ok (.str (keyOf k)) :=
  k9_cases (by kernel_rfl) (by kernel_rfl) (by kernel_rfl) (by kernel_rfl) (by kernel_rfl) (by kernel_rfl) (by kernel_rfl) (by kernel_rfl) (by kernel_rfl)
noncomputable def rowD (k : Str) : Option PyData := (kindRows.lookup k).map fun r => .tuple [.int r.1, .int r.2.1, .int r.2.2]
theorem rows_all : ∀ k ∈ k9, (rows1 ++ rows2 ++ rows3).lookup (keyOf k) = rowD k :=
  k9_cases (by kernel_rfl) (by kernel_rfl) (by kernel_rfl) (by kernel_rfl) (by kernel_rfl) (by kernel_rfl) (by kernel_rfl) (by kernel_rfl) (by kernel_rfl)
theorem mem_lookup' {α β : Type} [BEq α] [LawfulBEq α] {y : α} {v : β} : ∀ {l : List (α × β)}, l.lookup y = some v → y ∈ l.map (·.1)
  | (a, b) :: r, h => by
    rw [List.lookup_cons] at h
    split at h
    · rename_i q; rw [beq_iff_eq.mp q]; exact .head _
    · exact .tail _ (mem_lookup' h)
theorem k9_of {k : Str} {r : Int × Int × Int} (h : kindRows.lookup k = some r) : k ∈ k9 := mem_lookup' h
theorem lb_k : lbS.names.lookup ("kind" : Str) = some NameKind.local := by kernel_rfl

section
variable {prog : Program} {w : World} {p : Program} {loose : List Str} {mg mb : Str → Option Value} {cls : Value}
variable {A : Around} {l : List Env} {base h₀ : Heap} {s : Shared} {E : Value → Shared → Prop} {L : Addr} {m : Str → Option Value}

theorem lb_eg (B : Below A base l h₀) (hh : A.handled = none) {h : Heap} (F : Fr h₀ L h m) : EG (A.deeper (lbEnv L)) (lbEnv L) (lbEnv L :: l) base [] h :=
  ⟨Below.push B F lb_kind, hh, lb_kind, rfl, rfl, fun y hy => by
    exact absurd rfl (lb_nocell _ (mem_lookup hy)), fun x d e => by simp at e⟩

theorem lb_upd (kb : KB (KK w) p loose mg mb base) (B : Below A base l h₀) (hh : A.handled = none) (hr : Room A 20) (F : Fr h₀ L s.heap m) {d : Addr} {ps : List (Str × Value)} {rows more : List (Str × PyData)}
    (hm : m "rows" = some (.ref d)) (hd : s.heap.DictOf (strKind prog w) d ps) (hp : RdP s.heap ps rows) (hd0 : h₀.get? d = none) (hdL : d ≠ L) {ks : List (Option Expr)} {vs : List Expr} {p1 p2 p3 p4 p5 : Pos} {Q : Flow → Shared → Prop}
    (hline : (p2.endLine == p4.line) = true)
    (e : evD (lvl T0 8) lbS ks vs = some more) (hno : (more.all fun r => noList r.2) = true) (hnd : (more.map (·.1)).Nodup) (hall : ks.all (·.isSome) = true) (hl : ks.length = vs.length) (h0 : ks ≠ []) (h15 : ks.length ≤ 15) (hsz : rows.length + more.length ≤ 100)
    (hq : ∀ h' tk qs, Fr h₀ L h' m → h'.DictOf (strKind prog w) d (merged ps qs) → RdP h' ps rows → RdP h' qs more → Q .next { s with heap := h', toks := tk }) :
    wpAny (model prog w) (A.deeper (lbEnv L)) (exec (.Expr (.Call (.Attribute (.Name "rows" p1) "update" p2) [.Dict ks vs p3] [] p4) p5) (lbEnv L)) Q E s := by
  refine wpAny_Expr_any (wpAny_Call_method1_late rfl hline rfl ?_)
  refine ld F hm ?_ lb_kind lb_rows
  refine ⟨"dict", "dict.update", PySem.F.plainAttrs_dict, PySem.F.slot_dict_update, PySem.F.type_dict_update, hd.typeIs, hd.mapOf.noDict, ?_⟩
  refine Calls.callWith_builtin rfl (Calls.evalArgs_plain (Calls.spliced_cons ?_))
  refine disp_sound (sound (cx0 (cls := .none)) 8) kb (hr.deeper.le (by omega)) (lb_eg B hh F) e hno hnd hall hl h0 h15 fun h' tk d' qs k hn hge hd' hp' => Calls.spliced_nil ?_
  have hdd : d ≠ d' := fun z => by
    obtain ⟨o, _, _, q, _⟩ := hd
    rw [z, hn] at q; cases q
  have hbig : 186 < s.heap.objs.size := Heap.lt_size ((kb.X.keeps (Below.more (Below.push (name := "_law_bounds") (scope := lbS) (a := 162) (cd := .ref 161) B F lb_kind) (stays_refl _)).stays) 186 _ (show (KK w).lookup 186 = some ⟨.type "function", none, .func (fdOf w "law" 186), #[]⟩ by kernel_rfl))
  refine call_update hdd (show (d' == 1) = false from beq_false_of_ne (Nat.ne_of_gt (Nat.lt_of_lt_of_le (Nat.lt_of_lt_of_le (by decide) (Nat.le_of_lt hbig)) hge))) (hd.keep k) hd' ?_ fun h'' hm'' hs => ?_
  · rw [hp.length, hp'.length, sizeLine_eq]; omega
  · have keep : ∀ b o vs n, o.cls = .type "tuple" → o.data = .seq vs n → h'.get? b = some o → h''.get? b = some o := fun b o vs n hc _ q => (hs.2 b fun z => by
      subst z
      exact (dict_not_seq (hd.keep k) q).1 hc).trans q
    refine hq h'' _ qs ⟨(F.ns.keeps k).sameBut hs (Ne.symm hdL), fun b o q => (hs.2 b fun z => by rw [z, hd0] at q; cases q).trans (k _ _ (F.keep _ _ q)), F.above⟩ hm'' ((hp.keepT fun b o _ _ _ _ q => k b o q).keepT keep) (hp'.keepT keep)

theorem valueAt_of {ps : List (Str × Value)} {rows : List (Str × PyData)} {h : Heap} {k : Str} {d : PyData} (x : RdP h ps rows) (e : rows.lookup k = some d) : ∃ v, valueAt ps k = some v ∧ Rd h v d := by
  induction x with
  | nil => simp at e
  | @cons k' v d' a b r _ _ ih =>
    unfold valueAt
    rw [List.find?_cons]
    rw [List.lookup_cons] at e
    by_cases hk : k' = k
    · subst hk
      simp at e
      subst e
      exact ⟨v, by simp, r⟩
    · have hk2 : (k == k') = false := by simp [Ne.symm hk]
      rw [hk2] at e
      simp only [hk, decide_false]
      exact ih e

theorem merged_rd {h : Heap} {ps : List (Str × Value)} {rows : List (Str × PyData)} (x : RdP h ps rows) : ∀ {qs : List (Str × Value)} {more : List (Str × PyData)}, RdP h qs more → (rows.map (·.1) ++ more.map (·.1)).Nodup → RdP h (merged ps qs) (rows ++ more) := by
  intro qs more y
  induction y generalizing ps rows with
  | nil => intro _; rw [List.append_nil]; exact x
  | @cons k v d a b r hn _ ih =>
    intro hnd
    have hk : k ∉ rows.map (·.1) := fun hm => by
      rw [List.nodup_append] at hnd
      exact hnd.2.2 _ hm _ (.head _) rfl
    have e : stored ps k v = ps ++ [(k, v)] := by
      unfold stored
      rw [if_neg]
      intro hany
      rw [List.any_eq_true] at hany
      obtain ⟨y, hy, hyk⟩ := hany
      have : y.1 = k := by simpa using hyk
      exact hk (by rw [← x.keys, ← this]; exact List.mem_map_of_mem hy)
    have x' : RdP h (ps ++ [(k, v)]) (rows ++ [(k, d)]) := by
      clear hk e hnd ih
      induction x with
      | nil => exact .cons r hn .nil
      | cons r' n' _ ih => exact .cons r' n' ih
    have := ih x' (by rw [List.map_append, List.map_cons, List.map_nil, List.append_assoc]; exact hnd)
    rw [List.append_assoc] at this
    show RdP h (merged (stored ps k v) a) _
    rw [e]
    exact this


theorem lb_walk (kb : KB (KK w) p loose mg mb base) (B : Below A base l h₀) (hh : A.handled = none) (hr : Room A 20) {k : Str} {t : Tok} {r : Int × Int × Int} (hk9 : k ∈ k9) (hrow : (rows1 ++ rows2 ++ rows3).lookup (keyOf k) = some (.tuple [.int r.1, .int r.2.1, .int r.2.2]))
    (F : Fr h₀ L s.heap m) (mk : m "kind" = some (.str k t)) {Q : Flow → Shared → Prop}
    (hq : ∀ v h' tk, h₀.StaysIn h' → Rd h' v (.tuple [.int r.1, .int r.2.1, .int r.2.2]) → Q (.ret v) { s with heap := h', toks := tk }) :
    wpAny (model prog w) (A.deeper (lbEnv L)) (execs (fnAt "_law_bounds" 162).body (lbEnv L)) Q E s := by
  have fresh : ∀ {h : Heap} {d : Addr}, (∀ b o, h₀.get? b = some o → h.get? b = some o) → h.get? d = none → h₀.get? d = none := fun k q => fresh_of_stays k q
  rw [lb_body]
  refine wpAny_execs_cons ?_
  rw [lb0_is]
  refine wpAny_Assign_Name ?_
  refine disp_sound (sound (cx0 (cls := .none)) 8) kb (hr.deeper.le (by omega)) (lb_eg B hh F) lb0_e (by decide +kernel) (by decide +kernel) (by decide +kernel) (by decide +kernel) (by decide +kernel) (by decide +kernel) fun h₁ tk₁ d ps k₁ hn hge hd hp => ?_
  have F₁ : Fr h₀ L h₁ m := F.keeps k₁
  have hd0 : h₀.get? d = none := fresh F.keep hn
  have hdL : d ≠ L := fun z => by
    obtain ⟨o, _, _, q, _⟩ := F.ns
    rw [← z, hn] at q; cases q
  refine wpAny_storeName_local lb_rows F₁.ns (fun h₂ hn₂ hs₂ => ?_) (by show (lbS.kind == .class || (lbS.kind == .module && L != mainGlobals)) = false; rw [lb_kind]; rfl)
  have F₂ : Fr h₀ L h₂ _ := F₁.set hn₂ hs₂
  have kt : ∀ b o vs n, o.cls = .type "tuple" → o.data = .seq vs n → h₁.get? b = some o → h₂.get? b = some o := fun b o vs n hc hd q => (hs₂.2 b fun z => by
    obtain ⟨o', es, ep, q1, q2, _⟩ := F₁.ns
    have z' : b = L := z
    rw [z', q1] at q; cases q; rw [q2] at hd; cases hd).trans q
  show wpAny _ _ (execs [lb1, lb2, lb3] _) _ _ _
  refine wpAny_execs_cons ?_
  rw [lb1_is]
  refine lb_upd (s := { s with heap := h₂, toks := tk₁ + 1 }) (rows := rows1) kb B hh hr F₂ (by simp) (hd.sameBut hs₂ hdL) (hp.keepT kt) hd0 hdL (by decide +kernel) lb1_e (by decide +kernel) (by decide +kernel) (by decide +kernel) (by decide +kernel) (by decide +kernel) (by decide +kernel) (by decide +kernel) fun h₃ tk₃ qs F₃ hd₃ hp₃ hq₃ => ?_
  show wpAny _ _ (execs [lb2, lb3] _) _ _ _
  have hm₃ := merged_rd hp₃ hq₃ (by decide +kernel)
  refine wpAny_execs_cons ?_
  rw [lb2_is]
  refine lb_upd (s := { s with heap := h₃, toks := tk₃ }) (rows := rows1 ++ rows2) kb B hh hr F₃ (by simp) hd₃ hm₃ hd0 hdL (by decide +kernel) lb2_e (by decide +kernel) (by decide +kernel) (by decide +kernel) (by decide +kernel) (by decide +kernel) (by decide +kernel) (by decide +kernel) fun h₄ tk₄ qs' F₄ hd₄ hp₄ hq₄ => ?_
  show wpAny _ _ (execs [lb3] _) _ _ _
  have hm₄ := merged_rd hp₄ hq₄ (by decide +kernel)
  refine wpAny_execs_cons ?_
  rw [lb3_is]
  refine wpAny_Return_some (Subscript_ (ld F₄ (v := .ref d) (by simp) ?_ lb_kind lb_rows))
  have G : EG (A.deeper (lbEnv L)) (lbEnv L) (lbEnv L :: l) base [("kind", .str k)] h₄ := by
    have G0 := lb_eg B hh F₄
    refine ⟨G0.B, G0.hand, G0.ek, G0.eg, G0.eb, G0.cl, fun x d e => ?_⟩
    rw [List.lookup_cons] at e
    split at e
    · rename_i q; cases e
      rw [beq_iff_eq.mp q]
      exact ⟨by decide, by decide, .str k t, .inl ⟨lb_k, _, F₄.ns, (if_neg (by decide)).trans mk⟩, .str k t⟩
    · simp at e
  have e3 : (lvl T0 8).e (lbEnv L).scope [("kind", .str k)] (retSt lb3).2.1 = .ok (.str (keyOf k)) := lb3_e k hk9
  refine (sound (cx0 (cls := .none)) 8).e _ _ _ _ [("kind", .str k)] { s with heap := h₄, toks := tk₄ } (retSt lb3).2.1 kb G (hr.deeper.le (by omega)) _ _ (by rw [e3]; intro z; cases z) (fun a ea v h₅ tk₅ k₅ rv => ?_) (fun ea => by rw [e3] at ea; cases ea)
  rw [e3] at ea; cases ea
  obtain ⟨t', rfl⟩ := rv.str_inv
  obtain ⟨v, hv, rdv⟩ := valueAt_of hm₄ hrow
  have hd₅ := hd₄.keep k₅
  refine PyProof.Rows.tail_any hd₅.typeIs (ops := [.ref d, .str (keyOf k) t']) PySem.F.slot_dict_getitem.lookup (wpAny_getItem_of (strKind_is prog w (keyOf k) t') hd₅.mapOf hv ?_) ?_
  · exact hq v _ _ (fun b o q => k₅ _ _ (F₄.keep _ _ q)) (rdv.stays k₅)
  · kernel_rfl

theorem lb_env (w : World) (L : Addr) : callEnv (fdOf w "_law_bounds" 162) L 162 = lbEnv L := by kernel_rfl
theorem lb_prim : PrimOk prog w (KK w) p loose mg mb "_law_bounds" boundsP := by
  refine ⟨162, by kernel_rfl, by kernel_rfl, fun A base l s vs ds d Q E hg kb B hh hr rd hq => ?_⟩
  unfold boundsP at hg
  split at hg
  case h_2 => cases hg
  rename_i k
  simp only [Option.map_eq_some_iff] at hg
  obtain ⟨r, hrow, rfl⟩ := hg
  have hk9 := k9_of hrow
  have hrow' : (rows1 ++ rows2 ++ rows3).lookup (keyOf k) = some (.tuple [.int r.1, .int r.2.1, .int r.2.2]) := by
    rw [rows_all k hk9]; unfold rowD; rw [hrow]; rfl
  cases rd with
  | cons rk rn =>
  cases rn
  obtain ⟨t, rfl⟩ := rk.str_inv
  have X := kb.X.keeps B.stays
  have T := kb.T.keeps B.stays
  have hr2 := hr.1
  refine wpAny_call (codeAny_call_def (fd := fdOf w "_law_bounds" 162) (body := (fnAt "_law_bounds" 162).body) (binds := [("kind", .str k t)]) (by omega) (X _ _ (show (KK w).lookup 162 = some ⟨.type "function", none, .func (fdOf w "_law_bounds" 162), #[]⟩ by kernel_rfl)) rfl T.nolimit (codeRec_of X (by kernel_rfl)) rfl
    (BindsTo.of_eq (by kernel_rfl)) lb_nocell (fun x hx => by rw [List.mem_singleton.mp hx]; exact lb_k) (fun h₁ hn hk => ?_) (by kernel_rfl) (by kernel_rfl) lb_kind)
  have F : Fr s.heap s.heap.objs.size h₁ (fun x => ([("kind", .str k t)] : List (Str × Value)).reverse.lookup x) := ⟨hn, hk, Nat.le_refl _⟩
  have Z := @lb_walk prog w p loose mg mb A l base s.heap { s with heap := h₁, toks := s.toks + ([("kind", .str k t)] : List (Str × Value)).length }
    (fun e s' => wpAny (model prog w) (A.deeper (lbEnv s.heap.objs.size)) (leaving (lbEnv s.heap.objs.size) e) (fun _ s'' => E e s'') (fun e' s'' => E e' s'') s') s.heap.objs.size _ kb B hh hr k t r hk9 hrow' F (by kernel_rfl)
    (fun fl s' => Q (match fl with | .ret v => v | _ => .none) s') hq
  rw [lb_env]
  generalize (fnAt "_law_bounds" 162).body = bd at Z ⊢
  generalize lbEnv s.heap.objs.size = env at Z ⊢
  refine wpAny_mono Z (fun f s' hf => ?_) (fun e s' he => ?_)
  · cases f <;> exact hf
  · exact he
end
end Mine
end

section
open PySem PySem.W PyProof.Rows PySem.Calls PySem.Spec
namespace Mine
section
variable {prog : Program} {w : World} {p : Program} {loose : List Str} {mg mb : Str → Option Value}

theorem fns_ok : ∀ f fn, tbl.fns f = some fn → FnOk (KK w) f fn := by
  intro f fn h
  have hm : (f, fn) ∈ fnList := by
    have : ∀ {l : List (Str × Fn)}, l.lookup f = some fn → (f, fn) ∈ l := by
      intro l
      induction l with
      | nil => intro h; cases h
      | cons a r ih =>
        intro h
        rw [List.lookup_cons] at h
        split at h
        · rename_i q; cases h; rw [beq_iff_eq.mp q]; exact .head _
        · exact .tail _ (ih h)
    exact this h
  simp only [fnList, List.mem_cons, List.not_mem_nil, or_false, Prod.mk.injEq] at hm
  rcases hm with ⟨rfl, rfl⟩ | ⟨rfl, rfl⟩ | ⟨rfl, rfl⟩ | ⟨rfl, rfl⟩ | ⟨rfl, rfl⟩ | ⟨rfl, rfl⟩ | ⟨rfl, rfl⟩ | ⟨rfl, rfl⟩ | ⟨rfl, rfl⟩ | ⟨rfl, rfl⟩ | ⟨rfl, rfl⟩ | ⟨rfl, rfl⟩ | ⟨rfl, rfl⟩
  · exact fn_is_signed w
  · exact fn_least w
  · exact fn_greatest w
  · exact fn_fits w
  · exact fn_wrapped w
  · exact fn_cut_quotient w
  · exact fn_exact w
  · exact fn_checked w
  · exact fn_shifted w
  · exact fn_negated w
  · exact fn_inverted w
  · exact fn_compared w
  · exact fn_law_rims_right w

noncomputable def esOf (K : Frag) (a : Addr) : Array DictEntry × Nat := match K.lookup a with
  | some ⟨_, _, .dict es n, _⟩ => (es, n)
  | _ => (#[], 0)
noncomputable def strV : Value → Str × Tok
  | .str x t => (x, t)
  | .int _ t => ("", t)
  | _ => ("", 0)
noncomputable def fixE (P : Params) (e : DictEntry) : DictEntry := { e with key := .str (strV e.key).1 (strV e.key).2, hash := PyData.keyHash P (strV e.key).1 }
theorem keysLit_of {P : Params} : ∀ {l : List DictEntry}, l = l.map (fixE P) → KeysLit P l
  | [], _ => trivial
  | e :: r, h => by
    rw [List.map_cons] at h
    injection h with h1 h2
    exact ⟨⟨_, _, congrArg (·.key) h1, congrArg (·.hash) h1⟩, keysLit_of h2⟩
noncomputable def valIn (K : Frag) (a : Addr) (k : Str) : Value := match nsIn K a k with
  | some (some v) => v
  | _ => .none
theorem bits_all (w : World) : ∀ k ∈ k9, nsIn (KK w) 48 k = some (some (.int ((kindRows.lookup k).getD (0, 0, 0)).2.2 (strV (valIn (KK w) 48 k)).2)) :=
  k9_cases (by kernel_rfl) (by kernel_rfl) (by kernel_rfl) (by kernel_rfl) (by kernel_rfl) (by kernel_rfl) (by kernel_rfl) (by kernel_rfl) (by kernel_rfl)
theorem bits_lit (w : World) : KeysLit w.params (esOf (KK w) 48).1.toList := keysLit_of (by kernel_rfl)
theorem tabs_ok : ∀ g y d, tbl.tab g y = some d → ∃ a es n v, nsIn (KK w) mainGlobals g = some (some (.ref a)) ∧ (KK w).lookup a = some { cls := .type "dict", data := .dict es n } ∧ KeysLit w.params es.toList ∧ nsIn (KK w) a y = some (some v) ∧ ∀ h, Rd h v d := by
  intro g y d h
  unfold tbl at h
  dsimp only at h
  split at h
  case isFalse => cases h
  rename_i hg
  obtain rfl := beq_iff_eq.mp hg
  simp only [Option.map_eq_some_iff] at h
  obtain ⟨r, hr, rfl⟩ := h
  have hk := k9_of hr
  have h1 := bits_all w y hk
  rw [hr] at h1
  exact ⟨48, (esOf (KK w) 48).1, (esOf (KK w) 48).2, _, by kernel_rfl, by kernel_rfl, bits_lit w, h1, fun h => .int _ _⟩

theorem cx : Cx prog w (KK w) p loose mg mb (.ref 45) tbl where
  fns := fns_ok
  prims f g h := by
    unfold tbl at h
    dsimp only at h
    split at h
    · rename_i hf
      obtain rfl := beq_iff_eq.mp hf
      cases h
      exact lb_prim
    · cases h
  tabs := tabs_ok
  abs := ⟨by kernel_rfl, PyProof.Rows.Boot.«abs»⟩
  exc := fun A env base l s arg np cpos pos Q E kb B hh hr hk hg hgl hst h => tf_exc kb B hh hr hk hg hgl hst h
end
end Mine
end

section
open PySem PySem.W PyProof.Rows PySem.Calls PySem.Spec
namespace Mine
theorem isT_ok {r : Rs PyData} (h : isT r = true) : r = .ok (.bool true) := by
  unfold isT at h
  split at h
  · rfl
  · cases h
theorem isOk_ok {r : Rs PyData} (h : isOk r = true) : ∃ d, r = .ok d := by
  unfold isOk at h
  split at h
  · exact ⟨_, rfl⟩
  · cases h
theorem isExc_ok {r : Rs PyData} (h : isExc r = true) : r = .exc := by
  unfold isExc at h
  split at h
  · rfl
  · cases h
noncomputable def ops10 : List Str := ["+", "-", "*", "/", "%", "&", "|", "^", "<<", ">>"]
noncomputable def looks6 : List Str := ["==", "!=", "<", "<=", ">", ">="]
noncomputable def nones10 : List Str := ["", "=", "!", "&&", "||", "**", "//", "<>", "+=", "~"]
noncomputable def rowI (k : Str) : Int × Int × Int := (kindRows.lookup k).getD (0, 0, 0)
noncomputable def asOf (k : Str) : List Int := [(rowI k).1, (rowI k).2.1, 1]
noncomputable def bsOf (k : Str) : List Int := [(rowI k).1 + 1, (rowI k).2.1, 3]
noncomputable def okAll (k : Str) : Bool := (asOf k).all fun a => (bsOf k).all fun b => (ops10.all fun op => isOk (ev "checked" [.str k, .str op, .int a, .int b])) && looks6.all fun op => isOk (ev "compared" [.str op, .int a, .int b])
theorem rims_i8 : isT (rims "i8") = true := by decide +kernel
theorem rims_i16 : isT (rims "i16") = true := by decide +kernel
theorem rims_i32 : isT (rims "i32") = true := by decide +kernel
theorem rims_i64 : isT (rims "i64") = true := by decide +kernel
theorem rims_u8 : isT (rims "u8") = true := by decide +kernel
theorem rims_u16 : isT (rims "u16") = true := by decide +kernel
theorem rims_u32 : isT (rims "u32") = true := by decide +kernel
theorem rims_u64 : isT (rims "u64") = true := by decide +kernel
theorem rims_usize : isT (rims "usize") = true := by decide +kernel
theorem ok_i8 : okAll "i8" = true := by decide +kernel
theorem ok_i16 : okAll "i16" = true := by decide +kernel
theorem ok_i32 : okAll "i32" = true := by decide +kernel
theorem ok_i64 : okAll "i64" = true := by decide +kernel
theorem ok_u8 : okAll "u8" = true := by decide +kernel
theorem ok_u16 : okAll "u16" = true := by decide +kernel
theorem ok_u32 : okAll "u32" = true := by decide +kernel
theorem ok_u64 : okAll "u64" = true := by decide +kernel
theorem ok_usize : okAll "usize" = true := by decide +kernel
theorem bad_checked (k d1 d2 : PyData) : (nones10 ++ looks6).all (fun x => isExc (ev "checked" [k, .str x, d1, d2])) = true := by kernel_rfl
theorem bad_compared (d1 d2 : PyData) : (nones10 ++ ops10).all (fun x => isExc (ev "compared" [.str x, d1, d2])) = true := by kernel_rfl
end Mine
end

section
open PySem PySem.W PyProof.Rows PySem.Calls PySem.Spec
namespace Mine
noncomputable def tryP : Stmt → Pos × Pos × Pos × Pos × Nat × Pos × Pos × Pos × Pos
  | .Try [.Expr (.Call (.Name _ p1) [] [] p2) p3] [.ExceptHandler (some (.Name _ p4)) none [.Return (some (.Constant _ k p5)) p6] p7] [] [] p8 => (p1, p2, p3, p4, k, p5, p6, p7, p8)
  | _ => let z : Pos := ⟨0, 0, 0, 0⟩; (z, z, z, z, 0, z, z, z, z)
noncomputable def retC : Stmt → Nat × Pos × Pos
  | .Return (some (.Constant _ k p)) q => (k, p, q)
  | _ => (0, ⟨0, 0, 0, 0⟩, ⟨0, 0, 0, 0⟩)
noncomputable abbrev irS : Scope := (fnAt "_law_is_refused" 169).scope
noncomputable abbrev irEnv (L : Addr) : Env := envOf "_law_is_refused" irS L 169 (.ref 168)
noncomputable abbrev ir0 : Stmt := stAt "_law_is_refused" 169 0
noncomputable abbrev ir1 : Stmt := stAt "_law_is_refused" 169 1
noncomputable abbrev irH : ExceptHandler := .ExceptHandler (some (.Name "TypeFault" (tryP ir0).2.2.2.1)) none [.Return (some (.Constant (.bool true) (tryP ir0).2.2.2.2.1 (tryP ir0).2.2.2.2.2.1)) (tryP ir0).2.2.2.2.2.2.1] (tryP ir0).2.2.2.2.2.2.2.1
theorem ir_body : (fnAt "_law_is_refused" 169).body = [ir0, ir1] := by kernel_rfl
theorem ir0_is : ir0 = .Try [.Expr (.Call (.Name "call" (tryP ir0).1) [] [] (tryP ir0).2.1) (tryP ir0).2.2.1] [irH] [] [] (tryP ir0).2.2.2.2.2.2.2.2 := by kernel_rfl
theorem ir1_is : ir1 = .Return (some (.Constant (.bool false) (retC ir1).1 (retC ir1).2.1)) (retC ir1).2.2 := by kernel_rfl
theorem ir_nocell : ∀ x ∈ irS.names, x.2 ≠ .cell := by decide +kernel
theorem ir_kind : irS.kind = .function := by kernel_rfl
theorem ir_call : irS.names.lookup ("call" : Str) = some NameKind.local := by kernel_rfl
theorem ir_tf : irS.names.lookup ("TypeFault" : Str) = some NameKind.globalImplicit := by kernel_rfl
theorem ir_env (w : World) (L : Addr) : callEnv (fdOf w "_law_is_refused" 169) L 169 = irEnv L := by kernel_rfl

section
variable {prog : Program} {w : World} {p : Program} {loose : List Str} {mg mb : Str → Option Value}
variable {A : Around} {env : Env} {l : List Env} {base : Heap} {ρ : Loc} {s : Shared} {E : Value → Shared → Prop} {n : Nat}

theorem ir_caught {e L : Addr} {Q : Flow → Shared → Prop} (kb : KB (KK w) p loose mg mb base) (hA : A.frames = some (irEnv L :: l)) (fl : Fly base (irEnv L :: l) (.ref 45) e s.heap)
    (k : ∀ h', base.StaysIn h' → s.heap.UpToSlots h' → Q (.ret (.bool true)) { s with heap := h' }) :
    wpAny (model prog w) A (noteFrame (.ref e) (irEnv L)) (fun _ s₂ => wpAny (model prog w) A (setFlight (.ref e) none) (fun _ s₃ => wpAny (model prog w) A (handleBy (.ref e) (irEnv L) [irH]) Q E s₃) E s₂) E s := by
  obtain ⟨a0, hfl⟩ := fl
  refine wpAny_looks_onW hA rfl hfl fun h₄ hheld₄ hsm₄ => ?_
  refine wpAny_landsW hheld₄ fun h₅ hfl₅ hsm₅ => ?_
  have X₅ := kb.X.keeps hfl₅.1
  have T₅ := kb.T.keeps hfl₅.1
  refine wpAny_handleBy_cons (codeAny_handlers_test ?_) (by intro q; cases q)
  refine Name_function_global ir_kind ir_tf (loadGlobal_global (env := irEnv L) (v := .ref 45) T₅.g (mg_of X₅ T₅.g (by kernel_rfl)) ?_)
  obtain ⟨ob, hob, hobc⟩ := hfl₅.there
  have LT : Looks (model prog w) h₅ (typeOf (.ref e)) (.ref 45) := hobc ▸ (Looks.ld hob).andThen .now
  refine (exm_one X₅ LT (b := true) (by kernel_rfl)).here ?_
  refine codeAny_handlers_suite (lands_againW hfl₅ fun h₆ hfl₆ hsm₆ => ?_)
  refine wpAny_execs_cons (wpAny_Return_some ?_)
  refine wpAny_Constant_bool ?_
  exact k h₆ hfl₆.1 ((hsm₄.trans hsm₅).trans hsm₆)

/-- a name that a lambda's closure holds -/
noncomputable def Held (sc : Scope) (clos : List (Str × Addr)) (ρ : Loc) (h : Heap) : Prop :=
  ∀ x d, ρ.lookup x = some d → (x == ("__debug__" : Str)) = false ∧ (x == ("__classdict__" : Str)) = false ∧ sc.names.lookup x = some .free ∧ ∃ c v, clos.lookup x = some c ∧ h.IsCell c (some v) ∧ Rd h v d

theorem lam_eval {name qual : Str} {params : Arguments} {body : Expr} {sc : Scope} {clos : List (Str × Addr)} {pm ctv : Value} {c' f : Addr} {R : Result → Shared → Prop}
    (kb : KB (KK w) p loose mg mb base) (B : Below A base l s.heap) (hh : A.handled = none) (hr : Room A (n + 1))
    (hf : s.heap.get? f = some (kla_obj name qual params body sc clos pm c' ctv)) (hc : s.heap.CodeRec (.ref c') qual) (hbind : bindArgs (kla_fn name qual params body sc clos pm (.ref c') ctv) ⟨[], []⟩ = pure [])
    (hco : sc.isCoroutine = false) (hgen : sc.isGenerator = false) (hk : sc.kind = .function) (hnc : ∀ x ∈ sc.names, x.2 ≠ .cell) (hρ : Held sc clos ρ s.heap)
    (hn : (lvl tbl n).e sc ρ body ≠ .no)
    (hok : ∀ d, (lvl tbl n).e sc ρ body = .ok d → ∀ v h' tk, s.heap.StaysIn h' → R (.ok (.ret v)) { s with heap := h', toks := tk })
    (hex : (lvl tbl n).e sc ρ body = .exc → ∀ x h' tk, Fly base l (.ref 45) x h' → s.heap.UpToSlots h' → R (.error (.ref x)) { s with heap := h', toks := tk }) :
    codeAny (model prog w) A (.call (.ref f) ⟨[], []⟩) R s := by
  have T := kb.T.keeps B.stays
  have hr1 := hr.1
  refine kla_callFunE (by omega) hf rfl hco hgen rfl hc ?_
  rw [hbind]
  refine wpAny_pure (wpAny_newFunctionEnv hnc (fun x hx => by cases hx) (fun h₁ hns hsb => ⟨T.nolimit.fresh _ hsb, ?_⟩) hk)
  have k₁ : s.heap.StaysIn h₁ := fun b o e => hsb.extBut b o (Nat.ne_of_lt (Heap.lt_size e)) (Heap.get?_push_of_some _ e)
  generalize he : newEnv sc s.heap.objs.size mainGlobals clos (qual ++ ".<locals>.") (some f) (.ref c') none builtinsNs = env'
  have e1 : env'.scope = sc := by rw [← he]; rfl
  have e2 : env'.frame = some s.heap.objs.size := by rw [← he]; rfl
  have e3 : env'.cells = clos := by rw [← he]; rfl
  have e4 : env'.globals = mainGlobals := by rw [← he]; rfl
  have e5 : env'.builtins = builtinsNs := by rw [← he]; rfl
  have hfr : (A.deeper env').frames = some (env' :: l) := Around.frames_deeper B.stack
  have B1 : Below (A.deeper env') base (env' :: l) h₁ := by
    have hnew : base.get? s.heap.objs.size = none := fresh_of_stays B.stays (Heap.get?_none_of_le (Nat.le_refl _))
    exact ⟨hfr, stays_trans B.stays k₁, .cons (by rw [e1, hk]; decide) e2 hns hnew (B.frames.of_keeps fun b o e _ => ⟨o, k₁ b o e, rfl⟩)⟩
  have G : EG (A.deeper env') env' (env' :: l) base ρ h₁ := by
    refine ⟨B1, hh, by rw [e1]; exact hk, e4, e5, fun y hy => ?_, fun x d hx => ?_⟩
    · rw [e1] at hy; exact absurd rfl (hnc _ (mem_lookup hy))
    · obtain ⟨q1, q2, q3, c, v, q4, q5, q6⟩ := hρ x d hx
      exact ⟨q1, q2, v, .inr ⟨.inr (by unfold Env.kindOf; rw [e1]; exact q3), c, by rw [e3]; exact q4, q5.keeps k₁⟩, q6.stays k₁⟩
  refine kla_codeExpr ?_
  have Z := (sound (cx (w := w) (prog := prog) (p := p) (loose := loose) (mg := mg) (mb := mb)) n).e (A.deeper env') env' (env' :: l) base ρ { s with heap := h₁, toks := s.toks + ([] : List (Str × Value)).length } body kb G hr.deeper
  rw [e1] at Z
  refine Z _ _ hn (fun d ed v h' tk k r => ?_) (fun ex x h' tk i u => ?_)
  · exact hok d ed v h' tk (stays_trans k₁ k)
  · refine leave_ hfr e2 i fun h'' fl u' => ?_
    exact hex ex x h'' tk fl ((upto_of k₁).trans (u.trans u'))

theorem refused_call {name qual : Str} {params : Arguments} {body : Expr} {sc : Scope} {clos : List (Str × Addr)} {pm ctv : Value} {c' f : Addr} {Q : Value → Shared → Prop}
    (kb : KB (KK w) p loose mg mb base) (B : Below A base l s.heap) (hh : A.handled = none) (hr : Room A (n + 2))
    (hf : s.heap.get? f = some (kla_obj name qual params body sc clos pm c' ctv)) (hc : s.heap.CodeRec (.ref c') qual) (hbind : bindArgs (kla_fn name qual params body sc clos pm (.ref c') ctv) ⟨[], []⟩ = pure [])
    (hco : sc.isCoroutine = false) (hgen : sc.isGenerator = false) (hk : sc.kind = .function) (hnc : ∀ x ∈ sc.names, x.2 ≠ .cell) (hρ : Held sc clos ρ s.heap)
    (hn : (lvl tbl n).e sc ρ body ≠ .no)
    (hok : ∀ d, (lvl tbl n).e sc ρ body = .ok d → ∀ h' tk, s.heap.StaysIn h' → Q (.bool false) { s with heap := h', toks := tk })
    (hex : (lvl tbl n).e sc ρ body = .exc → ∀ h' tk, base.StaysIn h' → s.heap.UpToSlots h' → Q (.bool true) { s with heap := h', toks := tk }) :
    wpAny (model prog w) A (call (.ref 169) [.ref f]) Q E s := by
  have X := kb.X.keeps B.stays
  have T := kb.T.keeps B.stays
  have hr1 := hr.1
  refine wpAny_call (codeAny_call_def (fd := fdOf w "_law_is_refused" 169) (body := (fnAt "_law_is_refused" 169).body) (binds := [("call", .ref f)]) (by omega) (X _ _ (show (KK w).lookup 169 = some ⟨.type "function", none, .func (fdOf w "_law_is_refused" 169), #[]⟩ by kernel_rfl)) rfl T.nolimit (codeRec_of X (by kernel_rfl)) rfl
    (BindsTo.of_eq (by kernel_rfl)) ir_nocell (fun x hx => by rw [List.mem_singleton.mp hx]; exact ir_call) (fun h₁ hn₁ hk₁ => ?_) (by kernel_rfl) (by kernel_rfl) ir_kind)
  rw [ir_env, ir_body]
  have F : Fr s.heap s.heap.objs.size h₁ (fun x => ([("call", .ref f)] : List (Str × Value)).reverse.lookup x) := ⟨hn₁, hk₁, Nat.le_refl _⟩
  have B1 : Below (A.deeper (irEnv s.heap.objs.size)) base (irEnv s.heap.objs.size :: l) h₁ := Below.push B F ir_kind
  generalize hL : s.heap.objs.size = L at *
  refine wpAny_execs_cons ?_
  rw [ir0_is]
  refine wpAny_Try_except ?_
  refine wpAny_execs_cons (wpAny_Expr_any (Call_ (ld F (v := .ref f) (by kernel_rfl) ?_ ir_kind ir_call)))
  refine callWith_F0 ⟨_, _, _, _, hk₁ _ _ hf⟩ ?_
  refine wpAny_call ?_
  have hρ1 : Held sc clos ρ h₁ := fun x d hx => by
    obtain ⟨q1, q2, q3, c, v, q4, q5, q6⟩ := hρ x d hx
    exact ⟨q1, q2, q3, c, v, q4, q5.keeps hk₁, q6.stays hk₁⟩
  refine lam_eval (n := n) (ρ := ρ) (s := { s with heap := h₁, toks := s.toks + ([("call", .ref f)] : List (Str × Value)).length }) kb B1 hh hr.deeper (hk₁ _ _ hf) (hc.keeps hk₁) hbind hco hgen hk hnc hρ1 hn (fun d ed v h' tk k => ?_) (fun ex x h' tk fl u => ?_)
  · show wpAny _ _ (execs [] _) _ _ _
    refine wpAny_execs_nil ?_
    show wpAny _ _ (execs [] _) _ _ _
    refine wpAny_execs_nil ?_
    show wpAny _ _ (execs [ir1] _) _ _ _
    refine wpAny_execs_cons ?_
    rw [ir1_is]
    refine wpAny_Return_some (wpAny_Constant_bool ?_)
    exact hok d ed h' tk (stays_trans hk₁ k)
  · refine ir_caught kb B1.stack fl fun h'' k u' => ?_
    exact hex ex h'' tk k ((upto_of hk₁).trans (u.trans u'))
end
end Mine
end

section
open PySem PySem.W PyProof.Rows PySem.Calls PySem.Spec
namespace Mine
noncomputable abbrev ltS : Scope := (fnAt "_law_take" 148).scope
noncomputable abbrev ltEnv (L : Addr) : Env := envOf "_law_take" ltS L 148 (.ref 147)
theorem lt_body : (fnAt "_law_take" 148).body = [stAt "_law_take" 148 0, stAt "_law_take" 148 1, stAt "_law_take" 148 2] := by kernel_rfl
theorem lt_nocell : ∀ x ∈ ltS.names, x.2 ≠ .cell := by decide +kernel
theorem lt_kind : ltS.kind = .function := by kernel_rfl
theorem lt_src : ltS.names.lookup ("source" : Str) = some NameKind.local := by kernel_rfl
theorem lt_top : ltS.names.lookup ("top" : Str) = some NameKind.local := by kernel_rfl
theorem lt_drawn : ltS.names.lookup ("drawn" : Str) = some NameKind.local := by kernel_rfl
theorem ltk_int : ltS.names.lookup ("int" : Str) = some NameKind.globalImplicit := by kernel_rfl
theorem lt_env (w : World) (L : Addr) : callEnv (fdOf w "_law_take" 148) L 148 = ltEnv L := by kernel_rfl
theorem lt0_is : ∃ p1 p2 p3 p4 p5 p6 k1 k2 q1 q2 q3 q4 q5 q6 q7 q8 q9 j1 j2 j3 r1 r2 r3 r4 r5 r6 r7 r8 r9 t1 t2, stAt "_law_take" 148 0 =
    .If (.Compare (.Subscript (.Name "source" p1) (.Constant (.int 0) k1 p2) p3) [.Gt] [.Constant (.int 0) k2 p4] p5)
      [.Assign [.Name "drawn" q1] (.BinOp (.Call (.Name "int" q2) [.Subscript (.Name "source" q3) (.Constant (.int 0) j1 q4) q5] [] q6) .Mod (.Name "top" q7) q8) q9,
       .Assign [.Subscript (.Name "source" r1) (.Constant (.int 0) j2 r2) r3] (.BinOp (.Subscript (.Name "source" r4) (.Constant (.int 0) j3 r5) r6) .FloorDiv (.Name "top" r7) r8) r9,
       .Return (some (.Name "drawn" t1)) t2] [] p6 := by
  exact ⟨_, _, _, _, _, _, _, _, _, _, _, _, _, _, _, _, _, _, _, _, _, _, _, _, _, _, _, _, _, _, _, rfl⟩
theorem lt1_is : ∃ p1 p2 p3 p4 p5 p6 p7 p8 p9 q1 q2 q3 q4 q5 q6 k1 k2 k3 k4 k5, stAt "_law_take" 148 1 =
    .Assign [.Subscript (.Name "source" p1) (.Constant (.int 1) k1 p2) p3] (.BinOp (.Call (.Name "int" p4) [.BinOp (.BinOp (.Subscript (.Name "source" p5) (.Constant (.int 1) k2 p6) p7) .Mult (.Constant (.int 39373) k3 p8) p9) .Add (.Constant (.int 7) k4 q1) q2] [] q3) .Mod (.Constant (.int 2147483647) k5 q4) q5) q6 := by
  exact ⟨_, _, _, _, _, _, _, _, _, _, _, _, _, _, _, _, _, _, _, _, rfl⟩
theorem lt2_is : ∃ p1 p2 p3 p4 p5 p6 p7 p8 p9 q1 q2 q3 q4 q5 q6 q7 q8 q9 k1 k2 k3 k4, stAt "_law_take" 148 2 =
    .Return (some (.BinOp (.Call (.Name "int" p1) [.BinOp (.BinOp (.Call (.Name "int" p2) [.BinOp (.Subscript (.Name "source" p3) (.Constant (.int 1) k1 p4) p5) .Mult (.Subscript (.Name "source" p6) (.Constant (.int 1) k2 p7) p8) p9] [] q1) .Mod (.Constant (.int 2147483629) k3 q2) q3) .FloorDiv (.Constant (.int 32) k4 q4) q5] [] q6) .Mod (.Name "top" q7) q8)) q9 := by
  exact ⟨_, _, _, _, _, _, _, _, _, _, _, _, _, _, _, _, _, _, _, _, _, _, rfl⟩

/-- the frame of _law_take at work, the list beside it -/
structure TK (h₀ h : Heap) (L S : Addr) (m : Str → Option Value) (its : Array Value) : Prop where
  ns : h.Ns L m
  lst : h.IsList S its
  keep : ∀ b o, b ≠ S → h₀.get? b = some o → h.get? b = some o
  ne : S ≠ L
  hL : h₀.get? L = none

section
variable {prog : Program} {w : World} {p : Program} {loose : List Str} {mg mb : Str → Option Value}
variable {A : Around} {l : List Env} {base h₀ : Heap} {s : Shared} {E : Value → Shared → Prop} {L S : Addr} {m : Str → Option Value} {its : Array Value}

theorem TK.stays {h : Heap} (T : TK h₀ h L S m its) (k0 : base.StaysIn h₀) (hS : base.get? S = none) : base.StaysIn h := fun b o q => T.keep b o (fun z => by rw [z, hS] at q; cases q) (k0 b o q)

theorem TK.set {h h' : Heap} {m' : Str → Option Value} (T : TK h₀ h L S m its) (hn : h'.Ns L m') (hs : Heap.SameBut L h h') : TK h₀ h' L S m' its := by
  obtain ⟨o, ho, r⟩ := T.lst
  exact ⟨hn, ⟨o, (hs.2 S T.ne).trans ho, r⟩, fun b o hb q => (hs.2 b fun z => by rw [z, T.hL] at q; cases q).trans (T.keep b o hb q), T.ne, T.hL⟩
theorem TK.put {h h' : Heap} {its' : Array Value} (T : TK h₀ h L S m its) (hn : h'.IsList S its') (hs : Heap.SameBut S h h') : TK h₀ h' L S m its' :=
  ⟨T.ns.sameBut hs (Ne.symm T.ne), hn, fun b o hb q => (hs.2 b hb).trans (T.keep b o hb q), T.ne, T.hL⟩

theorem src_item {p1 p2 p3 : Pos} {k : Nat} {i : Int} {x : Value} {Q : Value → Shared → Prop} (T : TK h₀ s.heap L S m its) (ms : m "source" = some (.ref S)) (h0 : 0 ≤ i) (hf : i < 2 ^ 63) (hx : its[i.toNat]? = some x)
    (hq : ∀ tk, Q x { s with toks := tk }) : wpAny (model prog w) A (eval (.Subscript (.Name "source" p1) (.Constant (.int i) k p2) p3) (ltEnv L)) Q E s := by
  refine Subscript_ (wpAny_Name (wpAny_loadName_local lt_kind lt_src T.ns ms (wpAny_Constant_int ?_)) (by decide))
  exact PyProof.Rows.tail_any (ops := [.ref S, .int i s.toks]) (s := { s with toks := s.toks + 1 }) T.lst.typeIs slot_list_getitem.lookup (wpAny_getItem_list (s := { s with toks := s.toks + 1 }) T.lst h0 hf hx (hq _)) rfl

theorem top_name {p1 : Pos} {v : Value} {Q : Value → Shared → Prop} (T : TK h₀ s.heap L S m its) (mt : m "top" = some v) (hq : Q v s) : wpAny (model prog w) A (eval (.Name "top" p1) (ltEnv L)) Q E s :=
  wpAny_Name (wpAny_loadName_local lt_kind lt_top T.ns mt hq) (by decide)

theorem int_call {p1 p2 : Pos} {e : Expr} {Q : Value → Shared → Prop} (kb : KB (KK w) p loose mg mb base) (kk : base.StaysIn s.heap) (he : starEach [e] (ltEnv L) = (false, eval e (ltEnv L)) :: starEach [] (ltEnv L))
    (h : wpAny (model prog w) A (eval e (ltEnv L)) (fun v s₁ => ∃ i t, v = .int i t ∧ Q (.int i t) s₁) E s) : wpAny (model prog w) A (eval (.Call (.Name "int" p1) [e] [] p2) (ltEnv L)) Q E s := by
  have X := kb.X.keeps kk
  have TR := kb.T.keeps kk
  refine Call_ (Name_function_global lt_kind ltk_int (loadGlobal_builtin (env := ltEnv L) TR.g (mg_none_of X TR.g (by kernel_rfl)) TR.b ((TR.builtins "int" (by decide +kernel)).trans PyProof.Rows.Boot.«int») ?_))
  refine PyProof.Rows.callWith_type1 ?_ he rfl
  rw [he]
  refine Calls.spliced_cons (wpAny_mono h (fun v s₁ q => ?_) fun _ _ e => e)
  obtain ⟨i, t, rfl, q⟩ := q
  exact PyProof.Rows.args_nil (call_int_int q)

theorem take_last (kb : KB (KK w) p loose mg mb base) (k0 : base.StaysIn h₀) (hS : base.get? S = none) {x y top : Int} {tx ty tt : Tok} (T : TK h₀ s.heap L S m #[.int x tx, .int y ty]) (ms : m "source" = some (.ref S)) (mt : m "top" = some (.int top tt))
    (hx : 0 ≤ x) (hy : 0 ≤ y) (hy2 : y < 2147483647) (h1 : 1 ≤ top) (h2 : top ≤ 100) {Q : Flow → Shared → Prop}
    (hq : ∀ r u h' tk x' y' tx' ty' m', 0 ≤ r → r < top → 0 ≤ x' → 0 ≤ y' → y' < 2147483647 → TK h₀ h' L S m' #[.int x' tx', .int y' ty'] → Q (.ret (.int r u)) { s with heap := h', toks := tk }) :
    wpAny (model prog w) A (execs [stAt "_law_take" 148 2] (ltEnv L)) Q E s := by
  have ht0 : top ≠ 0 := by omega
  obtain ⟨p1, p2, p3, p4, p5, p6, p7, p8, p9, q1, q2, q3, q4, q5, q6, q7, q8, q9, k1, k2, k3, k4, e2⟩ := lt2_is
  rw [e2]
  refine wpAny_execs_cons (wpAny_Return_some (wpAny_BinOp (int_call kb (T.stays k0 hS) rfl (wpAny_BinOp (wpAny_BinOp (int_call kb (T.stays k0 hS) rfl (wpAny_BinOp ?_)))))))
  refine src_item T ms (by decide) (by decide) rfl fun tk3 => ?_
  refine src_item (s := { s with toks := tk3 }) T ms (by decide) (by decide) rfl fun tk4 => ?_
  refine mul_int ⟨_, _, rfl, ?_⟩ (IntMulOk.of_right (intBits_le_64 (by omega) (by omega)))
  refine wpAny_Constant_int (mod_int' (by decide) (wpAny_Constant_int (floordiv_int (by decide) ⟨_, _, rfl, ?_⟩ (.inl (PyProof.noPylong_small (by decide))))))
  refine wpAny_Name (wpAny_loadName_local lt_kind lt_top T.ns mt ?_) (by decide)
  refine mod_int' ht0 ?_
  exact hq _ _ _ _ x y _ _ _ (Int.fmod_nonneg_of_pos _ (by omega)) (Int.fmod_lt_of_pos _ (by omega)) hx hy hy2 T

theorem take_walk (kb : KB (KK w) p loose mg mb base) (k0 : base.StaysIn h₀) (hS : base.get? S = none) {x y top : Int} {tx ty tt : Tok} (T : TK h₀ s.heap L S m #[.int x tx, .int y ty]) (ms : m "source" = some (.ref S)) (mt : m "top" = some (.int top tt))
    (hx : 0 ≤ x) (hy : 0 ≤ y) (hy2 : y < 2147483647) (h1 : 1 ≤ top) (h2 : top ≤ 100) {Q : Flow → Shared → Prop}
    (hq : ∀ r u h' tk x' y' tx' ty' m', 0 ≤ r → r < top → 0 ≤ x' → 0 ≤ y' → y' < 2147483647 → TK h₀ h' L S m' #[.int x' tx', .int y' ty'] → Q (.ret (.int r u)) { s with heap := h', toks := tk }) :
    wpAny (model prog w) A (execs (fnAt "_law_take" 148).body (ltEnv L)) Q E s := by
  have ht0 : top ≠ 0 := by omega
  rw [lt_body]
  refine wpAny_execs_cons ?_
  obtain ⟨p1, p2, p3, p4, p5, p6, k1, k2, q1, q2, q3, q4, q5, q6, q7, q8, q9, j1, j2, j3, r1, r2, r3, r4, r5, r6, r7, r8, r9, t1, t2, e0⟩ := lt0_is
  rw [e0]
  refine wpAny_If (wpAny_isTrue_Compare1 (src_item T ms (by decide) (by decide) rfl fun tk => wpAny_Constant_int (gt_int (wpAny_truthy_bool ?_))))
  by_cases hpos : 0 < x
  · rw [if_pos (by simpa using hpos)]
    refine wpAny_execs_cons (wpAny_Assign_Name ?_)
    refine wpAny_BinOp (int_call (s := { s with toks := tk + 1 }) kb (T.stays k0 hS) rfl (src_item (s := { s with toks := tk + 1 }) T ms (by decide) (by decide) rfl fun tk2 => ⟨_, _, rfl, ?_⟩))
    refine top_name (s := { s with toks := tk2 }) T mt (mod_int' ht0 ?_)
    refine wpAny_storeName_local lt_drawn T.ns (fun h₂ hn₂ hs₂ => ?_) (by show (ltS.kind == .class || (ltS.kind == .module && L != mainGlobals)) = false; rw [lt_kind]; rfl)
    have T₂ := T.set hn₂ hs₂
    have ms₂ : (fun y => if y = ("drawn" : Str) then some (.int (Int.fmod x top) tk2) else m y) "source" = some (Value.ref S) := (if_neg (by decide)).trans ms
    have mt₂ : (fun y => if y = ("drawn" : Str) then some (.int (Int.fmod x top) tk2) else m y) "top" = some (Value.int top tt) := (if_neg (by decide)).trans mt
    refine wpAny_execs_cons (wpAny_Assign_Subscript ?_)
    refine wpAny_BinOp (src_item (s := { s with heap := h₂, toks := tk2 + 1 + 1 }) T₂ ms₂ (by decide) (by decide) rfl fun tk3 => ?_)
    refine top_name (s := { s with heap := h₂, toks := tk3 }) T₂ mt₂ (floordiv_int ht0 ?_ (.inl (PyProof.noPylong_small (by omega))))
    refine wpAny_Name (wpAny_loadName_local lt_kind lt_src T₂.ns ms₂ (wpAny_Constant_int ?_)) (by decide)
    refine wpAny_setItem_list (s := { s with heap := h₂, toks := tk3 + 1 + 1 }) T₂.lst (by decide) (by decide) (by simp) fun h₃ hl₃ hs₃ => ?_
    have T₃ := T₂.put hl₃ hs₃
    refine wpAny_execs_cons (wpAny_Return_some (wpAny_Name (wpAny_loadName_local lt_kind lt_drawn T₃.ns (if_pos rfl) ?_) (by decide)))
    exact hq _ _ _ _ (x.fdiv top) y _ _ _ (Int.fmod_nonneg_of_pos _ (by omega)) (Int.fmod_lt_of_pos _ (by omega)) (Int.fdiv_nonneg hx (by omega)) hy hy2 T₃
  · rw [if_neg (by simpa using hpos)]
    refine wpAny_execs_nil ?_
    show wpAny _ _ (execs [stAt "_law_take" 148 1, stAt "_law_take" 148 2] _) _ _ _
    obtain ⟨p1, p2, p3, p4, p5, p6, p7, p8, p9, q1, q2, q3, q4, q5, q6, k1, k2, k3, k4, k5, e1⟩ := lt1_is
    refine wpAny_execs_cons ?_
    rw [e1]
    refine wpAny_Assign_Subscript ?_
    refine wpAny_BinOp (int_call (s := { s with toks := tk + 1 }) kb (T.stays k0 hS) rfl (wpAny_BinOp (wpAny_BinOp (src_item (s := { s with toks := tk + 1 }) T ms (by decide) (by decide) rfl fun tk2 => wpAny_Constant_int ?_))))
    refine mul_int ?_ (IntMulOk.of_right (intBits_le_64 (by decide) (by decide)))
    refine wpAny_Constant_int (add_int ⟨_, _, rfl, wpAny_Constant_int (mod_int' (by decide) ?_)⟩)
    refine wpAny_Name (wpAny_loadName_local lt_kind lt_src T.ns ms (wpAny_Constant_int ?_)) (by decide)
    refine wpAny_setItem_list (l := S) (items := #[.int x tx, .int y ty]) T.lst (by decide) (by decide) (by simp) fun h₃ hl₃ hs₃ => ?_
    have T₃ := T.put hl₃ hs₃
    have hy' : 0 ≤ Int.fmod (y * 39373 + 7) 2147483647 := Int.fmod_nonneg_of_pos _ (by decide)
    have hy2' : Int.fmod (y * 39373 + 7) 2147483647 < 2147483647 := Int.fmod_lt_of_pos _ (by decide)
    exact take_last (s := { s with heap := h₃, toks := _ }) kb k0 hS T₃ ms mt hx hy' hy2' h1 h2 hq
end
end Mine
end

section
open PySem PySem.W PyProof.Rows PySem.Calls PySem.Spec
namespace Mine
noncomputable abbrev loS : Scope := (fnAt "_law_one" 155).scope
noncomputable abbrev loEnv (L : Addr) : Env := envOf "_law_one" loS L 155 (.ref 154)
theorem lo_is : ∃ p1 p2 p3 p4 p5 p6 p7 p8 p9, (fnAt "_law_one" 155).body = [.Return (some (.Subscript (.Name "things" p1) (.Call (.Name "_law_take" p2) [.Name "source" p3, .Call (.Name "len" p4) [.Name "things" p5] [] p6] [] p7) p8)) p9] := by
  exact ⟨_, _, _, _, _, _, _, _, _, rfl⟩
theorem lo_nocell : ∀ x ∈ loS.names, x.2 ≠ .cell := by decide +kernel
theorem lo_kind : loS.kind = .function := by kernel_rfl
theorem lo_src : loS.names.lookup ("source" : Str) = some NameKind.local := by kernel_rfl
theorem lo_things : loS.names.lookup ("things" : Str) = some NameKind.local := by kernel_rfl
theorem lo_len : loS.names.lookup ("len" : Str) = some NameKind.globalImplicit := by kernel_rfl
theorem lo_take : loS.names.lookup ("_law_take" : Str) = some NameKind.globalImplicit := by kernel_rfl
theorem lo_env (w : World) (L : Addr) : callEnv (fdOf w "_law_one" 155) L 155 = loEnv L := by kernel_rfl

/-- the list of draws: two ints, not below nought -/
noncomputable def Src (h : Heap) (S : Addr) : Prop := ∃ x y tx ty, h.IsList S #[.int x tx, .int y ty] ∧ 0 ≤ x ∧ 0 ≤ y ∧ y < 2147483647
noncomputable def Rest (S : Addr) (h h' : Heap) : Prop := ∀ b o, b ≠ S → h.get? b = some o → h'.get? b = some o

section
variable {prog : Program} {w : World} {p : Program} {loose : List Str} {mg mb : Str → Option Value}
variable {A : Around} {l : List Env} {base h₀ : Heap} {s : Shared} {E : Value → Shared → Prop} {L S : Addr} {m : Str → Option Value} {its : Array Value}

theorem take_call (kb : KB (KK w) p loose mg mb base) (B : Below A base l s.heap) (hr : A.depth < recursionLimit) (hS : base.get? S = none) (src : Src s.heap S) {top : Int} {tt : Tok} (h1 : 1 ≤ top) (h2 : top ≤ 100) {Q : Value → Shared → Prop}
    (hq : ∀ r u h' tk, 0 ≤ r → r < top → Rest S s.heap h' → Src h' S → Q (.int r u) { s with heap := h', toks := tk }) :
    wpAny (model prog w) A (call (.ref 148) [.ref S, .int top tt]) Q E s := by
  have X := kb.X.keeps B.stays
  have T := kb.T.keeps B.stays
  obtain ⟨x, y, tx, ty, lst, hx, hy, hy2⟩ := src
  refine wpAny_call (codeAny_call_def (fd := fdOf w "_law_take" 148) (body := (fnAt "_law_take" 148).body) (binds := [("source", .ref S), ("top", .int top tt)]) hr (X _ _ (show (KK w).lookup 148 = some ⟨.type "function", none, .func (fdOf w "_law_take" 148), #[]⟩ by kernel_rfl)) rfl T.nolimit (codeRec_of X (by kernel_rfl)) rfl
    (BindsTo.of_eq (by kernel_rfl)) lt_nocell (fun x hx => ?_) (fun h₁ hn₁ hk₁ => ?_) (by kernel_rfl) (by kernel_rfl) lt_kind)
  · simp only [List.mem_cons, List.not_mem_nil, or_false] at hx
    rcases hx with rfl | rfl
    · exact lt_src
    · exact lt_top
  rw [lt_env]
  have hne : S ≠ s.heap.objs.size := by
    obtain ⟨o, ho, _⟩ := lst
    exact Nat.ne_of_lt (Heap.lt_size ho)
  have TK0 : TK s.heap h₁ s.heap.objs.size S (fun x => ([("source", .ref S), ("top", .int top tt)] : List (Str × Value)).reverse.lookup x) #[.int x tx, .int y ty] :=
    ⟨hn₁, let ⟨o, ho, r⟩ := lst; ⟨o, hk₁ _ _ ho, r⟩, fun b o _ q => hk₁ b o q, hne, Heap.get?_none_of_le (Nat.le_refl _)⟩
  have Z := @take_walk prog w p loose mg mb (A.deeper (ltEnv s.heap.objs.size)) base s.heap { s with heap := h₁, toks := s.toks + ([("source", .ref S), ("top", .int top tt)] : List (Str × Value)).length }
    (fun e s' => wpAny (model prog w) (A.deeper (ltEnv s.heap.objs.size)) (leaving (ltEnv s.heap.objs.size) e) (fun _ s'' => E e s'') (fun e' s'' => E e' s'') s') s.heap.objs.size S _ kb B.stays hS x y top tx ty tt TK0 (by kernel_rfl) (by kernel_rfl) hx hy hy2 h1 h2
    (fun fl s' => Q (match fl with | .ret v => v | _ => .none) s') (fun r u h' tk x' y' tx' ty' m' r0 r1 x0 y0 y1 T' => hq r u h' tk r0 r1 (fun b o hb q => T'.keep b o hb q) ⟨x', y', tx', ty', T'.lst, x0, y0, y1⟩)
  generalize (fnAt "_law_take" 148).body = bd at Z ⊢
  generalize ltEnv s.heap.objs.size = env at Z ⊢
  refine wpAny_mono Z (fun f s' hf => ?_) (fun e s' he => ?_)
  · cases f <;> exact hf
  · exact he

theorem one_call (kb : KB (KK w) p loose mg mb base) (B : Below A base l s.heap) (hr : A.depth + 1 < recursionLimit) (hS : base.get? S = none) (src : Src s.heap S) {T' : Addr} (lt : s.heap.IsList T' its) (hTS : T' ≠ S) (h1 : 1 ≤ its.size) (h2 : its.size ≤ 100) {Q : Value → Shared → Prop}
    (hq : ∀ (i : Nat) (v : Value) (h' : Heap) (tk : Nat), its[i]? = some v → Rest S s.heap h' → Src h' S → Q v { s with heap := h', toks := tk }) :
    wpAny (model prog w) A (call (.ref 155) [.ref S, .ref T']) Q E s := by
  have X := kb.X.keeps B.stays
  have T := kb.T.keeps B.stays
  refine wpAny_call (codeAny_call_def (fd := fdOf w "_law_one" 155) (body := (fnAt "_law_one" 155).body) (binds := [("source", .ref S), ("things", .ref T')]) (by omega) (X _ _ (show (KK w).lookup 155 = some ⟨.type "function", none, .func (fdOf w "_law_one" 155), #[]⟩ by kernel_rfl)) rfl T.nolimit (codeRec_of X (by kernel_rfl)) rfl
    (BindsTo.of_eq (by kernel_rfl)) lo_nocell (fun x hx => ?_) (fun h₁ hn₁ hk₁ => ?_) (by kernel_rfl) (by kernel_rfl) lo_kind)
  · simp only [List.mem_cons, List.not_mem_nil, or_false] at hx
    rcases hx with rfl | rfl
    · exact lo_src
    · exact lo_things
  rw [lo_env]
  obtain ⟨p1, p2, p3, p4, p5, p6, p7, p8, p9, hb⟩ := lo_is
  rw [hb]
  have F : Fr s.heap s.heap.objs.size h₁ (fun x => ([("source", .ref S), ("things", .ref T')] : List (Str × Value)).reverse.lookup x) := ⟨hn₁, hk₁, Nat.le_refl _⟩
  have B1 : Below (A.deeper (loEnv s.heap.objs.size)) base (loEnv s.heap.objs.size :: l) h₁ := Below.push B F lo_kind
  generalize s.heap.objs.size = L at *
  have X1 := X.keeps hk₁
  have T1 := T.keeps hk₁
  have lt1 : h₁.IsList T' its := let ⟨o, ho, r⟩ := lt; ⟨o, hk₁ _ _ ho, r⟩
  have src1 : Src h₁ S := by
    obtain ⟨x, y, tx, ty, ⟨o, ho, r⟩, q⟩ := src
    exact ⟨x, y, tx, ty, ⟨o, hk₁ _ _ ho, r⟩, q⟩
  refine wpAny_execs_cons (wpAny_Return_some (Subscript_ (ld F (v := .ref T') (by kernel_rfl) ?_ lo_kind lo_things)))
  refine Call_ (Name_function_global lo_kind lo_take (loadGlobal_global (env := loEnv L) (v := .ref 148) T1.g (mg_of X1 T1.g (by kernel_rfl)) ?_))
  refine callWith_K X1 (by kernel_rfl) ?_
  refine PyProof.Rows.args_cons (ld F (v := .ref S) (by kernel_rfl) ?_ lo_kind lo_src)
  refine PyProof.Rows.args_cons (Call_ (Name_function_global lo_kind lo_len (loadGlobal_builtin (env := loEnv L) T1.g (mg_none_of X1 T1.g (by kernel_rfl)) T1.b ((T1.builtins "len" (by decide +kernel)).trans PyProof.Rows.Boot.«len») ?_)))
  refine PyProof.Rows.callWith_builtin1 (PyProof.Rows.args_cons (ld F (v := .ref T') (by kernel_rfl) (PyProof.Rows.args_nil (Calls.call_len_list lt1 (by omega) ?_)) lo_kind lo_things))
  refine PyProof.Rows.args_nil ⟨X1, ?_⟩
  refine take_call (s := { s with heap := h₁, toks := _ }) (top := its.size) kb B1 (by show A.depth + 1 < _; exact hr) hS src1 (by omega) (by omega) fun r u h' tk r0 r1 rest src' => ?_
  have lt' : h'.IsList T' its := let ⟨o, ho, q⟩ := lt1; ⟨o, rest _ _ hTS ho, q⟩
  have hi : ∃ v, its[r.toNat]? = some v := by
    have : r.toNat < its.size := by omega
    exact ⟨_, Array.getElem?_eq_getElem this⟩
  obtain ⟨v, hv⟩ := hi
  refine PyProof.Rows.tail_any (ops := [.ref T', .int r u]) (s := { s with heap := h', toks := tk }) lt'.typeIs slot_list_getitem.lookup (wpAny_getItem_list (s := { s with heap := h', toks := tk }) lt' r0 (by omega) hv ?_) rfl
  exact hq _ v h' tk hv (fun b o hb q => rest b o hb (hk₁ b o q)) src'
end
end Mine
end

section
open PySem PySem.W PyProof.Rows PySem.Calls PySem.Spec
namespace Mine
noncomputable def Tab (q : Str) (h : Heap) : Prop := ∃ ps, h.get? 171 = some (tabObj ps) ∧ TriplesOk ps.toList ∧ ∀ pos c, codeAmong pos ps.toList = some c → ∃ c', c = .ref c' ∧ h.CodeRec (.ref c') q
noncomputable def Mv (S : Addr) (h h' : Heap) : Prop := ∀ b o, b ≠ S → b ≠ 171 → h.get? b = some o → ∃ sl, h'.get? b = some { o with slots := sl }
theorem Mv.of_stays {S : Addr} {h h' : Heap} (k : h.StaysIn h') : Mv S h h' := fun b o _ _ e => ⟨o.slots, k b o e⟩
theorem Mv.of_rest {S : Addr} {h h' : Heap} (k : Rest S h h') : Mv S h h' := fun b o hb _ e => ⟨o.slots, k b o hb e⟩
theorem Mv.trans {S : Addr} {a b c : Heap} (x : Mv S a b) (y : Mv S b c) : Mv S a c := fun p o h1 h2 e =>
  let ⟨_, e1⟩ := x p o h1 h2 e; let ⟨sl, e2⟩ := y p _ h1 h2 e1; ⟨sl, e2⟩
theorem Mv.ns {S : Addr} {h h' : Heap} {a : Addr} {m : Str → Option Value} (x : Mv S h h') (h1 : a ≠ S) (h2 : a ≠ 171) (n : h.Ns a m) : h'.Ns a m := by
  obtain ⟨o, es, ep, e, r⟩ := n
  obtain ⟨sl, e'⟩ := x a o h1 h2 e
  exact ⟨_, es, ep, e', r⟩
theorem Mv.cell {S : Addr} {h h' : Heap} {a : Addr} {v : Option Value} (x : Mv S h h') (h1 : a ≠ S) (h2 : a ≠ 171) (n : h.IsCell a v) : h'.IsCell a v := by
  obtain ⟨o, e, r⟩ := n
  obtain ⟨sl, e'⟩ := x a o h1 h2 e
  exact ⟨_, e', r⟩
theorem cell_ne_src {h : Heap} {S c : Addr} {v : Option Value} (n : h.IsCell c v) (s : Src h S) : c ≠ S := fun z => by
  obtain ⟨o, e, d⟩ := n
  obtain ⟨x, y, tx, ty, ⟨o', e', _, n', d'⟩, _⟩ := s
  rw [z, e'] at e; cases e; rw [d'] at d; cases d
theorem cell_ne_tab {h : Heap} {c : Addr} {v : Option Value} {q : Str} (n : h.IsCell c v) (s : Tab q h) : c ≠ 171 := fun z => by
  obtain ⟨o, e, d⟩ := n
  obtain ⟨ps, e', _⟩ := s
  rw [z, e'] at e; cases e; cases d
theorem frames_move {S : Addr} {h h' base : Heap} (mv : Mv S h h') : ∀ {l : List Env}, h.FunFrames base l → (∀ b ∈ l.filterMap (·.frame), b ≠ S ∧ b ≠ 171) → h'.FunFrames base l
  | [], _, _ => trivial
  | env :: r, ⟨hk, ⟨L, o, hf, hn, ho, hd⟩, hr⟩, hb => by
    have hL := hb L (by rw [List.filterMap_cons, hf]; exact .head _)
    obtain ⟨sl, e⟩ := mv L o hL.1 hL.2 ho
    exact ⟨hk, ⟨L, _, hf, hn, e, hd⟩, frames_move mv hr fun b q => hb b (by rw [List.filterMap_cons, hf]; exact .tail _ q)⟩

noncomputable def flatD : PyData → Bool
  | .none | .bool _ | .int _ | .str _ => true
  | _ => false
theorem flat_any {h : Heap} {v : Value} {d : PyData} (f : flatD d = true) (r : Rd h v d) (h' : Heap) : Rd h' v d := by
  cases r with
  | none => exact .none
  | bool b => exact .bool b
  | int i t => exact .int i t
  | str x t => exact .str x t
  | list _ _ _ _ => exact absurd f (by simp [flatD])
  | tuple _ _ _ _ => exact absurd f (by simp [flatD])

structure WS (A : Around) (env : Env) (l : List Env) (base : Heap) (S : Addr) (hc : Heap) (ρ : Loc) (h : Heap) : Prop where
  eg : EG A env (env :: l) base ρ h
  src : Src h S
  tab : Tab (env.qual ++ "<lambda>") h
  hS : base.get? S = none
  hT : base.get? 171 = none
  sNot : S ∉ (env :: l).filterMap (·.frame)
  fr : env.frame = some env.locals
  loc : ∃ m, h.Ns env.locals m ∧ m "source" = some (.ref S)
  cel : ∀ y c, env.cells.lookup y = some c → (base.get? c = none ∧ hc.get? c = none) ∧ ∃ v, h.IsCell c v
  inj : ∀ y z c, env.cells.lookup y = some c → env.cells.lookup z = some c → y = z
  flat : ∀ x d, ρ.lookup x = some d → flatD d = true
  mvc : Mv S hc h
  hcL : hc.get? env.locals = none

section
variable {A : Around} {env : Env} {l : List Env} {base hc h h' : Heap} {S : Addr} {ρ : Loc}

theorem WS.notFr (W : WS A env l base S hc ρ h) : ∀ b ∈ (env :: l).filterMap (·.frame), b ≠ S ∧ b ≠ 171 := fun b hb => by
  refine ⟨fun z => W.sNot (z ▸ hb), fun z => ?_⟩
  obtain ⟨_, o, ho, hnf⟩ := W.eg.B.frames.mem hb
  obtain ⟨ps, e, _⟩ := W.tab
  rw [z, e] at ho; cases ho; exact hnf _ rfl
theorem WS.locNe (W : WS A env l base S hc ρ h) : env.locals ≠ S ∧ env.locals ≠ 171 ∧ base.get? env.locals = none := by
  have hm : env.locals ∈ (env :: l).filterMap (·.frame) := by rw [List.filterMap_cons, W.fr]; exact .head _
  exact ⟨(W.notFr _ hm).1, (W.notFr _ hm).2, (W.eg.B.frames.mem hm).1⟩

theorem WS.move (W : WS A env l base S hc ρ h) (k : base.StaysIn h') (mv : Mv S h h') (src' : Src h' S) (tab' : Tab (env.qual ++ "<lambda>") h') : WS A env l base S hc ρ h' := by
  have G := W.eg
  obtain ⟨l1, l2, l3⟩ := W.locNe
  refine ⟨⟨⟨G.B.stack, k, frames_move mv G.B.frames W.notFr⟩, G.hand, G.ek, G.eg, G.eb, G.cl, fun x d e => ?_⟩, src', tab', W.hS, W.hT, W.sNot, W.fr, ?_, fun y c hc => ?_, W.inj, W.flat, W.mvc.trans mv, W.hcL⟩
  · obtain ⟨a, b, v, lk, r⟩ := G.vars x d e
    refine ⟨a, b, v, ?_, flat_any (W.flat x d e) r h'⟩
    rcases lk with ⟨q, m, n, e⟩ | ⟨q, c, hc, n⟩
    · exact .inl ⟨q, m, mv.ns l1 l2 n, e⟩
    · exact .inr ⟨q, c, hc, mv.cell (cell_ne_src n W.src) (cell_ne_tab n W.tab) n⟩
  · obtain ⟨m, n, n2⟩ := W.loc
    exact ⟨m, mv.ns l1 l2 n, n2⟩
  · obtain ⟨q, v, n⟩ := W.cel y c hc
    exact ⟨q, v, mv.cell (cell_ne_src n W.src) (cell_ne_tab n W.tab) n⟩

theorem src_mv (mv : ∀ o, h.get? S = some o → ∃ sl, h'.get? S = some { o with slots := sl }) (s : Src h S) : Src h' S := by
  obtain ⟨x, y, tx, ty, ⟨o, e, r⟩, q⟩ := s
  obtain ⟨sl, e'⟩ := mv o e
  exact ⟨x, y, tx, ty, ⟨_, e', r⟩, q⟩
theorem tab_mv {q : Str} (h1 : ∀ o, h.get? 171 = some o → h'.get? 171 = some o) (mv : ∀ b o, b ≠ 171 → (∃ vs, o.data = .fields vs) → h.get? b = some o → ∃ sl, h'.get? b = some { o with slots := sl }) (s : Tab q h) : Tab q h' := by
  obtain ⟨ps, e, ht, hc⟩ := s
  refine ⟨ps, h1 _ e, ht, fun pos c hp => ?_⟩
  obtain ⟨c', rfl, c2, oc, vs, t, e2, hoc, hd, hv⟩ := hc pos c hp
  by_cases hz : c2 = 171
  · subst hz
    exact ⟨c', rfl, 171, oc, vs, t, e2, h1 _ hoc, hd, hv⟩
  · obtain ⟨sl, e3⟩ := mv c2 oc hz ⟨vs, hd⟩ hoc
    exact ⟨c', rfl, c2, _, vs, t, e2, e3, hd, hv⟩

theorem WS.stays (W : WS A env l base S hc ρ h) (k : h.StaysIn h') : WS A env l base S hc ρ h' :=
  W.move (stays_trans W.eg.B.stays k) (.of_stays k) (src_mv (fun o e => ⟨o.slots, k _ _ e⟩) W.src) (tab_mv (fun o e => k _ _ e) (fun b o _ _ e => ⟨o.slots, k _ _ e⟩) W.tab)
theorem WS.rest (W : WS A env l base S hc ρ h) (k : Rest S h h') (s : Src h' S) : WS A env l base S hc ρ h' := by
  have hne : (171 : Addr) ≠ S := fun z => by
    obtain ⟨ps, e, _⟩ := W.tab
    obtain ⟨x, y, tx, ty, ⟨o', e', hc, _⟩, _⟩ := W.src
    rw [← z, e] at e'; cases e'; cases hc
  refine W.move (fun b o q => k b o (fun z => by rw [z, W.hS] at q; cases q) (W.eg.B.stays b o q)) (.of_rest k) s (tab_mv (fun o e => k _ _ hne e) (fun b o _ hf e => ⟨o.slots, k b o (fun z => ?_) e⟩) W.tab)
  obtain ⟨vs, hd⟩ := hf
  obtain ⟨x, y, tx, ty, ⟨o', e', _, n, hd'⟩, _⟩ := W.src
  rw [z, e'] at e; cases e; rw [hd'] at hd; cases hd

theorem ns_unique {a : Addr} {m m' : Str → Option Value} (x : h.Ns a m) (y : h.Ns a m') : m = m' := by
  obtain ⟨o, es, ep, e, d, _, f⟩ := x
  obtain ⟨o', es', ep', e', d', _, f'⟩ := y
  rw [e] at e'; cases e'
  rw [d] at d'; cases d'
  funext z
  rw [← f z, ← f' z]

theorem frames_put {h h' base : Heap} {L : Addr} (k : ∀ b o, b ≠ L → h.get? b = some o → h'.get? b = some o) (hL : ∃ o, h'.get? L = some o ∧ ∀ vs, o.data ≠ .fields vs) : ∀ {l : List Env}, h.FunFrames base l → h'.FunFrames base l
  | [], _ => trivial
  | env :: r, ⟨hk, ⟨L', o, hf, hn, ho, hd⟩, hr⟩ => by
    refine ⟨hk, ?_, frames_put k hL hr⟩
    by_cases hz : L' = L
    · subst hz
      obtain ⟨o2, e2, d2⟩ := hL
      exact ⟨L', o2, hf, hn, e2, d2⟩
    · exact ⟨L', o, hf, hn, k _ _ hz ho, hd⟩

/-- one object that is neither the list nor the table is written: no record -/
theorem WS.put (W : WS A env l base S hc ρ h) {P : Addr} (hs : Heap.SameBut P h h') (hP : base.get? P = none) (hPc : hc.get? P = none) (h1 : P ≠ S) (h2 : P ≠ 171) (hn : ∀ o, h.get? P = some o → ∀ vs, o.data ≠ .fields vs) (hn' : ∃ o, h'.get? P = some o ∧ ∀ vs, o.data ≠ .fields vs)
    {ρ' : Loc} (hv : ∀ x d, ρ'.lookup x = some d → (x == ("__debug__" : Str)) = false ∧ (x == ("__classdict__" : Str)) = false ∧ ∃ v, Look env h' x v ∧ Rd h' v d) (hl : ∃ m, h'.Ns env.locals m ∧ m "source" = some (.ref S)) (hcl : ∀ y c, env.cells.lookup y = some c → ∃ v, h'.IsCell c v) (hf : ∀ x d, ρ'.lookup x = some d → flatD d = true) : WS A env l base S hc ρ' h' := by
  have mv : ∀ b o, b ≠ P → h.get? b = some o → h'.get? b = some o := fun b o hb e => (hs.2 b hb).trans e
  have k : base.StaysIn h' := fun b o q => mv b o (fun z => by rw [z, hP] at q; cases q) (W.eg.B.stays b o q)
  refine ⟨⟨⟨W.eg.B.stack, k, frames_put mv hn' W.eg.B.frames⟩, W.eg.hand, W.eg.ek, W.eg.eg, W.eg.eb, W.eg.cl, hv⟩, src_mv (fun o e => ⟨o.slots, mv _ _ (Ne.symm h1) e⟩) W.src,
    tab_mv (fun o e => mv _ _ (Ne.symm h2) e) (fun b o _ ⟨vs, hd⟩ e => ⟨o.slots, mv b o (fun z => by subst z; exact hn o e vs hd) e⟩) W.tab, W.hS, W.hT, W.sNot, W.fr, hl, fun y c q => ⟨(W.cel y c q).1, hcl y c q⟩, W.inj, hf, fun b o a1 a2 e => ?_, W.hcL⟩
  obtain ⟨sl, e1⟩ := W.mvc b o a1 a2 e
  exact ⟨sl, mv b _ (fun z => by rw [z, hPc] at e; cases e) e1⟩

theorem ns_nf {a : Addr} {m : Str → Option Value} (x : h.Ns a m) : ∀ o, h.get? a = some o → ∀ vs, o.data ≠ .fields vs := fun o e vs q => by
  obtain ⟨o', es, ep, e', d, _⟩ := x
  rw [e] at e'; cases e'; rw [q] at d; cases d
theorem ns_some {a : Addr} {m : Str → Option Value} (x : h.Ns a m) : ∃ o, h.get? a = some o ∧ ∀ vs, o.data ≠ .fields vs := by
  obtain ⟨o, es, ep, e, d, r⟩ := x
  exact ⟨o, e, ns_nf ⟨o, es, ep, e, d, r⟩ o e⟩
theorem cell_nf {a : Addr} {v : Option Value} (x : h.IsCell a v) : ∀ o, h.get? a = some o → ∀ vs, o.data ≠ .fields vs := fun o e vs q => by
  obtain ⟨o', e', d⟩ := x
  rw [e] at e'; cases e'; rw [q] at d; cases d
theorem cell_some {a : Addr} {v : Option Value} (x : h.IsCell a v) : ∃ o, h.get? a = some o ∧ ∀ vs, o.data ≠ .fields vs := by
  obtain ⟨o, e, d⟩ := x
  exact ⟨o, e, cell_nf ⟨o, e, d⟩ o e⟩
theorem cell_ne_ns {a c : Addr} {v : Option Value} {m : Str → Option Value} (x : h.IsCell c v) (y : h.Ns a m) : c ≠ a := fun z => by
  obtain ⟨o', e', d⟩ := x
  obtain ⟨o, es, ep, e, d', _⟩ := y
  rw [z, e] at e'; cases e'; rw [d'] at d; cases d

theorem ns_ns {a : Addr} {m : Str → Option Value} (x : h.Ns a m) : ∀ o, h.get? a = some o → ∀ vs n, o.data ≠ .seq vs n := fun o e vs n q => by
  obtain ⟨o', es, ep, e', d, _⟩ := x
  rw [e] at e'; cases e'; rw [q] at d; cases d
theorem cell_ns {a : Addr} {v : Option Value} (x : h.IsCell a v) : ∀ o, h.get? a = some o → ∀ vs n, o.data ≠ .seq vs n := fun o e vs n q => by
  obtain ⟨o', e', d⟩ := x
  rw [e] at e'; cases e'; rw [q] at d; cases d
/-- lists, tuples and records stay -/
noncomputable def Kp (h h' : Heap) : Prop := ∀ b o, ((∃ vs, o.data = .fields vs) ∨ ∃ vs n, o.data = .seq vs n) → h.get? b = some o → h'.get? b = some o
theorem kp_of {P : Addr} (hs : Heap.SameBut P h h') (hn : ∀ o, h.get? P = some o → (∀ vs, o.data ≠ .fields vs) ∧ ∀ vs n, o.data ≠ .seq vs n) : Kp h h' := fun b o hk e => (hs.2 b fun z => by
  subst z
  rcases hk with ⟨vs, q⟩ | ⟨vs, n, q⟩
  · exact (hn o e).1 vs q
  · exact (hn o e).2 vs n q).trans e

theorem ws_store {M : Model} {s : Shared} {x : Str} {v : Value} {d : PyData} {Q : Unit → Shared → Prop} {E : Value → Shared → Prop} (W : WS A env l base S hc ρ s.heap) (hok : stepSS.okName env.scope x = true) (hxs : x ≠ "source") (hf : flatD d = true) (r : Rd s.heap v d)
    (h : ∀ h' tk, WS A env l base S hc ((x, d) :: ρ) h' → Kp s.heap h' → Q () { s with heap := h', toks := tk }) : wpAny M A (storeName env x v) Q E s := by
  obtain ⟨h1, h2, h3⟩ := okName_inv hok
  obtain ⟨l1, l2, l3⟩ := W.locNe
  obtain ⟨m, hm, hms⟩ := W.loc
  have hfl : ∀ y e, List.lookup y ((x, d) :: ρ) = some e → flatD e = true := fun y e hy => by
    by_cases hyx : y = x
    · subst hyx
      rw [List.lookup_cons_self] at hy
      cases hy; exact hf
    · rw [List.lookup_cons, beq_false_of_ne hyx] at hy
      exact W.flat y e hy
  rcases h1 with hl | hl
  · refine wpAny_storeName_local hl hm (fun h' hn' hs' => ?_) (by rw [W.eg.ek]; rfl)
    refine h h' _ (W.put hs' l3 W.hcL l1 l2 (ns_nf hm) (ns_some hn') (fun y e hy => ?_) ⟨_, hn', by simp only [if_neg (Ne.symm hxs)]; exact hms⟩ (fun y c hcc => ?_) hfl) (kp_of hs' (fun o e => ⟨ns_nf hm o e, ns_ns hm o e⟩))
    · by_cases hyx : y = x
      · subst hyx
        rw [List.lookup_cons_self] at hy
        cases hy
        exact ⟨h2, h3, v, .inl ⟨hl, _, hn', by simp⟩, flat_any hf r _⟩
      · rw [List.lookup_cons, beq_false_of_ne hyx] at hy
        obtain ⟨q1, q2, u, hu, ru⟩ := W.eg.vars y e hy
        refine ⟨q1, q2, u, ?_, flat_any (W.flat y e hy) ru _⟩
        rcases hu with ⟨a, m2, n2, e2⟩ | ⟨a, c, hcc, n⟩
        · have : m2 = m := ns_unique n2 hm
          subst this
          exact .inl ⟨a, _, hn', by simp only [if_neg hyx]; exact e2⟩
        · exact .inr ⟨a, c, hcc, n.sameBut hs' (cell_ne_ns n hm)⟩
    · obtain ⟨_, v', n⟩ := W.cel y c hcc
      exact ⟨v', n.sameBut hs' (cell_ne_ns n hm)⟩
  · obtain ⟨c, hcc⟩ := W.eg.cl x hl
    obtain ⟨⟨cb, cc⟩, v₀, n⟩ := W.cel x c hcc
    refine wpAny_storeName_cell W.eg.ek hl hcc n fun h' hc' hs' => ?_
    have hcl := cell_ne_ns n hm
    refine h h' s.toks (W.put hs' cb cc (cell_ne_src n W.src) (cell_ne_tab n W.tab) (cell_nf n) (cell_some hc') (fun y e hy => ?_) ⟨m, hm.sameBut hs' (Ne.symm hcl), hms⟩ (fun y c2 hc2 => ?_) hfl) (kp_of hs' (fun o e => ⟨cell_nf n o e, cell_ns n o e⟩))
    · by_cases hyx : y = x
      · subst hyx
        rw [List.lookup_cons_self] at hy
        cases hy
        exact ⟨h2, h3, v, .inr ⟨.inl hl, c, hcc, hc'⟩, flat_any hf r _⟩
      · rw [List.lookup_cons, beq_false_of_ne hyx] at hy
        obtain ⟨q1, q2, u, hu, ru⟩ := W.eg.vars y e hy
        refine ⟨q1, q2, u, ?_, flat_any (W.flat y e hy) ru _⟩
        rcases hu with ⟨a, m2, n2, e2⟩ | ⟨a, c2, hc2, n2⟩
        · exact .inl ⟨a, m2, n2.sameBut hs' (Ne.symm (cell_ne_ns n n2)), e2⟩
        · refine .inr ⟨a, c2, hc2, n2.sameBut hs' fun z => hyx (W.inj y x c2 hc2 (by rw [z]; exact hcc))⟩
    · by_cases hz : c2 = c
      · subst hz; exact ⟨_, hc'⟩
      · obtain ⟨_, v', n2⟩ := W.cel y c2 hc2
        exact ⟨v', n2.sameBut hs' hz⟩
end
end Mine
end

section
open PySem PySem.W PyProof.Rows PySem.Calls PySem.Spec
namespace Mine
theorem triples_snoc {a b : Nat} {c : Value} (l : List Value) (h : TriplesOk l) : TriplesOk (l ++ [rawInt a, rawInt b, c]) := by
  fun_induction TriplesOk l with
  | case1 => exact trivial
  | case2 _ _ _ _ _ rest ih => exact ih h
  | case3 => exact h.elim
theorem among_snoc {pos pos' : Pos} {c x : Value} (l : List Value) (h : TriplesOk l) (e : codeAmong pos' (l ++ [rawInt pos.line, rawInt pos.col, c]) = some x) : codeAmong pos' l = some x ∨ x = c := by
  fun_induction TriplesOk l with
  | case1 =>
    right
    simp only [List.nil_append, rawInt, codeAmong] at e
    split at e
    · exact (Option.some.inj e).symm
    · cases e
  | case2 i1 t1 i2 t2 v rest ih =>
    simp only [List.cons_append, codeAmong] at e ⊢
    split at e
    · rename_i hc; left; rw [if_pos hc]; exact e
    · rename_i hc; rw [if_neg hc]; exact ih h e
  | case3 => exact h.elim
theorem triples_no_str {vs : Array Value} {q : Str} {t : Tok} (h : TriplesOk vs.toList) (e : vs[1]? = some (.str q t)) : False := by
  rw [← Array.getElem?_toList] at e
  revert h e
  generalize vs.toList = l
  intro h e
  match l, h, e with
  | [], _, e => cases e
  | .int _ _ :: .int _ _ :: _ :: _, _, e => cases e

section
variable {prog : Program} {w : World} {p : Program} {loose : List Str} {mean : ExcName → Option Value} {mg mb : Str → Option Value}
variable {A : Around} {env : Env} {l : List Env} {base hc : Heap} {S : Addr} {ρ ρ' : Loc} {s : Shared} {E : Value → Shared → Prop} {n : Nat}

theorem ws_lambda {params : Arguments} {body : Expr} {sc : Scope} {lpos : Pos} {Q : Value → Shared → Prop} (W : WS A env l base S hc ρ s.heap) (T : Top p loose mean mg mb base) (hcode : env.code = .ref 175) (C : CodeHd base 175 171)
    (hdef : defaultsOf params env = ([], [])) (hfree : ∀ y ∈ sc.names, y.2 = .free → env.scope.names.lookup y.1 = some .cell)
    (hq : ∀ f clos pm ctv c' h' tk, WS A env l base S hc ρ h' → Mv S s.heap h' → h'.get? f = some (kla_obj "<lambda>" (env.qual ++ "<lambda>") params body sc clos pm c' ctv) → h'.CodeRec (.ref c') (env.qual ++ "<lambda>") →
      (∀ y c, env.cells.lookup y = some c → sc.names.lookup y = some .free → clos.lookup y = some c) → Q (.ref f) { s with heap := h', toks := tk }) :
    wpAny (model prog w) A (eval (.Lambda params body sc lpos) env) Q E s := by
  obtain ⟨clos, hcl, hcll⟩ := closure_is (env := env) (sc := sc) fun y hy hf => W.eg.cl y.1 (hfree y hy hf)
  have W0 := W
  obtain ⟨ps, hP, ht, htab⟩ := W.tab
  have hst := W.eg.B.stays
  have hgs := T.g.keeps hst
  obtain ⟨bm, ob, b1, b2, b3, b4, b5, b6⟩ := T.bmain
  have hgP : mainGlobals ≠ 171 := fun q => by
    obtain ⟨o, es, ep, e, hd, _⟩ := T.g
    rw [q, W.hT] at e; cases e
  have hbP : bm ≠ 171 := fun q => by rw [q, W.hT] at b3; cases b3
  have hbG : bm ≠ mainGlobals := fun q => by
    obtain ⟨o, es, ep, e, hd, _⟩ := T.g
    rw [q, e] at b3; cases b3; rw [hd] at b6; cases b6
  have hne : S ≠ 171 := fun z => by
    obtain ⟨x, y, tx, ty, ⟨o', e', hcc, _⟩, _⟩ := W.src
    rw [z, hP] at e'; cases e'; cases hcc
  refine kla_eval hdef ?_
  cases ham : codeAmong lpos ps.toList with
  | none =>
    refine kla_makeFunction (mg := mg) hcl W.eg.eg hgs hcode (C.keeps hst) hP ht ham hgP ⟨bm, ob, b1, b2, hbG, hbP, hst _ _ b3, b4, b5, b6⟩ fun c' ctv h' tk hx hge hlt hrec htb => ?_
    have T' : Tab (env.qual ++ "<lambda>") h' := by
      refine ⟨_, htb, by rw [Array.toList_append]; exact triples_snoc _ ht, fun pos c hp => ?_⟩
      rw [Array.toList_append] at hp
      rcases among_snoc _ ht hp with hp | rfl
      · obtain ⟨c', rfl, c2, oc, vs, t, e2, hoc, hd, hv⟩ := htab pos c hp
        refine ⟨c', rfl, c2, oc, vs, t, e2, hx c2 oc (fun z => ?_) hoc, hd, hv⟩
        rw [z, hP] at hoc; cases hoc; cases hd
        exact triples_no_str ht hv
      · exact ⟨c', rfl, hrec⟩
    have W1 : WS A env l base S hc ρ h' := W0.move (fun b o q => hx b o (fun z => by rw [z, W.hT] at q; cases q) (hst b o q)) (fun b o _ h2 e => ⟨o.slots, hx b o h2 e⟩) (src_mv (fun o e => ⟨o.slots, hx _ _ hne e⟩) W.src) T'
    have kp : ∀ o, h'.StaysIn (h'.push o) := fun o b ob q => Heap.get?_push_of_some _ q
    exact hq _ clos _ ctv c' _ tk (W1.stays (kp _)) (fun b o _ h2 e => ⟨o.slots, kp _ _ _ (hx b o h2 e)⟩) (Heap.get?_push_size _ rfl) (hrec.keeps (kp _)) hcll
  | some c =>
    obtain ⟨c', rfl, hrec⟩ := htab lpos c ham
    refine kla_makeFunctionHit (mg := mg) hcl W.eg.eg hgs hcode (C.keeps hst) hP ht ham ⟨bm, ob, b1, b2, hbG, hbP, hst _ _ b3, b4, b5, b6⟩ fun ctv h' tk hk hsz => ?_
    have kp : ∀ o, s.heap.StaysIn (h'.push o) := fun o b ob q => Heap.get?_push_of_some _ (hk b ob q)
    exact hq _ clos _ ctv c' _ tk (W0.stays (kp _)) (.of_stays (kp _)) (Heap.get?_push_size _ rfl) (hrec.keeps (kp _)) hcll

theorem ws_refused {params : Arguments} {body : Expr} {sc : Scope} {lpos p1 cpos : Pos} {Q : Value → Shared → Prop} (W : WS A env l base S hc ρ s.heap) (X : (KK w).In base) (T : Top p loose mean mg mb base) (hcode : env.code = .ref 175) (C : CodeHd base 175 171) (hr : Room A (n + 2))
    (hir : env.scope.names.lookup ("_law_is_refused" : Str) = some .globalImplicit) (hdef : defaultsOf params env = ([], [])) (hfree : ∀ y ∈ sc.names, y.2 = .free → env.scope.names.lookup y.1 = some .cell)
    (hbind : ∀ clos pm ctv c', bindArgs (kla_fn "<lambda>" (env.qual ++ "<lambda>") params body sc clos pm (.ref c') ctv) ⟨[], []⟩ = pure [])
    (hco : sc.isCoroutine = false) (hgen : sc.isGenerator = false) (hk : sc.kind = .function) (hnc : ∀ x ∈ sc.names, x.2 ≠ .cell)
    (hρ : ∀ x d, ρ'.lookup x = some d → ρ.lookup x = some d ∧ sc.names.lookup x = some .free ∧ env.scope.names.lookup x = some .cell)
    (hn : (lvl tbl n).e sc ρ' body ≠ .no)
    (hok : ∀ d, (lvl tbl n).e sc ρ' body = .ok d → ∀ h' tk, WS A env l base S hc ρ h' → Mv S s.heap h' → Q (.bool false) { s with heap := h', toks := tk })
    (hex : (lvl tbl n).e sc ρ' body = .exc → ∀ h' tk, WS A env l base S hc ρ h' → Mv S s.heap h' → Q (.bool true) { s with heap := h', toks := tk }) :
    wpAny (model prog w) A (eval (.Call (.Name "_law_is_refused" p1) [.Lambda params body sc lpos] [] cpos) env) Q E s := by
  have hst := W.eg.B.stays
  have TR := topRead_of T
  have X1 := X.keeps hst
  have T1 := TR.keeps hst
  refine Call_ (Name_function_global W.eg.ek hir (loadGlobal_global (env := env) (v := .ref 169) (by rw [W.eg.eg]; exact T1.g) (mg_of X1 T1.g (by kernel_rfl)) ?_))
  refine callWith_K X1 (by kernel_rfl) ?_
  refine PyProof.Rows.args_cons (ws_lambda W T hcode C hdef hfree fun f clos pm ctv c' h₂ tk W2 mv2 hf hrec hcll => ?_)
  have hst2 := W2.eg.B.stays
  refine PyProof.Rows.args_nil ⟨X.keeps hst2, ?_⟩
  -- all but the live frames
  have hB : ∀ b o, base.get? b = some o → (hideAll h₂ ((env :: l).filterMap (·.frame))).get? b = some o := fun b o q => hideAll_get _ (hst2 b o q) fun hm => by
    rw [(W2.eg.B.frames.mem hm).1] at q; cases q
  have hfl : ∀ b o vs, o.data = .fields vs → h₂.get? b = some o → b ∉ (env :: l).filterMap (·.frame) := fun b o vs hd e hm => by
    obtain ⟨_, o', ho', hnf⟩ := W2.eg.B.frames.mem hm
    rw [e] at ho'; cases ho'; exact hnf vs hd
  have kb : KB (KK w) p loose mg mb (hideAll h₂ ((env :: l).filterMap (·.frame))) := ⟨X.keeps hB, TR.keeps hB⟩
  have B' : Below A (hideAll h₂ ((env :: l).filterMap (·.frame))) (env :: l) h₂ := ⟨W2.eg.B.stack, fun b o q => of_hideAll _ q, by
    have : ∀ {l' : List Env}, h₂.FunFrames base l' → (∀ e ∈ l', ∀ a, e.frame = some a → a ∈ (env :: l).filterMap (·.frame)) → h₂.FunFrames (hideAll h₂ ((env :: l).filterMap (·.frame))) l' := by
      intro l'
      induction l' with
      | nil => intro _ _; trivial
      | cons e r ih =>
        intro ⟨q1, ⟨L, o, q2, _, q4, q5⟩, q6⟩ hin
        exact ⟨q1, ⟨L, o, q2, hideAll_none _ (hin e (.head _) L q2), q4, q5⟩, ih q6 fun e' he => hin e' (.tail _ he)⟩
    exact this W2.eg.B.frames fun e he a ha => List.mem_filterMap.mpr ⟨e, he, ha⟩⟩
  have hH : Held sc clos ρ' h₂ := fun x d hx => by
    obtain ⟨e1, e2, e3⟩ := hρ x d hx
    obtain ⟨q1, q2, v, lk, r⟩ := W2.eg.vars x d e1
    refine ⟨q1, q2, e2, ?_⟩
    rcases lk with ⟨a, _⟩ | ⟨_, c, hcc, n⟩
    · have : env.kindOf x = some .cell := e3
      rw [a] at this; cases this
    · exact ⟨c, v, hcll x c hcc e2, n, r⟩
  refine refused_call (n := n) (ρ := ρ') (s := { s with heap := h₂, toks := tk }) kb B' W2.eg.hand hr hf hrec (hbind _ _ _ _) hco hgen hk hnc hH hn (fun d ed h' tk' k => ?_) (fun ex h' tk' k u => ?_)
  · exact hok d ed h' tk' (W2.stays k) (mv2.trans (.of_stays k))
  · have mv3 : Mv S h₂ h' := fun b o h1 h2 e => ?_
    refine hex ex h' tk' (W2.move (fun b o q => k b o (hB b o q)) mv3 (src_mv (fun o e => ⟨o.slots, k _ _ (hideAll_get _ e W2.sNot)⟩) W2.src) (tab_mv (fun o e => ?_) (fun b o _ ⟨vs, hd⟩ e => ⟨o.slots, k _ _ (hideAll_get _ e (hfl b o vs hd e))⟩) W2.tab)) (mv2.trans mv3)
    · obtain ⟨ps, e', _⟩ := W2.tab
      rw [e'] at e; cases e
      exact k _ _ (hideAll_get _ e' (hfl _ _ _ rfl e'))
    · by_cases hm : b ∈ (env :: l).filterMap (·.frame)
      · obtain ⟨_, o', ho', hnf⟩ := W2.eg.B.frames.mem hm
        rw [e] at ho'; cases ho'
        exact u b o e hnf
      · exact ⟨o.slots, k _ _ (hideAll_get _ e hm)⟩
end
end Mine
end

section
open PySem PySem.W PyProof.Rows PySem.Calls PySem.Spec
namespace Mine
noncomputable def notPair : List PyData → Bool
  | [.int _, .int _] => false
  | _ => true
theorem list_ne_src {h : Heap} {a S : Addr} {vs : Array Value} {ds : List PyData} (x : h.IsList a vs) (r : RdAll h vs.toList ds) (np : notPair ds = true) (s : Src h S) : a ≠ S := fun z => by
  obtain ⟨o, e, _, n, d⟩ := x
  obtain ⟨i, j, ti, tj, ⟨o', e', _, n', d'⟩, _⟩ := s
  rw [z, e'] at e; cases e
  rw [d'] at d; cases d
  cases r with
  | cons r1 r2 =>
    cases r2 with
    | cons r2 r3 =>
      cases r3
      cases r1
      cases r2
      simp [notPair] at np
theorem flat_all {h h' : Heap} : ∀ {vs : List Value} {ds : List PyData}, RdAll h vs ds → (ds.all flatD) = true → RdAll h' vs ds
  | _, _, .nil, _ => .nil
  | _, _, .cons r rs, f => by
    simp only [List.all_cons, Bool.and_eq_true] at f
    exact .cons (flat_any f.1 r h') (flat_all rs f.2)
theorem rd_get {h : Heap} : ∀ {vs : List Value} {ds : List PyData}, RdAll h vs ds → ∀ {i : Nat} {v : Value}, vs[i]? = some v → ∃ d, d ∈ ds ∧ Rd h v d
  | _, _, .nil, _, _, e => by simp at e
  | _, _, .cons r rs, 0, v, e => by simp at e; subst e; exact ⟨_, .head _, r⟩
  | _, _, .cons r rs, i + 1, v, e => by
    simp at e
    obtain ⟨d, hd, q⟩ := rd_get rs e
    exact ⟨d, .tail _ hd, q⟩

section
variable {A : Around} {env : Env} {l : List Env} {base hc h h' : Heap} {S : Addr} {ρ ρ' : Loc}
theorem WS.weaken (W : WS A env l base S hc ρ h) (k : ∀ x d, ρ'.lookup x = some d → ρ.lookup x = some d) : WS A env l base S hc ρ' h :=
  ⟨⟨W.eg.B, W.eg.hand, W.eg.ek, W.eg.eg, W.eg.eb, W.eg.cl, fun x d e => W.eg.vars x d (k x d e)⟩, W.src, W.tab, W.hS, W.hT, W.sNot, W.fr, W.loc, W.cel, W.inj, fun x d e => W.flat x d (k x d e), W.mvc, W.hcL⟩
theorem WS.fresh (W : WS A env l base S hc ρ h) : base.get? h.objs.size = none ∧ hc.get? h.objs.size = none := by
  refine ⟨fresh_of_stays W.eg.B.stays (Heap.get?_none_of_le (Nat.le_refl _)), ?_⟩
  cases q : hc.get? h.objs.size with
  | none => rfl
  | some o =>
    obtain ⟨ps, e1, _⟩ := W.tab
    obtain ⟨x, y, tx, ty, ⟨o', e2, _⟩, _⟩ := W.src
    obtain ⟨sl, e3⟩ := W.mvc _ o (Nat.ne_of_gt (Heap.lt_size e2)) (Nat.ne_of_gt (Heap.lt_size e1)) q
    exact absurd (Heap.lt_size e3) (Nat.lt_irrefl _)

theorem frames_but {h h' base : Heap} {P : Addr} (k : Heap.ExtBut P h h') : ∀ {l : List Env}, h.FunFrames base l → (∀ b ∈ l.filterMap (·.frame), b ≠ P) → h'.FunFrames base l
  | [], _, _ => trivial
  | env :: r, ⟨hk, ⟨L, o, hf, hn, ho, hd⟩, hr⟩, hb => ⟨hk, ⟨L, o, hf, hn, k L o (hb L (by rw [List.filterMap_cons, hf]; exact .head _)) ho, hd⟩, frames_but k hr fun b q => hb b (by rw [List.filterMap_cons, hf]; exact .tail _ q)⟩

/-- the loop's iterator goes on -/
theorem WS.iter (W : WS A env l base S hc ρ h) {it a : Addr} {i : Nat} (hit : h.IsListIter it a i) (hs : Heap.ExtBut it h h') (hb : base.get? it = none) (hh : hc.get? it = none) : WS A env l base S hc ρ h' := by
  obtain ⟨oi, ei, ci, di⟩ := hit
  have other : ∀ b o, h.get? b = some o → (∀ vs, o.data = .fields vs → vs ≠ #[.ref a, .int i 0]) → h'.get? b = some o := fun b o e hne => hs b o (fun z => by
    rw [z, ei] at e; cases e; exact hne _ di rfl) e
  have S' : Src h' S := src_mv (fun o e => ⟨o.slots, other _ _ e fun vs q => by
    obtain ⟨x, y, tx, ty, ⟨o', e', _, n, d'⟩, _⟩ := W.src
    rw [e] at e'; cases e'; rw [q] at d'; cases d'⟩) W.src
  have T' : Tab (env.qual ++ "<lambda>") h' := by
    obtain ⟨ps, e, ht, hcc⟩ := W.tab
    refine ⟨ps, hs _ _ (fun z => by rw [← z, e] at ei; cases ei; cases ci) e, ht, fun pos c hp => ?_⟩
    obtain ⟨c', rfl, c2, oc, vs, t, e2, hoc, hd, hv⟩ := hcc pos c hp
    exact ⟨c', rfl, c2, oc, vs, t, e2, other _ _ hoc (fun vs' q => by rw [hd] at q; cases q; intro z; rw [z] at hv; simp at hv), hd, hv⟩
  have nsk : ∀ {m}, h.Ns env.locals m → h'.Ns env.locals m := fun {m} n => by
    obtain ⟨o, es, ep, e, d, r⟩ := n
    exact ⟨o, es, ep, other _ _ e (fun vs q => by rw [d] at q; cases q), d, r⟩
  have ck : ∀ {c v}, h.IsCell c v → h'.IsCell c v := fun {c v} n => by
    obtain ⟨o, e, d⟩ := n
    exact ⟨o, other _ _ e (fun vs q => by rw [d] at q; cases q), d⟩
  refine ⟨⟨⟨W.eg.B.stack, fun b o q => hs b o (fun z => by rw [z, hb] at q; cases q) (W.eg.B.stays b o q), frames_but hs W.eg.B.frames fun b hm z => ?_⟩, W.eg.hand, W.eg.ek, W.eg.eg, W.eg.eb, W.eg.cl, fun x d e => ?_⟩, S', T', W.hS, W.hT, W.sNot, W.fr, ?_,
    fun y c q => ⟨(W.cel y c q).1, let ⟨v, n⟩ := (W.cel y c q).2; ⟨v, ck n⟩⟩, W.inj, W.flat, fun b o a1 a2 e => ?_, W.hcL⟩
  · obtain ⟨_, o', ho', hnf⟩ := W.eg.B.frames.mem hm
    rw [z, ei] at ho'; cases ho'; exact hnf _ di
  · obtain ⟨q1, q2, v, lk, r⟩ := W.eg.vars x d e
    refine ⟨q1, q2, v, ?_, flat_any (W.flat x d e) r _⟩
    rcases lk with ⟨q, m, n, e⟩ | ⟨q, c, hcc, n⟩
    · exact .inl ⟨q, m, nsk n, e⟩
    · exact .inr ⟨q, c, hcc, ck n⟩
  · obtain ⟨m, n, n2⟩ := W.loc
    exact ⟨m, nsk n, n2⟩
  · obtain ⟨sl, e1⟩ := W.mvc b o a1 a2 e
    exact ⟨sl, hs b _ (fun z => by rw [z, hh] at e; cases e) e1⟩
end

section
variable {prog : Program} {w : World} {p : Program} {loose : List Str} {mg mb : Str → Option Value}
variable {A : Around} {env : Env} {l : List Env} {base hc : Heap} {S : Addr} {ρ : Loc} {s : Shared} {E : Value → Shared → Prop} {n : Nat}

theorem ws_for {x : Str} {px pos : Pos} {iter : Expr} {body : List Stmt} {Q : Flow → Shared → Prop} (W : WS A env l base S hc ρ s.heap) (kb : KB (KK w) p loose mg mb base) (hr : Room A n) (hok : stepSS.okName env.scope x = true) (hxs : x ≠ "source") (hρ : ρ.lookup x = none)
    {ds : List PyData} (he : (lvl tbl n).e env.scope ρ iter = .ok (.list ds)) (hfl : ds.all flatD = true) (hnp : notPair ds = true) (hs : ∀ x, foldedSetIterable iter env x = pure x)
    (hb : ∀ d, d ∈ ds → ∀ (h : Heap) (tk : Tok) (Q' : Flow → Shared → Prop) (E' : Value → Shared → Prop), WS A env l base S hc ((x, d) :: ρ) h →
      (∀ h' tk', WS A env l base S hc ((x, d) :: ρ) h' → Mv S h h' → Q' .next { s with heap := h', toks := tk' }) → wpAny (model prog w) A (execs body env) Q' E' { s with heap := h, toks := tk })
    (hq : ∀ h' tk, WS A env l base S hc ρ h' → Q .next { s with heap := h', toks := tk }) :
    wpAny (model prog w) A (exec (.For (.Name x px) iter body [] pos) env) Q E s := by
  refine wpAny_For ?_ hs
  refine (sound (cx (w := w) (prog := prog) (p := p) (loose := loose) (mg := mg) (mb := mb)) n).e A env (env :: l) base ρ s iter kb W.eg hr _ _ (by rw [he]; intro z; cases z) (fun a ea v h₁ tk₁ k₁ r => ?_) (fun ea => by rw [he] at ea; cases ea)
  rw [he] at ea; cases ea
  have W1 := W.stays k₁
  cases r with
  | @list a o vs nn xs e1 e2 e3 e4 =>
  have hL : h₁.IsList a vs := ⟨o, e1, e2, nn, e3⟩
  have haS : a ≠ S := list_ne_src hL e4 hnp W1.src
  have haT : a ≠ 171 := fun z => by
    obtain ⟨ps, e, _⟩ := W1.tab
    rw [z, e] at e1; cases e1; cases e2
  refine wpAny_pyIter_list (s := { s with heap := h₁, toks := tk₁ }) hL ?_
  have kp : h₁.StaysIn (h₁.push { cls := .type "list_iterator", data := .fields #[.ref a, .int 0 0] }) := fun b o q => Heap.get?_push_of_some _ q
  obtain ⟨fb, fh⟩ := W1.fresh
  have hlen : vs.size = ds.length := by have := e4.length; rw [Array.length_toList] at this; exact this
  refine codeAny_forLoop (I := fun nn s' => ∃ i h tk, nn = ds.length - i ∧ i ≤ ds.length ∧ s' = { s with heap := h, toks := tk } ∧ WS A env l base S hc ρ h ∧ h.IsListIter h₁.objs.size a i ∧ h.IsList a vs) (fun nn s' hI => ?_) ds.length
    ⟨0, _, tk₁, by simp, Nat.zero_le _, rfl, W1.stays kp, ⟨_, Heap.get?_push_size _ rfl, rfl, rfl⟩, hL.push _⟩
  obtain ⟨i, h, tk, rfl, hi, rfl, W2, hit, hl2⟩ := hI
  by_cases hlt : i < ds.length
  · have hv : ∃ v, vs[i]? = some v := ⟨_, Array.getElem?_eq_getElem (by omega)⟩
    obtain ⟨v, hv⟩ := hv
    obtain ⟨d, hd, rd⟩ := rd_get e4 (i := i) (v := v) (by rw [Array.getElem?_toList]; exact hv)
    have hfd : flatD d = true := List.all_eq_true.mp hfl d hd
    refine wpAny_pyNext_list_item (s := { s with heap := h, toks := tk }) hit hl2 hv fun h₃ hit₃ hs₃ => ?_
    have W3 := W2.iter hit hs₃.extBut fb fh
    have hne : a ≠ h₁.objs.size := Nat.ne_of_lt (Heap.lt_size e1)
    have hl3 : h₃.IsList a vs := hl2.extBut hs₃.extBut hne
    refine PyProof.Rows.assign_Name (ws_store (s := { s with heap := h₃, toks := tk }) W3 hok hxs hfd (flat_any hfd rd _) fun h₄ tk₄ W4 kp4 => ?_)
    obtain ⟨o3, q1, q2, n3, q3⟩ := hl3
    obtain ⟨oi, r1, r2, r3⟩ := hit₃
    have hl4 : h₄.IsList a vs := ⟨o3, kp4 _ _ (.inr ⟨_, _, q3⟩) q1, q2, n3, q3⟩
    have hit4 : h₄.IsListIter h₁.objs.size a (i + 1) := ⟨oi, kp4 _ _ (.inl ⟨_, r3⟩) r1, r2, r3⟩
    refine hb d hd h₄ tk₄ _ _ W4 fun h₅ tk₅ W5 mv5 => ?_
    have hl5 : h₅.IsList a vs := by
      obtain ⟨o4, q1, q2, n3, q3⟩ := hl4
      obtain ⟨sl, e⟩ := mv5 a o4 haS haT q1
      exact ⟨_, e, q2, n3, q3⟩
    have hit5 : h₅.IsListIter h₁.objs.size a (i + 1) := by
      obtain ⟨o4, q1, q2, q3⟩ := hit4
      have n1 : h₁.objs.size ≠ S := fun z => by
        obtain ⟨x, y, tx, ty, ⟨o', e', _⟩, _⟩ := W1.src
        exact absurd (Heap.lt_size e') (by rw [z]; exact Nat.lt_irrefl _)
      have n2 : h₁.objs.size ≠ 171 := fun z => by
        obtain ⟨ps, e, _⟩ := W1.tab
        exact absurd (Heap.lt_size e) (by rw [z]; exact Nat.lt_irrefl _)
      obtain ⟨sl, e⟩ := mv5 _ o4 n1 n2 q1
      exact ⟨_, e, q2, q3⟩
    refine ⟨ds.length - (i + 1), by omega, i + 1, h₅, tk₅, rfl, hlt, rfl, W5.weaken (fun y e hy => ?_), hit5, hl5⟩
    rw [List.lookup_cons]
    split
    · rename_i q; rw [beq_iff_eq.mp q, hρ] at hy; cases hy
    · exact hy
  · have hx : vs[i]? = none := Array.getElem?_eq_none (by omega)
    refine wpAny_pyNext_list_end (s := { s with heap := h, toks := tk }) W2.eg.hand hit hl2 hx fun h₃ hs₃ => ?_
    exact wpAny_execs_nil (hq h₃ tk (W2.iter hit hs₃ fb fh))
end
end Mine
end

section
open PySem PySem.W PyProof.Rows PySem.Calls PySem.Spec
namespace Mine
section
variable {prog : Program} {w : World} {p : Program} {loose : List Str} {mg mb : Str → Option Value}
variable {A : Around} {env : Env} {l : List Env} {base hc : Heap} {S : Addr} {ρ : Loc} {s : Shared} {E : Value → Shared → Prop} {n : Nat}

noncomputable def GW (prog : Program) (w : World) (A : Around) (env : Env) (l : List Env) (base : Heap) (S : Addr) (hc : Heap) (ρ : Loc) (e : Expr) (P : PyData → Prop) : Prop :=
  ∀ (s : Shared) (Q : Value → Shared → Prop) (E : Value → Shared → Prop), WS A env l base S hc ρ s.heap → (∀ d v h' tk, P d → flatD d = true → Rd h' v d → WS A env l base S hc ρ h' → Q v { s with heap := h', toks := tk }) → wpAny (model prog w) A (eval e env) Q E s

theorem one_eval {p1 p2 p3 : Pos} {e : Expr} {ds : List PyData} (kb : KB (KK w) p loose mg mb base) (hr : Room A n) (hg : env.scope.names.lookup ("_law_one" : Str) = some .globalImplicit) (hsl : env.scope.names.lookup ("source" : Str) = some .local)
    (hst : starEach [e] env = (false, eval e env) :: starEach [] env) (he : (lvl tbl n).e env.scope ρ e = .ok (.list ds)) (hfl : ds.all flatD = true) (hnp : notPair ds = true) (h1 : 1 ≤ ds.length) (h2 : ds.length ≤ 100) :
    GW prog w A env l base S hc ρ (.Call (.Name "_law_one" p1) [.Name "source" p2, e] [] p3) (fun d => d ∈ ds) := by
  intro s Q E W hq
  have hr1 := hr.1
  have X1 := kb.X.keeps W.eg.B.stays
  have T1 := kb.T.keeps W.eg.B.stays
  refine Call_ (Name_function_global W.eg.ek hg (loadGlobal_global (env := env) (v := .ref 155) (by rw [W.eg.eg]; exact T1.g) (mg_of X1 T1.g (by kernel_rfl)) ?_))
  have hst2 : starEach (.Name "source" p2 :: [e]) env = (false, eval (.Name "source" p2) env) :: starEach [e] env := rfl
  refine callWith_K X1 (by kernel_rfl) ?_ hst2 (by rw [hst]; rfl)
  obtain ⟨m, hm, hms⟩ := W.loc
  refine PyProof.Rows.args_cons (wpAny_Name (wpAny_loadName_local W.eg.ek hsl hm hms ?_) (by decide))
  refine PyProof.Rows.args_cons ?_ hst
  refine (sound (cx (w := w) (prog := prog) (p := p) (loose := loose) (mg := mg) (mb := mb)) n).e A env (env :: l) base ρ s e kb W.eg hr _ _ (by rw [he]; intro z; cases z) (fun a ea v h₁ tk₁ k₁ r => ?_) (fun ea => by rw [he] at ea; cases ea)
  rw [he] at ea; cases ea
  have W1 := W.stays k₁
  cases r with
  | @list a o vs nn xs e1 e2 e3 e4 =>
  have hL : h₁.IsList a vs := ⟨o, e1, e2, nn, e3⟩
  have haS : a ≠ S := list_ne_src hL e4 hnp W1.src
  have hlen : vs.size = ds.length := by have := e4.length; rw [Array.length_toList] at this; exact this
  refine PyProof.Rows.args_nil ⟨X1.keeps k₁, ?_⟩
  refine one_call (s := { s with heap := h₁, toks := tk₁ }) kb W1.eg.B (by omega) W.hS W1.src hL haS (by omega) (by omega) fun i v h' tk hv hrest src' => ?_
  obtain ⟨d, hd, rd⟩ := rd_get e4 (i := i) (v := v) (by rw [Array.getElem?_toList]; exact hv)
  have hfd : flatD d = true := List.all_eq_true.mp hfl d hd
  exact hq d v h' tk hd hfd (flat_any hfd rd _) (W1.rest hrest src')

theorem one_evalK {p1 p2 p3 p4 : Pos} {g : Str} {a : Addr} {its : Array Value} {nn : Nat} {sl : Array (Option Value)} {xs : List Str} (kb : KB (KK w) p loose mg mb base) (hr : Room A n) (hg : env.scope.names.lookup ("_law_one" : Str) = some .globalImplicit) (hsl : env.scope.names.lookup ("source" : Str) = some .local)
    (hgg : env.scope.names.lookup g = some .globalImplicit) (hgd : (g == ("__debug__" : Str)) = false) (hk : nsIn (KK w) mainGlobals g = some (some (.ref a))) (hl : (KK w).lookup a = some ⟨.type "list", none, .seq its nn, sl⟩) (hx : ∀ v ∈ its.toList, ∃ x ∈ xs, ∃ t, v = .str x t) (h1 : 1 ≤ its.size) (h2 : its.size ≤ 100) :
    GW prog w A env l base S hc ρ (.Call (.Name "_law_one" p1) [.Name "source" p2, .Name g p4] [] p3) (fun d => ∃ x ∈ xs, d = .str x) := by
  intro s Q E W hq
  have hr1 := hr.1
  have X1 := kb.X.keeps W.eg.B.stays
  have T1 := kb.T.keeps W.eg.B.stays
  refine Call_ (Name_function_global W.eg.ek hg (loadGlobal_global (env := env) (v := .ref 155) (by rw [W.eg.eg]; exact T1.g) (mg_of X1 T1.g (by kernel_rfl)) ?_))
  refine callWith_K X1 (by kernel_rfl) ?_
  obtain ⟨m, hm, hms⟩ := W.loc
  refine PyProof.Rows.args_cons (wpAny_Name (wpAny_loadName_local W.eg.ek hsl hm hms ?_) (by decide))
  refine PyProof.Rows.args_cons (Name_function_global W.eg.ek hgg (loadGlobal_global (env := env) (v := .ref a) (by rw [W.eg.eg]; exact T1.g) (mg_of X1 T1.g hk) ?_) hgd)
  have hL : s.heap.IsList a its := ⟨_, X1 _ _ hl, rfl, nn, rfl⟩
  have haS : a ≠ S := fun z => by
    have := kb.X _ _ hl
    rw [z, W.hS] at this; cases this
  refine PyProof.Rows.args_nil ⟨X1, ?_⟩
  refine one_call kb W.eg.B (by omega) W.hS W.src hL haS h1 h2 fun i v h' tk hv hrest src' => ?_
  obtain ⟨x, hxm, t, rfl⟩ := hx v (by rw [← Array.getElem?_toList] at hv; exact List.mem_of_getElem? hv)
  exact hq (.str x) _ h' tk ⟨x, hxm, rfl⟩ rfl (.str x t) (W.rest hrest src')

theorem ws_pair {x y : Str} {px py tp tp2 pos : Pos} {k k2 : Nat} {e1 e2 : Expr} {P1 P2 : PyData → Prop} {Q : Flow → Shared → Prop} (W : WS A env l base S hc ρ s.heap) (g1 : GW prog w A env l base S hc ρ e1 P1) (g2 : GW prog w A env l base S hc ρ e2 P2)
    (hsw : swapsWithSole [.Tuple [.Name x px, .Name y py] k tp] (.Tuple [e1, e2] k2 tp2) pos.line env = pure false) (hsw2 : swappedStores [.Tuple [.Name x px, .Name y py] k tp] (.Tuple [e1, e2] k2 tp2) env = pure none)
    (hs1 : starEach [e1, e2] env = (false, eval e1 env) :: starEach [e2] env) (hs2 : starEach [e2] env = (false, eval e2 env) :: starEach [] env)
    (hx : stepSS.okName env.scope x = true) (hxs : x ≠ "source") (hy : stepSS.okName env.scope y = true) (hys : y ≠ "source")
    (hq : ∀ d1 d2 h' tk, P1 d1 → P2 d2 → WS A env l base S hc ((y, d2) :: (x, d1) :: ρ) h' → Q .next { s with heap := h', toks := tk }) :
    wpAny (model prog w) A (exec (.Assign [.Tuple [.Name x px, .Name y py] k tp] (.Tuple [e1, e2] k2 tp2) pos) env) Q E s := by
  refine Assign_Tuple (Tuple_ (PyProof.Rows.args_cons (g1 s _ _ W fun d1 v1 h₁ tk₁ p1 f1 r1 W1 => ?_) hs1)) hsw hsw2
  refine PyProof.Rows.args_cons (g2 { s with heap := h₁, toks := tk₁ } _ _ W1 fun d2 v2 h₂ tk₂ p2 f2 r2 W2 => ?_) hs2
  refine PyProof.Rows.args_nil (wpAny_newObj_type ?_ (by show 2 ≤ sizeLine; rw [sizeLine_eq]; omega))
  have kp : h₂.StaysIn (h₂.push { cls := .type "tuple", data := .seq [v1, v2].toArray }) := fun b o q => Heap.get?_push_of_some _ q
  rw [arm_assign_Tuple]
  refine wpAny_bind (wpAny_standAt ?_)
  refine wpAny_unpack_tuple W.eg.hand ⟨_, Heap.get?_push_size _ rfl, rfl, _, rfl⟩ rfl rfl fun h₃ hx₃ => ?_
  have W3 := (W2.stays kp).stays (extBut_stays hx₃)
  refine assignInOrder_cons (PyProof.Rows.assign_Name (ws_store (s := { s with heap := h₃, toks := tk₂ }) W3 hx hxs f1 (flat_any f1 r1 _) fun h₄ tk₄ W4 _ => ?_))
  refine assignInOrder_cons (PyProof.Rows.assign_Name (ws_store (s := { s with heap := h₄, toks := tk₄ }) W4 hy hys f2 (flat_any f2 r2 _) fun h₅ tk₅ W5 _ => ?_))
  exact assignInOrder_nil (hq d1 d2 h₅ tk₅ p1 p2 W5)

theorem ws_one {x : Str} {px pos : Pos} {e : Expr} {P : PyData → Prop} {Q : Flow → Shared → Prop} (W : WS A env l base S hc ρ s.heap) (g : GW prog w A env l base S hc ρ e P) (hsw : swapsWith e (some (.Name x px)) pos.line env = pure false)
    (hx : stepSS.okName env.scope x = true) (hxs : x ≠ "source") (hq : ∀ d h' tk, P d → WS A env l base S hc ((x, d) :: ρ) h' → Q .next { s with heap := h', toks := tk }) :
    wpAny (model prog w) A (exec (.Assign [.Name x px] e pos) env) Q E s := by
  refine wpAny_Assign_Name (g s _ _ W fun d v h₁ tk₁ p f r W1 => ?_) hsw
  exact ws_store (s := { s with heap := h₁, toks := tk₁ }) W1 hx hxs f r fun h₂ tk₂ W2 _ => hq d h₂ tk₂ p W2

theorem ws_three {x y z : Str} {px py pz tp pos : Pos} {k : Nat} {e : Expr} {a b c : Int} {Q : Flow → Shared → Prop} (W : WS A env l base S hc ρ s.heap) (kb : KB (KK w) p loose mg mb base) (hr : Room A n) (he : (lvl tbl n).e env.scope ρ e = .ok (.tuple [.int a, .int b, .int c]))
    (hsw : swapsWithSole [.Tuple [.Name x px, .Name y py, .Name z pz] k tp] e pos.line env = pure false) (hsw2 : swappedStores [.Tuple [.Name x px, .Name y py, .Name z pz] k tp] e env = pure none)
    (hx : stepSS.okName env.scope x = true) (hxs : x ≠ "source") (hy : stepSS.okName env.scope y = true) (hys : y ≠ "source") (hz : stepSS.okName env.scope z = true) (hzs : z ≠ "source")
    (hq : ∀ h' tk, WS A env l base S hc ((z, .int c) :: (y, .int b) :: (x, .int a) :: ρ) h' → Q .next { s with heap := h', toks := tk }) :
    wpAny (model prog w) A (exec (.Assign [.Tuple [.Name x px, .Name y py, .Name z pz] k tp] e pos) env) Q E s := by
  refine Assign_Tuple ?_ hsw hsw2
  refine (sound (cx (w := w) (prog := prog) (p := p) (loose := loose) (mg := mg) (mb := mb)) n).e A env (env :: l) base ρ s e kb W.eg hr _ _ (by rw [he]; intro z; cases z) (fun d ed v h₁ tk₁ k₁ r => ?_) (fun ea => by rw [he] at ea; cases ea)
  rw [he] at ed; cases ed
  obtain ⟨t, o, vs, q, rfl, e1, e2, e3, rds⟩ := r.tuple_inv
  rw [arm_assign_Tuple]
  refine wpAny_bind (wpAny_standAt ?_)
  obtain ⟨va, vb, vc, hvs, ra, rb, rc⟩ := rd3 rds
  refine wpAny_unpack_tuple W.eg.hand ⟨o, e1, e2, q, e3⟩ (by rw [← Array.length_toList, hvs]; rfl) rfl fun h₂ hx₂ => ?_
  rw [hvs]
  have W3 := (W.stays k₁).stays (extBut_stays hx₂)
  refine assignInOrder_cons (PyProof.Rows.assign_Name (ws_store (s := { s with heap := h₂, toks := tk₁ }) W3 hx hxs rfl (flat_any rfl ra _) fun h₄ tk₄ W4 _ => ?_))
  refine assignInOrder_cons (PyProof.Rows.assign_Name (ws_store (s := { s with heap := h₄, toks := tk₄ }) W4 hy hys rfl (flat_any rfl rb _) fun h₅ tk₅ W5 _ => ?_))
  refine assignInOrder_cons (PyProof.Rows.assign_Name (ws_store (s := { s with heap := h₅, toks := tk₅ }) W5 hz hzs rfl (flat_any rfl rc _) fun h₆ tk₆ W6 _ => ?_))
  exact assignInOrder_nil (hq h₆ tk₆ W6)
end
end Mine
end

section
open PySem PySem.W PyProof.Rows PySem.Calls PySem.Spec
namespace Mine
noncomputable abbrev wrS : Scope := (fnAt "_law_words_right" 176).scope
noncomputable abbrev wr (i : Nat) : Stmt := stAt "_law_words_right" 176 i
abbrev Lam := Arguments × Expr × Scope × Pos
noncomputable def valE : Stmt → Expr
  | .Assign _ v _ => v
  | .For _ v _ _ _ => v
  | _ => .Name "" ⟨0, 0, 0, 0⟩
noncomputable def arg2 : Expr → Expr
  | .Call _ [_, e] _ _ => e
  | e => e
noncomputable def pairE : Stmt → Expr × Expr
  | .Assign _ (.Tuple [a, b] _ _) _ => (arg2 a, arg2 b)
  | _ => (.Name "" ⟨0, 0, 0, 0⟩, .Name "" ⟨0, 0, 0, 0⟩)
noncomputable def lamE : Expr → Lam
  | .Call _ [.Lambda a b c d] _ _ => (a, b, c, d)
  | e => (⟨[], [], none, [], [], none, []⟩, e, default, ⟨0, 0, 0, 0⟩)
noncomputable def orE : Stmt → Lam × Lam
  | .If (.BoolOp _ [a, b] _) _ _ _ => (lamE a, lamE b)
  | _ => (lamE (.Name "" ⟨0, 0, 0, 0⟩), lamE (.Name "" ⟨0, 0, 0, 0⟩))
noncomputable def notE : Stmt → Lam
  | .If (.UnaryOp _ a _) _ _ _ => lamE a
  | _ => lamE (.Name "" ⟨0, 0, 0, 0⟩)
noncomputable def inFor : Stmt → Nat → Stmt
  | .For _ _ b _ _, i => (b[i]?).getD (.Pass ⟨0, 0, 0, 0⟩)
  | s, _ => s
noncomputable abbrev lamX (l : Lam) : Expr := .Lambda l.1 l.2.1 l.2.2.1 l.2.2.2
noncomputable abbrev lm1 : Lam := (orE (wr 3)).1
noncomputable abbrev lm2 : Lam := (orE (wr 3)).2
noncomputable abbrev lm3 : Lam := notE (inFor (wr 5) 0)
noncomputable abbrev lm4 : Lam := notE (inFor (wr 6) 0)
noncomputable abbrev lm5 : Lam := notE (inFor (wr 6) 1)
theorem wr_body : (fnAt "_law_words_right" 176).body = [wr 0, wr 1, wr 2, wr 3, wr 4, wr 5, wr 6, wr 7] := by kernel_rfl
theorem wr0_is : ∃ p1 p2 p3 p4 p5 k, wr 0 = .Assign [.Tuple [.Name "low" p1, .Name "high" p2, .Name "bits" p3] k p4] (valE (wr 0)) p5 := by exact ⟨_, _, _, _, _, _, rfl⟩
theorem wr1_is : ∃ p1 p2 p3 p4 p5 k k2 q1 q2 q3 q4 q5 q6, wr 1 = .Assign [.Tuple [.Name "a" p1, .Name "b" p2] k p3] (.Tuple [.Call (.Name "_law_one" q1) [.Name "source" q2, (pairE (wr 1)).1] [] q3, .Call (.Name "_law_one" q4) [.Name "source" q5, (pairE (wr 1)).2] [] q6] k2 p4) p5 := by
  exact ⟨_, _, _, _, _, _, _, _, _, _, _, _, _, rfl⟩
theorem wr2_is : ∃ p1 p2 p3 p4 p5 k k2 q1 q2 q3 q4 q5 q6 r1 r2, wr 2 = .Assign [.Tuple [.Name "operator_now" p1, .Name "look" p2] k p3] (.Tuple [.Call (.Name "_law_one" q1) [.Name "source" q2, .Name "_law_operators" r1] [] q3, .Call (.Name "_law_one" q4) [.Name "source" q5, .Name "_law_looks" r2] [] q6] k2 p4) p5 := by
  exact ⟨_, _, _, _, _, _, _, _, _, _, _, _, _, _, _, rfl⟩
theorem wr3_is : ∃ p p1 p2 p3 k q1 q2 q3 q4, wr 3 = .If (.BoolOp .Or [.Call (.Name "_law_is_refused" q1) [lamX lm1] [] q2, .Call (.Name "_law_is_refused" q3) [lamX lm2] [] q4] p) [.Return (some (.Constant (.bool false) k p1)) p2] [] p3 := by
  exact ⟨_, _, _, _, _, _, _, _, _, rfl⟩
theorem wr4_is : ∃ p1 p2 q1 q2 q3, wr 4 = .Assign [.Name "none" p1] (.Call (.Name "_law_one" q1) [.Name "source" q2, arg2 (valE (wr 4))] [] q3) p2 := by
  exact ⟨_, _, _, _, _, rfl⟩
theorem wr5_is : ∃ p1 p2, wr 5 = .For (.Name "word" p1) (valE (wr 5)) [inFor (wr 5) 0] [] p2 := by exact ⟨_, _, rfl⟩
theorem wr6_is : ∃ p1 p2, wr 6 = .For (.Name "word" p1) (valE (wr 6)) [inFor (wr 6) 0, inFor (wr 6) 1] [] p2 := by exact ⟨_, _, rfl⟩
theorem if3_is : ∃ q1 q2 q3 q4 p1 p2 k, inFor (wr 5) 0 = .If (.UnaryOp .Not (.Call (.Name "_law_is_refused" q1) [lamX lm3] [] q2) q3) [.Return (some (.Constant (.bool false) k p1)) p2] [] q4 := by exact ⟨_, _, _, _, _, _, _, rfl⟩
theorem if4_is : ∃ q1 q2 q3 q4 p1 p2 k, inFor (wr 6) 0 = .If (.UnaryOp .Not (.Call (.Name "_law_is_refused" q1) [lamX lm4] [] q2) q3) [.Return (some (.Constant (.bool false) k p1)) p2] [] q4 := by exact ⟨_, _, _, _, _, _, _, rfl⟩
theorem if5_is : ∃ q1 q2 q3 q4 p1 p2 k, inFor (wr 6) 1 = .If (.UnaryOp .Not (.Call (.Name "_law_is_refused" q1) [lamX lm5] [] q2) q3) [.Return (some (.Constant (.bool false) k p1)) p2] [] q4 := by exact ⟨_, _, _, _, _, _, _, rfl⟩
theorem wr7_is : ∃ p1 p2 k, wr 7 = .Return (some (.Constant (.bool true) k p1)) p2 := by exact ⟨_, _, _, rfl⟩

/-! what the expressions give -/
noncomputable def rowT (k : Str) : PyData := .tuple [.int (rowI k).1, .int (rowI k).2.1, .int (rowI k).2.2]
theorem wr0_e : ∀ k ∈ k9, (lvl tbl 41).e wrS [("kind", .str k)] (valE (wr 0)) = .ok (rowT k) :=
  k9_cases (by kernel_rfl) (by kernel_rfl) (by kernel_rfl) (by kernel_rfl) (by kernel_rfl) (by kernel_rfl) (by kernel_rfl) (by kernel_rfl) (by kernel_rfl)
noncomputable abbrev ρ1 (k : Str) (lo hi bi : Int) : Loc := [("bits", .int bi), ("high", .int hi), ("low", .int lo), ("kind", .str k)]
theorem wr1a_e (k : Str) (lo hi bi : Int) : (lvl tbl 41).e wrS (ρ1 k lo hi bi) (pairE (wr 1)).1 = .ok (.list [.int lo, .int hi, .int 1]) := by kernel_rfl
theorem wr1b_e (k : Str) (lo hi bi : Int) : (lvl tbl 41).e wrS (ρ1 k lo hi bi) (pairE (wr 1)).2 = .ok (.list [.int (lo + 1), .int hi, .int 3]) := by kernel_rfl
theorem wr4_e (ρ : Loc) : (lvl tbl 41).e wrS ρ (arg2 (valE (wr 4))) = .ok (.list (nones10.map .str)) := by kernel_rfl
theorem wr5_e (ρ : Loc) (n l : PyData) : (lvl tbl 41).e wrS (("none", n) :: ("look", l) :: ρ) (valE (wr 5)) = .ok (.list [n, l]) := by kernel_rfl
theorem wr6_e (ρ : Loc) (n l o : PyData) : (lvl tbl 41).e wrS (("none", n) :: ("look", l) :: ("operator_now", o) :: ρ) (valE (wr 6)) = .ok (.list [n, o]) := by kernel_rfl
theorem lm1_e (k o a b : PyData) : (lvl tbl 41).e lm1.2.2.1 [("kind", k), ("operator_now", o), ("a", a), ("b", b)] lm1.2.1 = ev "checked" [k, o, a, b] := by kernel_rfl
theorem lm2_e (o a b : PyData) : (lvl tbl 41).e lm2.2.2.1 [("look", o), ("a", a), ("b", b)] lm2.2.1 = ev "compared" [o, a, b] := by kernel_rfl
theorem lm3_e (k o a b : PyData) : (lvl tbl 41).e lm3.2.2.1 [("kind", k), ("word", o), ("a", a), ("b", b)] lm3.2.1 = ev "checked" [k, o, a, b] := by kernel_rfl
theorem lm4_e (o a b : PyData) : (lvl tbl 41).e lm4.2.2.1 [("word", o), ("a", a), ("b", b)] lm4.2.1 = ev "compared" [o, a, b] := by kernel_rfl
theorem lm5_e (o : PyData) : (lvl tbl 41).e lm5.2.2.1 [("word", o)] lm5.2.1 = ev "compared" [o, .bool true, .bool false] := by kernel_rfl
theorem wr_kind : wrS.kind = .function := by kernel_rfl
theorem st1a : noStars [(pairE (wr 1)).1] = true := by decide +kernel
theorem st1b : noStars [(pairE (wr 1)).2] = true := by decide +kernel
theorem st4 : noStars [arg2 (valE (wr 4))] = true := by decide +kernel
theorem lamsOk : ([lm1, lm2, lm3, lm4, lm5].all fun l => (!l.2.2.1.isCoroutine && !l.2.2.1.isGenerator && l.2.2.1.kind == .function && l.2.2.1.names.all (fun x => x.2 != .cell) && l.2.2.1.names.all (fun y => y.2 != .free || wrS.names.lookup y.1 == some .cell))) = true := by decide +kernel
noncomputable def seqOf (K : Frag) (a : Addr) : Array Value × Nat × Array (Option Value) := match K.lookup a with
  | some ⟨_, _, .seq its n, sl⟩ => (its, n, sl)
  | _ => (#[], 0, #[])
noncomputable def strIn (xs : List Str) : Value → Bool
  | .str x _ => xs.contains x
  | _ => false
theorem strIn_ok {xs : List Str} {v : Value} (h : strIn xs v = true) : ∃ x ∈ xs, ∃ t, v = .str x t := by
  unfold strIn at h
  split at h
  · rename_i x t; exact ⟨x, by simpa using h, t, rfl⟩
  · cases h
theorem listOps (w : World) : (KK w).lookup 133 = some ⟨.type "list", none, .seq (seqOf (KK w) 133).1 (seqOf (KK w) 133).2.1, (seqOf (KK w) 133).2.2⟩ ∧ ((seqOf (KK w) 133).1.toList.all (strIn ops10)) = true ∧ (seqOf (KK w) 133).1.size = 10 :=
  ⟨by kernel_rfl, by kernel_rfl, by kernel_rfl⟩
theorem listLooks (w : World) : (KK w).lookup 134 = some ⟨.type "list", none, .seq (seqOf (KK w) 134).1 (seqOf (KK w) 134).2.1, (seqOf (KK w) 134).2.2⟩ ∧ ((seqOf (KK w) 134).1.toList.all (strIn looks6)) = true ∧ (seqOf (KK w) 134).1.size = 6 :=
  ⟨by kernel_rfl, by kernel_rfl, by kernel_rfl⟩
theorem glob_ops (w : World) : nsIn (KK w) mainGlobals "_law_operators" = some (some (.ref 133)) := by kernel_rfl
theorem glob_looks (w : World) : nsIn (KK w) mainGlobals "_law_looks" = some (some (.ref 134)) := by kernel_rfl
theorem lam_binds : ∀ l ∈ [lm1, lm2, lm3, lm4, lm5], ∀ (q : Str) (clos : List (Str × Addr)) (pm ctv : Value) (c' : Addr), bindArgs (kla_fn "<lambda>" q l.1 l.2.1 l.2.2.1 clos pm (.ref c') ctv) ⟨[], []⟩ = pure [] := by
  intro l hl q clos pm ctv c'
  simp only [List.mem_cons, List.not_mem_nil, or_false] at hl
  rcases hl with rfl | rfl | rfl | rfl | rfl <;> kernel_rfl
theorem lam_defs : ∀ l ∈ [lm1, lm2, lm3, lm4, lm5], ∀ env : Env, defaultsOf l.1 env = ([], []) := by
  intro l hl env
  simp only [List.mem_cons, List.not_mem_nil, or_false] at hl
  rcases hl with rfl | rfl | rfl | rfl | rfl <;> kernel_rfl

/-! the closed facts, told -/
theorem okAll_k : ∀ k ∈ k9, okAll k = true := k9_cases ok_i8 ok_i16 ok_i32 ok_i64 ok_u8 ok_u16 ok_u32 ok_u64 ok_usize
theorem rims_k : ∀ k ∈ k9, rims k = .ok (.bool true) := k9_cases (isT_ok rims_i8) (isT_ok rims_i16) (isT_ok rims_i32) (isT_ok rims_i64) (isT_ok rims_u8) (isT_ok rims_u16) (isT_ok rims_u32) (isT_ok rims_u64) (isT_ok rims_usize)
theorem ok_fact {k op lk : Str} {a b : Int} (hk : k ∈ k9) (ha : a ∈ asOf k) (hb : b ∈ bsOf k) (ho : op ∈ ops10) (hl : lk ∈ looks6) : (∃ d, ev "checked" [.str k, .str op, .int a, .int b] = .ok d) ∧ ∃ d, ev "compared" [.str lk, .int a, .int b] = .ok d := by
  have h := okAll_k k hk
  unfold okAll at h
  have h1 := List.all_eq_true.mp (List.all_eq_true.mp h a ha) b hb
  simp only [Bool.and_eq_true] at h1
  exact ⟨isOk_ok (List.all_eq_true.mp h1.1 op ho), isOk_ok (List.all_eq_true.mp h1.2 lk hl)⟩
theorem bad1 {k d1 d2 : PyData} {x : Str} (hx : x ∈ nones10 ++ looks6) : ev "checked" [k, .str x, d1, d2] = .exc := isExc_ok (List.all_eq_true.mp (bad_checked k d1 d2) x hx)
theorem bad2 {d1 d2 : PyData} {x : Str} (hx : x ∈ nones10 ++ ops10) : ev "compared" [.str x, d1, d2] = .exc := isExc_ok (List.all_eq_true.mp (bad_compared d1 d2) x hx)
end Mine
end

section
open PySem PySem.W PyProof.Rows PySem.Calls PySem.Spec
namespace Mine
noncomputable abbrev lams : List Lam := [lm1, lm2, lm3, lm4, lm5]
theorem lam_facts : ∀ l ∈ lams, l.2.2.1.isCoroutine = false ∧ l.2.2.1.isGenerator = false ∧ l.2.2.1.kind = .function ∧ (∀ x ∈ l.2.2.1.names, x.2 ≠ .cell) ∧ ∀ y ∈ l.2.2.1.names, y.2 = .free → wrS.names.lookup y.1 = some .cell := by
  intro l hl
  have h := List.all_eq_true.mp lamsOk l hl
  simp only [Bool.and_eq_true, Bool.not_eq_true', beq_iff_eq, List.all_eq_true, bne_iff_ne, ne_eq, Bool.or_eq_true] at h
  obtain ⟨⟨⟨⟨h1, h2⟩, h3⟩, h4⟩, h5⟩ := h
  exact ⟨h1, h2, h3, h4, fun y hy hf => (h5 y hy).elim (fun z => absurd hf z) id⟩
theorem mem_of_lk {α β : Type} [BEq α] [LawfulBEq α] {y : α} {v : β} : ∀ {l : List (α × β)}, l.lookup y = some v → (y, v) ∈ l
  | (a, b) :: r, h => by
    rw [List.lookup_cons] at h
    split at h
    · rename_i q; cases h; rw [beq_iff_eq.mp q]; exact .head _
    · exact .tail _ (mem_of_lk h)
theorem hρ_of {ρ ρ' : Loc} {sc : Scope} (h : ∀ q ∈ ρ', ρ.lookup q.1 = some q.2 ∧ sc.names.lookup q.1 = some .free ∧ wrS.names.lookup q.1 = some .cell) : ∀ x d, ρ'.lookup x = some d → ρ.lookup x = some d ∧ sc.names.lookup x = some .free ∧ wrS.names.lookup x = some .cell :=
  fun x d e => h (x, d) (mem_of_lk e)

theorem swapped_none {env : Env} {x y : Str} {px py tp tp2 : Pos} {k k2 : Nat} {e1 e2 : Expr} (hx : env.kindOf x = some .cell) (hy : env.kindOf y = some .cell) :
    swappedStores [.Tuple [.Name x px, .Name y py] k tp] (.Tuple [e1, e2] k2 tp2) env = pure none := by
  unfold swappedStores
  dsimp only
  split
  · rfl
  · split
    · rfl
    · simp [hx, hy]

section
variable {prog : Program} {w : World} {p : Program} {loose : List Str} {mean : ExcName → Option Value} {mg mb : Str → Option Value}
variable {A : Around} {env : Env} {l : List Env} {base hc : Heap} {S : Addr} {ρ ρ' : Loc} {s : Shared} {E : Value → Shared → Prop}

theorem wr_ok {lm : Lam} {p1 p2 : Pos} {d : PyData} {Q : Value → Shared → Prop} (hl : lm ∈ lams) (W : WS A env l base S hc ρ s.heap) (X : (KK w).In base) (T : Top p loose mean mg mb base) (C : CodeHd base 175 171) (hsc : env.scope = wrS) (hcode : env.code = .ref 175) (hr : Room A 43)
    (hρ : ∀ x d, ρ'.lookup x = some d → ρ.lookup x = some d ∧ lm.2.2.1.names.lookup x = some .free ∧ wrS.names.lookup x = some .cell) (hv : (lvl tbl 41).e lm.2.2.1 ρ' lm.2.1 = .ok d)
    (hq : ∀ h' tk, WS A env l base S hc ρ h' → Mv S s.heap h' → Q (.bool false) { s with heap := h', toks := tk }) :
    wpAny (model prog w) A (eval (.Call (.Name "_law_is_refused" p1) [lamX lm] [] p2) env) Q E s := by
  obtain ⟨f1, f2, f3, f4, f5⟩ := lam_facts lm hl
  exact ws_refused (n := 41) (ρ' := ρ') W X T hcode C hr (by rw [hsc]; kernel_rfl) (lam_defs lm hl env) (by rw [hsc]; exact f5) (fun clos pm ctv c' => lam_binds lm hl _ clos pm ctv c') f1 f2 f3 f4 (by rw [hsc]; exact hρ) (by rw [hv]; intro z; cases z)
    (fun _ _ h' tk W' mv => hq h' tk W' mv) (fun ex => by rw [hv] at ex; cases ex)
theorem wr_bad {lm : Lam} {p1 p2 : Pos} {Q : Value → Shared → Prop} (hl : lm ∈ lams) (W : WS A env l base S hc ρ s.heap) (X : (KK w).In base) (T : Top p loose mean mg mb base) (C : CodeHd base 175 171) (hsc : env.scope = wrS) (hcode : env.code = .ref 175) (hr : Room A 43)
    (hρ : ∀ x d, ρ'.lookup x = some d → ρ.lookup x = some d ∧ lm.2.2.1.names.lookup x = some .free ∧ wrS.names.lookup x = some .cell) (hv : (lvl tbl 41).e lm.2.2.1 ρ' lm.2.1 = .exc)
    (hq : ∀ h' tk, WS A env l base S hc ρ h' → Mv S s.heap h' → Q (.bool true) { s with heap := h', toks := tk }) :
    wpAny (model prog w) A (eval (.Call (.Name "_law_is_refused" p1) [lamX lm] [] p2) env) Q E s := by
  obtain ⟨f1, f2, f3, f4, f5⟩ := lam_facts lm hl
  exact ws_refused (n := 41) (ρ' := ρ') W X T hcode C hr (by rw [hsc]; kernel_rfl) (lam_defs lm hl env) (by rw [hsc]; exact f5) (fun clos pm ctv c' => lam_binds lm hl _ clos pm ctv c') f1 f2 f3 f4 (by rw [hsc]; exact hρ) (by rw [hv]; intro z; cases z)
    (fun _ ex => by rw [hv] at ex; cases ex) (fun _ h' tk W' mv => hq h' tk W' mv)

/-- if not refused(..): return False -/
theorem wr_ifnot {lm : Lam} {q1 q2 q3 q4 : Pos} {body : List Stmt} {Q : Flow → Shared → Prop} (hl : lm ∈ lams) (W : WS A env l base S hc ρ s.heap) (X : (KK w).In base) (T : Top p loose mean mg mb base) (C : CodeHd base 175 171) (hsc : env.scope = wrS) (hcode : env.code = .ref 175) (hr : Room A 43)
    (hρ : ∀ x d, ρ'.lookup x = some d → ρ.lookup x = some d ∧ lm.2.2.1.names.lookup x = some .free ∧ wrS.names.lookup x = some .cell) (hv : (lvl tbl 41).e lm.2.2.1 ρ' lm.2.1 = .exc)
    (hq : ∀ h' tk, WS A env l base S hc ρ h' → Mv S s.heap h' → Q .next { s with heap := h', toks := tk }) :
    wpAny (model prog w) A (exec (.If (.UnaryOp .Not (.Call (.Name "_law_is_refused" q1) [lamX lm] [] q2) q3) body [] q4) env) Q E s := by
  refine wpAny_If (isTrue_not (isTrue_plain (wr_bad hl W X T C hsc hcode hr hρ hv fun h' tk W' mv => wpAny_truthy_bool ?_)))
  show wpAny _ _ (execs [] env) _ _ _
  exact wpAny_execs_nil (hq h' tk W' mv)
end
end Mine
end

section
open PySem PySem.W PyProof.Rows PySem.Calls PySem.Spec
namespace Mine
section
variable {prog : Program} {w : World} {p : Program} {loose : List Str} {mean : ExcName → Option Value} {mg mb : Str → Option Value}
variable {A : Around} {env : Env} {l : List Env} {base hc : Heap} {S : Addr} {s : Shared} {E : Value → Shared → Prop}

theorem wr_walk {k : Str} (hk : k ∈ k9) (W : WS A env l base S hc [("kind", .str k)] s.heap) (X : (KK w).In base) (T : Top p loose mean mg mb base) (C : CodeHd base 175 171) (hsc : env.scope = wrS) (hcode : env.code = .ref 175) (hr : Room A 43) {Q : Flow → Shared → Prop}
    (hq : ∀ ρ' h' tk, WS A env l base S hc ρ' h' → Q (.ret (.bool true)) { s with heap := h', toks := tk }) :
    wpAny (model prog w) A (execs (fnAt "_law_words_right" 176).body env) Q E s := by
  have kb : KB (KK w) p loose mg mb base := ⟨X, topRead_of T⟩
  have hr' : Room A 41 := hr.le (by omega)
  have ok : ∀ x, stepSS.okName wrS x = true → stepSS.okName env.scope x = true := fun x h => by rw [hsc]; exact h
  have kd : ∀ x c, wrS.names.lookup x = some c → env.scope.names.lookup x = some c := fun x c h => by rw [hsc]; exact h
  have hg1 := kd "_law_one" .globalImplicit (by kernel_rfl)
  have hsrc := kd "source" .local (by kernel_rfl)
  rw [wr_body]
  refine wpAny_execs_cons ?_
  obtain ⟨p1, p2, p3, p4, p5, k1, e0⟩ := wr0_is
  rw [e0]
  refine ws_three (n := 41) W kb hr' (by rw [hsc]; exact wr0_e k hk) rfl rfl (ok _ (by decide +kernel)) (by decide) (ok _ (by decide +kernel)) (by decide) (ok _ (by decide +kernel)) (by decide) fun h₁ tk₁ W1 => ?_
  show wpAny _ _ (execs [wr 1, wr 2, wr 3, wr 4, wr 5, wr 6, wr 7] _) _ _ _
  refine wpAny_execs_cons ?_
  obtain ⟨p1, p2, p3, p4, p5, k1, k2, q1, q2, q3, q4, q5, q6, e1⟩ := wr1_is
  rw [e1]
  refine ws_pair (s := { s with heap := h₁, toks := tk₁ }) W1 (one_eval (n := 41) (ds := [.int (rowI k).1, .int (rowI k).2.1, .int 1]) kb hr' hg1 hsrc (noStars_cons st1a).1 (by rw [hsc]; exact wr1a_e k _ _ _) rfl rfl (by simp) (by simp))
    (one_eval (n := 41) (ds := [.int ((rowI k).1 + 1), .int (rowI k).2.1, .int 3]) kb hr' hg1 hsrc (noStars_cons st1b).1 (by rw [hsc]; exact wr1b_e k _ _ _) rfl rfl (by simp) (by simp)) rfl (swapped_none (kd "a" .cell (by kernel_rfl)) (kd "b" .cell (by kernel_rfl))) rfl rfl
    (ok _ (by decide +kernel)) (by decide) (ok _ (by decide +kernel)) (by decide) fun d1 d2 h₂ tk₂ m1 m2 W2 => ?_
  obtain ⟨a, ha, rfl⟩ : ∃ a, a ∈ asOf k ∧ d1 = .int a := by
    simp only [List.mem_cons, List.not_mem_nil, or_false] at m1
    rcases m1 with rfl | rfl | rfl
    · exact ⟨_, .head _, rfl⟩
    · exact ⟨_, .tail _ (.head _), rfl⟩
    · exact ⟨_, .tail _ (.tail _ (.head _)), rfl⟩
  obtain ⟨b, hb, rfl⟩ : ∃ b, b ∈ bsOf k ∧ d2 = .int b := by
    simp only [List.mem_cons, List.not_mem_nil, or_false] at m2
    rcases m2 with rfl | rfl | rfl
    · exact ⟨_, .head _, rfl⟩
    · exact ⟨_, .tail _ (.head _), rfl⟩
    · exact ⟨_, .tail _ (.tail _ (.head _)), rfl⟩
  show wpAny _ _ (execs [wr 2, wr 3, wr 4, wr 5, wr 6, wr 7] _) _ _ _
  refine wpAny_execs_cons ?_
  obtain ⟨p1, p2, p3, p4, p5, k1, k2, q1, q2, q3, q4, q5, q6, r1, r2, e2⟩ := wr2_is
  rw [e2]
  obtain ⟨o1, o2, o3⟩ := listOps w
  obtain ⟨u1, u2, u3⟩ := listLooks w
  refine ws_pair (s := { s with heap := h₂, toks := tk₂ }) W2 (one_evalK (n := 41) kb hr' hg1 hsrc (kd _ _ (by kernel_rfl)) (by decide) (glob_ops w) o1 (fun v hv => strIn_ok (List.all_eq_true.mp o2 v hv)) (by omega) (by omega))
    (one_evalK (n := 41) kb hr' hg1 hsrc (kd _ _ (by kernel_rfl)) (by decide) (glob_looks w) u1 (fun v hv => strIn_ok (List.all_eq_true.mp u2 v hv)) (by omega) (by omega)) rfl (swapped_none (kd "operator_now" .cell (by kernel_rfl)) (kd "look" .cell (by kernel_rfl))) rfl rfl
    (ok _ (by decide +kernel)) (by decide) (ok _ (by decide +kernel)) (by decide) fun d1 d2 h₃ tk₃ m1 m2 W3 => ?_
  obtain ⟨op, hop, rfl⟩ := m1
  obtain ⟨lk, hlk, rfl⟩ := m2
  obtain ⟨⟨c1, hc1⟩, c2, hc2⟩ := ok_fact hk ha hb hop hlk
  show wpAny _ _ (execs [wr 3, wr 4, wr 5, wr 6, wr 7] _) _ _ _
  refine wpAny_execs_cons ?_
  obtain ⟨p0, p1, p2, p3, k1, q1, q2, q3, q4, e3⟩ := wr3_is
  rw [e3]
  refine wpAny_If (isTrue_or (isTrue_plain (wr_ok (s := { s with heap := h₃, toks := tk₃ }) (lm := lm1) (ρ' := [("kind", .str k), ("operator_now", .str op), ("a", .int a), ("b", .int b)]) (by simp) W3 X T C hsc hcode hr (hρ_of fun q hq => ?_) (by rw [lm1_e]; exact hc1) fun h₄ tk₄ W4 _ => wpAny_truthy_bool ?_)))
  · simp only [List.mem_cons, List.not_mem_nil, or_false] at hq
    rcases hq with rfl | rfl | rfl | rfl <;> exact ⟨by kernel_rfl, by kernel_rfl, by kernel_rfl⟩
  rw [if_neg Bool.false_ne_true]
  refine isTrue_or (isTrue_plain (wr_ok (s := { s with heap := h₄, toks := tk₄ }) (lm := lm2) (ρ' := [("look", .str lk), ("a", .int a), ("b", .int b)]) (by simp) W4 X T C hsc hcode hr (hρ_of fun q hq => ?_) (by rw [lm2_e]; exact hc2) fun h₅ tk₅ W5 _ => wpAny_truthy_bool ?_))
  · simp only [List.mem_cons, List.not_mem_nil, or_false] at hq
    rcases hq with rfl | rfl | rfl <;> exact ⟨by kernel_rfl, by kernel_rfl, by kernel_rfl⟩
  rw [if_neg Bool.false_ne_true]
  refine isTrue_or_nil ?_
  rw [if_neg Bool.false_ne_true]
  refine wpAny_execs_nil ?_
  show wpAny _ _ (execs [wr 4, wr 5, wr 6, wr 7] _) _ _ _
  refine wpAny_execs_cons ?_
  obtain ⟨p1, p2, q1, q2, q3, e4⟩ := wr4_is
  rw [e4]
  refine ws_one (s := { s with heap := h₅, toks := tk₅ }) W5 (one_eval (n := 41) (ds := nones10.map .str) kb hr' hg1 hsrc (noStars_cons st4).1 (by rw [hsc]; exact wr4_e _) rfl rfl (by decide) (by decide)) rfl (ok _ (by decide +kernel)) (by decide) fun d h₆ tk₆ md W6 => ?_
  obtain ⟨x, hx, rfl⟩ := List.mem_map.mp md
  show wpAny _ _ (execs [wr 5, wr 6, wr 7] _) _ _ _
  refine wpAny_execs_cons ?_
  obtain ⟨p1, p2, e5⟩ := wr5_is
  rw [e5]
  refine ws_for (s := { s with heap := h₆, toks := tk₆ }) (n := 41) (ds := [.str x, .str lk]) W6 kb hr' (ok _ (by decide +kernel)) (by decide) (by kernel_rfl) (by rw [hsc]; exact wr5_e _ _ _) rfl rfl (fun v => by kernel_rfl) (fun d hd h tk Q' E' W' hq' => ?_) fun h₇ tk₇ W7 => ?_
  · obtain ⟨y, hy, rfl⟩ : ∃ y, y ∈ nones10 ++ looks6 ∧ d = .str y := by
      simp only [List.mem_cons, List.not_mem_nil, or_false] at hd
      rcases hd with rfl | rfl
      · exact ⟨x, List.mem_append_left _ hx, rfl⟩
      · exact ⟨lk, List.mem_append_right _ hlk, rfl⟩
    refine wpAny_execs_cons ?_
    obtain ⟨q1, q2, q3, q4, p1, p2, k1, ei⟩ := if3_is
    rw [ei]
    refine wr_ifnot (s := { s with heap := h, toks := tk }) (lm := lm3) (ρ' := [("kind", .str k), ("word", .str y), ("a", .int a), ("b", .int b)]) (by simp) W' X T C hsc hcode hr (hρ_of fun q hq => ?_) (by rw [lm3_e]; exact bad1 hy) fun h' tk' W'' mv => ?_
    · simp only [List.mem_cons, List.not_mem_nil, or_false] at hq
      rcases hq with rfl | rfl | rfl | rfl <;> exact ⟨by kernel_rfl, by kernel_rfl, by kernel_rfl⟩
    exact wpAny_execs_nil (hq' h' tk' W'' mv)
  show wpAny _ _ (execs [wr 6, wr 7] _) _ _ _
  refine wpAny_execs_cons ?_
  obtain ⟨p1, p2, e6⟩ := wr6_is
  rw [e6]
  refine ws_for (s := { s with heap := h₇, toks := tk₇ }) (n := 41) (ds := [.str x, .str op]) W7 kb hr' (ok _ (by decide +kernel)) (by decide) (by kernel_rfl) (by rw [hsc]; exact wr6_e _ _ _ _) rfl rfl (fun v => by kernel_rfl) (fun d hd h tk Q' E' W' hq' => ?_) fun h₈ tk₈ W8 => ?_
  · obtain ⟨y, hy, rfl⟩ : ∃ y, y ∈ nones10 ++ ops10 ∧ d = .str y := by
      simp only [List.mem_cons, List.not_mem_nil, or_false] at hd
      rcases hd with rfl | rfl
      · exact ⟨x, List.mem_append_left _ hx, rfl⟩
      · exact ⟨op, List.mem_append_right _ hop, rfl⟩
    refine wpAny_execs_cons ?_
    obtain ⟨q1, q2, q3, q4, p1, p2, k1, ei⟩ := if4_is
    rw [ei]
    refine wr_ifnot (s := { s with heap := h, toks := tk }) (lm := lm4) (ρ' := [("word", .str y), ("a", .int a), ("b", .int b)]) (by simp) W' X T C hsc hcode hr (hρ_of fun q hq => ?_) (by rw [lm4_e]; exact bad2 hy) fun h' tk' W'' mv => ?_
    · simp only [List.mem_cons, List.not_mem_nil, or_false] at hq
      rcases hq with rfl | rfl | rfl <;> exact ⟨by kernel_rfl, by kernel_rfl, by kernel_rfl⟩
    refine wpAny_execs_cons ?_
    obtain ⟨q1, q2, q3, q4, p1, p2, k1, ej⟩ := if5_is
    rw [ej]
    refine wr_ifnot (s := { s with heap := h', toks := tk' }) (lm := lm5) (ρ' := [("word", .str y)]) (by simp) W'' X T C hsc hcode hr (hρ_of fun q hq => ?_) (by rw [lm5_e]; exact bad2 hy) fun h'' tk'' W3 mv2 => ?_
    · simp only [List.mem_cons, List.not_mem_nil, or_false] at hq
      rcases hq with rfl
      exact ⟨by kernel_rfl, by kernel_rfl, by kernel_rfl⟩
    exact wpAny_execs_nil (hq' h'' tk'' W3 (mv.trans mv2))
  show wpAny _ _ (execs [wr 7] _) _ _ _
  refine wpAny_execs_cons ?_
  obtain ⟨p1, p2, k1, e7⟩ := wr7_is
  rw [e7]
  exact wpAny_Return_some (wpAny_Constant_bool (hq _ h₈ tk₈ W8))
end
end Mine
end

section
open PySem PySem.W PyProof.Rows PySem.Calls PySem.Spec
namespace Mine
noncomputable abbrev wrQ : Str := (fnAt "_law_words_right" 176).qual ++ ".<locals>." ++ "<lambda>"
theorem wr_names : wrS.names.lookup ("kind" : Str) = some NameKind.cell ∧ wrS.names.lookup ("source" : Str) = some NameKind.local ∧ (∀ n, ((cellsFrom n wrS.names []).lookup ("kind" : Str)).isSome = true) :=
  ⟨by kernel_rfl, by kernel_rfl, fun n => cellsFrom_some _ _ _ (.inl (by kernel_rfl))⟩
section
variable {prog : Program} {w : World} {p : Program} {loose : List Str} {mean : ExcName → Option Value} {mg mb : Str → Option Value}
variable {A : Around} {l : List Env} {base : Heap} {S : Addr} {s : Shared} {E : Value → Shared → Prop}

theorem rims_call {k : Str} {t : Tok} (hk : k ∈ k9) (kb : KB (KK w) p loose mg mb base) (B : Below A base l s.heap) (hh : A.handled = none) (hr : Room A 61) {Q : Value → Shared → Prop}
    (hq : ∀ h' tk, s.heap.StaysIn h' → Q (.bool true) { s with heap := h', toks := tk }) : wpAny (model prog w) A (call (.ref 181) [.str k t]) Q E s := by
  have hl : ((fnAt "_law_rims_right" 181).pars.length == [PyData.str k].length) = true := by kernel_rfl
  have e : tbl.fns "_law_rims_right" = some (fnAt "_law_rims_right" 181) := by kernel_rfl
  have Z : Gives (model prog w) A base l (.ref 45) Rd (call (.ref 181) [.str k t]) (rims k) s := by
    unfold rims callF
    rw [e]
    dsimp only
    rw [if_pos hl]
    exact callFn_sound (n := 60) (cls := .ref 45) (sound (cx (w := w) (prog := prog) (p := p) (loose := loose) (mg := mg) (mb := mb)) 60) kb B hh hr (fn_law_rims_right w) (vs := [.str k t]) (ds := [.str k]) (.cons (.str k t) .nil) hl
  rw [rims_k k hk] at Z
  refine Z Q E (by intro z; cases z) (fun d ed v h' tk k' r => ?_) (fun ex => by cases ex)
  cases ed
  obtain rfl := r.bool_inv
  exact hq h' tk k'

theorem words_call {k : Str} {t : Tok} (hk : k ∈ k9) (X : (KK w).In base) (T : Top p loose mean mg mb base) (C : CodeHd base 175 171) (B : Below A base l s.heap) (hh : A.handled = none) (hr : Room A 44) (hS : base.get? S = none) (hT : base.get? 171 = none)
    (sNot : S ∉ l.filterMap (·.frame)) (src : Src s.heap S) (tab : Tab wrQ s.heap) {Q : Value → Shared → Prop}
    (hq : ∀ h' tk, base.StaysIn h' → Mv S s.heap h' → Src h' S → Tab wrQ h' → Q (.bool true) { s with heap := h', toks := tk }) :
    wpAny (model prog w) A (call (.ref 176) [.ref S, .str k t]) Q E s := by
  have X1 := X.keeps B.stays
  have T1 := (topRead_of T).keeps B.stays
  have hr1 := hr.1
  refine wpAny_call (codeAny_call_cells (fd := fdOf w "_law_words_right" 176) (body := (fnAt "_law_words_right" 176).body) (binds := [("source", .ref S), ("kind", .str k t)]) (by omega) (X1 _ _ (show (KK w).lookup 176 = some ⟨.type "function", none, .func (fdOf w "_law_words_right" 176), #[]⟩ by kernel_rfl)) rfl T1.nolimit (codeRec_of X1 (by kernel_rfl)) rfl
    (by kernel_rfl) rfl (fun x hx => ?_) (fun s₁ x => ?_) (by kernel_rfl) (by kernel_rfl) wr_kind)
  · simp only [List.mem_cons, List.not_mem_nil, or_false] at hx
    rcases hx with rfl | rfl
    · exact .inl wr_names.2.1
    · exact .inr ⟨wr_names.1, wr_names.2.2 _⟩
  generalize he : callEnvC (fdOf w "_law_words_right" 176) s.heap.objs.size 176 = env at x ⊢
  have e1 : env.scope = wrS := by rw [← he]; rfl
  have e2 : env.frame = some env.locals := by rw [← he]; rfl
  have e3 : env.code = .ref 175 := by rw [← he]; rfl
  have e4 : env.globals = mainGlobals := by rw [← he]; rfl
  have e5 : env.builtins = builtinsNs := by rw [← he]; rfl
  have e6 : env.locals = s.heap.objs.size := by rw [← he]; rfl
  have e7 : env.qual ++ "<lambda>" = wrQ := by rw [← he]; rfl
  have hcl : ∀ y, env.scope.names.lookup y = some .cell → ∃ c, env.cells.lookup y = some c := fun y hy => by
    rw [e1] at hy
    rw [← he]
    exact Option.isSome_iff_exists.mp (cellsFrom_some _ _ _ (.inl hy))
  obtain ⟨hh1, tk1, hs1⟩ := x.toInCall.same
  have hst := x.toInCall.keep
  have hfr : (A.deeper env).frames = some (env :: l) := Around.frames_deeper B.stack
  have hfresh : ∀ {c}, s.heap.objs.size ≤ c → s.heap.get? c = none := fun hc => Heap.get?_none_of_le hc
  have hLb : base.get? env.locals = none := fresh_of_stays B.stays (by rw [e6]; exact hfresh (Nat.le_refl _))
  have hks : env.kindOf "source" = some .local := by unfold Env.kindOf; rw [e1]; exact wr_names.2.1
  have hkk : env.kindOf "kind" = some .cell := by unfold Env.kindOf; rw [e1]; exact wr_names.1
  have hkn : ¬ env.kindOf "kind" = some .local := by rw [hkk]; decide
  have hSz : S < s.heap.objs.size := by
    obtain ⟨_, _, _, _, ⟨o, ho, _⟩, _⟩ := src
    exact Heap.lt_size ho
  have W : WS (A.deeper env) env l base S s.heap [("kind", .str k)] s₁.heap := by
    refine ⟨⟨⟨hfr, stays_trans B.stays hst, .cons (by rw [e1, wr_kind]; decide) e2 x.toInCall.ns hLb (B.frames.of_keeps fun b o e _ => ⟨o, hst b o e, rfl⟩)⟩, hh, by rw [e1]; exact wr_kind, e4, e5, hcl, fun y d hy => ?_⟩,
      src_mv (fun o e => ⟨o.slots, hst _ _ e⟩) src, ?_, hS, hT, ?_, e2, ⟨_, x.toInCall.ns, ?_⟩, fun y c hc => ?_, fun y z c h1 h2 => name_of_addr x.apart (mem_of_lookup h1) (mem_of_lookup h2), fun y d hy => ?_, .of_stays hst, by rw [e6]; exact hfresh (Nat.le_refl _)⟩
    · rw [List.lookup_cons] at hy
      split at hy
      · rename_i q; cases hy
        rw [beq_iff_eq.mp q]
        obtain ⟨c, hc⟩ := hcl "kind" (by rw [e1]; exact wr_names.1)
        have hcell := x.cell "kind" c hc
        refine ⟨by decide, by decide, .str k t, .inr ⟨.inl hkk, c, hc, ?_⟩, .str k t⟩
        have : bindC env.kindOf [(("source" : Str), Value.ref S), ("kind", .str k t)] (fun _ => none) "kind" = some (.str k t) := by
          simp only [bindC, if_neg hkn, if_true]
        rw [this] at hcell
        exact hcell
      · simp at hy
    · rw [e7]; exact tab_mv (fun o e => hst _ _ e) (fun b o _ _ e => ⟨o.slots, hst _ _ e⟩) tab
    · rw [List.filterMap_cons, e2]
      intro hm
      rcases List.mem_cons.mp hm with q | q
      · rw [e6] at q; rw [q] at hSz; exact absurd hSz (Nat.lt_irrefl _)
      · exact sNot q
    · simp only [bindL, if_pos hks, if_neg hkn, if_true]
    · have hlt := x.above y c (mem_of_lookup hc)
      have : s.heap.get? c = none := hfresh (by rw [e6] at hlt; exact Nat.le_of_lt hlt)
      exact ⟨⟨fresh_of_stays B.stays this, this⟩, _, x.cell y c hc⟩
    · rw [List.lookup_cons] at hy
      split at hy
      · cases hy; rfl
      · simp at hy
  have Z := @wr_walk prog w p loose mean mg mb (A.deeper env) env l base s.heap S s₁ (fun e s' => wpAny (model prog w) (A.deeper env) (leaving env e) (fun _ s'' => E e s'') (fun e' s'' => E e' s'') s') k hk W X T C e1 e3 hr.deeper
    (fun fl s' => Q (match fl with | .ret v => v | _ => .none) s') (fun ρ' h' tk W' => by
      rw [hs1]
      exact hq h' tk W'.eg.B.stays W'.mvc W'.src (by rw [← e7]; exact W'.tab))
  generalize (fnAt "_law_words_right" 176).body = bd at Z ⊢
  refine wpAny_mono Z (fun f s' hf => ?_) (fun e s' he => ?_)
  · cases f <;> exact hf
  · exact he
end
end Mine
end

section
open PySem PySem.W PyProof.Rows PySem.Calls PySem.Spec
namespace Mine
noncomputable abbrev lpS : Scope := (fnAt "_law_pool" 141).scope
noncomputable abbrev lpEnv (L : Addr) : Env := envOf "_law_pool" lpS L 141 (.ref 140)
noncomputable abbrev lp (i : Nat) : Stmt := stAt "_law_pool" 141 i
theorem lp_body : (fnAt "_law_pool" 141).body = [lp 0, lp 1, lp 2, lp 3, lp 4] := by kernel_rfl
theorem lp_nocell : ∀ x ∈ lpS.names, x.2 ≠ .cell := by decide +kernel
theorem lp_kind : lpS.kind = .function := by kernel_rfl
theorem lp_env (w : World) (L : Addr) : callEnv (fdOf w "_law_pool" 141) L 141 = lpEnv L := by kernel_rfl
theorem lp_script : lpS.names.lookup ("script" : Str) = some NameKind.local := by kernel_rfl
theorem lp_k : lpS.names.lookup ("k" : Str) = some NameKind.local := by kernel_rfl
theorem lp_cell : lpS.names.lookup ("cell" : Str) = some NameKind.local := by kernel_rfl
theorem lp_big : lpS.names.lookup ("big" : Str) = some NameKind.local := by kernel_rfl
theorem lp_mixed : lpS.names.lookup ("mixed" : Str) = some NameKind.local := by kernel_rfl
theorem lp_int : lpS.names.lookup ("int" : Str) = some NameKind.globalImplicit := by kernel_rfl
theorem lp_len : lpS.names.lookup ("len" : Str) = some NameKind.globalImplicit := by kernel_rfl
theorem lp_max : lpS.names.lookup ("max" : Str) = some NameKind.globalImplicit := by kernel_rfl
theorem lp0_is : ∃ p1 p2 p3 k, lp 0 = .Assign [.Name "cell" p1] (.Constant (.int 0) k p2) p3 := by exact ⟨_, _, _, _, rfl⟩
theorem lp1_is : ∃ p1 p2 p3 p4 p5 p6 p7 p8 p9 q1 q2, lp 1 = .If (.Compare (.Name "k" p1) [.Lt] [.Call (.Name "len" p2) [.Name "script" p3] [] p4] p5) [.Assign [.Name "cell" p6] (.Subscript (.Name "script" p7) (.Name "k" p8) p9) q1] [] q2 := by
  exact ⟨_, _, _, _, _, _, _, _, _, _, _, rfl⟩
theorem lp2_is : ∃ p1 p2 p3 p4 p5 p6 p7 p8 p9 q1 q2 q3 q4 k, lp 2 = .Assign [.Name "big" p1] (.Call (.Name "max" p2) [.Call (.Name "int" p3) [.Name "cell" p4] [] p5, .Call (.Name "int" p6) [.BinOp (.UnaryOp .USub (.Constant (.int 1) k p7) p8) .Sub (.Name "cell" p9) q1] [] q2] [] q3) q4 := by
  exact ⟨_, _, _, _, _, _, _, _, _, _, _, _, _, _, rfl⟩
theorem lp3_is : ∃ p1 p2 p3 p4 p5 p6 p7 p8 p9 q1 q2 q3 q4 q5 q6 q7 q8 q9 r1 r2 r3 r4 r5 r6 r7 k1 k2 k3 k4 k5 k6, lp 3 = .Assign [.Name "mixed" p1] (.BinOp (.Call (.Name "int" p2) [.BinOp (.BinOp (.BinOp (.BinOp (.BinOp (.Call (.Name "int" p3) [.Name "big" p4] [] p5) .Mod (.Constant (.int 2147483629) k1 p6) p7) .Add
    (.BinOp (.BinOp (.Constant (.int 7919) k2 p8) .Mult (.Name "k" p9) q1) .Mult (.Name "k" q2) q3) q4) .Add (.BinOp (.Constant (.int 31) k3 q5) .Mult (.Name "k" q6) q7) q8) .Add (.Constant (.int 17) k4 q9) r1) .Mult (.Constant (.int 48271) k5 r2) r3] [] r4) .Mod (.Constant (.int 2147483647) k6 r5) r6) r7 := by
  exact ⟨_, _, _, _, _, _, _, _, _, _, _, _, _, _, _, _, _, _, _, _, _, _, _, _, _, _, _, _, _, _, _, rfl⟩
theorem lp4_is : ∃ p1 p2 p3 p4 p5 p6 p7 p8 p9 q1 q2 q3 k1 k2, lp 4 = .Return (some (.List [.BinOp (.Name "big" p1) .Mult (.Call (.Name "int" p2) [.Compare (.Name "big" p3) [.GtE] [.BinOp (.Constant (.int 10) k1 p4) .Pow (.Constant (.int 18) k2 p5) p6] p7] [] p8) p9, .Name "mixed" q1] q2)) q3 := by
  exact ⟨_, _, _, _, _, _, _, _, _, _, _, _, _, _, rfl⟩

section
variable {prog : Program} {w : World} {p : Program} {loose : List Str} {mg mb : Str → Option Value}
variable {A : Around} {l : List Env} {base h₀ : Heap} {s : Shared} {E : Value → Shared → Prop} {L : Addr} {m : Str → Option Value}

theorem lp_intv {p1 p2 : Pos} {e : Expr} {Q : Value → Shared → Prop} (kb : KB (KK w) p loose mg mb base) (kk : base.StaysIn s.heap) (he : starEach [e] (lpEnv L) = (false, eval e (lpEnv L)) :: starEach [] (lpEnv L))
    (h : wpAny (model prog w) A (eval e (lpEnv L)) (fun v s₁ => (∃ i t, v = .int i t ∧ Q (.int i t) s₁) ∨ ∃ b, v = .bool b ∧ Q (.int (if b then 1 else 0) s₁.toks) { s₁ with toks := s₁.toks + 1 }) E s) : wpAny (model prog w) A (eval (.Call (.Name "int" p1) [e] [] p2) (lpEnv L)) Q E s := by
  have X := kb.X.keeps kk
  have TR := kb.T.keeps kk
  refine Call_ (Name_function_global lp_kind lp_int (loadGlobal_builtin (env := lpEnv L) TR.g (mg_none_of X TR.g (by kernel_rfl)) TR.b ((TR.builtins "int" (by decide +kernel)).trans PyProof.Rows.Boot.«int») ?_))
  refine PyProof.Rows.callWith_type1 ?_ he rfl
  rw [he]
  refine Calls.spliced_cons (wpAny_mono h (fun v s₁ q => ?_) fun _ _ e => e)
  rcases q with ⟨i, t, rfl, q⟩ | ⟨b, rfl, q⟩
  · exact PyProof.Rows.args_nil (call_int_int q)
  · exact PyProof.Rows.args_nil (call_int_bool q)

theorem lp_name {x : Str} {p1 : Pos} {v : Value} {Q : Value → Shared → Prop} (F : Fr h₀ L s.heap m) (hx : lpS.names.lookup x = some .local) (mt : m x = some v) (hd : (x == ("__debug__" : Str)) = false) (hq : Q v s) : wpAny (model prog w) A (eval (.Name x p1) (lpEnv L)) Q E s :=
  wpAny_Name (wpAny_loadName_local lp_kind hx F.ns mt hq) hd
theorem lp_store {x : Str} {v : Value} {Q : Unit → Shared → Prop} (F : Fr h₀ L s.heap m) (hx : lpS.names.lookup x = some .local) (h : ∀ h', Fr h₀ L h' (fun y => if y = x then some v else m y) → Q () { s with heap := h', toks := s.toks + 1 }) :
    wpAny (model prog w) A (storeName (lpEnv L) x v) Q E s := st F h lp_kind hx

theorem lp_end4 (kb : KB (KK w) p loose mg mb base) (kk : base.StaysIn h₀) (F : Fr h₀ L s.heap m) {B M c : Int} {tB tM tc : Tok} (hB : 0 ≤ B) (mM : m "mixed" = some (.int M tM)) (hM : 0 ≤ M) (hM2 : M < 2147483647) (hc : c = 0 ∨ c = 1) {q1 q2 : Pos} {Q : Flow → Shared → Prop}
    (hq : ∀ S h' tk, h₀.StaysIn h' → h₀.get? S = none → Src h' S → Q (.ret (.ref S)) { s with heap := h', toks := tk }) :
    wpAny (model prog w) A (binaryOp .Mult (.int B tB) (.int c tc)) (fun v s' => wpAny (model prog w) A (spliced (backTo q2 (starEach [.Name "mixed" q1] (lpEnv L)))) (fun vs s₂ => wpAny (model prog w) A (newList (v :: vs)) (fun v => Q (.ret v)) E s₂) E s') E s := by
  refine mul_int ?_ (IntMulOk.of_right (intBits_le_64 (by rcases hc with rfl | rfl <;> decide) (by rcases hc with rfl | rfl <;> decide)))
  refine PyProof.Rows.args_cons (lp_name (s := { s with toks := s.toks + 1 }) F lp_mixed mM (by decide) (PyProof.Rows.args_nil (wpAny_newObj_type ?_ (by show 2 ≤ sizeLine; rw [sizeLine_eq]; omega))))
  refine hq _ _ (s.toks + 1) (fun b o q => Heap.get?_push_of_some _ (F.keep b o q)) (fresh_of_stays F.keep (Heap.get?_none_of_le (Nat.le_refl _))) ⟨B * c, M, s.toks, tM, ⟨_, Heap.get?_push_size _ rfl, rfl, _, rfl⟩, ?_, hM, hM2⟩
  rcases hc with rfl | rfl
  · simp
  · simpa using hB

theorem lp_end3 (kb : KB (KK w) p loose mg mb base) (kk : base.StaysIn h₀) (F : Fr h₀ L s.heap m) {B M : Int} {tB tM : Tok} (hB : 0 ≤ B) (mb1 : m "big" = some (.int B tB)) (hM : 0 ≤ M) (hM2 : M < 2147483647) {Q : Flow → Shared → Prop}
    (hq : ∀ S h' tk, h₀.StaysIn h' → h₀.get? S = none → Src h' S → Q (.ret (.ref S)) { s with heap := h', toks := tk }) :
    wpAny (model prog w) A (storeName (lpEnv L) "mixed" (.int M tM)) (fun _ s' => wpAny (model prog w) A (execs [lp 4] (lpEnv L)) Q E s') E s := by
  have sb : ∀ {h m}, Fr h₀ L h m → base.StaysIn h := fun F => stays_trans kk F.keep
  refine lp_store F lp_mixed fun h₁ F1 => ?_
  have mB : (fun y => if y = ("mixed" : Str) then some (.int M tM) else m y) "big" = some (Value.int B tB) := (if_neg (by decide)).trans mb1
  have mM : (fun y => if y = ("mixed" : Str) then some (.int M tM) else m y) "mixed" = some (Value.int M tM) := if_pos rfl
  generalize (fun y => if y = ("mixed" : Str) then some (.int M tM) else m y) = m1 at F1 mB mM
  obtain ⟨p1, p2, p3, p4, p5, p6, p7, p8, p9, q1, q2, q3, k1, k2, e4⟩ := lp4_is
  refine wpAny_execs_cons ?_
  rw [e4]
  refine wpAny_Return_some (List_ (PyProof.Rows.args_cons (wpAny_BinOp (lp_name (s := { s with heap := h₁, toks := s.toks + 1 }) F1 lp_big mB (by decide) (lp_intv (s := { s with heap := h₁, toks := s.toks + 1 }) kb (sb F1) rfl (wpAny_Compare1 (lp_name (s := { s with heap := h₁, toks := s.toks + 1 }) F1 lp_big mB (by decide) ?_)))))))
  refine wpAny_BinOp (wpAny_Constant_int (wpAny_Constant_int (pow_int_small (by decide) (by decide) (by decide) (ge_int (.inr ⟨_, rfl, ?_⟩)))))
  refine lp_end4 kb kk F1 hB mM hM hM2 ?_ hq
  split
  · exact Or.inr rfl
  · exact Or.inl rfl

theorem lp_end2 (kb : KB (KK w) p loose mg mb base) (kk : base.StaysIn h₀) (F : Fr h₀ L s.heap m) {B : Int} {tB tk0 : Tok} (hB : 0 ≤ B) (mk : m "k" = some (.int 0 tk0)) {Q : Flow → Shared → Prop}
    (hq : ∀ S h' tk, h₀.StaysIn h' → h₀.get? S = none → Src h' S → Q (.ret (.ref S)) { s with heap := h', toks := tk }) :
    wpAny (model prog w) A (storeName (lpEnv L) "big" (.int B tB)) (fun _ s' => wpAny (model prog w) A (execs [lp 3, lp 4] (lpEnv L)) Q E s') E s := by
  have sb : ∀ {h m}, Fr h₀ L h m → base.StaysIn h := fun F => stays_trans kk F.keep
  refine lp_store F lp_big fun h₁ F1 => ?_
  have mb1 : (fun y => if y = ("big" : Str) then some (.int B tB) else m y) "big" = some (Value.int B tB) := if_pos rfl
  have mk1 : (fun y => if y = ("big" : Str) then some (.int B tB) else m y) "k" = some (Value.int 0 tk0) := (if_neg (by decide)).trans mk
  generalize (fun y => if y = ("big" : Str) then some (.int B tB) else m y) = m1 at F1 mb1 mk1
  refine wpAny_execs_cons ?_
  obtain ⟨p1, p2, p3, p4, p5, p6, p7, p8, p9, q1, q2, q3, q4, q5, q6, q7, q8, q9, r1, r2, r3, r4, r5, r6, r7, k1, k2, k3, k4, k5, k6, e3⟩ := lp3_is
  rw [e3]
  refine wpAny_Assign_Name (wpAny_BinOp (lp_intv (s := { s with heap := h₁, toks := s.toks + 1 }) kb (sb F1) rfl (wpAny_BinOp (wpAny_BinOp (wpAny_BinOp (wpAny_BinOp (wpAny_BinOp (lp_intv (s := { s with heap := h₁, toks := s.toks + 1 }) kb (sb F1) rfl
    (lp_name (s := { s with heap := h₁, toks := s.toks + 1 }) F1 lp_big mb1 (by decide) (.inl ⟨_, _, rfl, ?_⟩))))))))))
  refine wpAny_Constant_int (mod_int' (by decide) ?_)
  refine wpAny_BinOp (wpAny_BinOp (wpAny_Constant_int (wpAny_Name (wpAny_loadName_local lp_kind lp_k F1.ns mk1 (mul_int ?_ (IntMulOk.of_right (intBits_le_64 (by decide) (by decide))))) (by decide))))
  refine wpAny_Name (wpAny_loadName_local lp_kind lp_k F1.ns mk1 (mul_int ?_ (IntMulOk.of_right (intBits_le_64 (by decide) (by decide))))) (by decide)
  refine add_int ?_
  refine wpAny_BinOp (wpAny_Constant_int (wpAny_Name (wpAny_loadName_local lp_kind lp_k F1.ns mk1 (mul_int ?_ (IntMulOk.of_right (intBits_le_64 (by decide) (by decide))))) (by decide)))
  refine add_int (wpAny_Constant_int (add_int (wpAny_Constant_int (mul_int (.inl ⟨_, _, rfl, ?_⟩) (IntMulOk.of_right (intBits_le_64 (by decide) (by decide)))))))
  refine wpAny_Constant_int (mod_int' (by decide) ?_)
  have hM : ∀ z : Int, 0 ≤ Int.fmod z 2147483647 ∧ Int.fmod z 2147483647 < 2147483647 := fun z => ⟨Int.fmod_nonneg_of_pos _ (by decide), Int.fmod_lt_of_pos _ (by decide)⟩
  exact lp_end3 (s := { s with heap := h₁, toks := _ }) kb kk F1 hB mb1 (hM _).1 (hM _).2 hq

theorem lp_end (kb : KB (KK w) p loose mg mb base) (kk : base.StaysIn h₀) (hh : A.handled = none) (F : Fr h₀ L s.heap m) {n : Int} {t tk0 : Tok} (mc : m "cell" = some (.int n t)) (mk : m "k" = some (.int 0 tk0)) {Q : Flow → Shared → Prop}
    (hq : ∀ S h' tk, h₀.StaysIn h' → h₀.get? S = none → Src h' S → Q (.ret (.ref S)) { s with heap := h', toks := tk }) :
    wpAny (model prog w) A (execs [lp 2, lp 3, lp 4] (lpEnv L)) Q E s := by
  have st : ∀ {h m}, Fr h₀ L h m → base.StaysIn h := fun F => stays_trans kk F.keep
  have X := kb.X.keeps (st F)
  have TR := kb.T.keeps (st F)
  refine wpAny_execs_cons ?_
  obtain ⟨p1, p2, p3, p4, p5, p6, p7, p8, p9, q1, q2, q3, q4, k1, e2⟩ := lp2_is
  rw [e2]
  refine wpAny_Assign_Name (Call_ (Name_function_global lp_kind lp_max (loadGlobal_builtin (env := lpEnv L) TR.g (mg_none_of X TR.g (by kernel_rfl)) TR.b ((TR.builtins "max" (by decide +kernel)).trans PyProof.Rows.Boot.«max») ?_)))
  refine PyProof.Rows.callWith_builtin1 (PyProof.Rows.args_cons (lp_intv kb (st F) rfl (lp_name F lp_cell mc (by decide) (.inl ⟨_, _, rfl, ?_⟩))))
  refine PyProof.Rows.args_cons (lp_intv kb (st F) rfl (wpAny_BinOp (UnaryOp_ (wpAny_Constant_int (neg_int ?_)))))
  refine wpAny_Name (wpAny_loadName_local lp_kind lp_cell F.ns mc (sub_int (.inl ⟨_, _, rfl, ?_⟩))) (by decide)
  refine PyProof.Rows.args_nil (PySem.max_two_ints hh fun h₁ tk₁ k₁ => ?_)
  have F1 : Fr h₀ L h₁ m := F.keeps k₁
  by_cases hc : (-1 - n) > n
  · rw [if_pos hc]
    exact lp_end2 (s := { s with heap := h₁, toks := tk₁ }) kb kk F1 (by omega) mk hq
  · rw [if_neg hc]
    exact lp_end2 (s := { s with heap := h₁, toks := tk₁ }) kb kk F1 (by omega) mk hq

theorem pool_call (kb : KB (KK w) p loose mg mb base) (B : Below A base l s.heap) (hh : A.handled = none) (hr : A.depth < recursionLimit) {Ls : Addr} {vs : List Value} {ns : List Int} (ls : s.heap.IsList Ls vs.toArray) (hi : IntsAre vs ns) (hfit : ns.length ≤ 63) {t0 : Tok} {Q : Value → Shared → Prop}
    (hq : ∀ S h' tk, s.heap.StaysIn h' → s.heap.get? S = none → Src h' S → Q (.ref S) { s with heap := h', toks := tk }) :
    wpAny (model prog w) A (call (.ref 141) [.ref Ls, .int 0 t0]) Q E s := by
  have X := kb.X.keeps B.stays
  have T := kb.T.keeps B.stays
  refine wpAny_call (codeAny_call_def (fd := fdOf w "_law_pool" 141) (body := (fnAt "_law_pool" 141).body) (binds := [("script", .ref Ls), ("k", .int 0 t0)]) hr (X _ _ (show (KK w).lookup 141 = some ⟨.type "function", none, .func (fdOf w "_law_pool" 141), #[]⟩ by kernel_rfl)) rfl T.nolimit (codeRec_of X (by kernel_rfl)) rfl
    (BindsTo.of_eq (by kernel_rfl)) lp_nocell (fun x hx => ?_) (fun h₁ hn₁ hk₁ => ?_) (by kernel_rfl) (by kernel_rfl) lp_kind)
  · simp only [List.mem_cons, List.not_mem_nil, or_false] at hx
    rcases hx with rfl | rfl
    · exact lp_script
    · exact lp_k
  rw [lp_env, lp_body]
  have F : Fr s.heap s.heap.objs.size h₁ (fun x => ([("script", .ref Ls), ("k", .int 0 t0)] : List (Str × Value)).reverse.lookup x) := ⟨hn₁, hk₁, Nat.le_refl _⟩
  have ms : (fun x => ([("script", .ref Ls), ("k", .int 0 t0)] : List (Str × Value)).reverse.lookup x) "script" = some (Value.ref Ls) := by kernel_rfl
  have mk : (fun x => ([("script", .ref Ls), ("k", .int 0 t0)] : List (Str × Value)).reverse.lookup x) "k" = some (Value.int 0 t0) := by kernel_rfl
  generalize (fun x => ([("script", .ref Ls), ("k", .int 0 t0)] : List (Str × Value)).reverse.lookup x) = m0 at F ms mk
  have fin : ∀ {m h tk n t}, Fr s.heap s.heap.objs.size h m → m "cell" = some (.int n t) → m "k" = some (.int 0 t0) → wpAny (model prog w) (A.deeper (lpEnv s.heap.objs.size)) (execs [lp 2, lp 3, lp 4] (lpEnv s.heap.objs.size)) (fun f s' => Q (match f with | .ret v => v | _ => .none) s')
      (fun e s' => wpAny (model prog w) (A.deeper (lpEnv s.heap.objs.size)) (leaving (lpEnv s.heap.objs.size) e) (fun _ s'' => E e s'') (fun e' s'' => E e' s'') s') { s with heap := h, toks := tk } := fun F mc mk => lp_end (A := A.deeper (lpEnv s.heap.objs.size)) (s := { s with heap := _, toks := _ }) kb B.stays hh F mc mk hq
  refine wpAny_mono (Q := fun f s' => Q (match f with | .ret v => v | _ => .none) s') (E := fun e s' => wpAny (model prog w) (A.deeper (lpEnv s.heap.objs.size)) (leaving (lpEnv s.heap.objs.size) e) (fun _ s'' => E e s'') (fun e' s'' => E e' s'') s') ?_ (fun f s' hf => by cases f <;> exact hf) (fun _ _ he => he)
  generalize s.heap.objs.size = L at *
  refine wpAny_execs_cons ?_
  obtain ⟨p1, p2, p3, k1, e0⟩ := lp0_is
  rw [e0]
  refine wpAny_Assign_Name (wpAny_Constant_int (lp_store (s := { s with heap := h₁, toks := _ }) F lp_cell fun h₂ F2 => ?_))
  have ms2 : (fun y => if y = ("cell" : Str) then some (.int 0 (s.toks + ([("script", Value.ref Ls), ("k", .int 0 t0)] : List (Str × Value)).length)) else m0 y) "script" = some (Value.ref Ls) := (if_neg (by decide)).trans ms
  have mk2 : (fun y => if y = ("cell" : Str) then some (.int 0 (s.toks + ([("script", Value.ref Ls), ("k", .int 0 t0)] : List (Str × Value)).length)) else m0 y) "k" = some (Value.int 0 t0) := (if_neg (by decide)).trans mk
  have mc2 : (fun y => if y = ("cell" : Str) then some (.int 0 (s.toks + ([("script", Value.ref Ls), ("k", .int 0 t0)] : List (Str × Value)).length)) else m0 y) "cell" = some (Value.int 0 (s.toks + ([("script", Value.ref Ls), ("k", .int 0 t0)] : List (Str × Value)).length)) := if_pos rfl
  generalize (fun y => if y = ("cell" : Str) then some (.int 0 (s.toks + ([("script", Value.ref Ls), ("k", .int 0 t0)] : List (Str × Value)).length)) else m0 y) = m2 at F2 ms2 mk2 mc2
  show wpAny _ _ (execs [lp 1, lp 2, lp 3, lp 4] _) _ _ _
  refine wpAny_execs_cons ?_
  obtain ⟨p1, p2, p3, p4, p5, p6, p7, p8, p9, q1, q2, e1⟩ := lp1_is
  rw [e1]
  have st2 := stays_trans B.stays F2.keep
  have X2 := kb.X.keeps st2
  have T2 := kb.T.keeps st2
  have ls2 : h₂.IsList Ls vs.toArray := let ⟨o, ho, r⟩ := ls; ⟨o, F2.keep _ _ ho, r⟩
  have hlen : vs.length = ns.length := by
    clear hq fin ls ls2 ms ms2
    induction hi with
    | nil => rfl
    | cons _ _ _ ih => simp; exact ih (by simp at hfit; omega)
  refine wpAny_If (wpAny_isTrue_Compare1 (lp_name (s := { s with heap := h₂, toks := _ }) F2 lp_k mk2 (by decide) (Call_ (Name_function_global lp_kind lp_len (loadGlobal_builtin (env := lpEnv L) T2.g (mg_none_of X2 T2.g (by kernel_rfl)) T2.b ((T2.builtins "len" (by decide +kernel)).trans PyProof.Rows.Boot.«len») ?_)))))
  refine PyProof.Rows.callWith_builtin1 (PyProof.Rows.args_cons (lp_name (s := { s with heap := h₂, toks := _ }) F2 lp_script ms2 (by decide) (PyProof.Rows.args_nil (Calls.call_len_list (s := { s with heap := h₂, toks := _ }) ls2 (by rw [List.size_toArray]; omega) (lt_int (wpAny_truthy_bool ?_))))))
  cases hi with
  | nil =>
    rw [if_neg (by simp)]
    exact wpAny_execs_nil (fin F2 mc2 mk2)
  | @cons n t vs ns hi' =>
    rw [if_pos (by simp)]
    refine wpAny_execs_cons (wpAny_Assign_Name (Subscript_ (lp_name (s := { s with heap := h₂, toks := _ }) F2 lp_script ms2 (by decide) (lp_name (s := { s with heap := h₂, toks := _ }) F2 lp_k mk2 (by decide) ?_))))
    refine PyProof.Rows.tail_any (ops := [.ref Ls, .int 0 t0]) ls2.typeIs slot_list_getitem.lookup (wpAny_getItem_list ls2 (by decide) (by decide) (x := .int n t) (by simp) ?_) rfl
    refine lp_store (s := { s with heap := h₂, toks := _ }) F2 lp_cell fun h₃ F3 => ?_
    exact wpAny_execs_nil (fin F3 (if_pos rfl) ((if_neg (by decide)).trans mk2))
end
end Mine
end

section
open PySem PySem.W PyProof.Rows PySem.Calls PySem.Spec
set_option maxHeartbeats 400000
namespace Mine
noncomputable abbrev laS : Scope := (fnAt "law" 186).scope
noncomputable abbrev la (i : Nat) : Stmt := stAt "law" 186 i
theorem la0_is : ∃ p1 p2 p3 p4 p5 p6 k, la 0 = .Assign [.Name "source" p1] (.Call (.Name "_law_pool" p2) [.Name "script" p3, .Constant (.int 0) k p4] [] p5) p6 := by exact ⟨_, _, _, _, _, _, _, rfl⟩
theorem la1_is : ∃ p1 p2, la 1 = .For (.Name "kind" p1) (valE (la 1)) [inFor (la 1) 0] [] p2 := by exact ⟨_, _, rfl⟩
theorem la1b_is : ∃ p1 p2 p3 p4 p5 p6 p7 p8 p9 q1 q2 q3 q4 k, inFor (la 1) 0 = .If (.BoolOp .Or [.UnaryOp .Not (.Call (.Name "_law_rims_right" p1) [.Name "kind" p2] [] p3) p4, .UnaryOp .Not (.Call (.Name "_law_words_right" p5) [.Name "source" p6, .Name "kind" p7] [] p8) p9] q1)
    [.Return (some (.Constant (.bool false) k q2)) q3] [] q4 := by exact ⟨_, _, _, _, _, _, _, _, _, _, _, _, _, _, rfl⟩
theorem la1_e : (lvl tbl 5).e laS [] (valE (la 1)) = .ok (.list (k9.map .str)) := by kernel_rfl
theorem la_kind : laS.kind = .function := by kernel_rfl
theorem la_nocell : ∀ x ∈ laS.names, x.2 ≠ .cell := by decide +kernel
theorem la_n1 : laS.names.lookup ("script" : Str) = some NameKind.local := by kernel_rfl
theorem la_n2 : laS.names.lookup ("source" : Str) = some NameKind.local := by kernel_rfl
theorem la_n3 : laS.names.lookup ("kind" : Str) = some NameKind.local := by kernel_rfl
theorem la_n4 : laS.names.lookup ("_law_pool" : Str) = some NameKind.globalImplicit := by kernel_rfl
theorem la_n5 : laS.names.lookup ("_law_rims_right" : Str) = some NameKind.globalImplicit := by kernel_rfl
theorem la_n6 : laS.names.lookup ("_law_words_right" : Str) = some NameKind.globalImplicit := by kernel_rfl
noncomputable abbrev laEnv (nm : Str) (L fa : Addr) (cd : Value) : Env := envOf nm laS L fa cd

structure LS (base : Heap) (L S : Addr) (h : Heap) : Prop where
  stays : base.StaysIn h
  loc : ∃ m, h.Ns L m ∧ m "source" = some (.ref S)
  src : Src h S
  tab : Tab wrQ h

section
variable {prog : Program} {w : World} {p : Program} {loose : List Str} {mean : ExcName → Option Value} {mg mb : Str → Option Value}
variable {base h h' : Heap} {s : Shared} {E : Value → Shared → Prop} {L S fa : Addr} {nm : Str} {cd : Value}

theorem LS.ne (W : LS base L S h) : L ≠ S ∧ L ≠ 171 := by
  obtain ⟨m, n, _⟩ := W.loc
  refine ⟨fun z => ?_, fun z => ?_⟩
  · obtain ⟨o, es, ep, e, d, _⟩ := n
    obtain ⟨x, y, tx, ty, ⟨o', e', _, n', d'⟩, _⟩ := W.src
    rw [z, e'] at e; cases e; rw [d'] at d; cases d
  · obtain ⟨o, es, ep, e, d, _⟩ := n
    obtain ⟨ps, e', _⟩ := W.tab
    rw [z, e'] at e; cases e; cases d
theorem LS.below (W : LS base L S h) (hL : base.get? L = none) : Below (callerA.deeper (laEnv nm L fa cd)) base [laEnv nm L fa cd] h := by
  obtain ⟨m, n, _⟩ := W.loc
  exact ⟨Around.frames_deeper rfl, W.stays, .cons (by show laS.kind ≠ .module; rw [la_kind]; decide) rfl n hL trivial⟩
theorem LS.more (W : LS base L S h) (k : h.StaysIn h') : LS base L S h' := by
  obtain ⟨m, n, n2⟩ := W.loc
  exact ⟨stays_trans W.stays k, ⟨m, n.keeps k, n2⟩, src_mv (fun o e => ⟨o.slots, k _ _ e⟩) W.src, tab_mv (fun o e => k _ _ e) (fun b o _ _ e => ⟨o.slots, k _ _ e⟩) W.tab⟩
theorem LS.move (W : LS base L S h) (k : base.StaysIn h') (mv : Mv S h h') (s' : Src h' S) (t' : Tab wrQ h') : LS base L S h' := by
  obtain ⟨m, n, n2⟩ := W.loc
  obtain ⟨l1, l2⟩ := W.ne
  exact ⟨k, ⟨m, mv.ns l1 l2 n, n2⟩, s', t'⟩
/-- the frame's own dict is written -/
theorem LS.put (W : LS base L S h) (hL : base.get? L = none) {m' : Str → Option Value} (hn : h'.Ns L m') (hs : Heap.SameBut L h h') (hm : m' "source" = some (.ref S)) : LS base L S h' := by
  obtain ⟨m, n, n2⟩ := W.loc
  obtain ⟨l1, l2⟩ := W.ne
  have mv : ∀ b o, b ≠ L → h.get? b = some o → h'.get? b = some o := fun b o hb e => (hs.2 b hb).trans e
  exact ⟨fun b o q => mv b o (fun z => by rw [z, hL] at q; cases q) (W.stays b o q), ⟨m', hn, hm⟩, src_mv (fun o e => ⟨o.slots, mv _ _ (Ne.symm l1) e⟩) W.src,
    tab_mv (fun o e => mv _ _ (Ne.symm l2) e) (fun b o _ ⟨vs, hd⟩ e => ⟨o.slots, mv b o (fun z => by subst z; exact ns_nf n o e vs hd) e⟩) W.tab⟩
theorem LS.iter (W : LS base L S h) {it a : Addr} {i : Nat} (hit : h.IsListIter it a i) (hs : Heap.ExtBut it h h') (hb : base.get? it = none) : LS base L S h' := by
  obtain ⟨oi, ei, ci, di⟩ := hit
  have other : ∀ b o, h.get? b = some o → (∀ vs, o.data = .fields vs → vs ≠ #[.ref a, .int i 0]) → h'.get? b = some o := fun b o e hne => hs b o (fun z => by
    rw [z, ei] at e; cases e; exact hne _ di rfl) e
  obtain ⟨m, n, n2⟩ := W.loc
  refine ⟨fun b o q => hs b o (fun z => by rw [z, hb] at q; cases q) (W.stays b o q), ⟨m, ?_, n2⟩, src_mv (fun o e => ⟨o.slots, other _ _ e fun vs q => by
    obtain ⟨x, y, tx, ty, ⟨o', e', _, n, d'⟩, _⟩ := W.src
    rw [e] at e'; cases e'; rw [q] at d'; cases d'⟩) W.src, ?_⟩
  · obtain ⟨o, es, ep, e, d, r⟩ := n
    exact ⟨o, es, ep, other _ _ e (fun vs q => by rw [d] at q; cases q), d, r⟩
  · obtain ⟨ps, e, ht, hcc⟩ := W.tab
    refine ⟨ps, hs _ _ (fun z => by rw [← z, e] at ei; cases ei; cases ci) e, ht, fun pos c hp => ?_⟩
    obtain ⟨c', rfl, c2, oc, vs, t, e2, hoc, hd, hv⟩ := hcc pos c hp
    exact ⟨c', rfl, c2, oc, vs, t, e2, other _ _ hoc (fun vs' q => by rw [hd] at q; cases q; intro z; rw [z] at hv; simp at hv), hd, hv⟩

theorem la_room : Room (callerA.deeper (laEnv nm L fa cd)) 61 := ⟨by show 1 + claimMargin + 1 + 61 + 40 < recursionLimit; decide, by show 4 + 3 + 3 * 61 + 400 < cLine; decide⟩

/-- one turn of the law's loop -/
theorem la_turn {k : Str} {t : Tok} (hk : k ∈ k9) (X : (KK w).In base) (T : Top p loose mean mg mb base) (C : CodeHd base 175 171) (hL : base.get? L = none) (hS : base.get? S = none) (hT : base.get? 171 = none) (W : LS base L S s.heap) {m : Str → Option Value} (hm : s.heap.Ns L m) (hms : m "source" = some (.ref S)) (hmk : m "kind" = some (.str k t)) {Q : Flow → Shared → Prop}
    (hq : ∀ h' tk, LS base L S h' → Mv S s.heap h' → Q .next { s with heap := h', toks := tk }) :
    wpAny (model prog w) (callerA.deeper (laEnv nm L fa cd)) (execs [inFor (la 1) 0] (laEnv nm L fa cd)) Q E s := by
  have kb : KB (KK w) p loose mg mb base := ⟨X, topRead_of T⟩
  obtain ⟨p1, p2, p3, p4, p5, p6, p7, p8, p9, q1, q2, q3, q4, k1, e1⟩ := la1b_is
  rw [e1]
  have X1 := X.keeps W.stays
  have T1 := (topRead_of T).keeps W.stays
  obtain ⟨l1, l2⟩ := W.ne
  refine wpAny_execs_cons (wpAny_If (isTrue_or (isTrue_not (isTrue_plain (Call_ (Name_function_global la_kind la_n5 (loadGlobal_global (env := laEnv nm L fa cd) (v := .ref 181) T1.g (mg_of X1 T1.g (by kernel_rfl)) ?_)))))))
  refine callWith_K X1 (by kernel_rfl) (PyProof.Rows.args_cons (wpAny_Name (wpAny_loadName_local la_kind la_n3 hm hmk (PyProof.Rows.args_nil ⟨X1, ?_⟩)) (by decide)))
  refine rims_call hk kb (W.below hL) rfl la_room fun h₁ tk₁ k₁ => wpAny_truthy_bool ?_
  rw [if_neg (by decide)]
  have W1 := W.more k₁
  have X2 := X.keeps W1.stays
  have T2 := (topRead_of T).keeps W1.stays
  have hm1 := hm.keeps k₁
  refine isTrue_or (isTrue_not (isTrue_plain (Call_ (Name_function_global la_kind la_n6 (loadGlobal_global (s := { s with heap := h₁, toks := tk₁ }) (env := laEnv nm L fa cd) (v := .ref 176) T2.g (mg_of X2 T2.g (by kernel_rfl)) ?_)))))
  refine callWith_K (s := { s with heap := h₁, toks := tk₁ }) X2 (by kernel_rfl) (PyProof.Rows.args_cons (wpAny_Name (wpAny_loadName_local (s := { s with heap := h₁, toks := tk₁ }) la_kind la_n2 hm1 hms ?_) (by decide)))
  refine PyProof.Rows.args_cons (wpAny_Name (wpAny_loadName_local (s := { s with heap := h₁, toks := tk₁ }) la_kind la_n3 hm1 hmk (PyProof.Rows.args_nil ⟨X2, ?_⟩)) (by decide))
  refine words_call (s := { s with heap := h₁, toks := tk₁ }) hk X T C (W1.below hL) rfl (la_room.le (by decide)) hS hT (fun hmm => ?_) W1.src W1.tab fun h₂ tk₂ k₂ mv₂ src₂ tab₂ => wpAny_truthy_bool ?_
  · have hz : (laEnv nm L fa cd).frame = some S := by simpa using hmm
    exact l1 (Option.some.inj (show some L = some S from hz))
  rw [if_neg (by decide)]
  refine isTrue_or_nil ?_
  rw [if_neg (by decide)]
  refine wpAny_execs_nil ?_
  show wpAny _ _ (execs [] _) _ _ _
  exact wpAny_execs_nil (hq h₂ tk₂ (W1.move k₂ mv₂ src₂ tab₂) ((Mv.of_stays k₁).trans mv₂))

theorem k9_flat {v : Value} {h : Heap} {vs : List Value} (r : RdAll h vs (k9.map .str)) {i : Nat} (e : vs[i]? = some v) : ∃ k t, k ∈ k9 ∧ v = .str k t := by
  obtain ⟨d, hd, rd⟩ := rd_get r e
  obtain ⟨k, hk, rfl⟩ := List.mem_map.mp hd
  obtain ⟨t, rfl⟩ := rd.str_inv
  exact ⟨k, t, hk, rfl⟩

theorem la_loop (X : (KK w).In base) (T : Top p loose mean mg mb base) (C : CodeHd base 175 171) (hL : base.get? L = none) (hS : base.get? S = none) (hT : base.get? 171 = none) (W : LS base L S s.heap) {Q : Flow → Shared → Prop}
    (hq : ∀ h' tk, LS base L S h' → Q .next { s with heap := h', toks := tk }) :
    wpAny (model prog w) (callerA.deeper (laEnv nm L fa cd)) (exec (la 1) (laEnv nm L fa cd)) Q E s := by
  have kb : KB (KK w) p loose mg mb base := ⟨X, topRead_of T⟩
  obtain ⟨p1, p2, e1⟩ := la1_is
  rw [e1]
  have G : EG (callerA.deeper (laEnv nm L fa cd)) (laEnv nm L fa cd) [laEnv nm L fa cd] base [] s.heap :=
    ⟨W.below hL, rfl, la_kind, rfl, rfl, fun y hy => absurd rfl (la_nocell _ (mem_lookup hy)), fun x d e => by simp at e⟩
  refine wpAny_For ?_ (fun v => by kernel_rfl)
  have he : (lvl tbl 5).e (laEnv nm L fa cd).scope [] (valE (la 1)) = .ok (.list (k9.map .str)) := la1_e
  have hnp : notPair (k9.map .str) = true := rfl
  have hl9 : (k9.map PyData.str).length = 9 := rfl
  have hfl : ∀ {v : Value} {h : Heap} {vs : List Value}, RdAll h vs (k9.map .str) → ∀ {i : Nat}, vs[i]? = some v → ∃ k t, k ∈ k9 ∧ v = .str k t := fun r _ e => k9_flat r e
  generalize k9.map PyData.str = ds at he hnp hl9 hfl
  generalize valE (la 1) = it at he ⊢
  have Z := (sound (cx (w := w) (prog := prog) (p := p) (loose := loose) (mg := mg) (mb := mb)) 5).e (callerA.deeper (laEnv nm L fa cd)) (laEnv nm L fa cd) [laEnv nm L fa cd] base [] s it kb G (la_room.le (by decide))
  rw [he] at Z
  refine Z _ _ (by intro z; cases z) (fun a ea v h₁ tk₁ k₁ r => ?_) (fun ea => by cases ea)
  cases ea
  have W1 := W.more k₁
  cases r with
  | @list a o vs nn xs e1 e2 e3 e4 =>
  have hLi : h₁.IsList a vs := ⟨o, e1, e2, nn, e3⟩
  have haS : a ≠ S := list_ne_src hLi e4 hnp W1.src
  have haT : a ≠ 171 := fun z => by
    obtain ⟨ps, e, _⟩ := W1.tab
    rw [z, e] at e1; cases e1; cases e2
  have hsz : ∀ {b o}, h₁.get? b = some o → b ≠ h₁.objs.size := fun e => Nat.ne_of_lt (Heap.lt_size e)
  have n1 : h₁.objs.size ≠ S := fun z => by
    obtain ⟨x, y, tx, ty, ⟨o', e', _⟩, _⟩ := W1.src
    exact hsz e' z.symm
  have n2 : h₁.objs.size ≠ 171 := fun z => by
    obtain ⟨ps, e, _⟩ := W1.tab
    exact hsz e z.symm
  have n3 : L ≠ h₁.objs.size := by
    obtain ⟨m, ⟨o, es, ep, e, d, _⟩, _⟩ := W1.loc
    exact hsz e
  have haL : a ≠ L := fun z => by
    obtain ⟨m, ⟨o', es, ep, e, d, _⟩, _⟩ := W1.loc
    rw [z, e] at e1; cases e1; rw [d] at e3; cases e3
  refine wpAny_pyIter_list (s := { s with heap := h₁, toks := tk₁ }) hLi ?_
  have kp : h₁.StaysIn (h₁.push { cls := .type "list_iterator", data := .fields #[.ref a, .int 0 0] }) := fun b o q => Heap.get?_push_of_some _ q
  have fb : base.get? h₁.objs.size = none := fresh_of_stays W1.stays (Heap.get?_none_of_le (Nat.le_refl _))
  have hlen : vs.size = 9 := by have := e4.length; rw [Array.length_toList] at this; exact this.trans hl9
  refine codeAny_forLoop (I := fun nn s' => ∃ i h tk, nn = 9 - i ∧ i ≤ 9 ∧ s' = { s with heap := h, toks := tk } ∧ LS base L S h ∧ h.IsListIter h₁.objs.size a i ∧ h.IsList a vs) (fun nn s' hI => ?_) 9
    ⟨0, _, tk₁, rfl, Nat.zero_le _, rfl, W1.more kp, ⟨_, Heap.get?_push_size _ rfl, rfl, rfl⟩, hLi.push _⟩
  obtain ⟨i, h, tk, rfl, hi, rfl, W2, hit, hl2⟩ := hI
  by_cases hlt : i < 9
  · have hv : ∃ v, vs[i]? = some v := ⟨_, Array.getElem?_eq_getElem (by omega)⟩
    obtain ⟨v, hv⟩ := hv
    obtain ⟨k, t, hk, rfl⟩ := hfl e4 (i := i) (v := v) (by rw [Array.getElem?_toList]; exact hv)
    refine wpAny_pyNext_list_item (s := { s with heap := h, toks := tk }) hit hl2 hv fun h₃ hit₃ hs₃ => ?_
    have W3 := W2.iter hit hs₃.extBut fb
    have hl3 : h₃.IsList a vs := hl2.extBut hs₃.extBut (hsz e1)
    obtain ⟨m, hm, hms⟩ := W3.loc
    refine PyProof.Rows.assign_Name (wpAny_storeName_local (s := { s with heap := h₃, toks := tk }) la_n3 hm (fun h₄ hn₄ hs₄ => ?_) (by show (laS.kind == .class || (laS.kind == .module && L != mainGlobals)) = false; rw [la_kind]; rfl))
    have hms4 : (fun y => if y = ("kind" : Str) then some (.str k t) else m y) "source" = some (Value.ref S) := (if_neg (by decide)).trans hms
    have hmk4 : (fun y => if y = ("kind" : Str) then some (.str k t) else m y) "kind" = some (Value.str k t) := if_pos rfl
    have W4 := W3.put hL hn₄ hs₄ hms4
    have hl4 : h₄.IsList a vs := hl3.extBut hs₄.extBut haL
    have hit4 : h₄.IsListIter h₁.objs.size a (i + 1) := hit₃.extBut hs₄.extBut (Ne.symm n3)
    refine la_turn (s := { s with heap := h₄, toks := tk + 1 }) hk X T C hL hS hT W4 hn₄ hms4 hmk4 fun h₅ tk₅ W5 mv5 => ?_
    have hl5 : h₅.IsList a vs := by
      obtain ⟨o4, q1, q2, n3, q3⟩ := hl4
      obtain ⟨sl, e⟩ := mv5 a o4 haS haT q1
      exact ⟨_, e, q2, n3, q3⟩
    have hit5 : h₅.IsListIter h₁.objs.size a (i + 1) := by
      obtain ⟨o4, q1, q2, q3⟩ := hit4
      obtain ⟨sl, e⟩ := mv5 _ o4 n1 n2 q1
      exact ⟨_, e, q2, q3⟩
    exact ⟨9 - (i + 1), by omega, i + 1, h₅, tk₅, rfl, hlt, rfl, W5, hit5, hl5⟩
  · have hx : vs[i]? = none := Array.getElem?_eq_none (by omega)
    refine wpAny_pyNext_list_end (s := { s with heap := h, toks := tk }) rfl hit hl2 hx fun h₃ hs₃ => ?_
    exact wpAny_execs_nil (hq h₃ tk (W2.iter hit hs₃ fb))

theorem law_store {rest : List Stmt} {m : Str → Option Value} {hA : Heap} {Q : Flow → Shared → Prop}
    (X : (KK w).In base) (T : Top p loose mean mg mb base) (C : CodeHd base 175 171) (F : Fr base L hA m) (hn : hA.get? 171 = some (tabObj #[]) ∧ 171 ≠ L ∧ base.get? 171 = none) (k₁ : hA.StaysIn s.heap) (hSf : hA.get? S = none) (src : Src s.heap S)
    (hq : ∀ h' tk m' ps, Fr base L h' m' → News base L h' [(171, tabObj ps)] → wpAny (model prog w) (callerA.deeper (laEnv nm L fa cd)) (execs rest (laEnv nm L fa cd)) Q E { s with heap := h', toks := tk }) :
    wpAny (model prog w) (callerA.deeper (laEnv nm L fa cd)) (storeName (laEnv nm L fa cd) "source" (.ref S)) (fun _ s' => wpAny (model prog w) (callerA.deeper (laEnv nm L fa cd)) (execs (la 1 :: rest) (laEnv nm L fa cd)) Q E s') E s := by
  have hL : base.get? L = none := Heap.get?_none_of_le F.above
  have hT : base.get? 171 = none := hn.2.2
  have hS : base.get? S = none := fresh_of_stays F.keep hSf
  have hSL : S ≠ L := fun z => by
    obtain ⟨o, es, ep, e, _⟩ := F.ns
    rw [← z, hSf] at e; cases e
  have hL171 : L ≠ 171 := fun z => hn.2.1 z.symm
  refine wpAny_storeName_local la_n2 (F.ns.keeps k₁) (fun h₂ hn₂ hs₂ => ?_) (by show (laS.kind == .class || (laS.kind == .module && L != mainGlobals)) = false; rw [la_kind]; rfl)
  have mv : ∀ b o, b ≠ L → s.heap.get? b = some o → h₂.get? b = some o := fun b o hb e => (hs₂.2 b hb).trans e
  have W : LS base L S h₂ := by
    refine ⟨fun b o q => mv b o (fun z => by rw [z, hL] at q; cases q) (k₁ _ _ (F.keep b o q)), ⟨_, hn₂, if_pos rfl⟩, src_mv (fun o e => ⟨o.slots, mv _ _ hSL e⟩) src, #[], mv _ _ (Ne.symm hL171) (k₁ _ _ hn.1), trivial, fun pos c hp => ?_⟩
    simp [codeAmong] at hp
  have Z := la_loop (prog := prog) (nm := nm) (fa := fa) (cd := cd) (s := { s with heap := h₂, toks := s.toks + 1 }) (E := E) (Q := fun f s' => f = .next ∧ ∃ h3 tk3, s' = { s with heap := h3, toks := tk3 } ∧ LS base L S h3) X T C hL hS hT W (fun h' tk W' => ⟨rfl, h', tk, rfl, W'⟩)
  generalize la 1 = st at Z ⊢
  refine wpAny_execs_cons (wpAny_mono Z (fun f s' hf => ?_) (fun _ _ e => e))
  obtain ⟨rfl, h₃, tk₃, rfl, W3⟩ := hf
  obtain ⟨m3, n3, _⟩ := W3.loc
  obtain ⟨ps, e3, _⟩ := W3.tab
  refine hq h₃ tk₃ m3 ps ⟨n3, W3.stays, F.above⟩ fun q hq => ?_
  rw [List.mem_singleton.mp hq]
  exact ⟨e3, Ne.symm hL171, hT⟩

theorem law_front {sc : Scope} {s0 s1 : Stmt} {rest : List Stmt} {Ls : Addr} {vs : List Value} {ns : List Int} {m : Str → Option Value} {news : List (Addr × Obj)} {Q : Flow → Shared → Prop} (hs : sc = laS) (h0 : s0 = la 0) (h1 : s1 = la 1)
    (X : (KK w).In base) (T : Top p loose mean mg mb base) (C : CodeHd base 175 171) (K : Below callerA base [] base) (F : Fr base L s.heap m) (N : News base L s.heap news) (hN : (171, tabObj #[]) ∈ news) (ls : base.IsList Ls vs.toArray) (hi : IntsAre vs ns) (hfit : ns.length ≤ 63) (ms : m "script" = some (.ref Ls))
    (hq : ∀ h' tk m' ps, Fr base L h' m' → News base L h' [(171, tabObj ps)] → wpAny (model prog w) (callerA.deeper (envOf nm sc L fa cd)) (execs rest (envOf nm sc L fa cd)) Q E { s with heap := h', toks := tk }) :
    wpAny (model prog w) (callerA.deeper (envOf nm sc L fa cd)) (execs (s0 :: s1 :: rest) (envOf nm sc L fa cd)) Q E s := by
  subst hs h0 h1
  have kb : KB (KK w) p loose mg mb base := ⟨X, topRead_of T⟩
  have hn := N _ hN
  have B : Below (callerA.deeper (laEnv nm L fa cd)) base [laEnv nm L fa cd] s.heap := Below.push K F la_kind
  have X1 := X.keeps F.keep
  have T1 := (topRead_of T).keeps F.keep
  obtain ⟨p1, p2, p3, p4, p5, p6, k1, e0⟩ := la0_is
  refine wpAny_execs_cons ?_
  rw [e0]
  refine wpAny_Assign_Name (Call_ (Name_function_global la_kind la_n4 (loadGlobal_global (env := laEnv nm L fa cd) (v := .ref 141) T1.g (mg_of X1 T1.g (by kernel_rfl)) ?_)))
  refine callWith_K X1 (by kernel_rfl) ?_
  refine PyProof.Rows.args_cons (wpAny_Name (wpAny_loadName_local la_kind la_n1 F.ns ms ?_) (by decide))
  refine PyProof.Rows.args_cons (wpAny_Constant_int ?_)
  refine PyProof.Rows.args_nil ⟨X1, ?_⟩
  have ls1 : s.heap.IsList Ls vs.toArray := let ⟨o, ho, r⟩ := ls; ⟨o, F.keep _ _ ho, r⟩
  refine pool_call (s := { s with toks := s.toks + 1 }) kb B rfl (by show 1 + claimMargin + 1 < recursionLimit; decide) ls1 hi hfit fun S h₁ tk₁ k₁ hSf src => ?_
  exact law_store (s := { s with heap := h₁, toks := tk₁ }) X T C F hn k₁ hSf src hq
end
end Mine
end

section
open PySem PySem.W PyProof.Rows PySem.Calls PySem.Spec
set_option maxHeartbeats 400000
namespace Mine
noncomputable def cmpP : Stmt → Expr × Scope × Expr
  | .Return (some (.Compare (.ListComp e _ sc _) _ [r] _)) _ => (e, sc, r)
  | _ => (.Name "" ⟨0, 0, 0, 0⟩, default, .Name "" ⟨0, 0, 0, 0⟩)
noncomputable abbrev cp : Expr × Scope × Expr := cmpP (la 2)
theorem la2_is : ∃ p1 p2 p3 p4 p5, la 2 = .Return (some (.Compare (.ListComp cp.1 [⟨.Name "look" p1, .Name "_law_looks" p2, [], 0⟩] cp.2.1 p3) [.Eq] [cp.2.2] p4)) p5 := by exact ⟨_, _, _, _, _, rfl⟩
noncomputable def sixB : List PyData := [.bool false, .bool true, .bool false, .bool false, .bool true, .bool true]
theorem cp_comp : comp (lvl tbl 40) (relabelS cp.2.1 laS) "look" (([] : Loc).filter fun y => cp.2.1.names.lookup y.1 == some .free) cp.1 (looks6.map .str) = some sixB := by kernel_rfl
theorem cp_list : (lvl tbl 5).e laS [] cp.2.2 = .ok (.list sixB) := by kernel_rfl
theorem cp_eq : cmpop .Eq (.list sixB) (.list sixB) = some (.bool true) := by kernel_rfl
theorem cp_sc : (cp.2.1.kind == .function && cp.2.1.names.lookup ("look" : Str) == some NameKind.local && cp.2.1.names.all (fun y => y.2 != .cell && (y.2 != .local || cp.2.1.names.lookup y.1 == some .local) && y.2 != .free)) = true := by decide +kernel
theorem cp_marks : behindInMarks .Eq cp.2.2 = false := by kernel_rfl
theorem looks_rd (h : Heap) (w : World) : RdAll h (seqOf (KK w) 134).1.toList (looks6.map .str) := by
  have e : (seqOf (KK w) 134).1.toList = (looks6.zip ((seqOf (KK w) 134).1.toList.map fun v => (strV v).2)).map fun q => Value.str q.1 q.2 := by kernel_rfl
  have hl : ((seqOf (KK w) 134).1.toList.map fun v => (strV v).2).length = 6 := by kernel_rfl
  rw [e]
  generalize ((seqOf (KK w) 134).1.toList.map fun v => (strV v).2) = ts at hl
  match ts, hl with
  | [a, b, c, d, f, g], _ => exact .cons (.str _ _) (.cons (.str _ _) (.cons (.str _ _) (.cons (.str _ _) (.cons (.str _ _) (.cons (.str _ _) .nil)))))

section
variable {prog : Program} {w : World} {p : Program} {loose : List Str} {mean : ExcName → Option Value} {mg mb : Str → Option Value}
variable {base h h' : Heap} {s : Shared} {E : Value → Shared → Prop} {L S fa : Addr} {nm : Str} {cd : Value}

theorem law_last {m : Str → Option Value} (X : (KK w).In base) (T : Top p loose mean mg mb base) (F : Fr base L s.heap m) {Q : Flow → Shared → Prop}
    (hq : ∀ h' tk, s.heap.StaysIn h' → Q (.ret (.bool true)) { s with heap := h', toks := tk }) :
    wpAny (model prog w) (callerA.deeper (laEnv nm L fa cd)) (execs [la 2] (laEnv nm L fa cd)) Q E s := by
  have kb : KB (KK w) p loose mg mb base := ⟨X, topRead_of T⟩
  have hL : base.get? L = none := Heap.get?_none_of_le F.above
  have B : Below (callerA.deeper (laEnv nm L fa cd)) base [laEnv nm L fa cd] s.heap := ⟨Around.frames_deeper rfl, F.keep, .cons (by show laS.kind ≠ .module; rw [la_kind]; decide) rfl F.ns hL trivial⟩
  have G : EG (callerA.deeper (laEnv nm L fa cd)) (laEnv nm L fa cd) [laEnv nm L fa cd] base [] s.heap :=
    ⟨B, rfl, la_kind, rfl, rfl, fun y hy => absurd rfl (la_nocell _ (mem_lookup hy)), fun x d e => by simp at e⟩
  obtain ⟨p1, p2, p3, p4, p5, e2⟩ := la2_is
  rw [e2]
  have hsc := cp_sc
  simp only [Bool.and_eq_true, beq_iff_eq, List.all_eq_true, bne_iff_ne, ne_eq, Bool.or_eq_true] at hsc
  obtain ⟨⟨c1, c2⟩, c3⟩ := hsc
  obtain ⟨u1, u2, u3⟩ := listLooks w
  have X1 := X.keeps F.keep
  have lB : s.heap.IsList 134 (seqOf (KK w) 134).1.toList.toArray := ⟨_, X1 _ _ u1, rfl, _, by rw [Array.toArray_toList]⟩
  have hi : isGlob (laEnv nm L fa cd).scope "_law_looks" = true := by show isGlob laS "_law_looks" = true; kernel_rfl
  refine wpAny_execs_cons (wpAny_Return_some (wpAny_Compare1 ?_ cp_marks))
  refine comp_core (n := 40) (ρ := []) (base := base) (l := [laEnv nm L fa cd]) (sound (cx (w := w) (prog := prog) (p := p) (loose := loose) (mg := mg) (mb := mb)) 40) kb (la_room.le (by decide)) (fun _ => rfl) c1 c2 (by decide) (by decide) (fun y hy => ⟨(c3 y hy).1.1, fun hl => (c3 y hy).1.2.elim (fun z => absurd hl z) id, fun hf => absurd hf (c3 y hy).2⟩) G.cl
    (glob_ kb G hi (glob_looks w) ⟨134, _, _, sixB, rfl, G, lB, looks_rd _ w, by decide, cp_comp, fun v h₁ tk₁ k₁ r₁ => ?_⟩)
  have Z := (sound (cx (w := w) (prog := prog) (p := p) (loose := loose) (mg := mg) (mb := mb)) 5).e (callerA.deeper (laEnv nm L fa cd)) (laEnv nm L fa cd) [laEnv nm L fa cd] base [] { s with heap := h₁, toks := tk₁ } cp.2.2 kb (G.more k₁) (la_room.le (by decide))
  have hz : (lvl tbl 5).e (laEnv nm L fa cd).scope [] cp.2.2 = .ok (.list sixB) := cp_list
  rw [hz] at Z
  refine Z _ _ (by intro z; cases z) (fun a ea v2 h₂ tk₂ k₂ r₂ => ?_) (fun ea => by cases ea)
  cases ea
  refine cmpop_sound (s := { s with heap := h₂, toks := tk₂ }) cp_eq (r₁.stays k₂) r₂ (by show 4 + 3 + 64 < cLine; decide) fun v3 r3 => ?_
  obtain rfl := r3.bool_inv
  exact hq h₂ tk₂ (stays_trans k₁ k₂)

theorem law_all {sc : Scope} {s0 s1 s2 : Stmt} {Ls : Addr} {vs : List Value} {ns : List Int} {m : Str → Option Value} {news : List (Addr × Obj)} {Q : Flow → Shared → Prop} (hs : sc = laS) (h0 : s0 = la 0) (h1 : s1 = la 1) (h2 : s2 = la 2)
    (X : (KK w).In base) (T : Top p loose mean mg mb base) (C : CodeHd base 175 171) (K : Below callerA base [] base) (F : Fr base L s.heap m) (N : News base L s.heap news) (hN : (171, tabObj #[]) ∈ news) (ls : base.IsList Ls vs.toArray) (hi : IntsAre vs ns) (hfit : ns.length ≤ 63) (ms : m "script" = some (.ref Ls))
    (hq : ∀ h' tk ps, base.StaysIn h' → h'.get? 171 = some (tabObj ps) → Q (.ret (.bool true)) { s with heap := h', toks := tk }) :
    wpAny (model prog w) (callerA.deeper (envOf nm sc L fa cd)) (execs [s0, s1, s2] (envOf nm sc L fa cd)) Q E s := by
  refine law_front hs h0 h1 X T C K F N hN ls hi hfit ms fun h' tk m' ps F' N' => ?_
  subst hs h2
  exact law_last (s := { s with heap := h', toks := tk }) X T F' fun h₂ tk₂ k₂ => hq h₂ tk₂ ps (stays_trans F'.keep k₂) (k₂ _ _ (N' _ (.head _)).1)
end
end Mine
end

section
open PySem PySem.W PyProof.Rows
set_option maxHeartbeats 8000000
theorem PySem.Challenge.cw_sa0438_01_holds : PySem.Challenge.rw_sa0438_01.Holds :=
  Mine.hd (by
  k_go0
  rename Fr _ _ _ _ => F0
  rename News _ _ _ _ => N0
  rename IntsAre _ _ => I0
  rename Below _ _ _ _ => K0
  refine Mine.law_all (by kernel_rfl) (by kernel_rfl) (by kernel_rfl) (by kernel_rfl) (by assumption) (by assumption) codeHd K0 F0 N0 (.head _) (by assumption) I0 (by omega) (by kernel_rfl) ?_
  intro hE tkE psE kE tE
  refine ⟨?_, ⟨psE, tE⟩, trivial⟩
  refine ⟨.inl ⟨.bool true, .bool true, [], rfl, fun cls => ?zzR, .bool true, ?zzP, fun _ => ⟨.nil, fun a ha => by cases ha⟩⟩, kE, rfl, by assumption⟩
  case zzR => first | rfl | kernel_rfl
  case zzP => first | rfl | kernel_rfl)
end

