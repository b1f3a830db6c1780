import PyProof.Rows.All
import Wide.All
import OpenK.AllK
import Wide.FinOn
import Lean
import PySem.Challenge.RW_pq1364_01
set_option Elab.async false
set_option maxRecDepth 100000
set_option compiler.extract_closed false
namespace Mine
open PySem PySem.W PySem.Calls PyProof.Rows
noncomputable section
/-! ## the context, and the calculus over heaps alone (tokens forgotten) -/
structure Cx where
  prog : Program
  w : World
  g : Array GenState
  d : Drawn
  os : OsState
  b : Heap
  K : Frag
  mg : Str → Option Value
  mb : Str → Option Value
  /-- the classes: Vector, Environment, Run, Evaluator, Code, Refusal -/
  cv : Addr
  ce : Addr
  cr : Addr
  ci : Addr
  cc : Addr
  cf : Addr

abbrev Cx.st (c : Cx) (h : Heap) (t : Nat) : Shared := ⟨h, c.g, c.d, t, c.os⟩
abbrev Cx.M (c : Cx) : Model := model c.prog c.w

/-- what holds of the base -/
structure Base (c : Cx) : Prop where
  X : c.K.In c.b
  g : c.b.Ns mainGlobals c.mg
  b : c.b.Ns builtinsNs c.mb
  nolimit : c.b.NoLimit
  builtins : ∀ x : Str, x ≠ "__name__" → c.mb x = bootBuiltins x

abbrev up {α : Type} (c : Cx) (Q : α → Heap → Prop) : α → Shared → Prop := fun v s => ∃ h t, s = c.st h t ∧ Q v h
def W {α : Type} (c : Cx) (A : Around) (t : Sem α) (Q : α → Heap → Prop) (E : Value → Heap → Prop) (h : Heap) : Prop :=
  ∀ tk, wpAny c.M A t (up c Q) (up c E) (c.st h tk)
def CW (c : Cx) (A : Around) (t : Code) (R : Result → Heap → Prop) (h : Heap) : Prop :=
  ∀ tk, codeAny c.M A t (up c R) (c.st h tk)

section
variable {α β : Type} {c : Cx} {A : Around} {Q Q' : α → Heap → Prop} {E E' : Value → Heap → Prop} {h : Heap} {t : Sem α}
theorem up_of {v : α} {h : Heap} {k : Nat} (q : Q v h) : up c Q v (c.st h k) := ⟨h, k, rfl, q⟩
theorem W.mono (x : W c A t Q E h) (hQ : ∀ v h, Q v h → Q' v h) (hE : ∀ e h, E e h → E' e h) : W c A t Q' E' h :=
  fun tk => wpAny_mono (x tk) (fun v _ ⟨h, t, e, q⟩ => ⟨h, t, e, hQ v h q⟩) fun v _ ⟨h, t, e, q⟩ => ⟨h, t, e, hE v h q⟩
theorem CW.mono {cd : Code} {R R' : Result → Heap → Prop} (x : CW c A cd R h) (hR : ∀ v h, R v h → R' v h) : CW c A cd R' h :=
  fun tk => codeAny_mono (x tk) fun v _ ⟨h, t, e, q⟩ => ⟨h, t, e, hR v h q⟩
/-- the continuation taken up again -/
theorem on {f : α → Sem β} {Q : β → Heap → Prop} {E : Value → Heap → Prop} : ∀ (v : α) (s : Shared), up c (fun v h => W c A (f v) Q E h) v s → wpAny c.M A (f v) (up c Q) (up c E) s :=
  fun _ _ ⟨_, t, e, q⟩ => e ▸ q t
theorem id_ {P : α → Shared → Prop} : ∀ (v : α) (s : Shared), P v s → P v s := fun _ _ x => x
theorem w_pure {a : α} (q : Q a h) : W c A (pure a) Q E h := fun _ => wpAny_pure (up_of q)
theorem w_bind {m : Sem β} {f : β → Sem α} (q : W c A m (fun a h => W c A (f a) Q E h) E h) : W c A (m >>= f) Q E h :=
  fun tk => wpAny_bind (wpAny_mono (q tk) on id_)
end

/-! ## positions -/
/-- the k-th of two lists abreast -/
inductive At {α β : Type} : α → β → List α → List β → Prop
  | head {x v ns vs} : At x v (x :: ns) (v :: vs)
  | tail {x v y u ns vs} : At x v ns vs → At x v (y :: ns) (u :: vs)
inductive Put {α β : Type} (x : α) (v : β) : List α → List β → List β → Prop
  | head {u ns vs} : Put x v (x :: ns) (u :: vs) (v :: vs)
  | tail {y u ns vs vs'} : Put x v ns vs vs' → Put x v (y :: ns) (u :: vs) (u :: vs')
theorem At.mem {α β : Type} {x : α} {v : β} {ns : List α} {vs : List β} (a : At x v ns vs) : x ∈ ns := by
  induction a with
  | head => exact .head _
  | tail _ ih => exact .tail _ ih
theorem Put.mem {α β : Type} {x : α} {v : β} {ns : List α} {vs vs' : List β} (a : Put x v ns vs vs') : x ∈ ns := by
  induction a with
  | head => exact .head _
  | tail _ ih => exact .tail _ ih

/-- the names' values -/
inductive Loc (m : Str → Option Value) : List Str → List (Option Value) → Prop
  | nil : Loc m [] []
  | cons {x v ns vs} : m x = v → Loc m ns vs → Loc m (x :: ns) (v :: vs)
theorem Loc.at {m : Str → Option Value} {x : Str} {v : Option Value} {ns : List Str} {vs : List (Option Value)} (l : Loc m ns vs) (a : At x v ns vs) : m x = v := by
  induction a with
  | head => cases l with | cons e _ => exact e
  | tail _ ih => cases l with | cons _ r => exact ih r
theorem Loc.other {m : Str → Option Value} {x : Str} {v : Option Value} {ns : List Str} {vs : List (Option Value)} (l : Loc m ns vs) (hx : x ∉ ns) : Loc (fun y => if y = x then v else m y) ns vs := by
  induction l with
  | nil => exact .nil
  | @cons y u ns vs e r ih =>
    refine .cons ?_ (ih fun q => hx (.tail _ q))
    show (if y = x then v else m y) = u
    rw [if_neg (fun (q : y = x) => hx (q ▸ .head _))]; exact e
theorem Loc.put {m : Str → Option Value} {x : Str} {v : Option Value} {ns : List Str} {vs vs' : List (Option Value)} (nd : ns.Nodup) (l : Loc m ns vs) (p : Put x v ns vs vs') : Loc (fun y => if y = x then v else m y) ns vs' := by
  induction p with
  | head =>
    cases l with
    | cons e r => exact .cons (if_pos rfl) (r.other (List.nodup_cons.mp nd).1)
  | @tail y u ns vs vs' p ih =>
    cases l with
    | cons e r =>
      refine .cons ?_ (ih (List.nodup_cons.mp nd).2 r)
      show (if y = x then v else m y) = u
      rw [if_neg (fun (q : y = x) => (List.nodup_cons.mp nd).1 (q ▸ p.mem))]; exact e

/-! ## the ledger: X written out, R the soup, Z what is kept for others -/
abbrev Led := List (Addr × Obj)
abbrev keys (l : Led) : List Addr := l.map (·.1)
abbrev all3 (X R Z : Led) : Led := X ++ (R ++ Z)

structure St (c : Cx) (ns : List Str) (L : Addr) (vs : List (Option Value)) (X R Z : Led) (h : Heap) : Prop where
  fr : ∃ m, Fr c.b L h m ∧ Loc m ns vs
  nw : News c.b L h (all3 X R Z)
  nd : (keys (all3 X R Z)).Nodup

inductive Has (a : Addr) (o : Obj) : Led → Prop
  | head {r} : Has a o ((a, o) :: r)
  | tail {p r} : Has a o r → Has a o (p :: r)
theorem Has.mem {a : Addr} {o : Obj} {l : Led} (x : Has a o l) : (a, o) ∈ l := by
  induction x with
  | head => exact .head _
  | tail _ ih => exact .tail _ ih
inductive Chg (a : Addr) (o o' : Obj) : Led → Led → Prop
  | head {r} : Chg a o o' ((a, o) :: r) ((a, o') :: r)
  | tail {p r r'} : Chg a o o' r r' → Chg a o o' (p :: r) (p :: r')
theorem Chg.same {a : Addr} {o o' : Obj} {l l' : Led} (x : Chg a o o' l l') : keys l' = keys l := by
  induction x with
  | head => rfl
  | tail _ ih => simp only [keys, List.map_cons] at ih ⊢; rw [ih]
theorem Chg.at {a : Addr} {o o' : Obj} {l l' : Led} (x : Chg a o o' l l') : a ∈ keys l := by
  induction x with
  | head => exact .head _
  | tail _ ih => exact .tail _ ih
theorem Chg.from {a : Addr} {o o' : Obj} {l l' : Led} (x : Chg a o o' l l') : (a, o) ∈ l := by
  induction x with
  | head => exact .head _
  | tail _ ih => exact .tail _ ih
theorem Chg.upd {a : Addr} {o o' : Obj} {l l' t : Led} (x : Chg a o o' l l') (nd : (keys (l ++ t)).Nodup) : Upd a o o' (l ++ t) (l' ++ t) := by
  induction x with
  | @head r =>
    refine .head fun p hp e => ?_
    have := (List.nodup_cons.mp (show (a :: keys (r ++ t)).Nodup from nd)).1
    exact this (e ▸ List.mem_map_of_mem hp)
  | @tail p r r' y ih =>
    have z := List.nodup_cons.mp (show (p.1 :: keys (r ++ t)).Nodup from nd)
    refine .tail (fun e => z.1 ?_) (ih z.2)
    rw [e]
    have := y.at
    show a ∈ List.map _ _
    rw [List.map_append]
    exact List.mem_append_left _ this
/-- a place whose new object is not known yet -/
inductive Hole (a : Addr) (o : Obj) : Led → (Obj → Led) → Prop
  | head {r} : Hole a o ((a, o) :: r) (fun o' => (a, o') :: r)
  | tail {p r g} : Hole a o r g → Hole a o (p :: r) (fun o' => p :: g o')
theorem Hole.chg {a : Addr} {o : Obj} {l : Led} {g : Obj → Led} (x : Hole a o l g) (o' : Obj) : Chg a o o' l (g o') := by
  induction x with
  | head => exact .head
  | tail _ ih => exact .tail ih
theorem upd_in {a : Addr} {o : Obj} {R : Led} (hm : (a, o) ∈ R) (o' : Obj) (X Z : Led) (nd : (keys (all3 X R Z)).Nodup) :
    ∃ P S, R = P ++ (a, o) :: S ∧ Upd a o o' (all3 X R Z) (all3 X (P ++ (a, o') :: S) Z) := by
  obtain ⟨P, S, rfl⟩ := List.append_of_mem hm
  refine ⟨P, S, rfl, ?_⟩
  have e : ∀ o, all3 X (P ++ (a, o) :: S) Z = (X ++ P) ++ (a, o) :: (S ++ Z) := fun o => by simp [all3]
  rw [e, e]
  rw [e] at nd
  clear e hm
  generalize X ++ P = Y at nd ⊢
  generalize S ++ Z = T at nd ⊢
  induction Y with
  | nil =>
    refine .head fun p hp e => ?_
    have := (List.nodup_cons.mp (show (a :: keys T).Nodup from nd)).1
    exact this (e ▸ List.mem_map_of_mem hp)
  | cons q Y ih =>
    have z := List.nodup_cons.mp (show (q.1 :: keys (Y ++ (a, o) :: T)).Nodup from nd)
    refine .tail (fun e => z.1 ?_) (ih z.2)
    rw [e]
    exact List.mem_map_of_mem (f := (·.1)) (List.mem_append_right _ (.head (a := (a, o)) _))

section
variable {c : Cx} {ns : List Str} {L : Addr} {vs : List (Option Value)} {X R Z : Led} {h : Heap}
theorem Has.in3 {a : Addr} {o : Obj} (x : Has a o X) : (a, o) ∈ all3 X R Z := List.mem_append_left _ x.mem
theorem in3R {a : Addr} {o : Obj} (x : (a, o) ∈ R) : (a, o) ∈ all3 X R Z := List.mem_append_right _ (List.mem_append_left _ x)
theorem in3Z {a : Addr} {o : Obj} (x : (a, o) ∈ Z) : (a, o) ∈ all3 X R Z := List.mem_append_right _ (List.mem_append_right _ x)
theorem Chg.same3 {a : Addr} {o o' : Obj} {X' : Led} (x : Chg a o o' X X') : keys (all3 X' R Z) = keys (all3 X R Z) := by
  have := x.same
  simp only [keys, all3, List.map_append] at this ⊢
  rw [this]
/-- fewer, or in another order -/
theorem St.less {X' R' Z' : Led} (S : St c ns L vs X R Z h) (hs : ∀ p ∈ all3 X' R' Z', p ∈ all3 X R Z) (nd : (keys (all3 X' R' Z')).Nodup) : St c ns L vs X' R' Z' h :=
  ⟨S.fr, fun p hp => S.nw p (hs p hp), nd⟩
theorem St.perm {X' R' Z' : Led} (S : St c ns L vs X R Z h) (p : (all3 X' R' Z').Perm (all3 X R Z)) : St c ns L vs X' R' Z' h :=
  S.less (fun _ hq => p.mem_iff.mp hq) ((p.map _).nodup_iff.mpr S.nd)
theorem St.drop {p : Addr × Obj} (S : St c ns L vs (p :: X) R Z h) : St c ns L vs X R Z h :=
  ⟨S.fr, fun q hq => S.nw q (.tail _ hq), (List.nodup_cons.mp (show (p.1 :: keys (all3 X R Z)).Nodup from S.nd)).2⟩
/-- into the soup -/
theorem St.melt {p : Addr × Obj} (S : St c ns L vs (p :: X) R Z h) : St c ns L vs X (p :: R) Z h :=
  S.perm (by show (X ++ (p :: (R ++ Z))).Perm (p :: (X ++ (R ++ Z))); exact List.perm_middle)
/-- Y put aside -/
theorem perm_aside (X Y R Z : Led) : (all3 X R (Y ++ Z)).Perm (all3 (X ++ Y) R Z) := by
  show (X ++ (R ++ (Y ++ Z))).Perm ((X ++ Y) ++ (R ++ Z))
  rw [List.append_assoc]
  refine List.Perm.append_left X ?_
  rw [← List.append_assoc, ← List.append_assoc]
  exact List.Perm.append_right Z List.perm_append_comm
theorem St.aside {Y : Led} (S : St c ns L vs (X ++ Y) R Z h) : St c ns L vs X R (Y ++ Z) h := S.perm (perm_aside X Y R Z)
theorem St.back {Y : Led} (S : St c ns L vs X R (Y ++ Z) h) : St c ns L vs (X ++ Y) R Z h := S.perm (perm_aside X Y R Z).symm
end
end
noncomputable section
/-- both ways of a known bool -/
def Br (b : Bool) (P Q : Prop) : Prop := (b = true → P) ∧ (b = false → Q)
theorem Br.t {P Q : Prop} (p : P) : Br true P Q := ⟨fun _ => p, fun e => nomatch e⟩
theorem Br.f {P Q : Prop} (q : Q) : Br false P Q := ⟨fun e => (nomatch e), fun _ => q⟩
theorem Br.tt {b : Bool} {P Q : Prop} (e : b = true) (p : P) : Br b P Q := ⟨fun _ => p, fun e' => nomatch e.symm.trans e'⟩
theorem Br.ff {b : Bool} {P Q : Prop} (e : b = false) (q : Q) : Br b P Q := ⟨fun e' => (nomatch e.symm.trans e'), fun _ => q⟩
theorem Br.both {b : Bool} {P Q : Prop} (p : b = true → P) (q : b = false → Q) : Br b P Q := ⟨p, q⟩
theorem Br.ite {b : Bool} {P Q : Prop} (x : Br b P Q) : if b then P else Q := by cases b; exact x.2 rfl; exact x.1 rfl

section
variable {α β : Type} {c : Cx} {A : Around} {E : Value → Heap → Prop} {h : Heap} {env : Env}

def nextK (c : Cx) (A : Around) (env : Env) (rest : List Stmt) (Q : Flow → Heap → Prop) (E : Value → Heap → Prop) (f : Flow) (h : Heap) : Prop :=
  match f with | .next => W c A (execs rest env) Q E h | f => Q f h
theorem w_nil {Q : Flow → Heap → Prop} (q : Q .next h) : W c A (execs [] env) Q E h := fun _ => wpAny_execs_nil (up_of q)
theorem w_cons {st : Stmt} {rest : List Stmt} {Q : Flow → Heap → Prop} (q : W c A (exec st env) (nextK c A env rest Q E) E h) : W c A (execs (st :: rest) env) Q E h :=
  fun tk => wpAny_execs_cons (wpAny_mono (q tk) (fun f s x => by
    obtain ⟨h', t', rfl, x⟩ := x
    cases f <;> first | exact x t' | exact up_of x) id_)
theorem nk_next {rest : List Stmt} {Q : Flow → Heap → Prop} (q : W c A (execs rest env) Q E h) : nextK c A env rest Q E .next h := q
theorem nk_ret {rest : List Stmt} {v : Value} {Q : Flow → Heap → Prop} (q : Q (.ret v) h) : nextK c A env rest Q E (.ret v) h := q
theorem nk_brk {rest : List Stmt} {Q : Flow → Heap → Prop} (q : Q .brk h) : nextK c A env rest Q E .brk h := q
theorem w_if {test : Expr} {body orelse : List Stmt} {pos : Pos} {Q : Flow → Heap → Prop}
    (q : W c A (isTrue test env (eval test env)) (fun b h => Br b (W c A (execs body env) Q E h) (W c A (execs orelse env) Q E h)) E h) : W c A (exec (.If test body orelse pos) env) Q E h :=
  fun tk => wpAny_If (wpAny_mono (q tk) (fun b s x => by
    obtain ⟨h', t', rfl, x⟩ := x
    cases b
    · exact x.2 rfl t'
    · exact x.1 rfl t') id_)
theorem w_ret {e : Expr} {pos : Pos} {Q : Flow → Heap → Prop} (q : W c A (eval e env) (fun v => Q (.ret v)) E h) : W c A (exec (.Return (some e) pos) env) Q E h :=
  fun tk => wpAny_Return_some (q tk)
theorem w_ret0 {pos : Pos} {Q : Flow → Heap → Prop} (q : Q (.ret .none) h) : W c A (exec (.Return none pos) env) Q E h := fun _ => wpAny_Return_none (up_of q)
theorem w_expr {e : Expr} {pos : Pos} {Q : Flow → Heap → Prop} (q : W c A (eval e env) (fun _ => Q .next) E h) (hi : interactive env = false) (hs : swapsWith e none pos.line env = pure false) : W c A (exec (.Expr e pos) env) Q E h :=
  fun tk => wpAny_Expr_any (wpAny_mono (q tk) (fun _ _ x => x) id_) hi hs
theorem w_asg {x : Str} {pos' pos : Pos} {value : Expr} {Q : Flow → Heap → Prop} (q : W c A (eval value env) (fun v h => W c A (storeName env x v) (fun _ => Q .next) E h) E h)
    (hs : swapsWith value (some (.Name x pos')) pos.line env = pure false) : W c A (exec (.Assign [.Name x pos'] value pos) env) Q E h :=
  fun tk => wpAny_Assign_Name (wpAny_mono (q tk) (fun _ _ ⟨_, t, e, q⟩ => e ▸ q t) id_) hs
theorem w_asgA {o value : Expr} {attr : Str} {pos' pos : Pos} {Q : Flow → Heap → Prop} (q : W c A (eval value env) (fun v h => W c A (eval o env) (fun ov h => W c A (setAttr ov attr v) (fun _ => Q .next) E h) E h) E h)
    (hs : swapsWith value (some (.Attribute o attr pos')) pos.line env = pure false) : W c A (exec (.Assign [.Attribute o attr pos'] value pos) env) Q E h :=
  fun tk => plainObj_wpAny_Assign_Attribute (wpAny_mono (q tk) (fun _ _ ⟨_, t, e, q⟩ => e ▸ wpAny_mono (q t) (fun _ _ ⟨_, t, e, q⟩ => e ▸ q t) id_) id_) hs
theorem w_asgS {o i value : Expr} {pos' pos : Pos} {Q : Flow → Heap → Prop}
    (q : W c A (eval value env) (fun v h => W c A (eval o env) (fun ov h => W c A (eval i env) (fun iv h => W c A (setItem ov iv v) (fun _ => Q .next) E h) E h) E h) E h)
    (hs : swapsWith value (some (.Subscript o i pos')) pos.line env = pure false) : W c A (exec (.Assign [.Subscript o i pos'] value pos) env) Q E h :=
  fun tk => wpAny_Assign_Subscript (wpAny_mono (q tk) (fun _ _ ⟨_, t, e, q⟩ => e ▸ wpAny_mono (q t) (fun _ _ ⟨_, t, e, q⟩ => e ▸ wpAny_mono (q t) (fun _ _ ⟨_, t, e, q⟩ => e ▸ q t) id_) id_) id_) hs
theorem w_brk {pos : Pos} {Q : Flow → Heap → Prop} (q : Q .brk h) : W c A (exec (.Break pos) env) Q E h := fun _ => wpAny_Break (up_of q)
theorem w_pass {pos : Pos} {Q : Flow → Heap → Prop} (q : Q .next h) : W c A (exec (.Pass pos) env) Q E h := fun _ => wpAny_Pass (up_of q)

/-! ### tests -/
theorem w_tcmp {l r : Expr} {op : CmpOp} {pos : Pos} {whole : Sem Value} {Q : Bool → Heap → Prop}
    (q : W c A (eval l env) (fun a h => W c A (eval r env) (fun b h => W c A (compareOp op a b) (fun v h => W c A (truthy v) Q E h) E h) E h) E h) (hm : behindInMarks op r = false) :
    W c A (isTrue (.Compare l [op] [r] pos) env whole) Q E h :=
  fun tk => wpAny_isTrue_Compare1 (wpAny_mono (q tk) (fun _ _ ⟨_, t, e, q⟩ => e ▸ wpAny_mono (q t) (fun _ _ ⟨_, t, e, q⟩ => e ▸ wpAny_mono (q t) on id_) id_) id_) hm
theorem w_tnot {x : Expr} {pos : Pos} {whole : Sem Value} {Q : Bool → Heap → Prop} (q : W c A (isTrue x env (eval x env)) (fun b h => Q (!b) h) E h) : W c A (isTrue (.UnaryOp .Not x pos) env whole) Q E h :=
  fun tk => isTrue_not (q tk)
theorem w_tor0 {pos : Pos} {whole : Sem Value} {Q : Bool → Heap → Prop} (q : Q false h) : W c A (isTrue (.BoolOp .Or [] pos) env whole) Q E h := fun _ => isTrue_or_nil (up_of q)
theorem w_tand0 {pos : Pos} {whole : Sem Value} {Q : Bool → Heap → Prop} (q : Q true h) : W c A (isTrue (.BoolOp .And [] pos) env whole) Q E h := fun _ => isTrue_and_nil (up_of q)
theorem w_tor {x : Expr} {rest : List Expr} {pos : Pos} {whole : Sem Value} {Q : Bool → Heap → Prop}
    (q : W c A (isTrue x env (eval x env)) (fun b h => Br b (Q true h) (W c A (isTrue (.BoolOp .Or rest pos) env whole) Q E h)) E h) : W c A (isTrue (.BoolOp .Or (x :: rest) pos) env whole) Q E h :=
  fun tk => isTrue_or (wpAny_mono (q tk) (fun b s x => by
    obtain ⟨h', t', rfl, x⟩ := x
    cases b
    · exact x.2 rfl t'
    · exact up_of (x.1 rfl)) id_)
theorem w_tand {x : Expr} {rest : List Expr} {pos : Pos} {whole : Sem Value} {Q : Bool → Heap → Prop}
    (q : W c A (isTrue x env (eval x env)) (fun b h => Br b (W c A (isTrue (.BoolOp .And rest pos) env whole) Q E h) (Q false h)) E h) : W c A (isTrue (.BoolOp .And (x :: rest) pos) env whole) Q E h :=
  fun tk => isTrue_and (wpAny_mono (q tk) (fun b s x => by
    obtain ⟨h', t', rfl, x⟩ := x
    cases b
    · exact up_of (x.2 rfl)
    · exact x.1 rfl t') id_)
theorem w_tplain {e : Expr} {whole : Sem Value} {Q : Bool → Heap → Prop} (q : W c A whole (fun v h => W c A (truthy v) Q E h) E h)
    (he : isTrue e env whole = (do let v ← whole; standAt e.pos; holding [v] (truthy v))) : W c A (isTrue e env whole) Q E h :=
  fun tk => isTrue_plain (wpAny_mono (q tk) on id_) he
theorem w_tb {b : Bool} {Q : Bool → Heap → Prop} (q : Q b h) : W c A (truthy (.bool b)) Q E h := fun _ => wpAny_truthy_bool (up_of q)
theorem w_tnone {Q : Bool → Heap → Prop} (q : Q false h) : W c A (truthy .none) Q E h := fun _ => truthy_none (up_of q)

/-! ### expressions -/
theorem w_int {i : Int} {k : Nat} {pos : Pos} {Q : Value → Heap → Prop} (q : ∀ t, Q (.int i t) h) : W c A (eval (.Constant (.int i) k pos) env) Q E h := fun _ => wpAny_Constant_int (up_of (q _))
theorem w_str {x : Str} {k : Nat} {pos : Pos} {Q : Value → Heap → Prop} (q : ∀ t, Q (.str x t) h) : W c A (eval (.Constant (.str x) k pos) env) Q E h := fun _ => Calls.Constant_str (up_of (q _))
theorem w_bool {b : Bool} {k : Nat} {pos : Pos} {Q : Value → Heap → Prop} (q : Q (.bool b) h) : W c A (eval (.Constant (.bool b) k pos) env) Q E h := fun _ => Constant_bool (up_of q)
theorem w_none {k : Nat} {pos : Pos} {Q : Value → Heap → Prop} (q : Q .none h) : W c A (eval (.Constant .none k pos) env) Q E h := fun _ => Constant_none (up_of q)
theorem w_cmp {l r : Expr} {op : CmpOp} {pos : Pos} {Q : Value → Heap → Prop}
    (q : W c A (eval l env) (fun a h => W c A (eval r env) (fun b h => W c A (compareOp op a b) Q E h) E h) E h) (hm : behindInMarks op r = false) : W c A (eval (.Compare l [op] [r] pos) env) Q E h :=
  fun tk => wpAny_Compare1 (wpAny_mono (q tk) (fun _ _ ⟨_, t, e, q⟩ => e ▸ wpAny_mono (q t) on id_) id_) hm
theorem w_bin {l r : Expr} {op : Operator} {pos : Pos} {Q : Value → Heap → Prop}
    (q : W c A (eval l env) (fun a h => W c A (eval r env) (fun b h => W c A (binaryOp op a b) Q E h) E h) E h) : W c A (eval (.BinOp l op r pos) env) Q E h :=
  fun tk => wpAny_BinOp (wpAny_mono (q tk) (fun _ _ ⟨_, t, e, q⟩ => e ▸ wpAny_mono (q t) on id_) id_)
theorem w_una {x : Expr} {op : PySem.UnaryOp} {pos : Pos} {Q : Value → Heap → Prop} (q : W c A (eval x env) (fun v h => W c A (unaryOp op v) Q E h) E h) : W c A (eval (.UnaryOp op x pos) env) Q E h :=
  fun tk => UnaryOp_ (wpAny_mono (q tk) on id_)
theorem w_not {v : Value} {Q : Value → Heap → Prop} (q : W c A (truthy v) (fun b h => Q (.bool (!b)) h) E h) : W c A (unaryOp .Not v) Q E h :=
  fun tk => not_of (q tk)
theorem w_ifexp {test body orelse : Expr} {pos : Pos} {Q : Value → Heap → Prop}
    (q : W c A (isTrue test env (eval test env)) (fun b h => Br b (W c A (eval body env) Q E h) (W c A (eval orelse env) Q E h)) E h) : W c A (eval (.IfExp test body orelse pos) env) Q E h :=
  fun tk => IfExp_ (wpAny_mono (q tk) (fun b s x => by
    obtain ⟨h', t', rfl, x⟩ := x
    cases b
    · exact x.2 rfl t'
    · exact x.1 rfl t') id_)
theorem w_b1 {op : PySem.BoolOp} {e : Expr} {pos : Pos} {Q : Value → Heap → Prop} (q : W c A (eval e env) Q E h) : W c A (eval (.BoolOp op [e] pos) env) Q E h := fun tk => BoolOp_one (q tk)
theorem w_and {e₁ e₂ : Expr} {rest : List Expr} {pos : Pos} {Q : Value → Heap → Prop}
    (q : W c A (eval e₁ env) (fun v h => W c A (truthy v) (fun b h => Br b (W c A (eval (.BoolOp .And (e₂ :: rest) pos) env) Q E h) (Q v h)) E h) E h) : W c A (eval (.BoolOp .And (e₁ :: e₂ :: rest) pos) env) Q E h :=
  fun tk => BoolOp_and (wpAny_mono (q tk) (fun _ _ ⟨_, t, e, q⟩ => e ▸ wpAny_mono (q t) (fun b s x => by
    obtain ⟨h', t', rfl, x⟩ := x
    cases b
    · exact up_of (x.2 rfl)
    · exact x.1 rfl t') id_) id_)
theorem w_or {e₁ e₂ : Expr} {rest : List Expr} {pos : Pos} {Q : Value → Heap → Prop}
    (q : W c A (eval e₁ env) (fun v h => W c A (truthy v) (fun b h => Br b (Q v h) (W c A (eval (.BoolOp .Or (e₂ :: rest) pos) env) Q E h)) E h) E h) : W c A (eval (.BoolOp .Or (e₁ :: e₂ :: rest) pos) env) Q E h :=
  fun tk => BoolOp_or (wpAny_mono (q tk) (fun _ _ ⟨_, t, e, q⟩ => e ▸ wpAny_mono (q t) (fun b s x => by
    obtain ⟨h', t', rfl, x⟩ := x
    cases b
    · exact x.2 rfl t'
    · exact up_of (x.1 rfl)) id_) id_)
theorem w_attrN {x attr : Str} {xp pos : Pos} {Q : Value → Heap → Prop} (q : W c A (eval (.Name x xp) env) (fun o h => W c A (getAttr o attr true) Q E h) E h) : W c A (eval (.Attribute (.Name x xp) attr pos) env) Q E h :=
  fun tk => Attribute_Name_ (wpAny_mono (q tk) on id_)
theorem w_attrA {v : Expr} {a attr : Str} {xp pos : Pos} {Q : Value → Heap → Prop} (q : W c A (eval (.Attribute v a xp) env) (fun o h => W c A (getAttr o attr true) Q E h) E h) : W c A (eval (.Attribute (.Attribute v a xp) attr pos) env) Q E h :=
  fun tk => Attribute_any_ (wpAny_mono (q tk) on id_)
theorem w_attrS {v i : Expr} {attr : Str} {xp pos : Pos} {Q : Value → Heap → Prop} (q : W c A (eval (.Subscript v i xp) env) (fun o h => W c A (getAttr o attr true) Q E h) E h) : W c A (eval (.Attribute (.Subscript v i xp) attr pos) env) Q E h :=
  fun tk => Attribute_any_ (wpAny_mono (q tk) on id_)
theorem w_attrM {v : Expr} {a attr : Str} {ap xp pos : Pos} {args : List Expr} {Q : Value → Heap → Prop} (q : W c A (eval (.Call (.Attribute v a ap) args [] xp) env) (fun o h => W c A (getAttr o attr true) Q E h) E h) :
    W c A (eval (.Attribute (.Call (.Attribute v a ap) args [] xp) attr pos) env) Q E h :=
  fun tk => Attribute_any_ (wpAny_mono (q tk) on id_)
theorem w_sub {value slice : Expr} {pos : Pos} {Q : Value → Heap → Prop} (q : W c A (eval value env) (fun o h => W c A (eval slice env) (fun i h => W c A (subscriptTail value slice o i) Q E h) E h) E h) : W c A (eval (.Subscript value slice pos) env) Q E h :=
  fun tk => Subscript_ (wpAny_mono (q tk) (fun _ _ ⟨_, t, e, q⟩ => e ▸ wpAny_mono (q t) on id_) id_)
theorem w_call {x : Str} {xp pos : Pos} {args : List Expr} {Q : Value → Heap → Prop} (q : W c A (eval (.Name x xp) env) (fun f h => W c A (callWith pos f [] (backTo pos (starEach args env)) []) Q E h) E h) : W c A (eval (.Call (.Name x xp) args [] pos) env) Q E h :=
  fun tk => Call_ (wpAny_mono (q tk) on id_)
theorem w_meth {o : Expr} {name : Str} {apos pos : Pos} {args : List Expr} {pl : Sem Bool} {Q : Value → Heap → Prop}
    (he : eval (.Call (.Attribute o name apos) args [] pos) env = (do
      let ov ← eval o env
      standAt apos.atName
      let (f, first) ← holding [ov] (getMethod ov name pl)
      callWith pos f first (backTo pos (starEach args env)) []))
    (q : W c A (eval o env) (fun ov h => W c A (getMethod ov name pl) (fun fx h => W c A (callWith pos fx.1 fx.2 (backTo pos (starEach args env)) []) Q E h) E h) E h) : W c A (eval (.Call (.Attribute o name apos) args [] pos) env) Q E h :=
  fun tk => MethodCall_ (wpAny_mono (q tk) (fun _ _ ⟨_, t, e, q⟩ => e ▸ wpAny_mono (q t) (fun _ _ ⟨_, t, e, q⟩ => e ▸ q t) id_) id_) he
theorem w_args0 {pos : Pos} {Q : List Value → Heap → Prop} (q : Q [] h) : W c A (spliced (backTo pos (starEach [] env))) Q E h := fun _ => args_nil (up_of q)
theorem w_args {e : Expr} {rest : List Expr} {pos : Pos} {Q : List Value → Heap → Prop}
    (q : W c A (eval e env) (fun v h => W c A (spliced (backTo pos (starEach rest env))) (fun vs h => Q (v :: vs) h) E h) E h) (he : starEach (e :: rest) env = (false, eval e env) :: starEach rest env) : W c A (spliced (backTo pos (starEach (e :: rest) env))) Q E h :=
  fun tk => args_cons (wpAny_mono (q tk) (fun _ _ ⟨_, t, e, q⟩ => e ▸ q t) id_) he
theorem w_tuple {elts : List Expr} {k : Nat} {pos : Pos} {Q : Value → Heap → Prop} (q : W c A (spliced (backTo pos (starEach elts env))) (fun vs h => W c A (newTuple vs) Q E h) E h) : W c A (eval (.Tuple elts k pos) env) Q E h :=
  fun tk => Tuple_ (wpAny_mono (q tk) on id_)
theorem w_list {elts : List Expr} {pos : Pos} {Q : Value → Heap → Prop} (q : W c A (spliced (backTo pos (starEach elts env))) (fun vs h => W c A (newList vs) Q E h) E h) : W c A (eval (.List elts pos) env) Q E h :=
  fun tk => List_ (wpAny_mono (q tk) on id_)
end
end
noncomputable section
structure Sc (scope : Scope) (ns gs : List Str) : Prop where
  k : scope.kind = .function
  loc : ∀ x ∈ ns, scope.names.lookup x = some .local
  gl : ∀ x ∈ gs, scope.names.lookup x = some .globalImplicit
  dbg : ∀ x ∈ ns ++ gs, (x == ("__debug__" : Str)) = false
  nd : ns.Nodup
  co : scope.isCoroutine = false
  gen : scope.isGenerator = false
  cell : ∀ x ∈ scope.names, x.2 ≠ .cell

section
variable {α β : Type} {c : Cx} {A : Around} {E : Value → Heap → Prop} {h : Heap} {ns gs : List Str} {L f : Addr} {vs vs' : List (Option Value)} {X X' R Z : Led} {scope : Scope} {name : Str} {cd : Value}

theorem St.keep (S : St c ns L vs X R Z h) : ∀ b o, c.b.get? b = some o → h.get? b = some o := let ⟨_, F, _⟩ := S.fr; F.keep
theorem St.kin (B : Base c) (S : St c ns L vs X R Z h) : c.K.In h := B.X.keeps S.keep

theorem w_ld {x : Str} {pos : Pos} {v : Value} {Q : Value → Heap → Prop} (S : St c ns L vs X R Z h) (sc : Sc scope ns gs) (a : At x (some v) ns vs) (q : Q v h) : W c A (eval (.Name x pos) (envOf name scope L f cd)) Q E h := fun _ => by
  obtain ⟨m, F, l⟩ := S.fr
  exact ld F (l.at a) (up_of q) sc.k (sc.loc x a.mem) (sc.dbg x (List.mem_append_left _ a.mem))
theorem w_st {x : Str} {v : Value} {Q : Unit → Heap → Prop} (S : St c ns L vs X R Z h) (sc : Sc scope ns gs) (p : Put x (some v) ns vs vs') (q : ∀ h', St c ns L vs' X R Z h' → Q () h') : W c A (storeName (envOf name scope L f cd) x v) Q E h := fun _ => by
  obtain ⟨m, F, l⟩ := S.fr
  exact stN F S.nw (fun h' F' N' => up_of (q h' ⟨⟨_, F', l.put sc.nd p⟩, N', S.nd⟩)) sc.k (sc.loc x p.mem)
theorem w_gl {x : Str} {pos : Pos} {v : Value} {Q : Value → Heap → Prop} (B : Base c) (S : St c ns L vs X R Z h) (sc : Sc scope ns gs) (hx : x ∈ gs) (hv : c.mg x = some v) (q : Q v h) : W c A (eval (.Name x pos) (envOf name scope L f cd)) Q E h := fun _ => by
  obtain ⟨m, F, l⟩ := S.fr
  exact ld_global_at F B.g hv (up_of q) sc.k (sc.gl x hx) (sc.dbg x (List.mem_append_right _ hx))
theorem w_bi {x : Str} {pos : Pos} {v : Value} {Q : Value → Heap → Prop} (B : Base c) (S : St c ns L vs X R Z h) (sc : Sc scope ns gs) (hx : x ∈ gs) (hm : c.mg x = none) (hb : bootBuiltins x = some v) (hn : x ≠ "__name__") (q : Q v h) :
    W c A (eval (.Name x pos) (envOf name scope L f cd)) Q E h := fun _ => by
  obtain ⟨m, F, l⟩ := S.fr
  exact ld_builtin_at F B.g hm B.b ((B.builtins x hn).trans hb) (up_of q) sc.k (sc.gl x hx) (sc.dbg x (List.mem_append_right _ hx))
theorem w_body {body : List Stmt} {st : Stmt} {rest : List Stmt} {env : Env} {Q : Flow → Heap → Prop} (e : body = st :: rest) (q : W c A (execs (st :: rest) env) Q E h) : W c A (execs body env) Q E h := e ▸ q

/-! ### instances -/
noncomputable def mkEs (P : Params) : (Nat → Tok) → List Str → List Value → List DictEntry
  | tk, x :: xs, v :: vs => ⟨PyData.keyHash P x, .str x (tk 0), v⟩ :: mkEs P (fun i => tk (i + 1)) xs vs
  | _, _, _ => []
abbrev fld (c : Cx) (tk : Nat → Tok) (fs : List Str) (us : List Value) (n : Nat) : Obj := dictOf (mkEs c.w.params tk fs us) n
theorem find_mk {P : Params} {x : Str} {v : Value} {fs : List Str} {us : List Value} (a : At x v fs us) (nd : fs.Nodup) : ∀ tk, ∃ e, (mkEs P tk fs us).find? (fun d => d.key.isStr x) = some e ∧ e.val = v := by
  induction a with
  | head => exact fun tk => ⟨_, List.find?_cons_of_pos (show (x == x) = true from beq_self_eq_true x), rfl⟩
  | @tail y u fs us a ih =>
    intro tk
    have hn : ¬ (y == x) = true := fun e => (List.nodup_cons.mp nd).1 ((beq_iff_eq.mp e) ▸ a.mem)
    obtain ⟨e, he, hv⟩ := ih (List.nodup_cons.mp nd).2 (fun i => tk (i + 1))
    exact ⟨e, (List.find?_cons_of_neg (p := fun d : DictEntry => d.key.isStr x) (a := ⟨PyData.keyHash P y, .str y (tk 0), u⟩) hn).trans he, hv⟩
theorem getL_mk {P : Params} {x : Str} {v : Value} {fs : List Str} {us : List Value} (a : At x v fs us) (nd : fs.Nodup) (tk) : getL x (mkEs P tk fs us) = some (some v) := by
  obtain ⟨e, he, hv⟩ := find_mk (P := P) a nd tk
  unfold getL
  rw [he, ← hv]
theorem putL_mk {P : Params} {x : Str} {hsh : Int} {key v : Value} {fs : List Str} {us us' : List Value} (p : Put x v fs us us') (nd : fs.Nodup) : ∀ tk, putL x hsh key v (mkEs P tk fs us) = mkEs P tk fs us' ∧ (mkEs P tk fs us).any (·.key.isStr x) = true := by
  induction p with
  | head => intro tk; simp [putL, mkEs, Value.isStr]
  | @tail y u fs us us' p ih =>
    intro tk
    have hn : (y == x) = false := beq_false_of_ne fun q => (List.nodup_cons.mp nd).1 (q ▸ p.mem)
    have := ih (List.nodup_cons.mp nd).2 (fun i => tk (i + 1))
    simp only [mkEs, putL, Value.isStr, hn, Bool.false_eq_true, if_false, List.any_cons, Bool.false_or]
    exact ⟨by rw [this.1], this.2⟩
theorem mkEs_len {P : Params} : ∀ {fs : List Str} {us : List Value} {tk : Nat → Tok}, (mkEs P tk fs us).length ≤ fs.length
  | [], _, _ => by simp [mkEs]
  | _ :: _, [], _ => by simp [mkEs]
  | _ :: fs, _ :: us, _ => by simp only [mkEs, List.length_cons]; exact Nat.succ_le_succ mkEs_len
theorem At.put {α β : Type} {x : α} {v : β} {l : List α} {u u' : List β} (p : Put x v l u u') : ∃ w, At x w l u := by
  induction p with
  | head => exact ⟨_, .head⟩
  | tail _ ih => exact ⟨_, .tail ih.choose_spec⟩

structure Fld (K : Frag) (C : Addr) (x : Str) : Prop where
  get : plainGet K C x = true
  dict : hasDictIn K C = true
  find : ∃ attr, findIn K (.ref C) x = some attr ∧ noGet K attr = true
  set : findIn K (.ref C) "__setattr__" = some (some (.builtin "object.__setattr__"))
  over : plainOver K C = true
  taker : takerIn K C x = some none
/-- a class's fields -/
structure Cls (K : Frag) (C : Addr) (fs : List Str) : Prop where
  fld : ∀ x ∈ fs, Fld K C x
  nd : fs.Nodup
  len : fs.length ≤ 1000

theorem w_get {x dx C : Addr} {y : Str} {v : Value} {fs : List Str} {us : List Value} {tk : Nat → Tok} {n : Nat} {e : Bool} {Q : Value → Heap → Prop} (B : Base c) (S : St c ns L vs X R Z h)
    (hx : (x, instObj C dx) ∈ all3 X R Z) (hd : (dx, fld c tk fs us n) ∈ all3 X R Z) (C' : Cls c.K C fs) (a : At y v fs us) (hh : handedIn v = true) (q : Q v h) : W c A (getAttr (.ref x) y e) Q E h := fun _ => by
  obtain ⟨m, F, l⟩ := S.fr
  have k := C'.fld y a.mem
  obtain ⟨attr, k1, k2⟩ := k.find
  exact get_own F B.X (InstAt.of_news S.nw hx hd) k.get k.dict k1 k2 (getL_mk a C'.nd tk) hh (up_of q)
theorem w_set {x dx C : Addr} {y : Str} {v : Value} {fs : List Str} {us us' : List Value} {tk : Nat → Tok} {n : Nat} {Q : Unit → Heap → Prop} (B : Base c) (S : St c ns L vs X R Z h)
    (hx : (x, instObj C dx) ∈ all3 X R Z) (hd : Chg dx (fld c tk fs us n) (fld c tk fs us' n) X X') (C' : Cls c.K C fs) (p : Put y v fs us us') (q : ∀ h', St c ns L vs X' R Z h' → Q () h') : W c A (setAttr (.ref x) y v) Q E h := fun _ => by
  obtain ⟨m, F, l⟩ := S.fr
  have k := C'.fld y p.mem
  obtain ⟨w0, a⟩ := At.put p
  have hd' : (dx, fld c tk fs us n) ∈ all3 X R Z := by
    exact List.mem_append_left _ hd.from
  refine set_dict F B.X S.nw (InstAt.of_news S.nw hx hd') rfl k.set k.over k.taker k.dict (by rw [getL_mk a C'.nd tk]; rfl) (es' := mkEs c.w.params tk fs us') (n' := n) ?_ (hd.upd S.nd) (Nat.le_trans mkEs_len C'.len) (fun h' F' N' => up_of (q h' ⟨⟨_, F', l⟩, N', ?_⟩))
  · rw [(putL_mk p C'.nd tk).1]
    unfold putN
    rw [(putL_mk (P := c.w.params) (hsh := 0) (key := .none) p C'.nd tk).2, if_pos rfl]
  · rw [hd.same3]; exact S.nd
end
end
noncomputable section
/-! ### room -/
def Rm (n : Nat) (A : Around) : Prop := A.depth + 3 * n + 3 < 1000 ∧ A.units + 40 * n + 200 < 9900
theorem Rm.lt {n : Nat} {A : Around} (r : Rm n A) : A.depth < recursionLimit := by have := r.1; unfold recursionLimit; omega
theorem Rm.units {n : Nat} {A : Around} (r : Rm n A) : A.units < cLine := by have := r.2; unfold cLine; omega
theorem Rm.deeper {n : Nat} {A : Around} {env : Env} (r : Rm (n + 1) A) : Rm n (A.deeper env) := by
  obtain ⟨a, b⟩ := r; constructor
  · show A.depth + 1 + 3 * n + 3 < 1000; omega
  · show A.units + 3 + 40 * n + 200 < 9900; omega
theorem Rm.less {n k : Nat} {A : Around} (r : Rm n A) (h : k ≤ n := by decide) : Rm k A := by
  obtain ⟨a, b⟩ := r; constructor <;> omega

/-! ### the frame of a caller, and a def's call -/
structure Frm (c : Cx) (ns : List Str) (L : Addr) (vs : List (Option Value)) (oL : Obj) : Prop where
  ex : ∃ m es ep, oL.data = .dict es ep ∧ StrKeys es ∧ (∀ name, nsFind es name = m name) ∧ Loc m ns vs
  above : c.b.objs.size ≤ L
theorem Frm.leave {c : Cx} {ns ns' : List Str} {L L' : Addr} {vs vs' : List (Option Value)} {oL : Obj} {X R Z : Led} {h : Heap} (F : Frm c ns L vs oL) (S : St c ns' L' vs' X R ((L, oL) :: Z) h) : St c ns L vs X R Z h := by
  obtain ⟨m, es, ep, e1, e2, e3, l⟩ := F.ex
  have hL := S.nw (L, oL) (in3Z (.head _))
  have nd := S.nd
  have pm : (keys (all3 X R ((L, oL) :: Z))).Perm (L :: keys (all3 X R Z)) := by
    have : (all3 X R ((L, oL) :: Z)).Perm ((L, oL) :: all3 X R Z) := by
      show (X ++ (R ++ (L, oL) :: Z)).Perm ((L, oL) :: (X ++ (R ++ Z)))
      rw [← List.append_assoc, ← List.append_assoc]
      exact List.perm_middle
    exact this.map (·.1)
  have nd' := List.nodup_cons.mp (pm.nodup_iff.mp nd)
  refine ⟨⟨m, ⟨⟨oL, es, ep, hL.1, e1, e2, e3⟩, S.keep, F.above⟩, l⟩, fun p hp => ?_, nd'.2⟩
  have hp' : p ∈ all3 X R ((L, oL) :: Z) := by
    rcases List.mem_append.mp hp with q | q
    · exact List.mem_append_left _ q
    · rcases List.mem_append.mp q with q | q
      · exact in3R q
      · exact in3Z (.tail _ q)
  have z := S.nw p hp'
  exact ⟨z.1, fun e => nd'.1 (e ▸ List.mem_map_of_mem hp), z.2.2⟩

theorem loc_binds : ∀ (ps : List Str) (args : List Value) (os : List Str), (ps ++ os).Nodup → ps.length = args.length →
    Loc (fun x => (ps.zip args).reverse.lookup x) (ps ++ os) (args.map some ++ os.map fun _ => none) := by
  have key : ∀ (ps : List Str) (args : List Value) (os : List Str) (m₀ : List (Str × Value)), (ps ++ os).Nodup → ps.length = args.length → (∀ x ∈ ps ++ os, m₀.lookup x = none) →
      Loc (fun x => ((ps.zip args).reverse ++ m₀).lookup x) (ps ++ os) (args.map some ++ os.map fun _ => none) := by
    intro ps
    induction ps with
    | nil =>
      intro args os m₀ nd hl h0
      cases args with
      | cons _ _ => cases hl
      | nil =>
        show Loc (fun x => m₀.lookup x) os (os.map fun _ => none)
        clear hl nd
        replace h0 : ∀ x ∈ os, m₀.lookup x = none := h0
        induction os with
        | nil => exact .nil
        | cons y r ih => exact .cons (h0 y (.head _)) (ih fun x hx => h0 x (.tail _ hx))
    | cons p ps ih =>
      intro args os m₀ nd hl h0
      cases args with
      | nil => cases hl
      | cons v args =>
        have nd' := List.nodup_cons.mp (show (p :: (ps ++ os)).Nodup from nd)
        have e : ∀ x, ((((p :: ps).zip (v :: args)).reverse ++ m₀).lookup x) = ((ps.zip args).reverse ++ ((p, v) :: m₀)).lookup x := by
          intro x; simp [List.zip_cons_cons, List.reverse_cons, List.append_assoc]
        have hno : ∀ l : List (Str × Value), (∀ q ∈ l, q.1 ≠ p) → l.lookup p = none := by
          intro l
          induction l with
          | nil => intro _; rfl
          | cons q l ih =>
            intro hq
            rw [List.lookup_cons]
            have : (p == q.1) = false := beq_false_of_ne (Ne.symm (hq q (.head _)))
            rw [this]
            exact ih fun z hz => hq z (.tail _ hz)
        show Loc _ (p :: (ps ++ os)) (some v :: (args.map some ++ os.map fun _ => none))
        refine .cons ?_ ?_
        · show (((p :: ps).zip (v :: args)).reverse ++ m₀).lookup p = some v
          rw [e, List.lookup_append, hno _ (fun q hq => ?_)]
          · simp
          · have := List.of_mem_zip (List.mem_reverse.mp hq)
            exact fun z => nd'.1 (z ▸ List.mem_append_left _ this.1)
        · have := ih args os ((p, v) :: m₀) nd'.2 (by simpa using hl) (fun x hx => by
            rw [List.lookup_cons]
            have : (x == p) = false := beq_false_of_ne fun q => nd'.1 (q ▸ hx)
            rw [this]
            exact h0 x (.tail _ hx))
          have ee : (fun x => (((p :: ps).zip (v :: args)).reverse ++ m₀).lookup x) = fun x => ((ps.zip args).reverse ++ ((p, v) :: m₀)).lookup x := funext e
          rw [ee]; exact this
  intro ps args os nd hl
  have := key ps args os [] nd hl (fun _ _ => rfl)
  simpa using this

def paramsOf : Stmt → Arguments
  | .FunctionDef _ a _ _ _ _ _ _ _ _ => a
  | _ => { posonlyargs := [], args := [], vararg := none, kwonlyargs := [], kw_defaults := [], kwarg := none, defaults := [] }
def bodyOf : Stmt → List Stmt
  | .FunctionDef _ _ b _ _ _ _ _ _ _ => b
  | _ => []
def scopeOf : Stmt → Scope
  | .FunctionDef _ _ _ _ _ _ s _ _ _ => s
  | _ => { kind := .module, names := [], isGenerator := false, isCoroutine := false, more := [] }
/-- a def of the text as it stands in the base -/
def FnAt (c : Cx) (f : Addr) (qual : Str) (st : Stmt) (dflt : List Value) : Prop :=
  ∃ name oc od osl dV kV doc pm an cdv ct, c.K.lookup f = some ⟨oc, od, .func (fnOf name qual (paramsOf st) (bodyOf st) (scopeOf st) dV kV doc pm an cdv ct), osl⟩ ∧ codeIn c.K cdv qual = true ∧
    ((dflt = [] ∧ dV = .none) ∨ (dflt ≠ [] ∧ ∃ T o n, dV = .ref T ∧ c.K.lookup T = some o ∧ o.data = .seq dflt.toArray n))
/-- what a call binds, whatever is left open of the def's record -/
def Bnd (st : Stmt) (dflt args vals : List Value) : Prop :=
  ∀ (s : Shared) (name qual : Str) (dV kV doc pm : Value) (an : Option Addr) (cdv ct : Value), ((dflt = [] ∧ dV = .none) ∨ (dflt ≠ [] ∧ ∃ T o n, dV = .ref T ∧ s.heap.get? T = some o ∧ o.data = .seq dflt.toArray n)) →
    BindsTo s (fnOf name qual (paramsOf st) (bodyOf st) (scopeOf st) dV kV doc pm an cdv ct) ⟨args, []⟩ (((paramsOf st).args.map (·.arg)).zip vals)

def retV (fl : Flow) : Value := match fl with | .ret v => v | _ => .none
section
variable {c : Cx} {A : Around} {E : Value → Heap → Prop} {h : Heap} {ns gs os : List Str} {L f : Addr} {vs : List (Option Value)} {X R Z : Led}
theorem cw_enter {ps : List Str} {qual : Str} {st : Stmt} {dflt args vals : List Value} {Q : Result → Heap → Prop} (B : Base c) (S : St c ns L vs X R Z h) (hF : FnAt c f qual st dflt) (hA : A.depth < recursionLimit) (sc : Sc (scopeOf st) (ps ++ os) gs)
    (hps : (paramsOf st).args.map (·.arg) = ps) (hl : ps.length = vals.length) (hb : Bnd st dflt args vals)
    (q : ∀ L' h' cdv oL, Frm c ns L vs oL → St c (ps ++ os) L' (vals.map some ++ os.map fun _ => none) X R ((L, oL) :: Z) h' →
      W c (A.deeper (envOf qual (scopeOf st) L' f cdv)) (execs (bodyOf st) (envOf qual (scopeOf st) L' f cdv)) (fun fl h'' => Q (.ok (.ret (retV fl))) h'')
        (fun e h'' => W c (A.deeper (envOf qual (scopeOf st) L' f cdv)) (leaving (envOf qual (scopeOf st) L' f cdv) e) (fun _ h => Q (.error e) h) (fun e' h => Q (.error e') h) h'') h') : CW c A (.call (.ref f) ⟨args, []⟩) Q h := fun tk => by
  obtain ⟨name, oc, od, osl, dV, kV, doc, pm, an, cdv, ct, h1, h2, h3⟩ := hF
  have X' := S.kin B
  have hS := S.fr
  obtain ⟨m, F, l⟩ := S.fr
  obtain ⟨oL, es, ep, hoL, hdL, hkL, hfL⟩ := F.ns
  have fresh : ∀ b o, h.get? b = some o → b ≠ h.objs.size := fun b o e => Nat.ne_of_lt (Heap.lt_size e)
  refine codeAny_call_def (fd := fnOf name qual (paramsOf st) (bodyOf st) (scopeOf st) dV kV doc pm an cdv ct) (body := bodyOf st) hA (X' _ _ h1) rfl (B.nolimit.keeps F.keep) (codeRec_of X' h2) rfl
    (hb _ name qual dV kV doc pm an cdv ct (h3.imp id fun ⟨ne, T, o, n, e1, e2, e3⟩ => ⟨ne, T, o, n, e1, X' _ _ e2, e3⟩)) sc.cell (fun x hx => ?_) (fun h₁ hns hk => ?_) sc.co sc.gen sc.k
  · rw [hps] at hx
    exact sc.loc _ (List.mem_append_left _ (List.of_mem_zip hx).1)
  · have ndp : ((keys ((L, oL) :: all3 X R Z))).Nodup := List.nodup_cons.mpr ⟨fun hm => by
      obtain ⟨p, hp, e⟩ := List.mem_map.mp hm
      exact (S.nw p hp).2.1 e, S.nd⟩
    have pm : (all3 X R ((L, oL) :: Z)).Perm ((L, oL) :: all3 X R Z) := by
      show (X ++ (R ++ (L, oL) :: Z)).Perm ((L, oL) :: (X ++ (R ++ Z)))
      rw [← List.append_assoc, ← List.append_assoc]
      exact List.perm_middle
    have S' : St c (ps ++ os) h.objs.size (vals.map some ++ os.map fun _ => none) X R ((L, oL) :: Z) h₁ := by
      refine ⟨⟨_, ⟨hns, fun b o e => hk b o (F.keep b o e), ?_⟩, by rw [hps]; exact loc_binds ps vals os sc.nd hl⟩, fun p hp => ?_, (pm.map (·.1)).nodup_iff.mpr ndp⟩
      · have := F.above
        have := Heap.lt_size hoL
        exact Nat.le_of_lt (Nat.lt_of_le_of_lt ‹_› this)
      · rcases List.mem_cons.mp (pm.mem_iff.mp hp) with rfl | hp
        · refine ⟨hk _ _ hoL, fresh _ _ hoL, ?_⟩
          cases q : c.b.get? L with
          | none => rfl
          | some o => exact absurd (Heap.lt_size q) (Nat.not_lt.mpr F.above)
        · have z := S.nw p hp
          exact ⟨hk _ _ z.1, fresh _ _ z.1, z.2.2⟩
    have y := q h.objs.size h₁ cdv oL ⟨⟨m, es, ep, hdL, hkL, hfL, l⟩, F.above⟩ S' (tk + (((paramsOf st).args.map (·.arg)).zip vals).length)
    refine wpAny_mono y (fun fl s' x => x) (fun e s' x => ?_)
    obtain ⟨h', t', rfl, x⟩ := x
    exact wpAny_mono (x t') (fun _ _ z => z) fun _ _ z => z
theorem w_of_cw {args : List Value} {Q : Value → Heap → Prop} (q : CW c A (.call (.ref f) ⟨args, []⟩) (fun r h => match r with | .ok (.ret v) => Q v h | .ok _ => False | .error e => E e h) h) : W c A (call (.ref f) args) Q E h :=
  fun tk => wpAny_call (codeAny_mono (q tk) fun r s x => by
    obtain ⟨h', t', rfl, x⟩ := x
    rcases r with e | (v | _ | _ | _)
    · exact up_of x
    · exact x
    · exact x
    · exact x
    · exact up_of x)
/-- a def that does not raise -/
theorem w_enter {n : Nat} {ps : List Str} {qual : Str} {st : Stmt} {dflt args vals : List Value} {Q : Value → Heap → Prop} (B : Base c) (S : St c ns L vs X R Z h) (hF : FnAt c f qual st dflt) (hA : Rm (n + 1) A) (sc : Sc (scopeOf st) (ps ++ os) gs)
    (hps : (paramsOf st).args.map (·.arg) = ps) (hl : ps.length = vals.length) (hb : Bnd st dflt args vals)
    (q : ∀ L' h' cdv oL, Frm c ns L vs oL → Rm n (A.deeper (envOf qual (scopeOf st) L' f cdv)) → St c (ps ++ os) L' (vals.map some ++ os.map fun _ => none) X R ((L, oL) :: Z) h' →
      W c (A.deeper (envOf qual (scopeOf st) L' f cdv)) (execs (bodyOf st) (envOf qual (scopeOf st) L' f cdv)) (fun fl h'' => Q (retV fl) h'') (fun _ _ => False) h') : W c A (call (.ref f) args) Q E h :=
  w_of_cw (cw_enter B S hF hA.lt sc hps hl hb fun L' h' cdv oL F' S' => (q L' h' cdv oL F' hA.deeper S').mono (fun _ _ x => x) fun _ _ x => x.elim)
end
end
noncomputable section
section
variable {c : Cx} {A : Around} {E : Value → Heap → Prop} {h : Heap} {ns gs os : List Str} {L f : Addr} {vs : List (Option Value)} {X X' R Z : Led} {a b : Int} {t u : Tok} {x y : Str} {Q : Value → Heap → Prop}

theorem r_eqII (q : Q (.bool (a == b)) h) : W c A (compareOp .Eq (.int a t) (.int b u)) Q E h := fun _ => eq_int (up_of q)
theorem r_neII (q : Q (.bool (a != b)) h) : W c A (compareOp .NotEq (.int a t) (.int b u)) Q E h := fun _ => ne_int (up_of q)
theorem r_ltII (q : Q (.bool (decide (a < b))) h) : W c A (compareOp .Lt (.int a t) (.int b u)) Q E h := fun _ => lt_int (up_of q)
theorem r_gtII (q : Q (.bool (decide (b < a))) h) : W c A (compareOp .Gt (.int a t) (.int b u)) Q E h := fun _ => gt_int (up_of q)
theorem r_geII (q : Q (.bool (decide (b ≤ a))) h) : W c A (compareOp .GtE (.int a t) (.int b u)) Q E h := fun _ => ge_int (up_of q)
theorem r_eqSS (q : Q (.bool (x == y)) h) : W c A (compareOp .Eq (.str x t) (.str y u)) Q E h := fun _ => PyProof.Rows.eq_str (up_of q)
theorem r_neSS (q : Q (.bool (x != y)) h) : W c A (compareOp .NotEq (.str x t) (.str y u)) Q E h := fun _ => PyProof.Rows.ne_str (up_of q)
theorem r_eqIS (q : Q (.bool false) h) : W c A (compareOp .Eq (.int a t) (.str y u)) Q E h := fun _ => EqMixed.eq_int_str (up_of q)
theorem r_eqNS (q : Q (.bool false) h) : W c A (compareOp .Eq .none (.str y u)) Q E h := fun _ => EqNone.eq_none_str (up_of q)
theorem r_eqIN (q : Q (.bool false) h) : W c A (compareOp .Eq (.int a t) .none) Q E h := fun _ => EqNone.eq_int_none (up_of q)
theorem r_eqNI (q : Q (.bool false) h) : W c A (compareOp .Eq .none (.int a t)) Q E h := fun _ => EqNone.eq_none_int (up_of q)
theorem r_neIN (q : Q (.bool true) h) : W c A (compareOp .NotEq (.int a t) .none) Q E h := fun _ => EqNone.ne_int_none (up_of q)
theorem r_neNI (q : Q (.bool true) h) : W c A (compareOp .NotEq .none (.int a t)) Q E h := fun _ => EqNone.ne_none_int (up_of q)
theorem r_isIN (q : Q (.bool false) h) : W c A (compareOp .Is (.int a t) .none) Q E h := fun _ => is_int_none (up_of q)
theorem r_isSN (q : Q (.bool false) h) : W c A (compareOp .Is (.str x t) .none) Q E h := fun _ => is_str_none (up_of q)
theorem r_isRN {r : Addr} (q : Q (.bool false) h) : W c A (compareOp .Is (.ref r) .none) Q E h := fun _ => is_ref_none (up_of q)
theorem r_isNN (q : Q (.bool true) h) : W c A (compareOp .Is .none .none) Q E h := fun _ => PyProof.Rows.is_none_none (up_of q)
theorem r_inIN (q : Q (.bool true) h) : W c A (compareOp .IsNot (.int a t) .none) Q E h := fun _ => isnot_int_none (up_of q)
theorem r_inRN {r : Addr} (q : Q (.bool true) h) : W c A (compareOp .IsNot (.ref r) .none) Q E h := fun _ => isnot_ref_none (up_of q)
theorem r_inNN (q : Q (.bool false) h) : W c A (compareOp .IsNot .none .none) Q E h := fun _ => PyProof.Rows.isnot_none_none (up_of q)
theorem r_add (q : ∀ t, Q (.int (a + b) t) h) : W c A (binaryOp .Add (.int a t) (.int b u)) Q E h := fun _ => PyProof.Rows.add_int (up_of (q _))
theorem r_sub (q : ∀ t, Q (.int (a - b) t) h) : W c A (binaryOp .Sub (.int a t) (.int b u)) Q E h := fun _ => PyProof.Rows.sub_int (up_of (q _))
theorem r_mul (hm : IntMulOk a b) (q : ∀ t, Q (.int (a * b) t) h) : W c A (binaryOp .Mult (.int a t) (.int b u)) Q E h := fun _ => PyProof.Rows.mul_int (up_of (q _)) hm
theorem r_mod (hb : b ≠ 0) (q : ∀ t, Q (.int (a.fmod b) t) h) : W c A (binaryOp .Mod (.int a t) (.int b u)) Q E h := fun _ => PyProof.Rows.mod_int' hb (up_of (q _))
theorem r_div (hb : b ≠ 0) (hp : Builtin.divisionGoesByPylong a b = false) (q : ∀ t, Q (.int (a.fdiv b) t) h) : W c A (binaryOp .FloorDiv (.int a t) (.int b u)) Q E h := fun _ => PyProof.Rows.floordiv_int hb (up_of (q _)) (.inl hp)
theorem r_neg (q : ∀ t, Q (.int (-a) t) h) : W c A (unaryOp .USub (.int a t)) Q E h := fun _ => PyProof.Rows.neg_int (up_of (q _))
end
end
noncomputable section
def stm (i : Nat) : Stmt := (PySem.Challenge.pw_pq1364_01.main.body[i]?).getD (.Pass ⟨0,0,0,0⟩)
def clsBody : Stmt → List Stmt
  | .ClassDef _ _ _ b _ _ _ _ _ _ _ => b
  | _ => []
def mth (i j : Nat) : Stmt := ((clsBody (stm i))[j]?).getD (.Pass ⟨0,0,0,0⟩)

/-- a def of the top, under its name -/
def Gfn (c : Cx) (x : Str) (st : Stmt) (dflt : List Value) : Prop := ∃ f, c.mg x = some (.ref f) ∧ FnAt c f x st dflt
theorem FnAt.keep {c : Cx} {f : Addr} {qual : Str} {st : Stmt} {dflt : List Value} (F : FnAt c f qual st dflt) : keepIn c.K (.ref f) = true ∧ fnIn c.K f = true ∧ isFn c.K (.ref f) = (typeIn c.K (.ref f) == some (.type "function")) := by
  obtain ⟨name, oc, od, osl, dV, kV, doc, pm, an, cdv, ct, h1, _⟩ := F
  refine ⟨?_, ?_, rfl⟩
  · unfold keepIn; simp only; rw [h1]
  · unfold fnIn; rw [h1]

section
variable {α β : Type} {c : Cx} {A : Around} {E : Value → Heap → Prop} {h : Heap} {ns gs os : List Str} {L : Addr} {vs : List (Option Value)} {X X' R Z : Led} {scope : Scope} {name : Str} {f : Addr} {cd : Value}

theorem cwith {env : Env} {pos : Pos} {g : Value} {first : List Value} {e : Expr} {rest : List Expr} {Q : Value → Heap → Prop} (B : Base c) (hk : keepIn c.K g = true) (he : starEach (e :: rest) env = (false, eval e env) :: starEach rest env) (hp : (backTo pos (starEach rest env)).any (·.1) = false)
    (q : W c A (spliced (backTo pos (starEach (e :: rest) env))) (fun us h => c.K.In h ∧ W c A (call g (first ++ us)) Q E h) E h) : W c A (callWith pos g first (backTo pos (starEach (e :: rest) env)) []) Q E h := fun tk =>
  callWith_K (K := c.K) (h₀ := c.b) B.X hk (wpAny_mono (q tk) (fun us s x => by obtain ⟨h', t', rfl, x⟩ := x; exact ⟨x.1, x.2 t'⟩) id_) he hp
theorem cwith0 {env : Env} {pos : Pos} {g : Value} {first : List Value} {Q : Value → Heap → Prop} (X : c.K.In h) (hk : keepIn c.K g = true) (q : W c A (call g first) Q E h) : W c A (callWith pos g first (backTo pos (starEach [] env)) []) Q E h := fun tk =>
  callWith_K0 (K := c.K) X hk (by rw [List.append_nil]; exact q tk)
/-- a call of a def of the top, by name -/
theorem w_fn {x : Str} {xp pos : Pos} {st : Stmt} {dflt : List Value} {e : Expr} {rest : List Expr} {Q : Value → Heap → Prop} (B : Base c) (S : St c ns L vs X R Z h) (sc : Sc scope ns gs) (hx : x ∈ gs) (G : Gfn c x st dflt)
    (he : starEach (e :: rest) (envOf name scope L f cd) = (false, eval e (envOf name scope L f cd)) :: starEach rest (envOf name scope L f cd)) (hp : (backTo pos (starEach rest (envOf name scope L f cd))).any (·.1) = false)
    (q : ∀ g, FnAt c g x st dflt → W c A (spliced (backTo pos (starEach (e :: rest) (envOf name scope L f cd)))) (fun us h => c.K.In h ∧ W c A (call (.ref g) us) Q E h) E h) :
    W c A (eval (.Call (.Name x xp) (e :: rest) [] pos) (envOf name scope L f cd)) Q E h := by
  obtain ⟨g, hg, F⟩ := G
  exact w_call (w_gl B S sc hx hg (cwith B F.keep.1 he hp (q g F)))
/-- a call of a built-in by name -/
theorem w_bn {x : Str} {xp pos : Pos} {id : String} {e : Expr} {rest : List Expr} {Q : Value → Heap → Prop} (B : Base c) (S : St c ns L vs X R Z h) (sc : Sc scope ns gs) (hx : x ∈ gs) (hm : c.mg x = none) (hb : bootBuiltins x = some (.builtin id)) (hn : x ≠ "__name__")
    (he : starEach (e :: rest) (envOf name scope L f cd) = (false, eval e (envOf name scope L f cd)) :: starEach rest (envOf name scope L f cd)) (hp : (backTo pos (starEach rest (envOf name scope L f cd))).any (·.1) = false)
    (q : W c A (spliced (backTo pos (starEach (e :: rest) (envOf name scope L f cd)))) (fun us h => W c A (call (.builtin id) us) Q E h) E h) :
    W c A (eval (.Call (.Name x xp) (e :: rest) [] pos) (envOf name scope L f cd)) Q E h :=
  w_call (w_bi B S sc hx hm hb hn fun tk => callWith_builtin1 (wpAny_mono (q tk) (fun _ _ ⟨_, t, e, q⟩ => e ▸ q t) id_) he hp)
theorem cwm0 {env : Env} {pos : Pos} {id : String} {first : List Value} {Q : Value → Heap → Prop} (q : W c A (call (.builtin id) first) Q E h) : W c A (callWith pos (.builtin id) first (backTo pos (starEach [] env)) []) Q E h := fun tk => callWith_method0 (q tk)
theorem cwm1 {env : Env} {pos : Pos} {id : String} {first : List Value} {e : Expr} {rest : List Expr} {Q : Value → Heap → Prop} (he : starEach (e :: rest) env = (false, eval e env) :: starEach rest env) (hp : (backTo pos (starEach rest env)).any (·.1) = false)
    (q : W c A (spliced (backTo pos (starEach (e :: rest) env))) (fun us h => W c A (call (.builtin id) (first ++ us)) Q E h) E h) : W c A (callWith pos (.builtin id) first (backTo pos (starEach (e :: rest) env)) []) Q E h := fun tk =>
  callWith_method1 (wpAny_mono (q tk) (fun _ _ ⟨_, t, e, q⟩ => e ▸ q t) id_) he hp

/-! ### methods of instances -/
theorem getL_none {P : Params} {x : Str} : ∀ {fs : List Str} {us : List Value} {tk : Nat → Tok}, x ∉ fs → getL x (mkEs P tk fs us) = some none := by
  have key : ∀ {fs : List Str} {us : List Value} {tk : Nat → Tok}, x ∉ fs → (mkEs P tk fs us).find? (fun d => d.key.isStr x) = none ∧ (mkEs P tk fs us).any (·.refKey) = false := by
    intro fs
    induction fs with
    | nil => intro us tk _; exact ⟨rfl, rfl⟩
    | cons y fs ih =>
      intro us tk hn
      cases us with
      | nil => exact ⟨rfl, rfl⟩
      | cons u us =>
        have hy : ¬ (y == x) = true := fun e => hn ((beq_iff_eq.mp e) ▸ .head _)
        obtain ⟨a, b⟩ := ih (us := us) (tk := fun i => tk (i + 1)) fun q => hn (.tail _ q)
        refine ⟨(List.find?_cons_of_neg (p := fun d : DictEntry => d.key.isStr x) (a := ⟨PyData.keyHash P y, .str y (tk 0), u⟩) hy).trans a, ?_⟩
        show (DictEntry.refKey _ || _) = false
        rw [b]; rfl
  intro fs us tk hn
  obtain ⟨a, b⟩ := key (us := us) (tk := tk) hn
  unfold getL
  rw [a]
  simp only
  rw [b]; rfl
structure Mt (c : Cx) (C : Addr) (x : Str) (qual : Str) (st : Stmt) (dflt : List Value) : Prop where
  ex : ∃ f, findIn c.K (.ref C) x = some (some (.ref f)) ∧ FnAt c f qual st dflt ∧ isFn c.K (.ref f) = true
  get : plainGet c.K C x = true
theorem w_gm {x dx C : Addr} {y qual : Str} {st : Stmt} {dflt : List Value} {fs : List Str} {us : List Value} {tk : Nat → Tok} {n : Nat} {pl : Sem Bool} {Q : Value × List Value → Heap → Prop} (B : Base c) (S : St c ns L vs X R Z h)
    (hx : (x, instObj C dx) ∈ all3 X R Z) (hd : (dx, fld c tk fs us n) ∈ all3 X R Z) (M : Mt c C y qual st dflt) (hn : y ∉ fs) (q : ∀ g, FnAt c g qual st dflt → Q (.ref g, [.ref x]) h) : W c A (getMethod (.ref x) y pl) Q E h := fun _ => by
  obtain ⟨m, F, l⟩ := S.fr
  obtain ⟨g, h1, h2, h3⟩ := M.ex
  exact method_inst F B.X (InstAt.of_news S.nw hx hd) M.get h1 h3 (getL_none hn) (up_of (q g h2))

/-! ### lists -/
theorem St.set {X' : Led} {o o' : Obj} {D : Addr} {h' : Heap} {m : Str → Option Value} (S : St c ns L vs X R Z h) (hc : Chg D o o' X X') (F' : Fr c.b L h' m) (l : Loc m ns vs) (N' : News c.b L h' (all3 X' R Z)) : St c ns L vs X' R Z h' :=
  ⟨⟨m, F', l⟩, N', by rw [hc.same3]; exact S.nd⟩
theorem r_gmL {D : Addr} {its : Array Value} {n : Nat} {x : Str} {id : String} {pl : Sem Bool} {Q : Value × List Value → Heap → Prop} (S : St c ns L vs X R Z h) (hm : (D, listOf its n) ∈ all3 X R Z) (slot : Slot "list" x id) (hty : typeOf (.builtin id) = pure (.type "method_descriptor"))
    (q : Q (.builtin id, [.ref D]) h) : W c A (getMethod (.ref D) x pl) Q E h := fun _ => kl_method S.nw hm slot hty (up_of q)
theorem r_append {D : Addr} {l : List Value} {n : Nat} {v : Value} {Q : Value → Heap → Prop} (S : St c ns L vs X R Z h) (hc : Chg D (listOf l.toArray n) (listOf (l ++ [v]).toArray (n + 1)) X X') (hz : l.length ≤ 1000) (q : ∀ h', St c ns L vs X' R Z h' → Q .none h') :
    W c A (call (.builtin "list.append") [.ref D, v]) Q E h := fun _ => by
  obtain ⟨m, F, l'⟩ := S.fr
  refine append_K (its := l.toArray) (n := n) F S.nw (news' := all3 X' R Z) ?_ (fun h' F' N' => up_of (q h' (S.set hc F' l' N'))) (by rw [sizeLine_eq, List.size_toArray]; omega)
  have := hc.upd S.nd
  rwa [← List.push_toArray] at this
theorem r_pop {D : Addr} {p : List Value} {y : Value} {n : Nat} {Q : Value → Heap → Prop} (S : St c ns L vs X R Z h) (hc : Chg D (listOf (p ++ [y]).toArray n) (listOf p.toArray (n + 1)) X X') (hz : p.length ≤ 1000) (q : ∀ h', St c ns L vs X' R Z h' → Q y h') :
    W c A (call (.builtin "list.pop") [.ref D]) Q E h := fun _ => by
  obtain ⟨m, F, l⟩ := S.fr
  refine kl_pop (p := p) (y := y) F S.nw ?_ (hc.upd S.nd) (by simp only [List.length_append, List.length_cons, List.length_nil, sizeLine_eq]; omega) (fun h' F' N' => up_of (q h' (S.set hc F' l N')))
  clear hz hc
  show kl_last (p ++ [y]) = some (p, y)
  induction p with
  | nil => rfl
  | cons a p ih => rw [List.cons_append]; cases p <;> first | rfl | (unfold kl_last; simp_all)
end
end
noncomputable section
abbrev tupOf (l : List Value) (n : Nat) : Obj := { cls := .type "tuple", data := .seq l.toArray n }
section
variable {c : Cx} {A : Around} {E : Value → Heap → Prop} {h : Heap} {ns gs os : List Str} {L : Addr} {vs : List (Option Value)} {X X' R Z : Led} {value slice : Expr}

theorem r_tup {t : Addr} {l : List Value} {n : Nat} {k : Int} {u : Tok} {j : Nat} {x : Value} {Q : Value → Heap → Prop} (S : St c ns L vs X R Z h) (hm : (t, tupOf l n) ∈ all3 X R Z) (hlo : -(2 ^ 63) ≤ k) (hhi : k < 2 ^ 63) (hj : seqIndex? k l.length = some j) (hx : l[j]? = some x)
    (hs : subscripted slice false (.ref t) (.int k u) = operate [.ref t, .int k u] (getItem (.ref t) (.int k u))) (q : Q x h) : W c A (subscriptTail value slice (.ref t) (.int k u)) Q E h := fun _ =>
  item_tupleT (l := l) ⟨_, (S.nw _ hm).1, rfl, _, rfl⟩ hlo hhi hj hx (up_of q) hs
theorem r_lst {D : Addr} {l : List Value} {n : Nat} {k : Int} {u : Tok} {x : Value} {Q : Value → Heap → Prop} (S : St c ns L vs X R Z h) (hm : (D, listOf l.toArray n) ∈ all3 X R Z) (h0 : 0 ≤ k) (hhi : k < 2 ^ 63) (hx : l[k.toNat]? = some x)
    (hs : subscripted slice false (.ref D) (.int k u) = operate [.ref D, .int k u] (getItem (.ref D) (.int k u))) (q : Q x h) : W c A (subscriptTail value slice (.ref D) (.int k u)) Q E h := fun _ => by
  have hl : h.IsList D l.toArray := ⟨_, (S.nw _ hm).1, rfl, _, rfl⟩
  exact tail_any (s := c.st h _) hl.typeIs slot_list_getitem.lookup (wpAny_getItem_list hl h0 hhi (by simpa using hx) (up_of q)) hs
theorem r_lstN {D : Addr} {l : List Value} {n : Nat} {k : Int} {u : Tok} {j : Nat} {x : Value} {Q : Value → Heap → Prop} (S : St c ns L vs X R Z h) (hm : (D, listOf l.toArray n) ∈ all3 X R Z) (h0 : k < 0) (hlo : -(2 ^ 63) ≤ k) (hj : seqIndex? k l.length = some j) (hx : l[j]? = some x)
    (hs : subscripted slice false (.ref D) (.int k u) = operate [.ref D, .int k u] (getItem (.ref D) (.int k u))) (q : Q x h) : W c A (subscriptTail value slice (.ref D) (.int k u)) Q E h := fun _ =>
  kde_neg (vs := l) ⟨_, (S.nw _ hm).1, rfl, _, rfl⟩ h0 hlo hj hx (up_of q) hs
theorem r_setL {D : Addr} {l : List Value} {n : Nat} {k : Int} {u : Tok} {v : Value} {Q : Unit → Heap → Prop} (S : St c ns L vs X R Z h) (hc : Chg D (listOf l.toArray n) (listOf (l.set k.toNat v).toArray n) X X') (h0 : 0 ≤ k) (hhi : k < 2 ^ 63) (hn : k < l.length)
    (q : ∀ h', St c ns L vs X' R Z h' → Q () h') : W c A (setItem (.ref D) (.int k u) v) Q E h := fun _ => by
  obtain ⟨m, F, l'⟩ := S.fr
  have N := S.nw
  have U := hc.upd S.nd (t := R ++ Z)
  obtain ⟨pre, post, e1, e2, a, b⟩ := U.split
  have hN : News c.b L h (pre ++ (D, listOf l.toArray n) :: post) := fun p hp => N p (by show p ∈ X ++ (R ++ Z); rw [e1]; exact hp)
  have z := hN (D, listOf l.toArray n) (List.mem_append.mpr (.inr (.head _)))
  refine ki_setAt z.1 h0 hhi (by rw [List.size_toArray]; exact hn) (up_of (q _ (S.set hc (F.change (Heap.SameBut.update ..) z.2.1 z.2.2) l' ?_)))
  have := ki_turn (f := (·.setIfInBounds k.toNat v)) (its' := (l.set k.toNat v).toArray) (n' := n) hN a b (by simp) (by simp)
  intro p hp
  refine this p ?_
  rw [← e2]; exact hp

/-! ### new tuples and lists -/
theorem St.push {o : Obj} (S : St c ns L vs X R Z h) (hf : o.isFreed = false) : St c ns L vs ((h.objs.size, o) :: X) R Z (h.push o) := by
  obtain ⟨m, F, l⟩ := S.fr
  refine ⟨⟨m, F.push o, l⟩, S.nw.push F o hf, List.nodup_cons.mpr ⟨fun hm => ?_, S.nd⟩⟩
  obtain ⟨p, hp, e⟩ := List.mem_map.mp hm
  exact absurd (Heap.lt_size (S.nw p hp).1) (by show ¬ p.1 < h.objs.size; rw [e]; exact Nat.lt_irrefl _)
theorem r_newT {us : List Value} {Q : Value → Heap → Prop} (S : St c ns L vs X R Z h) (hz : us.length ≤ 1000) (q : ∀ t h', St c ns L vs ((t, tupOf us 0) :: X) R Z h' → Q (.ref t) h') : W c A (newTuple us) Q E h := fun _ => by
  obtain ⟨m, F, l⟩ := S.fr
  exact newTuple_N F S.nw (fun h' F' N' => up_of (q _ h' ⟨⟨m, F', l⟩, N', (S.push (o := tupOf us 0) rfl).nd⟩)) (by rw [sizeLine_eq]; omega)
theorem r_newL {us : List Value} {Q : Value → Heap → Prop} (S : St c ns L vs X R Z h) (hz : us.length ≤ 1000) (q : ∀ t h', St c ns L vs ((t, listOf us.toArray 0) :: X) R Z h' → Q (.ref t) h') : W c A (newList us) Q E h := fun _ => by
  obtain ⟨m, F, l⟩ := S.fr
  exact newList_N F S.nw (fun h' F' N' => up_of (q _ h' ⟨⟨m, F', l⟩, N', (S.push (o := listOf us.toArray 0) rfl).nd⟩)) (by rw [sizeLine_eq]; omega)
theorem r_lenL {D : Addr} {l : List Value} {n : Nat} {Q : Value → Heap → Prop} (S : St c ns L vs X R Z h) (hm : (D, listOf l.toArray n) ∈ all3 X R Z) (hz : l.length ≤ 1000) (q : ∀ t, Q (.int l.length t) h) : W c A (call (.builtin "len") [.ref D]) Q E h := fun _ => by
  have hl : h.IsList D l.toArray := ⟨_, (S.nw _ hm).1, rfl, _, rfl⟩
  refine Calls.call_len_list (s := c.st h _) hl (by rw [List.size_toArray]; omega) ?_
  rw [List.size_toArray]
  exact up_of (q _)
theorem r_lenS {x : Str} {t : Tok} {Q : Value → Heap → Prop} (hz : x.length ≤ 1000) (q : ∀ t, Q (.int x.length t) h) : W c A (call (.builtin "len") [.str x t]) Q E h := fun _ =>
  SBL.len (by omega) (up_of (q _))

/-! ### dicts by texts -/
theorem r_itemD {d : Addr} {o : Obj} {kvs : List (Str × Value)} {x : Str} {t : Tok} {v : Value} {Q : Value → Heap → Prop} (S : St c ns L vs X R Z h) (hm : (d, o) ∈ all3 X R Z) (hd : o.IsDictOf (strKind c.prog c.w) kvs) (hl : valueAt kvs x = some v)
    (hs : subscripted slice false (.ref d) (.str x t) = operate [.ref d, .str x t] (getItem (.ref d) (.str x t))) (q : Q v h) : W c A (subscriptTail value slice (.ref d) (.str x t)) Q E h := fun _ => by
  have hD : h.DictOf (strKind c.prog c.w) d kvs := Heap.dictOf_iff.mpr ⟨o, (S.nw _ hm).1, hd⟩
  exact tail_any (s := c.st h _) hD.typeIs slot_dict_getitem.lookup (wpAny_getItem_of (strKind_is _ _ _ _) hD.mapOf hl (up_of q)) hs
theorem not_mods {d : Addr} {o : Obj} (hmods : (c.b.get? sysModules).isSome = true) (S : St c ns L vs X R Z h) (hm : (d, o) ∈ all3 X R Z) : (d == sysModules) = false := by
  refine beq_eq_false_iff_ne.mpr fun e => ?_
  have := (S.nw _ hm).2.2
  rw [show ((d, o) : Addr × Obj).1 = sysModules from e] at this
  rw [this] at hmods
  cases hmods
theorem r_gmD {d : Addr} {o : Obj} {kvs : List (Str × Value)} {x : Str} {id : String} {pl : Sem Bool} {Q : Value × List Value → Heap → Prop} (S : St c ns L vs X R Z h) (hm : (d, o) ∈ all3 X R Z) (hd : o.IsDictOf (strKind c.prog c.w) kvs) (slot : Slot "dict" x id) (hty : typeOf (.builtin id) = pure (.type "method_descriptor"))
    (q : Q (.builtin id, [.ref d]) h) : W c A (getMethod (.ref d) x pl) Q E h := fun _ => by
  have hD : h.DictOf (strKind c.prog c.w) d kvs := Heap.dictOf_iff.mpr ⟨o, (S.nw _ hm).1, hd⟩
  exact getMethod_builtin (s := c.st h _) hD.typeIs PySem.F.plainAttrs_dict slot hty hD.mapOf.noDict (up_of q)
theorem r_getD {d : Addr} {o : Obj} {kvs : List (Str × Value)} {x : Str} {t : Tok} {Q : Value → Heap → Prop} (hmods : (c.b.get? sysModules).isSome = true) (S : St c ns L vs X R Z h) (hm : (d, o) ∈ all3 X R Z) (hd : o.IsDictOf (strKind c.prog c.w) kvs)
    (q : Q ((valueAt kvs x).getD .none) h) : W c A (call (.builtin "dict.get") [.ref d, .str x t]) Q E h := fun _ => by
  have hD : h.DictOf (strKind c.prog c.w) d kvs := Heap.dictOf_iff.mpr ⟨o, (S.nw _ hm).1, hd⟩
  exact call_meetsIn (s := c.st h _) PySem.F.slot_dict_get hD.typeIs PySem.F.entry_dict_get (PySem.F.args_dict_get_2 _ _) (meets_dict_get (strKind c.prog c.w) d (strKind_is _ _ _ _) (not_mods hmods S hm)) ⟨_, hD.mapOf, up_of q⟩
theorem r_setD {d : Addr} {o : Obj} {kvs : List (Str × Value)} {x : Str} {t : Tok} {v : Value} {Q : Unit → Heap → Prop} (S : St c ns L vs X R Z h) {g : Obj → Led} (hc : Hole d o X g) (hd : o.IsDictOf (strKind c.prog c.w) kvs) (hz : kvs.length ≤ 1000)
    (q : ∀ h' o', o'.IsDictOf (strKind c.prog c.w) (stored kvs x v) → St c ns L vs (g o') R Z h' → Q () h') : W c A (setItem (.ref d) (.str x t) v) Q E h := fun _ => by
  obtain ⟨m, F, l'⟩ := S.fr
  have hm : (d, o) ∈ all3 X R Z := List.mem_append_left _ (hc.chg o).from
  refine wpAny_setItem_pairs (hsz := by rw [sizeLine_eq]; omega) (s := c.st h _) (strKind_is c.prog c.w x t) (Heap.dictOf_iff.mpr ⟨o, (S.nw _ hm).1, hd⟩) fun h' hmm hs => ?_
  obtain ⟨o', ho', hd'⟩ := Heap.dictOf_iff.mp hmm
  have hX := hc.chg o'
  refine up_of (q h' o' hd' (S.set hX (F.change hs (S.nw _ hm).2.1 (S.nw _ hm).2.2) l' ?_))
  obtain ⟨pre, post, e1, e2, a, b⟩ := (hX.upd S.nd (t := R ++ Z)).split
  have hN : News c.b L h (pre ++ (d, o) :: post) := fun p hp => S.nw p (by show p ∈ X ++ (R ++ Z); rw [e1]; exact hp)
  intro p hp
  exact news_set hN a b hs ho' p (by rw [← e2]; exact hp)
end
end
noncomputable section
section
variable {c : Cx} {A : Around} {E : Value → Heap → Prop} {h : Heap} {ns gs os : List Str} {L : Addr} {vs : List (Option Value)} {X X' R Z : Led} {env : Env}
theorem Rm.deep {n : Nat} {A : Around} (r : Rm n A) {k : Nat} (hk : k ≤ 100) : A.units + 1 + k < cLine := by have := r.2; unfold cLine; omega

/-! ### what a value reads as -/
theorem rd_tup {t : Addr} {l : List Value} {n : Nat} {ds : List PyData} {as : List Addr} (S : St c ns L vs X R Z h) (hm : (t, tupOf l n) ∈ all3 X R Z) (r : ReadsAll h l ds as) : Reads h (.ref t) (.tuple ds) as :=
  .tuple (S.nw _ hm).1 rfl rfl (by simpa using r)
theorem rd_list {t : Addr} {l : List Value} {n : Nat} {ds : List PyData} {as : List Addr} (S : St c ns L vs X R Z h) (hm : (t, listOf l.toArray n) ∈ all3 X R Z) (r : ReadsAll h l ds as) : Reads h (.ref t) (.list ds) (t :: as) :=
  .list (S.nw _ hm).1 rfl rfl (by simpa using r)
theorem r_inT {t : Value} {x : Value} {d : PyData} {ds : List PyData} {n : Nat} {as bs : List Addr} {Q : Value → Heap → Prop} (hA : Rm n A) (rc : Reads h t (.tuple ds) as) (rx : Reads h x d bs) (h1 : PyData.canLayAll0 ds = true) (h2 : d.canLay0 = true) (h3 : d.depth ≤ 100)
    (q : Q (.bool (ds.any fun y => PyData.eqv y d)) h) : W c A (compareOp .In x t) Q E h := fun _ =>
  SeqAt.in_tuple_reads (s := c.st h _) rc rx h1 h2 (hA.deep (Nat.le_trans (Nat.min_le_right _ _) h3)) (up_of q)
theorem r_ninT {t : Value} {x : Value} {d : PyData} {ds : List PyData} {n : Nat} {as bs : List Addr} {Q : Value → Heap → Prop} (hA : Rm n A) (rc : Reads h t (.tuple ds) as) (rx : Reads h x d bs) (h1 : PyData.canLayAll0 ds = true) (h2 : d.canLay0 = true) (h3 : d.depth ≤ 100)
    (q : Q (.bool (!ds.any fun y => PyData.eqv y d)) h) : W c A (compareOp .NotIn x t) Q E h := fun _ =>
  SeqAt.notIn_tuple_reads (s := c.st h _) rc rx h1 h2 (hA.deep (Nat.le_trans (Nat.min_le_right _ _) h3)) (up_of q)
theorem r_inL {t : Value} {x : Value} {d : PyData} {ds : List PyData} {n : Nat} {as bs : List Addr} {Q : Value → Heap → Prop} (hA : Rm n A) (rc : Reads h t (.list ds) as) (rx : Reads h x d bs) (h1 : PyData.canLayAll0 ds = true) (h2 : d.canLay0 = true) (h3 : d.depth ≤ 100)
    (q : Q (.bool (ds.any fun y => PyData.eqv y d)) h) : W c A (compareOp .In x t) Q E h := fun _ =>
  SeqAt.in_list_reads (s := c.st h _) rc rx h1 h2 (hA.deep (Nat.le_trans (Nat.min_le_right _ _) h3)) (up_of q)
theorem r_ninL {t : Value} {x : Value} {d : PyData} {ds : List PyData} {n : Nat} {as bs : List Addr} {Q : Value → Heap → Prop} (hA : Rm n A) (rc : Reads h t (.list ds) as) (rx : Reads h x d bs) (h1 : PyData.canLayAll0 ds = true) (h2 : d.canLay0 = true) (h3 : d.depth ≤ 100)
    (q : Q (.bool (!ds.any fun y => PyData.eqv y d)) h) : W c A (compareOp .NotIn x t) Q E h := fun _ =>
  SeqAt.notIn_list_reads (s := c.st h _) rc rx h1 h2 (hA.deep (Nat.le_trans (Nat.min_le_right _ _) h3)) (up_of q)
theorem r_neD {x y : Value} {d e : PyData} {n : Nat} {as bs : List Addr} {Q : Value → Heap → Prop} (hA : Rm n A) (rx : Reads h x d as) (ry : Reads h y e bs) (h1 : d.canLay0 = true) (h2 : e.canLay0 = true) (h3 : d.depth ≤ 100)
    (q : Q (.bool (!PyData.eqv d e)) h) : W c A (compareOp .NotEq x y) Q E h := fun _ =>
  SeqAt.compareNe_reads (s := c.st h _) rx ry h1 h2 (by have := hA.deep (Nat.le_trans (Nat.min_le_left d.depth e.depth) h3); omega) (up_of q)
theorem r_eqD {x y : Value} {d e : PyData} {n : Nat} {as bs : List Addr} {Q : Value → Heap → Prop} (hA : Rm n A) (rx : Reads h x d as) (ry : Reads h y e bs) (h1 : d.canLay0 = true) (h2 : e.canLay0 = true) (h3 : d.depth ≤ 100)
    (q : Q (.bool (PyData.eqv d e)) h) : W c A (compareOp .Eq x y) Q E h := fun _ =>
  SeqAt.compareEq_reads (s := c.st h _) rx ry h1 h2 (by have := hA.deep (Nat.le_trans (Nat.min_le_left d.depth e.depth) h3); omega) (up_of q)

theorem r_truL {D : Addr} {l : List Value} {n : Nat} {Q : Bool → Heap → Prop} (S : St c ns L vs X R Z h) (hm : (D, listOf l.toArray n) ∈ all3 X R Z) (hz : l.length ≤ 1000) (q : Q (!l.isEmpty) h) : W c A (truthy (.ref D)) Q E h := fun _ => by
  have hl : h.IsList D l.toArray := ⟨_, (S.nw _ hm).1, rfl, _, rfl⟩
  refine wpAny_truthy_list (s := c.st h _) hl (by rw [List.size_toArray]; omega) (up_of ?_)
  rwa [List.isEmpty_toArray]
theorem r_isi {x dx C : Addr} {Q : Value → Heap → Prop} (B : Base c) (S : St c ns L vs X R Z h) (hx : (x, instObj C dx) ∈ all3 X R Z) (hi : isIn c.K (.ref C) C = true) (q : Q (.bool true) h) : W c A (call (.builtin "isinstance") [.ref x, .ref C]) Q E h := fun _ =>
  isi_call (s := c.st h _) (S.kin B) (fun M => (Looks.ld (S.nw _ hx).1).andThen .now) hi (by intro e; cases e) (up_of q)

theorem w_ti {i : Int} {t : Tok} {Q : Bool → Heap → Prop} (q : Q (i != 0) h) : W c A (truthy (.int i t)) Q E h := fun _ => PyProof.Rows.truthy_int (up_of q)
/-! ### bootstrapped names -/
theorem bb_len : bootBuiltins "len" = some (.builtin "len") := by kernel_rfl
theorem bb_isinstance : bootBuiltins "isinstance" = some (.builtin "isinstance") := by kernel_rfl
theorem bb_range : bootBuiltins "range" = some (.type "range") := by kernel_rfl
theorem bb_list : bootBuiltins "list" = some (.type "list") := by kernel_rfl
theorem bb_sum : bootBuiltins "sum" = some (.builtin "sum") := by kernel_rfl

/-! ### new fields, new instances -/
inductive Sn {α β : Type} (x : α) (v : β) : List α → List β → List α → List β → Prop
  | nil : Sn x v [] [] [x] [v]
  | cons {y u ns vs ns' vs'} : Sn x v ns vs ns' vs' → Sn x v (y :: ns) (u :: vs) (y :: ns') (u :: vs')
theorem putL_new {P : Params} {y : Str} {v : Value} {t : Tok} {fs fs' : List Str} {us us' : List Value} (p : Sn y v fs us fs' us') (hn : y ∉ fs) : ∀ tk : Nat → Tok, ∃ tk', putL y (PyData.keyHash P y) (.str y t) v (mkEs P tk fs us) = mkEs P tk' fs' us' := by
  induction p with
  | nil => exact fun tk => ⟨fun _ => t, rfl⟩
  | @cons z u ns vs ns' vs' p ih =>
    intro tk
    obtain ⟨tk', e⟩ := ih (fun q => hn (.tail _ q)) (fun i => tk (i + 1))
    refine ⟨fun i => match i with | 0 => tk 0 | i + 1 => tk' i, ?_⟩
    have hz : (z == y) = false := beq_false_of_ne fun q => hn (q ▸ .head _)
    show (if (z == y) = true then _ else _) = _
    rw [hz, if_neg (by decide)]
    show _ :: _ = _ :: _
    rw [e]
theorem w_new {x dx C : Addr} {y : Str} {v : Value} {fs fs' : List Str} {us us' : List Value} {tk : Nat → Tok} {n : Nat} {Q : Unit → Heap → Prop} (B : Base c) (S : St c ns L vs X R Z h)
    (hx : (x, instObj C dx) ∈ all3 X R Z) {g : Obj → Led} (hd : Hole dx (fld c tk fs us n) X g) (k : Fld c.K C y) (p : Sn y v fs us fs' us') (hn : y ∉ fs) (hl : fs'.length ≤ 1000)
    (q : ∀ h' tk' n', St c ns L vs (g (fld c tk' fs' us' n')) R Z h' → Q () h') : W c A (setAttr (.ref x) y v) Q E h := fun t => by
  obtain ⟨m, F, l⟩ := S.fr
  have hd' : (dx, fld c tk fs us n) ∈ all3 X R Z := by
    exact List.mem_append_left _ (hd.chg emptyDict).from
  obtain ⟨tk', e⟩ := putL_new (P := c.w.params) (t := t + 1) p hn tk
  have hX := hd.chg (fld c tk' fs' us' (putN y (mkEs c.w.params tk fs us) n))
  refine set_dict F B.X S.nw (InstAt.of_news S.nw hx hd') rfl k.set k.over k.taker k.dict (by rw [getL_none hn]; rfl) (es' := mkEs c.w.params tk' fs' us') (n' := _) (by rw [e]) (hX.upd S.nd) (Nat.le_trans mkEs_len hl) (fun h' F' N' => up_of (q h' tk' _ ⟨⟨_, F', l⟩, N', ?_⟩))
  rw [hX.same3]; exact S.nd
theorem Rm.under {n : Nat} {A : Around} {C : Addr} {l : List Value} {kw : List (Str × Value)} (r : Rm (n + 1) A) : Rm n (A.under (.builtin "type.__call__" ⟨.ref C :: l, kw⟩)) := by
  have e1 : (Code.builtin "type.__call__" ⟨.ref C :: l, kw⟩).weight = 1 := by with_unfolding_all rfl
  have e2 : (Code.builtin "type.__call__" ⟨.ref C :: l, kw⟩).cUnits = 1 := by with_unfolding_all rfl
  obtain ⟨x, y⟩ := r; constructor
  · show A.depth + (Code.builtin "type.__call__" ⟨.ref C :: l, kw⟩).weight + 3 * n + 3 < 1000; omega
  · show A.units + (Code.builtin "type.__call__" ⟨.ref C :: l, kw⟩).cUnits + 40 * n + 200 < 9900; omega
structure Mk (c : Cx) (C : Addr) (qual : Str) (st : Stmt) (dflt : List Value) : Prop where
  makes : makesIn c.K C = true
  ex : ∃ f, findIn c.K (.ref C) "__init__" = some (some (.ref f)) ∧ FnAt c f qual st dflt ∧ isFn c.K (.ref f) = true
theorem w_cls {C : Addr} {n : Nat} {ps : List Str} {qual : Str} {st : Stmt} {dflt args vals : List Value} {Q : Value → Heap → Prop} (B : Base c) (S : St c ns L vs X R Z h) (M : Mk c C qual st dflt) (hA : Rm (n + 2) A) (sc : Sc (scopeOf st) (ps ++ os) gs)
    (hps : (paramsOf st).args.map (·.arg) = ps) (hl : ps.length = vals.length + 1) (hb : ∀ self, Bnd st dflt (self :: args) (self :: vals))
    (q : ∀ x dx L' h' cdv oL f A', Frm c ns L vs oL → Rm n A' → St c (ps ++ os) L' (some (.ref x) :: vals.map some ++ os.map fun _ => none) ((x, instObj C dx) :: (dx, fld c (fun _ => 0) [] [] 0) :: X) R ((L, oL) :: Z) h' →
      W c A' (execs (bodyOf st) (envOf qual (scopeOf st) L' f cdv)) (fun fl h'' => retV fl = .none ∧ Q (.ref x) h'') (fun _ _ => False) h') : W c A (call (.ref C) args) Q E h := fun tk => by
  obtain ⟨f, h1, h2, h3⟩ := M.ex
  obtain ⟨m, F, l⟩ := S.fr
  refine call_cls (K := c.K) (s := c.st h tk) F B.X S.nw M.makes h1 h3 fun x dx h' F' N' hlt hdx => ?_
  have nd : (keys ((x, instObj C dx) :: (dx, dictOf [] 0) :: all3 X R Z)).Nodup := by
    have hd : dx ∉ keys (all3 X R Z) := fun hm => by
      obtain ⟨p, hp, e⟩ := List.mem_map.mp hm
      exact absurd (hlt p hp) (by show ¬ p.1 < dx; rw [e]; exact Nat.lt_irrefl _)
    have hx : x ∉ keys (all3 X R Z) := fun hm => by
      obtain ⟨p, hp, e⟩ := List.mem_map.mp hm
      exact absurd (hlt p hp) (by show ¬ p.1 < dx; rw [e]; exact Nat.lt_asymm hdx)
    refine List.nodup_cons.mpr ⟨fun hm => ?_, List.nodup_cons.mpr ⟨hd, S.nd⟩⟩
    rcases List.mem_cons.mp hm with e | hm
    · exact absurd hdx (by show ¬ dx < x; rw [show x = dx from e]; exact Nat.lt_irrefl _)
    · exact hx hm
  have S' : St c ns L vs ((x, instObj C dx) :: (dx, fld c (fun _ => 0) [] [] 0) :: X) R Z h' := ⟨⟨m, F', l⟩, N', nd⟩
  have hA' : Rm (n + 1) (A.under (.builtin "type.__call__" ⟨.ref C :: args, []⟩)) := hA.under
  have z := cw_enter (Q := fun r h' => InitBack x (fun r s' => match r with | .ok (.ret v) => up c Q v s' | .ok _ => False | .error e => up c E e s') r (c.st h' 0)) B S' h2 hA'.lt sc hps (by simpa using hl) (hb (.ref x)) (fun L' h'' cdv oL F' S'' => (q x dx L' h'' cdv oL f _ F' hA'.deeper S'').mono (fun fl h3 ⟨e, z⟩ => ⟨e, ⟨_, _, rfl, z⟩⟩) fun _ _ z => z.elim)
  refine codeAny_mono (z tk) fun r s' ⟨h', t', e, z⟩ => ?_
  subst e
  rcases r with e | (v | _ | _ | _)
  · obtain ⟨h3, t3, e, z⟩ := z; cases e; exact ⟨_, _, rfl, z⟩
  · exact z
  · exact z
  · exact z
  · obtain ⟨e, h3, t3, e', z⟩ := z; cases e'; exact ⟨e, _, _, rfl, z⟩
end
end
end Mine
namespace Mine.Hd
open PySem PySem.W PySem.Calls PyProof.Rows
noncomputable section
/-! ## the head: the top's run, the state forced now and then -/
section
variable {α : Type}
noncomputable def forceN (n : Nat) (k : Nat → α) : α := @Nat.rec (fun _ => α) (k 0) (fun m _ => k (Nat.succ m)) n
theorem forceN_eq (n : Nat) (k : Nat → α) : forceN n k = k n := by cases n <;> rfl
noncomputable def forceL {β : Type} (l : List β) : (List β → α) → α := @List.rec β (fun _ => (List β → α) → α) (fun k => k []) (fun a _ ih k => ih fun r => k (a :: r)) l
theorem forceL_eq {β : Type} (l : List β) (k : List β → α) : forceL l k = k l := by
  induction l generalizing k with
  | nil => rfl
  | cons a l ih => exact ih _
noncomputable def forceA {β : Type} (a : Array β) (k : Array β → α) : α := @Array.rec β (fun _ => α) (fun l => forceL l fun l' => k (Array.mk l')) a
theorem forceA_eq {β : Type} (a : Array β) (k : Array β → α) : forceA a k = k a := by
  cases a; exact forceL_eq _ _
noncomputable def forceD (d : Data) (k : Data → α) : α := match d with
  | .dict es n => forceN n fun n' => forceA es fun es' => k (.dict es' n')
  | .seq es n => forceN n fun n' => forceA es fun es' => k (.seq es' n')
  | .fields es => forceA es fun es' => k (.fields es')
  | d => k d
theorem forceD_eq (d : Data) (k : Data → α) : forceD d k = k d := by
  cases d <;> simp only [forceD, forceN_eq, forceA_eq]
noncomputable def forceO (o : Obj) (k : Obj → α) : α := match o with
  | ⟨c, d, dt, sl⟩ => forceD dt fun dt' => forceA sl fun sl' => k ⟨c, d, dt', sl'⟩
theorem forceO_eq (o : Obj) (k : Obj → α) : forceO o k = k o := by
  cases o; simp only [forceO, forceD_eq, forceA_eq]
noncomputable def forceT (t : BT) : (BT → α) → α := @BT.rec (fun _ => (BT → α) → α) (fun k => k .nil) (fun v _ _ ihl ihr k => forceO v fun v' => ihl fun l' => ihr fun r' => k (.node v' l' r')) t
theorem forceT_eq (t : BT) (k : BT → α) : forceT t k = k t := by
  induction t generalizing k with
  | nil => rfl
  | node v l r ihl ihr =>
    show forceO v (fun v' => forceT l fun l' => forceT r fun r' => k (.node v' l' r')) = _
    rw [forceO_eq, ihl, ihr]
noncomputable def forceS (s : SharedT) (k : SharedT → α) : α := match s with
  | ⟨T, n, life, gens, drawn, toks, os⟩ => forceN n fun n' => forceN toks fun t' => forceT T fun T' => k ⟨T', n', life, gens, drawn, t', os⟩
theorem forceS_eq (s : SharedT) (k : SharedT → α) : forceS s k = k s := by
  cases s; simp only [forceS, forceN_eq, forceT_eq]
end

/-- at most n steps, or till the end -/
noncomputable def goE (st : SharedT → Thread → Option (SharedT × Thread)) (ok : Thread → Bool) (b : Nat) : Nat → SharedT → Thread → Option (SharedT × Thread)
  | 0, s, t => some (s, t)
  | n + 1, s, t => match endAt b t with
    | some _ => some (s, t)
    | none => match ok t with
      | false => none
      | true => match st s t with
        | some (s', t') => goE st ok b n s' t'
        | none => none
/-- m rounds of c steps, the state forced behind each -/
noncomputable def segF (st : SharedT → Thread → Option (SharedT × Thread)) (ok : Thread → Bool) (b c : Nat) : Nat → SharedT → Thread → Option (Flow × SharedT × Code × Pos)
  | 0, _, _ => none
  | m + 1, s, t => match endAt b t with
    | some f => some (f, s, t.code, t.pos)
    | none => match goE st ok b c s t with
      | some (s', t') => forceS s' fun s'' => segF st ok b c m s'' t'
      | none => none
section
variable {tb : String → Option Builtin} {p : Program} {w : World} {n₀ : Nat} {ann : Option Value} {b : Nat}
theorem segRunT_mono (k : Nat) : ∀ (n : Nat) (s : SharedT) (t : Thread) (r : Flow × SharedT × Code × Pos), segRunT tb p w n₀ ann b n s t = some r → segRunT tb p w n₀ ann b (n + k) s t = some r
  | 0, _, _, _, h => by cases h
  | n + 1, s, t, r, h => by
    rw [show n + 1 + k = n + k + 1 by omega]
    unfold segRunT at h ⊢
    cases he : endAt b t with
    | some x => rw [he] at h; exact h
    | none =>
      rw [he] at h
      cases hk : stepOk n₀ ann t with
      | false => rw [hk] at h; cases h
      | true =>
        rw [hk] at h
        cases hs : stepT (denote tb) p w s t with
        | none => rw [hs] at h; cases h
        | some r' => obtain ⟨s₂, t₂⟩ := r'; rw [hs] at h; exact segRunT_mono k n s₂ t₂ r h
theorem goE_run : ∀ {n k : Nat} {s s' : SharedT} {t t' : Thread} {r : Flow × SharedT × Code × Pos}, goE (stepT (denote tb) p w) (stepOk n₀ ann) b n s t = some (s', t') → segRunT tb p w n₀ ann b k s' t' = some r → segRunT tb p w n₀ ann b (n + k) s t = some r
  | 0, k, s, s', t, t', r, h, q => by cases h; rw [Nat.zero_add]; exact q
  | n + 1, k, s, s', t, t', r, h, q => by
    unfold goE at h
    cases he : endAt b t with
    | some x =>
      rw [he] at h; cases h
      rw [Nat.add_comm]; exact segRunT_mono _ _ _ _ _ q
    | none =>
      rw [he] at h
      rw [show n + 1 + k = n + k + 1 by omega]
      unfold segRunT
      rw [he]
      cases hk : stepOk n₀ ann t with
      | false => rw [hk] at h; cases h
      | true =>
        rw [hk] at h
        cases hs : stepT (denote tb) p w s t with
        | none => rw [hs] at h; cases h
        | some r' => obtain ⟨s₂, t₂⟩ := r'; rw [hs] at h; exact goE_run h q
theorem segF_run {c : Nat} : ∀ {m : Nat} {s : SharedT} {t : Thread} {r : Flow × SharedT × Code × Pos}, segF (stepT (denote tb) p w) (stepOk n₀ ann) b c m s t = some r → segRunT tb p w n₀ ann b (c * m + 1) s t = some r
  | 0, _, _, _, h => by cases h
  | m + 1, s, t, r, h => by
    unfold segF at h
    cases he : endAt b t with
    | some f =>
      rw [he] at h
      unfold segRunT
      rw [he]; exact h
    | none =>
      rw [he] at h
      cases hg : goE (stepT (denote tb) p w) (stepOk n₀ ann) b c s t with
      | none => rw [hg] at h; cases h
      | some r' =>
        obtain ⟨s', t'⟩ := r'
        rw [hg] at h
        have h' : segF (stepT (denote tb) p w) (stepOk n₀ ann) b c m s' t' = some r := by
          have : forceS s' (fun s'' => segF (stepT (denote tb) p w) (stepOk n₀ ann) b c m s'' t') = some r := h
          rwa [forceS_eq] at this
        have := goE_run hg (segF_run h')
        rwa [show c * (m + 1) + 1 = c + (c * m + 1) by rw [Nat.mul_add]; omega]
end

/-- the changes laid into a tree -/
noncomputable def putD : BT → List (Nat × Obj) → BT
  | t, [] => t
  | t, (a, o) :: l => putD (t.ins a o) l

/-! ### short words for the objects of the top -/
noncomputable abbrev xO (c : Value) (d : Option Addr) (dt : Data) (sl : List (Option Value)) : Obj := ⟨c, d, dt, ⟨sl⟩⟩
noncomputable def xT (l : List Value) : Obj := xO (.type "tuple") none (.seq ⟨l⟩ 0) []
noncomputable def xN (l : List Value) : Obj := xO .none none (.fields ⟨l⟩) []
noncomputable def xF (t : String) (l : List Value) : Obj := xO (.type t) none (.fields ⟨l⟩) []
noncomputable def xR (l : List (Option Value)) : Obj := xO (.type "frame") none .plain l
noncomputable def xD (l : List DictEntry) (n : Nat) : Obj := xO (.type "dict") none (.dict ⟨l⟩ n) []
noncomputable def xS (l : List DictEntry) (n : Nat) : Obj := xO .none none (.dict ⟨l⟩ n) []
noncomputable def xE (P : Params) (x : Str) (t : Nat) (v : Value) : DictEntry := ⟨PyData.keyHash P x, .str x t, v⟩
noncomputable def xG (name qual : Str) (st : Stmt) : Obj := xO .none none (.func ⟨name, qual, paramsOf st, .stmts (bodyOf st), scopeOf st, 0, [], .none, .none, .none, .none, none, .none, .none, 0⟩) []
noncomputable def xH (name qual : Str) (st : Stmt) (dV pm cd : Value) : Obj := xO (.type "function") none (.func ⟨name, qual, paramsOf st, .stmts (bodyOf st), scopeOf st, mainNs, [], dV, .none, .none, pm, none, cd, .none, 0⟩) []
noncomputable def xC (name qual : Str) (bases mro : List Value) (ns : Addr) (sub : List Value) (sl : List (Option Value)) : Obj := xO (.type "type") none (.cls ⟨name, bases, mro, ns, qual, true, [], sub, false, none, false⟩) sl
/-- a piece of the top's run -/
noncomputable def runP (st : SharedT → Thread → Option (SharedT × Thread)) (ok : Thread → Bool) (s : SharedT) (l : List Stmt) (env : Env) (c : Code) (pos : Pos) (n : Nat) : Option (Flow × SharedT × Code × Pos) := forceS s fun s => segF st ok 1 50 n s (piecesOf l env c pos [topFrame ⟨0, 0, 0, 0⟩])
end
noncomputable section
set_option maxHeartbeats 0
noncomputable def n0 : Str := ⟨⟨[nat_lit 95, nat_lit 95, nat_lit 110, nat_lit 97, nat_lit 109, nat_lit 101, nat_lit 95, nat_lit 95]⟩⟩
noncomputable def n1 : Str := ⟨⟨[nat_lit 98, nat_lit 117, nat_lit 105, nat_lit 108, nat_lit 116, nat_lit 105, nat_lit 110, nat_lit 115]⟩⟩
noncomputable def n2 : Str := ⟨⟨[nat_lit 95, nat_lit 95, nat_lit 100, nat_lit 111, nat_lit 99, nat_lit 95, nat_lit 95]⟩⟩
noncomputable def n3 : Str := ⟨⟨[nat_lit 95, nat_lit 95, nat_lit 112, nat_lit 97, nat_lit 99, nat_lit 107, nat_lit 97, nat_lit 103, nat_lit 101, nat_lit 95, nat_lit 95]⟩⟩
noncomputable def n4 : Str := ⟨⟨[nat_lit 95, nat_lit 95, nat_lit 108, nat_lit 111, nat_lit 97, nat_lit 100, nat_lit 101, nat_lit 114, nat_lit 95, nat_lit 95]⟩⟩
noncomputable def n5 : Str := ⟨⟨[nat_lit 95, nat_lit 95, nat_lit 115, nat_lit 112, nat_lit 101, nat_lit 99, nat_lit 95, nat_lit 95]⟩⟩
noncomputable def n6 : Str := ⟨⟨[nat_lit 95, nat_lit 95, nat_lit 98, nat_lit 117, nat_lit 105, nat_lit 108, nat_lit 100, nat_lit 95, nat_lit 99, nat_lit 108, nat_lit 97, nat_lit 115, nat_lit 115, nat_lit 95, nat_lit 95]⟩⟩
noncomputable def n7 : Str := ⟨⟨[nat_lit 95, nat_lit 95, nat_lit 105, nat_lit 109, nat_lit 112, nat_lit 111, nat_lit 114, nat_lit 116, nat_lit 95, nat_lit 95]⟩⟩
noncomputable def n8 : Str := ⟨⟨[nat_lit 97, nat_lit 98, nat_lit 115]⟩⟩
noncomputable def n9 : Str := ⟨⟨[nat_lit 97, nat_lit 108, nat_lit 108]⟩⟩
noncomputable def n10 : Str := ⟨⟨[nat_lit 97, nat_lit 110, nat_lit 121]⟩⟩
noncomputable def n11 : Str := ⟨⟨[nat_lit 97, nat_lit 115, nat_lit 99, nat_lit 105, nat_lit 105]⟩⟩
noncomputable def n12 : Str := ⟨⟨[nat_lit 98, nat_lit 105, nat_lit 110]⟩⟩
noncomputable def n13 : Str := ⟨⟨[nat_lit 98, nat_lit 114, nat_lit 101, nat_lit 97, nat_lit 107, nat_lit 112, nat_lit 111, nat_lit 105, nat_lit 110, nat_lit 116]⟩⟩
noncomputable def n14 : Str := ⟨⟨[nat_lit 99, nat_lit 97, nat_lit 108, nat_lit 108, nat_lit 97, nat_lit 98, nat_lit 108, nat_lit 101]⟩⟩
noncomputable def n15 : Str := ⟨⟨[nat_lit 99, nat_lit 104, nat_lit 114]⟩⟩
noncomputable def n16 : Str := ⟨⟨[nat_lit 99, nat_lit 111, nat_lit 109, nat_lit 112, nat_lit 105, nat_lit 108, nat_lit 101]⟩⟩
noncomputable def n17 : Str := ⟨⟨[nat_lit 100, nat_lit 101, nat_lit 108, nat_lit 97, nat_lit 116, nat_lit 116, nat_lit 114]⟩⟩
noncomputable def n18 : Str := ⟨⟨[nat_lit 100, nat_lit 105, nat_lit 114]⟩⟩
noncomputable def n19 : Str := ⟨⟨[nat_lit 100, nat_lit 105, nat_lit 118, nat_lit 109, nat_lit 111, nat_lit 100]⟩⟩
noncomputable def n20 : Str := ⟨⟨[nat_lit 101, nat_lit 118, nat_lit 97, nat_lit 108]⟩⟩
noncomputable def n21 : Str := ⟨⟨[nat_lit 101, nat_lit 120, nat_lit 101, nat_lit 99]⟩⟩
noncomputable def n22 : Str := ⟨⟨[nat_lit 102, nat_lit 111, nat_lit 114, nat_lit 109, nat_lit 97, nat_lit 116]⟩⟩
noncomputable def n23 : Str := ⟨⟨[nat_lit 103, nat_lit 101, nat_lit 116, nat_lit 97, nat_lit 116, nat_lit 116, nat_lit 114]⟩⟩
noncomputable def n24 : Str := ⟨⟨[nat_lit 103, nat_lit 108, nat_lit 111, nat_lit 98, nat_lit 97, nat_lit 108, nat_lit 115]⟩⟩
noncomputable def n25 : Str := ⟨⟨[nat_lit 104, nat_lit 97, nat_lit 115, nat_lit 97, nat_lit 116, nat_lit 116, nat_lit 114]⟩⟩
noncomputable def n26 : Str := ⟨⟨[nat_lit 104, nat_lit 97, nat_lit 115, nat_lit 104]⟩⟩
noncomputable def n27 : Str := ⟨⟨[nat_lit 104, nat_lit 101, nat_lit 120]⟩⟩
noncomputable def n28 : Str := ⟨⟨[nat_lit 105, nat_lit 100]⟩⟩
noncomputable def n29 : Str := ⟨⟨[nat_lit 105, nat_lit 110, nat_lit 112, nat_lit 117, nat_lit 116]⟩⟩
noncomputable def n30 : Str := ⟨⟨[nat_lit 105, nat_lit 115, nat_lit 105, nat_lit 110, nat_lit 115, nat_lit 116, nat_lit 97, nat_lit 110, nat_lit 99, nat_lit 101]⟩⟩
noncomputable def n31 : Str := ⟨⟨[nat_lit 105, nat_lit 115, nat_lit 115, nat_lit 117, nat_lit 98, nat_lit 99, nat_lit 108, nat_lit 97, nat_lit 115, nat_lit 115]⟩⟩
noncomputable def n32 : Str := ⟨⟨[nat_lit 105, nat_lit 116, nat_lit 101, nat_lit 114]⟩⟩
noncomputable def n33 : Str := ⟨⟨[nat_lit 97, nat_lit 105, nat_lit 116, nat_lit 101, nat_lit 114]⟩⟩
noncomputable def n34 : Str := ⟨⟨[nat_lit 108, nat_lit 101, nat_lit 110]⟩⟩
noncomputable def n35 : Str := ⟨⟨[nat_lit 108, nat_lit 111, nat_lit 99, nat_lit 97, nat_lit 108, nat_lit 115]⟩⟩
noncomputable def n36 : Str := ⟨⟨[nat_lit 109, nat_lit 97, nat_lit 120]⟩⟩
noncomputable def n37 : Str := ⟨⟨[nat_lit 109, nat_lit 105, nat_lit 110]⟩⟩
noncomputable def n38 : Str := ⟨⟨[nat_lit 110, nat_lit 101, nat_lit 120, nat_lit 116]⟩⟩
noncomputable def n39 : Str := ⟨⟨[nat_lit 97, nat_lit 110, nat_lit 101, nat_lit 120, nat_lit 116]⟩⟩
noncomputable def n40 : Str := ⟨⟨[nat_lit 111, nat_lit 99, nat_lit 116]⟩⟩
noncomputable def n41 : Str := ⟨⟨[nat_lit 111, nat_lit 114, nat_lit 100]⟩⟩
noncomputable def n42 : Str := ⟨⟨[nat_lit 112, nat_lit 111, nat_lit 119]⟩⟩
noncomputable def n43 : Str := ⟨⟨[nat_lit 112, nat_lit 114, nat_lit 105, nat_lit 110, nat_lit 116]⟩⟩
noncomputable def n44 : Str := ⟨⟨[nat_lit 114, nat_lit 101, nat_lit 112, nat_lit 114]⟩⟩
noncomputable def n45 : Str := ⟨⟨[nat_lit 114, nat_lit 111, nat_lit 117, nat_lit 110, nat_lit 100]⟩⟩
noncomputable def n46 : Str := ⟨⟨[nat_lit 115, nat_lit 101, nat_lit 116, nat_lit 97, nat_lit 116, nat_lit 116, nat_lit 114]⟩⟩
noncomputable def n47 : Str := ⟨⟨[nat_lit 115, nat_lit 111, nat_lit 114, nat_lit 116, nat_lit 101, nat_lit 100]⟩⟩
noncomputable def n48 : Str := ⟨⟨[nat_lit 115, nat_lit 117, nat_lit 109]⟩⟩
noncomputable def n49 : Str := ⟨⟨[nat_lit 118, nat_lit 97, nat_lit 114, nat_lit 115]⟩⟩
noncomputable def n50 : Str := ⟨⟨[nat_lit 78, nat_lit 111, nat_lit 110, nat_lit 101]⟩⟩
noncomputable def n51 : Str := ⟨⟨[nat_lit 69, nat_lit 108, nat_lit 108, nat_lit 105, nat_lit 112, nat_lit 115, nat_lit 105, nat_lit 115]⟩⟩
noncomputable def n52 : Str := ⟨⟨[nat_lit 78, nat_lit 111, nat_lit 116, nat_lit 73, nat_lit 109, nat_lit 112, nat_lit 108, nat_lit 101, nat_lit 109, nat_lit 101, nat_lit 110, nat_lit 116, nat_lit 101, nat_lit 100]⟩⟩
noncomputable def n53 : Str := ⟨⟨[nat_lit 70, nat_lit 97, nat_lit 108, nat_lit 115, nat_lit 101]⟩⟩
noncomputable def n54 : Str := ⟨⟨[nat_lit 84, nat_lit 114, nat_lit 117, nat_lit 101]⟩⟩
noncomputable def n55 : Str := ⟨⟨[nat_lit 98, nat_lit 111, nat_lit 111, nat_lit 108]⟩⟩
noncomputable def n56 : Str := ⟨⟨[nat_lit 109, nat_lit 101, nat_lit 109, nat_lit 111, nat_lit 114, nat_lit 121, nat_lit 118, nat_lit 105, nat_lit 101, nat_lit 119]⟩⟩
noncomputable def n57 : Str := ⟨⟨[nat_lit 98, nat_lit 121, nat_lit 116, nat_lit 101, nat_lit 97, nat_lit 114, nat_lit 114, nat_lit 97, nat_lit 121]⟩⟩
noncomputable def n58 : Str := ⟨⟨[nat_lit 98, nat_lit 121, nat_lit 116, nat_lit 101, nat_lit 115]⟩⟩
noncomputable def n59 : Str := ⟨⟨[nat_lit 99, nat_lit 108, nat_lit 97, nat_lit 115, nat_lit 115, nat_lit 109, nat_lit 101, nat_lit 116, nat_lit 104, nat_lit 111, nat_lit 100]⟩⟩
noncomputable def n60 : Str := ⟨⟨[nat_lit 99, nat_lit 111, nat_lit 109, nat_lit 112, nat_lit 108, nat_lit 101, nat_lit 120]⟩⟩
noncomputable def n61 : Str := ⟨⟨[nat_lit 100, nat_lit 105, nat_lit 99, nat_lit 116]⟩⟩
noncomputable def n62 : Str := ⟨⟨[nat_lit 101, nat_lit 110, nat_lit 117, nat_lit 109, nat_lit 101, nat_lit 114, nat_lit 97, nat_lit 116, nat_lit 101]⟩⟩
noncomputable def n63 : Str := ⟨⟨[nat_lit 102, nat_lit 105, nat_lit 108, nat_lit 116, nat_lit 101, nat_lit 114]⟩⟩
noncomputable def n64 : Str := ⟨⟨[nat_lit 102, nat_lit 108, nat_lit 111, nat_lit 97, nat_lit 116]⟩⟩
noncomputable def n65 : Str := ⟨⟨[nat_lit 102, nat_lit 114, nat_lit 111, nat_lit 122, nat_lit 101, nat_lit 110, nat_lit 115, nat_lit 101, nat_lit 116]⟩⟩
noncomputable def n66 : Str := ⟨⟨[nat_lit 112, nat_lit 114, nat_lit 111, nat_lit 112, nat_lit 101, nat_lit 114, nat_lit 116, nat_lit 121]⟩⟩
noncomputable def n67 : Str := ⟨⟨[nat_lit 105, nat_lit 110, nat_lit 116]⟩⟩
noncomputable def n68 : Str := ⟨⟨[nat_lit 108, nat_lit 105, nat_lit 115, nat_lit 116]⟩⟩
noncomputable def n69 : Str := ⟨⟨[nat_lit 109, nat_lit 97, nat_lit 112]⟩⟩
noncomputable def n70 : Str := ⟨⟨[nat_lit 111, nat_lit 98, nat_lit 106, nat_lit 101, nat_lit 99, nat_lit 116]⟩⟩
noncomputable def n71 : Str := ⟨⟨[nat_lit 114, nat_lit 97, nat_lit 110, nat_lit 103, nat_lit 101]⟩⟩
noncomputable def n72 : Str := ⟨⟨[nat_lit 114, nat_lit 101, nat_lit 118, nat_lit 101, nat_lit 114, nat_lit 115, nat_lit 101, nat_lit 100]⟩⟩
noncomputable def n73 : Str := ⟨⟨[nat_lit 115, nat_lit 101, nat_lit 116]⟩⟩
noncomputable def n74 : Str := ⟨⟨[nat_lit 115, nat_lit 108, nat_lit 105, nat_lit 99, nat_lit 101]⟩⟩
noncomputable def n75 : Str := ⟨⟨[nat_lit 115, nat_lit 116, nat_lit 97, nat_lit 116, nat_lit 105, nat_lit 99, nat_lit 109, nat_lit 101, nat_lit 116, nat_lit 104, nat_lit 111, nat_lit 100]⟩⟩
noncomputable def n76 : Str := ⟨⟨[nat_lit 115, nat_lit 116, nat_lit 114]⟩⟩
noncomputable def n77 : Str := ⟨⟨[nat_lit 115, nat_lit 117, nat_lit 112, nat_lit 101, nat_lit 114]⟩⟩
noncomputable def n78 : Str := ⟨⟨[nat_lit 116, nat_lit 117, nat_lit 112, nat_lit 108, nat_lit 101]⟩⟩
noncomputable def n79 : Str := ⟨⟨[nat_lit 116, nat_lit 121, nat_lit 112, nat_lit 101]⟩⟩
noncomputable def n80 : Str := ⟨⟨[nat_lit 122, nat_lit 105, nat_lit 112]⟩⟩
noncomputable def n81 : Str := ⟨⟨[nat_lit 95, nat_lit 95, nat_lit 100, nat_lit 101, nat_lit 98, nat_lit 117, nat_lit 103, nat_lit 95, nat_lit 95]⟩⟩
noncomputable def n82 : Str := ⟨⟨[nat_lit 66, nat_lit 97, nat_lit 115, nat_lit 101, nat_lit 69, nat_lit 120, nat_lit 99, nat_lit 101, nat_lit 112, nat_lit 116, nat_lit 105, nat_lit 111, nat_lit 110]⟩⟩
noncomputable def n83 : Str := ⟨⟨[nat_lit 66, nat_lit 97, nat_lit 115, nat_lit 101, nat_lit 69, nat_lit 120, nat_lit 99, nat_lit 101, nat_lit 112, nat_lit 116, nat_lit 105, nat_lit 111, nat_lit 110, nat_lit 71, nat_lit 114, nat_lit 111, nat_lit 117, nat_lit 112]⟩⟩
noncomputable def n84 : Str := ⟨⟨[nat_lit 69, nat_lit 120, nat_lit 99, nat_lit 101, nat_lit 112, nat_lit 116, nat_lit 105, nat_lit 111, nat_lit 110]⟩⟩
noncomputable def n85 : Str := ⟨⟨[nat_lit 71, nat_lit 101, nat_lit 110, nat_lit 101, nat_lit 114, nat_lit 97, nat_lit 116, nat_lit 111, nat_lit 114, nat_lit 69, nat_lit 120, nat_lit 105, nat_lit 116]⟩⟩
noncomputable def n86 : Str := ⟨⟨[nat_lit 75, nat_lit 101, nat_lit 121, nat_lit 98, nat_lit 111, nat_lit 97, nat_lit 114, nat_lit 100, nat_lit 73, nat_lit 110, nat_lit 116, nat_lit 101, nat_lit 114, nat_lit 114, nat_lit 117, nat_lit 112, nat_lit 116]⟩⟩
noncomputable def n87 : Str := ⟨⟨[nat_lit 83, nat_lit 121, nat_lit 115, nat_lit 116, nat_lit 101, nat_lit 109, nat_lit 69, nat_lit 120, nat_lit 105, nat_lit 116]⟩⟩
noncomputable def n88 : Str := ⟨⟨[nat_lit 65, nat_lit 114, nat_lit 105, nat_lit 116, nat_lit 104, nat_lit 109, nat_lit 101, nat_lit 116, nat_lit 105, nat_lit 99, nat_lit 69, nat_lit 114, nat_lit 114, nat_lit 111, nat_lit 114]⟩⟩
noncomputable def n89 : Str := ⟨⟨[nat_lit 65, nat_lit 115, nat_lit 115, nat_lit 101, nat_lit 114, nat_lit 116, nat_lit 105, nat_lit 111, nat_lit 110, nat_lit 69, nat_lit 114, nat_lit 114, nat_lit 111, nat_lit 114]⟩⟩
noncomputable def n90 : Str := ⟨⟨[nat_lit 65, nat_lit 116, nat_lit 116, nat_lit 114, nat_lit 105, nat_lit 98, nat_lit 117, nat_lit 116, nat_lit 101, nat_lit 69, nat_lit 114, nat_lit 114, nat_lit 111, nat_lit 114]⟩⟩
noncomputable def n91 : Str := ⟨⟨[nat_lit 66, nat_lit 117, nat_lit 102, nat_lit 102, nat_lit 101, nat_lit 114, nat_lit 69, nat_lit 114, nat_lit 114, nat_lit 111, nat_lit 114]⟩⟩
noncomputable def n92 : Str := ⟨⟨[nat_lit 69, nat_lit 79, nat_lit 70, nat_lit 69, nat_lit 114, nat_lit 114, nat_lit 111, nat_lit 114]⟩⟩
noncomputable def n93 : Str := ⟨⟨[nat_lit 73, nat_lit 109, nat_lit 112, nat_lit 111, nat_lit 114, nat_lit 116, nat_lit 69, nat_lit 114, nat_lit 114, nat_lit 111, nat_lit 114]⟩⟩
noncomputable def n94 : Str := ⟨⟨[nat_lit 76, nat_lit 111, nat_lit 111, nat_lit 107, nat_lit 117, nat_lit 112, nat_lit 69, nat_lit 114, nat_lit 114, nat_lit 111, nat_lit 114]⟩⟩
noncomputable def n95 : Str := ⟨⟨[nat_lit 77, nat_lit 101, nat_lit 109, nat_lit 111, nat_lit 114, nat_lit 121, nat_lit 69, nat_lit 114, nat_lit 114, nat_lit 111, nat_lit 114]⟩⟩
noncomputable def n96 : Str := ⟨⟨[nat_lit 78, nat_lit 97, nat_lit 109, nat_lit 101, nat_lit 69, nat_lit 114, nat_lit 114, nat_lit 111, nat_lit 114]⟩⟩
noncomputable def n97 : Str := ⟨⟨[nat_lit 79, nat_lit 83, nat_lit 69, nat_lit 114, nat_lit 114, nat_lit 111, nat_lit 114]⟩⟩
noncomputable def n98 : Str := ⟨⟨[nat_lit 82, nat_lit 101, nat_lit 102, nat_lit 101, nat_lit 114, nat_lit 101, nat_lit 110, nat_lit 99, nat_lit 101, nat_lit 69, nat_lit 114, nat_lit 114, nat_lit 111, nat_lit 114]⟩⟩
noncomputable def n99 : Str := ⟨⟨[nat_lit 82, nat_lit 117, nat_lit 110, nat_lit 116, nat_lit 105, nat_lit 109, nat_lit 101, nat_lit 69, nat_lit 114, nat_lit 114, nat_lit 111, nat_lit 114]⟩⟩
noncomputable def n100 : Str := ⟨⟨[nat_lit 83, nat_lit 116, nat_lit 111, nat_lit 112, nat_lit 65, nat_lit 115, nat_lit 121, nat_lit 110, nat_lit 99, nat_lit 73, nat_lit 116, nat_lit 101, nat_lit 114, nat_lit 97, nat_lit 116, nat_lit 105, nat_lit 111, nat_lit 110]⟩⟩
noncomputable def n101 : Str := ⟨⟨[nat_lit 83, nat_lit 116, nat_lit 111, nat_lit 112, nat_lit 73, nat_lit 116, nat_lit 101, nat_lit 114, nat_lit 97, nat_lit 116, nat_lit 105, nat_lit 111, nat_lit 110]⟩⟩
noncomputable def n102 : Str := ⟨⟨[nat_lit 83, nat_lit 121, nat_lit 110, nat_lit 116, nat_lit 97, nat_lit 120, nat_lit 69, nat_lit 114, nat_lit 114, nat_lit 111, nat_lit 114]⟩⟩
noncomputable def n103 : Str := ⟨⟨[nat_lit 83, nat_lit 121, nat_lit 115, nat_lit 116, nat_lit 101, nat_lit 109, nat_lit 69, nat_lit 114, nat_lit 114, nat_lit 111, nat_lit 114]⟩⟩
noncomputable def n104 : Str := ⟨⟨[nat_lit 84, nat_lit 121, nat_lit 112, nat_lit 101, nat_lit 69, nat_lit 114, nat_lit 114, nat_lit 111, nat_lit 114]⟩⟩
noncomputable def n105 : Str := ⟨⟨[nat_lit 86, nat_lit 97, nat_lit 108, nat_lit 117, nat_lit 101, nat_lit 69, nat_lit 114, nat_lit 114, nat_lit 111, nat_lit 114]⟩⟩
noncomputable def n106 : Str := ⟨⟨[nat_lit 87, nat_lit 97, nat_lit 114, nat_lit 110, nat_lit 105, nat_lit 110, nat_lit 103]⟩⟩
noncomputable def n107 : Str := ⟨⟨[nat_lit 70, nat_lit 108, nat_lit 111, nat_lit 97, nat_lit 116, nat_lit 105, nat_lit 110, nat_lit 103, nat_lit 80, nat_lit 111, nat_lit 105, nat_lit 110, nat_lit 116, nat_lit 69, nat_lit 114, nat_lit 114, nat_lit 111, nat_lit 114]⟩⟩
noncomputable def n108 : Str := ⟨⟨[nat_lit 79, nat_lit 118, nat_lit 101, nat_lit 114, nat_lit 102, nat_lit 108, nat_lit 111, nat_lit 119, nat_lit 69, nat_lit 114, nat_lit 114, nat_lit 111, nat_lit 114]⟩⟩
noncomputable def n109 : Str := ⟨⟨[nat_lit 90, nat_lit 101, nat_lit 114, nat_lit 111, nat_lit 68, nat_lit 105, nat_lit 118, nat_lit 105, nat_lit 115, nat_lit 105, nat_lit 111, nat_lit 110, nat_lit 69, nat_lit 114, nat_lit 114, nat_lit 111, nat_lit 114]⟩⟩
noncomputable def n110 : Str := ⟨⟨[nat_lit 66, nat_lit 121, nat_lit 116, nat_lit 101, nat_lit 115, nat_lit 87, nat_lit 97, nat_lit 114, nat_lit 110, nat_lit 105, nat_lit 110, nat_lit 103]⟩⟩
noncomputable def n111 : Str := ⟨⟨[nat_lit 68, nat_lit 101, nat_lit 112, nat_lit 114, nat_lit 101, nat_lit 99, nat_lit 97, nat_lit 116, nat_lit 105, nat_lit 111, nat_lit 110, nat_lit 87, nat_lit 97, nat_lit 114, nat_lit 110, nat_lit 105, nat_lit 110, nat_lit 103]⟩⟩
noncomputable def n112 : Str := ⟨⟨[nat_lit 69, nat_lit 110, nat_lit 99, nat_lit 111, nat_lit 100, nat_lit 105, nat_lit 110, nat_lit 103, nat_lit 87, nat_lit 97, nat_lit 114, nat_lit 110, nat_lit 105, nat_lit 110, nat_lit 103]⟩⟩
noncomputable def n113 : Str := ⟨⟨[nat_lit 70, nat_lit 117, nat_lit 116, nat_lit 117, nat_lit 114, nat_lit 101, nat_lit 87, nat_lit 97, nat_lit 114, nat_lit 110, nat_lit 105, nat_lit 110, nat_lit 103]⟩⟩
noncomputable def n114 : Str := ⟨⟨[nat_lit 73, nat_lit 109, nat_lit 112, nat_lit 111, nat_lit 114, nat_lit 116, nat_lit 87, nat_lit 97, nat_lit 114, nat_lit 110, nat_lit 105, nat_lit 110, nat_lit 103]⟩⟩
noncomputable def n115 : Str := ⟨⟨[nat_lit 80, nat_lit 101, nat_lit 110, nat_lit 100, nat_lit 105, nat_lit 110, nat_lit 103, nat_lit 68, nat_lit 101, nat_lit 112, nat_lit 114, nat_lit 101, nat_lit 99, nat_lit 97, nat_lit 116, nat_lit 105, nat_lit 111, nat_lit 110, nat_lit 87, nat_lit 97, nat_lit 114, nat_lit 110, nat_lit 105, nat_lit 110, nat_lit 103]⟩⟩
noncomputable def n116 : Str := ⟨⟨[nat_lit 82, nat_lit 101, nat_lit 115, nat_lit 111, nat_lit 117, nat_lit 114, nat_lit 99, nat_lit 101, nat_lit 87, nat_lit 97, nat_lit 114, nat_lit 110, nat_lit 105, nat_lit 110, nat_lit 103]⟩⟩
noncomputable def n117 : Str := ⟨⟨[nat_lit 82, nat_lit 117, nat_lit 110, nat_lit 116, nat_lit 105, nat_lit 109, nat_lit 101, nat_lit 87, nat_lit 97, nat_lit 114, nat_lit 110, nat_lit 105, nat_lit 110, nat_lit 103]⟩⟩
noncomputable def n118 : Str := ⟨⟨[nat_lit 83, nat_lit 121, nat_lit 110, nat_lit 116, nat_lit 97, nat_lit 120, nat_lit 87, nat_lit 97, nat_lit 114, nat_lit 110, nat_lit 105, nat_lit 110, nat_lit 103]⟩⟩
noncomputable def n119 : Str := ⟨⟨[nat_lit 85, nat_lit 110, nat_lit 105, nat_lit 99, nat_lit 111, nat_lit 100, nat_lit 101, nat_lit 87, nat_lit 97, nat_lit 114, nat_lit 110, nat_lit 105, nat_lit 110, nat_lit 103]⟩⟩
noncomputable def n120 : Str := ⟨⟨[nat_lit 85, nat_lit 115, nat_lit 101, nat_lit 114, nat_lit 87, nat_lit 97, nat_lit 114, nat_lit 110, nat_lit 105, nat_lit 110, nat_lit 103]⟩⟩
noncomputable def n121 : Str := ⟨⟨[nat_lit 66, nat_lit 108, nat_lit 111, nat_lit 99, nat_lit 107, nat_lit 105, nat_lit 110, nat_lit 103, nat_lit 73, nat_lit 79, nat_lit 69, nat_lit 114, nat_lit 114, nat_lit 111, nat_lit 114]⟩⟩
noncomputable def n122 : Str := ⟨⟨[nat_lit 67, nat_lit 104, nat_lit 105, nat_lit 108, nat_lit 100, nat_lit 80, nat_lit 114, nat_lit 111, nat_lit 99, nat_lit 101, nat_lit 115, nat_lit 115, nat_lit 69, nat_lit 114, nat_lit 114, nat_lit 111, nat_lit 114]⟩⟩
noncomputable def n123 : Str := ⟨⟨[nat_lit 67, nat_lit 111, nat_lit 110, nat_lit 110, nat_lit 101, nat_lit 99, nat_lit 116, nat_lit 105, nat_lit 111, nat_lit 110, nat_lit 69, nat_lit 114, nat_lit 114, nat_lit 111, nat_lit 114]⟩⟩
noncomputable def n124 : Str := ⟨⟨[nat_lit 70, nat_lit 105, nat_lit 108, nat_lit 101, nat_lit 69, nat_lit 120, nat_lit 105, nat_lit 115, nat_lit 116, nat_lit 115, nat_lit 69, nat_lit 114, nat_lit 114, nat_lit 111, nat_lit 114]⟩⟩
noncomputable def n125 : Str := ⟨⟨[nat_lit 70, nat_lit 105, nat_lit 108, nat_lit 101, nat_lit 78, nat_lit 111, nat_lit 116, nat_lit 70, nat_lit 111, nat_lit 117, nat_lit 110, nat_lit 100, nat_lit 69, nat_lit 114, nat_lit 114, nat_lit 111, nat_lit 114]⟩⟩
noncomputable def n126 : Str := ⟨⟨[nat_lit 73, nat_lit 110, nat_lit 116, nat_lit 101, nat_lit 114, nat_lit 114, nat_lit 117, nat_lit 112, nat_lit 116, nat_lit 101, nat_lit 100, nat_lit 69, nat_lit 114, nat_lit 114, nat_lit 111, nat_lit 114]⟩⟩
noncomputable def n127 : Str := ⟨⟨[nat_lit 73, nat_lit 115, nat_lit 65, nat_lit 68, nat_lit 105, nat_lit 114, nat_lit 101, nat_lit 99, nat_lit 116, nat_lit 111, nat_lit 114, nat_lit 121, nat_lit 69, nat_lit 114, nat_lit 114, nat_lit 111, nat_lit 114]⟩⟩
noncomputable def n128 : Str := ⟨⟨[nat_lit 78, nat_lit 111, nat_lit 116, nat_lit 65, nat_lit 68, nat_lit 105, nat_lit 114, nat_lit 101, nat_lit 99, nat_lit 116, nat_lit 111, nat_lit 114, nat_lit 121, nat_lit 69, nat_lit 114, nat_lit 114, nat_lit 111, nat_lit 114]⟩⟩
noncomputable def n129 : Str := ⟨⟨[nat_lit 80, nat_lit 101, nat_lit 114, nat_lit 109, nat_lit 105, nat_lit 115, nat_lit 115, nat_lit 105, nat_lit 111, nat_lit 110, nat_lit 69, nat_lit 114, nat_lit 114, nat_lit 111, nat_lit 114]⟩⟩
noncomputable def n130 : Str := ⟨⟨[nat_lit 80, nat_lit 114, nat_lit 111, nat_lit 99, nat_lit 101, nat_lit 115, nat_lit 115, nat_lit 76, nat_lit 111, nat_lit 111, nat_lit 107, nat_lit 117, nat_lit 112, nat_lit 69, nat_lit 114, nat_lit 114, nat_lit 111, nat_lit 114]⟩⟩
noncomputable def n131 : Str := ⟨⟨[nat_lit 84, nat_lit 105, nat_lit 109, nat_lit 101, nat_lit 111, nat_lit 117, nat_lit 116, nat_lit 69, nat_lit 114, nat_lit 114, nat_lit 111, nat_lit 114]⟩⟩
noncomputable def n132 : Str := ⟨⟨[nat_lit 73, nat_lit 110, nat_lit 100, nat_lit 101, nat_lit 110, nat_lit 116, nat_lit 97, nat_lit 116, nat_lit 105, nat_lit 111, nat_lit 110, nat_lit 69, nat_lit 114, nat_lit 114, nat_lit 111, nat_lit 114]⟩⟩
noncomputable def n133 : Str := ⟨⟨[nat_lit 95, nat_lit 73, nat_lit 110, nat_lit 99, nat_lit 111, nat_lit 109, nat_lit 112, nat_lit 108, nat_lit 101, nat_lit 116, nat_lit 101, nat_lit 73, nat_lit 110, nat_lit 112, nat_lit 117, nat_lit 116, nat_lit 69, nat_lit 114, nat_lit 114, nat_lit 111, nat_lit 114]⟩⟩
noncomputable def n134 : Str := ⟨⟨[nat_lit 73, nat_lit 110, nat_lit 100, nat_lit 101, nat_lit 120, nat_lit 69, nat_lit 114, nat_lit 114, nat_lit 111, nat_lit 114]⟩⟩
noncomputable def n135 : Str := ⟨⟨[nat_lit 75, nat_lit 101, nat_lit 121, nat_lit 69, nat_lit 114, nat_lit 114, nat_lit 111, nat_lit 114]⟩⟩
noncomputable def n136 : Str := ⟨⟨[nat_lit 77, nat_lit 111, nat_lit 100, nat_lit 117, nat_lit 108, nat_lit 101, nat_lit 78, nat_lit 111, nat_lit 116, nat_lit 70, nat_lit 111, nat_lit 117, nat_lit 110, nat_lit 100, nat_lit 69, nat_lit 114, nat_lit 114, nat_lit 111, nat_lit 114]⟩⟩
noncomputable def n137 : Str := ⟨⟨[nat_lit 78, nat_lit 111, nat_lit 116, nat_lit 73, nat_lit 109, nat_lit 112, nat_lit 108, nat_lit 101, nat_lit 109, nat_lit 101, nat_lit 110, nat_lit 116, nat_lit 101, nat_lit 100, nat_lit 69, nat_lit 114, nat_lit 114, nat_lit 111, nat_lit 114]⟩⟩
noncomputable def n138 : Str := ⟨⟨[nat_lit 80, nat_lit 121, nat_lit 116, nat_lit 104, nat_lit 111, nat_lit 110, nat_lit 70, nat_lit 105, nat_lit 110, nat_lit 97, nat_lit 108, nat_lit 105, nat_lit 122, nat_lit 97, nat_lit 116, nat_lit 105, nat_lit 111, nat_lit 110, nat_lit 69, nat_lit 114, nat_lit 114, nat_lit 111, nat_lit 114]⟩⟩
noncomputable def n139 : Str := ⟨⟨[nat_lit 82, nat_lit 101, nat_lit 99, nat_lit 117, nat_lit 114, nat_lit 115, nat_lit 105, nat_lit 111, nat_lit 110, nat_lit 69, nat_lit 114, nat_lit 114, nat_lit 111, nat_lit 114]⟩⟩
noncomputable def n140 : Str := ⟨⟨[nat_lit 85, nat_lit 110, nat_lit 98, nat_lit 111, nat_lit 117, nat_lit 110, nat_lit 100, nat_lit 76, nat_lit 111, nat_lit 99, nat_lit 97, nat_lit 108, nat_lit 69, nat_lit 114, nat_lit 114, nat_lit 111, nat_lit 114]⟩⟩
noncomputable def n141 : Str := ⟨⟨[nat_lit 85, nat_lit 110, nat_lit 105, nat_lit 99, nat_lit 111, nat_lit 100, nat_lit 101, nat_lit 69, nat_lit 114, nat_lit 114, nat_lit 111, nat_lit 114]⟩⟩
noncomputable def n142 : Str := ⟨⟨[nat_lit 66, nat_lit 114, nat_lit 111, nat_lit 107, nat_lit 101, nat_lit 110, nat_lit 80, nat_lit 105, nat_lit 112, nat_lit 101, nat_lit 69, nat_lit 114, nat_lit 114, nat_lit 111, nat_lit 114]⟩⟩
noncomputable def n143 : Str := ⟨⟨[nat_lit 67, nat_lit 111, nat_lit 110, nat_lit 110, nat_lit 101, nat_lit 99, nat_lit 116, nat_lit 105, nat_lit 111, nat_lit 110, nat_lit 65, nat_lit 98, nat_lit 111, nat_lit 114, nat_lit 116, nat_lit 101, nat_lit 100, nat_lit 69, nat_lit 114, nat_lit 114, nat_lit 111, nat_lit 114]⟩⟩
noncomputable def n144 : Str := ⟨⟨[nat_lit 67, nat_lit 111, nat_lit 110, nat_lit 110, nat_lit 101, nat_lit 99, nat_lit 116, nat_lit 105, nat_lit 111, nat_lit 110, nat_lit 82, nat_lit 101, nat_lit 102, nat_lit 117, nat_lit 115, nat_lit 101, nat_lit 100, nat_lit 69, nat_lit 114, nat_lit 114, nat_lit 111, nat_lit 114]⟩⟩
noncomputable def n145 : Str := ⟨⟨[nat_lit 67, nat_lit 111, nat_lit 110, nat_lit 110, nat_lit 101, nat_lit 99, nat_lit 116, nat_lit 105, nat_lit 111, nat_lit 110, nat_lit 82, nat_lit 101, nat_lit 115, nat_lit 101, nat_lit 116, nat_lit 69, nat_lit 114, nat_lit 114, nat_lit 111, nat_lit 114]⟩⟩
noncomputable def n146 : Str := ⟨⟨[nat_lit 84, nat_lit 97, nat_lit 98, nat_lit 69, nat_lit 114, nat_lit 114, nat_lit 111, nat_lit 114]⟩⟩
noncomputable def n147 : Str := ⟨⟨[nat_lit 85, nat_lit 110, nat_lit 105, nat_lit 99, nat_lit 111, nat_lit 100, nat_lit 101, nat_lit 68, nat_lit 101, nat_lit 99, nat_lit 111, nat_lit 100, nat_lit 101, nat_lit 69, nat_lit 114, nat_lit 114, nat_lit 111, nat_lit 114]⟩⟩
noncomputable def n148 : Str := ⟨⟨[nat_lit 85, nat_lit 110, nat_lit 105, nat_lit 99, nat_lit 111, nat_lit 100, nat_lit 101, nat_lit 69, nat_lit 110, nat_lit 99, nat_lit 111, nat_lit 100, nat_lit 101, nat_lit 69, nat_lit 114, nat_lit 114, nat_lit 111, nat_lit 114]⟩⟩
noncomputable def n149 : Str := ⟨⟨[nat_lit 85, nat_lit 110, nat_lit 105, nat_lit 99, nat_lit 111, nat_lit 100, nat_lit 101, nat_lit 84, nat_lit 114, nat_lit 97, nat_lit 110, nat_lit 115, nat_lit 108, nat_lit 97, nat_lit 116, nat_lit 101, nat_lit 69, nat_lit 114, nat_lit 114, nat_lit 111, nat_lit 114]⟩⟩
noncomputable def n150 : Str := ⟨⟨[nat_lit 69, nat_lit 120, nat_lit 99, nat_lit 101, nat_lit 112, nat_lit 116, nat_lit 105, nat_lit 111, nat_lit 110, nat_lit 71, nat_lit 114, nat_lit 111, nat_lit 117, nat_lit 112]⟩⟩
noncomputable def n151 : Str := ⟨⟨[nat_lit 69, nat_lit 110, nat_lit 118, nat_lit 105, nat_lit 114, nat_lit 111, nat_lit 110, nat_lit 109, nat_lit 101, nat_lit 110, nat_lit 116, nat_lit 69, nat_lit 114, nat_lit 114, nat_lit 111, nat_lit 114]⟩⟩
noncomputable def n152 : Str := ⟨⟨[nat_lit 73, nat_lit 79, nat_lit 69, nat_lit 114, nat_lit 114, nat_lit 111, nat_lit 114]⟩⟩
noncomputable def n153 : Str := ⟨⟨[nat_lit 111, nat_lit 112, nat_lit 101, nat_lit 110]⟩⟩
noncomputable def n154 : Str := ⟨⟨[nat_lit 113, nat_lit 117, nat_lit 105, nat_lit 116]⟩⟩
noncomputable def n155 : Str := ⟨⟨[nat_lit 101, nat_lit 120, nat_lit 105, nat_lit 116]⟩⟩
noncomputable def n156 : Str := ⟨⟨[nat_lit 99, nat_lit 111, nat_lit 112, nat_lit 121, nat_lit 114, nat_lit 105, nat_lit 103, nat_lit 104, nat_lit 116]⟩⟩
noncomputable def n157 : Str := ⟨⟨[nat_lit 99, nat_lit 114, nat_lit 101, nat_lit 100, nat_lit 105, nat_lit 116, nat_lit 115]⟩⟩
noncomputable def n158 : Str := ⟨⟨[nat_lit 108, nat_lit 105, nat_lit 99, nat_lit 101, nat_lit 110, nat_lit 115, nat_lit 101]⟩⟩
noncomputable def n159 : Str := ⟨⟨[nat_lit 104, nat_lit 101, nat_lit 108, nat_lit 112]⟩⟩
noncomputable def n160 : Str := ⟨⟨[nat_lit 95, nat_lit 95, nat_lit 109, nat_lit 97, nat_lit 105, nat_lit 110, nat_lit 95, nat_lit 95]⟩⟩
noncomputable def n161 : Str := ⟨⟨[nat_lit 95, nat_lit 95, nat_lit 97, nat_lit 110, nat_lit 110, nat_lit 111, nat_lit 116, nat_lit 97, nat_lit 116, nat_lit 105, nat_lit 111, nat_lit 110, nat_lit 115, nat_lit 95, nat_lit 95]⟩⟩
noncomputable def n162 : Str := ⟨⟨[nat_lit 95, nat_lit 95, nat_lit 98, nat_lit 117, nat_lit 105, nat_lit 108, nat_lit 116, nat_lit 105, nat_lit 110, nat_lit 115, nat_lit 95, nat_lit 95]⟩⟩
noncomputable def n163 : Str := ⟨⟨[nat_lit 95, nat_lit 95, nat_lit 102, nat_lit 105, nat_lit 108, nat_lit 101, nat_lit 95, nat_lit 95]⟩⟩
noncomputable def n164 : Str := ⟨⟨[nat_lit 47, nat_lit 99, nat_lit 108, nat_lit 97, nat_lit 105, nat_lit 109, nat_lit 47, nat_lit 99, nat_lit 117, nat_lit 116, nat_lit 46, nat_lit 112, nat_lit 121]⟩⟩
noncomputable def n165 : Str := ⟨⟨[nat_lit 95, nat_lit 95, nat_lit 99, nat_lit 97, nat_lit 99, nat_lit 104, nat_lit 101, nat_lit 100, nat_lit 95, nat_lit 95]⟩⟩
noncomputable def n166 : Str := ⟨⟨[nat_lit 60, nat_lit 109, nat_lit 111, nat_lit 100, nat_lit 117, nat_lit 108, nat_lit 101, nat_lit 62]⟩⟩
noncomputable def n167 : Str := ⟨⟨[nat_lit 116, nat_lit 121, nat_lit 112, nat_lit 101, nat_lit 46, nat_lit 95, nat_lit 95, nat_lit 115, nat_lit 117, nat_lit 98, nat_lit 99, nat_lit 108, nat_lit 97, nat_lit 115, nat_lit 115, nat_lit 101, nat_lit 115, nat_lit 95, nat_lit 95, nat_lit 46, nat_lit 69, nat_lit 120, nat_lit 99, nat_lit 101, nat_lit 112, nat_lit 116, nat_lit 105, nat_lit 111, nat_lit 110, nat_lit 46, nat_lit 48]⟩⟩
noncomputable def n168 : Str := ⟨⟨[nat_lit 116, nat_lit 121, nat_lit 112, nat_lit 101, nat_lit 46, nat_lit 95, nat_lit 95, nat_lit 115, nat_lit 117, nat_lit 98, nat_lit 99, nat_lit 108, nat_lit 97, nat_lit 115, nat_lit 115, nat_lit 101, nat_lit 115, nat_lit 95, nat_lit 95, nat_lit 46, nat_lit 69, nat_lit 120, nat_lit 99, nat_lit 101, nat_lit 112, nat_lit 116, nat_lit 105, nat_lit 111, nat_lit 110, nat_lit 46, nat_lit 110]⟩⟩
noncomputable def n169 : Str := ⟨⟨[nat_lit 118, nat_lit 101, nat_lit 99, nat_lit 116, nat_lit 111, nat_lit 114, nat_lit 99, nat_lit 111, nat_lit 118, nat_lit 101, nat_lit 46, nat_lit 101, nat_lit 114, nat_lit 114, nat_lit 111, nat_lit 114, nat_lit 115]⟩⟩
noncomputable def n170 : Str := ⟨⟨[nat_lit 95, nat_lit 119, nat_lit 97, nat_lit 108, nat_lit 108]⟩⟩
noncomputable def n171 : Str := ⟨⟨[nat_lit 67, nat_lit 111, nat_lit 118, nat_lit 101, nat_lit 69, nat_lit 114, nat_lit 114, nat_lit 111, nat_lit 114]⟩⟩
noncomputable def n172 : Str := ⟨⟨[nat_lit 82, nat_lit 101, nat_lit 102, nat_lit 117, nat_lit 115, nat_lit 97, nat_lit 108]⟩⟩
noncomputable def n173 : Str := ⟨⟨[nat_lit 82, nat_lit 69, nat_lit 114, nat_lit 114, nat_lit 111, nat_lit 114]⟩⟩
noncomputable def n174 : Str := ⟨⟨[nat_lit 76, nat_lit 105, nat_lit 109, nat_lit 105, nat_lit 116, nat_lit 82, nat_lit 101, nat_lit 97, nat_lit 99, nat_lit 104, nat_lit 101, nat_lit 100]⟩⟩
noncomputable def n175 : Str := ⟨⟨[nat_lit 82, nat_lit 101, nat_lit 116, nat_lit 117, nat_lit 114, nat_lit 110, nat_lit 83, nat_lit 105, nat_lit 103, nat_lit 110, nat_lit 97, nat_lit 108]⟩⟩
noncomputable def n176 : Str := ⟨⟨[nat_lit 76, nat_lit 111, nat_lit 111, nat_lit 112, nat_lit 83, nat_lit 105, nat_lit 103, nat_lit 110, nat_lit 97, nat_lit 108]⟩⟩
noncomputable def n177 : Str := ⟨⟨[nat_lit 107]⟩⟩
noncomputable def n178 : Str := ⟨⟨[nat_lit 95, nat_lit 95, nat_lit 109, nat_lit 111, nat_lit 100, nat_lit 117, nat_lit 108, nat_lit 101, nat_lit 95, nat_lit 95]⟩⟩
noncomputable def n179 : Str := ⟨⟨[nat_lit 95, nat_lit 95, nat_lit 113, nat_lit 117, nat_lit 97, nat_lit 108, nat_lit 110, nat_lit 97, nat_lit 109, nat_lit 101, nat_lit 95, nat_lit 95]⟩⟩
noncomputable def n180 : Str := ⟨⟨[nat_lit 95, nat_lit 95, nat_lit 102, nat_lit 105, nat_lit 114, nat_lit 115, nat_lit 116, nat_lit 108, nat_lit 105, nat_lit 110, nat_lit 101, nat_lit 110, nat_lit 111, nat_lit 95, nat_lit 95]⟩⟩
noncomputable def n181 : Str := ⟨⟨[nat_lit 95, nat_lit 95, nat_lit 115, nat_lit 116, nat_lit 97, nat_lit 116, nat_lit 105, nat_lit 99, nat_lit 95, nat_lit 97, nat_lit 116, nat_lit 116, nat_lit 114, nat_lit 105, nat_lit 98, nat_lit 117, nat_lit 116, nat_lit 101, nat_lit 115, nat_lit 95, nat_lit 95]⟩⟩
noncomputable def n182 : Str := ⟨⟨[nat_lit 95, nat_lit 95, nat_lit 119, nat_lit 101, nat_lit 97, nat_lit 107, nat_lit 114, nat_lit 101, nat_lit 102, nat_lit 95, nat_lit 95]⟩⟩
noncomputable def n183 : Str := ⟨⟨[nat_lit 95, nat_lit 95, nat_lit 105, nat_lit 110, nat_lit 105, nat_lit 116, nat_lit 95, nat_lit 95]⟩⟩
noncomputable def n184 : Str := ⟨⟨[nat_lit 115, nat_lit 101, nat_lit 108, nat_lit 102]⟩⟩
noncomputable def n185 : Str := ⟨⟨[nat_lit 109, nat_lit 101, nat_lit 115, nat_lit 115, nat_lit 97, nat_lit 103, nat_lit 101]⟩⟩
noncomputable def n186 : Str := ⟨⟨[nat_lit 82, nat_lit 101, nat_lit 102, nat_lit 117, nat_lit 115, nat_lit 97, nat_lit 108, nat_lit 46, nat_lit 95, nat_lit 95, nat_lit 105, nat_lit 110, nat_lit 105, nat_lit 116, nat_lit 95, nat_lit 95]⟩⟩
noncomputable def n187 : Str := ⟨⟨[nat_lit 99, nat_lit 97, nat_lit 108, nat_lit 108]⟩⟩
noncomputable def n188 : Str := ⟨⟨[nat_lit 99, nat_lit 111, nat_lit 110, nat_lit 100, nat_lit 105, nat_lit 116, nat_lit 105, nat_lit 111, nat_lit 110]⟩⟩
noncomputable def n189 : Str := ⟨⟨[nat_lit 82, nat_lit 69, nat_lit 114, nat_lit 114, nat_lit 111, nat_lit 114, nat_lit 46, nat_lit 95, nat_lit 95, nat_lit 105, nat_lit 110, nat_lit 105, nat_lit 116, nat_lit 95, nat_lit 95]⟩⟩
noncomputable def n190 : Str := ⟨⟨[nat_lit 119, nat_lit 104, nat_lit 97, nat_lit 116]⟩⟩
noncomputable def n191 : Str := ⟨⟨[nat_lit 76, nat_lit 105, nat_lit 109, nat_lit 105, nat_lit 116, nat_lit 82, nat_lit 101, nat_lit 97, nat_lit 99, nat_lit 104, nat_lit 101, nat_lit 100, nat_lit 46, nat_lit 95, nat_lit 95, nat_lit 105, nat_lit 110, nat_lit 105, nat_lit 116, nat_lit 95, nat_lit 95]⟩⟩
noncomputable def n192 : Str := ⟨⟨[nat_lit 110, nat_lit 117, nat_lit 109, nat_lit 98, nat_lit 101, nat_lit 114]⟩⟩
noncomputable def n193 : Str := ⟨⟨[nat_lit 118, nat_lit 97, nat_lit 108, nat_lit 117, nat_lit 101]⟩⟩
noncomputable def n194 : Str := ⟨⟨[nat_lit 82, nat_lit 101, nat_lit 116, nat_lit 117, nat_lit 114, nat_lit 110, nat_lit 83, nat_lit 105, nat_lit 103, nat_lit 110, nat_lit 97, nat_lit 108, nat_lit 46, nat_lit 95, nat_lit 95, nat_lit 105, nat_lit 110, nat_lit 105, nat_lit 116, nat_lit 95, nat_lit 95]⟩⟩
noncomputable def n195 : Str := ⟨⟨[nat_lit 97, nat_lit 103, nat_lit 97, nat_lit 105, nat_lit 110]⟩⟩
noncomputable def n196 : Str := ⟨⟨[nat_lit 76, nat_lit 111, nat_lit 111, nat_lit 112, nat_lit 83, nat_lit 105, nat_lit 103, nat_lit 110, nat_lit 97, nat_lit 108, nat_lit 46, nat_lit 95, nat_lit 95, nat_lit 105, nat_lit 110, nat_lit 105, nat_lit 116, nat_lit 95, nat_lit 95]⟩⟩
noncomputable def n197 : Str := ⟨⟨[nat_lit 118, nat_lit 101, nat_lit 99, nat_lit 116, nat_lit 111, nat_lit 114, nat_lit 99, nat_lit 111, nat_lit 118, nat_lit 101, nat_lit 46, nat_lit 118, nat_lit 97, nat_lit 108, nat_lit 117, nat_lit 101, nat_lit 115]⟩⟩
noncomputable def n198 : Str := ⟨⟨[nat_lit 105, nat_lit 115, nat_lit 95, nat_lit 110, nat_lit 97]⟩⟩
noncomputable def n199 : Str := ⟨⟨[nat_lit 97, nat_lit 110, nat_lit 100, nat_lit 95, nat_lit 105, nat_lit 116, nat_lit 101, nat_lit 109, nat_lit 115]⟩⟩
noncomputable def n200 : Str := ⟨⟨[nat_lit 111, nat_lit 114, nat_lit 95, nat_lit 105, nat_lit 116, nat_lit 101, nat_lit 109, nat_lit 115]⟩⟩
noncomputable def n201 : Str := ⟨⟨[nat_lit 116, nat_lit 114, nat_lit 117, nat_lit 116, nat_lit 104, nat_lit 95, nat_lit 105, nat_lit 116, nat_lit 101, nat_lit 109]⟩⟩
noncomputable def n202 : Str := ⟨⟨[nat_lit 115, nat_lit 99, nat_lit 97, nat_lit 108, nat_lit 97, nat_lit 114, nat_lit 95, nat_lit 116, nat_lit 114, nat_lit 117, nat_lit 116, nat_lit 104]⟩⟩
noncomputable def n203 : Str := ⟨⟨[nat_lit 78, nat_lit 117, nat_lit 108, nat_lit 108]⟩⟩
noncomputable def n204 : Str := ⟨⟨[nat_lit 86, nat_lit 101, nat_lit 99, nat_lit 116, nat_lit 111, nat_lit 114]⟩⟩
noncomputable def n205 : Str := ⟨⟨[nat_lit 83, nat_lit 121, nat_lit 109, nat_lit 98, nat_lit 111, nat_lit 108]⟩⟩
noncomputable def n206 : Str := ⟨⟨[nat_lit 67, nat_lit 97, nat_lit 108, nat_lit 108]⟩⟩
noncomputable def n207 : Str := ⟨⟨[nat_lit 67, nat_lit 108, nat_lit 111, nat_lit 115, nat_lit 117, nat_lit 114, nat_lit 101]⟩⟩
noncomputable def n208 : Str := ⟨⟨[nat_lit 120]⟩⟩
noncomputable def n209 : Str := ⟨⟨[nat_lit 118, nat_lit 101, nat_lit 99, nat_lit 116, nat_lit 111, nat_lit 114, nat_lit 99, nat_lit 111, nat_lit 118, nat_lit 101, nat_lit 46, nat_lit 114, nat_lit 97, nat_lit 116, nat_lit 105, nat_lit 111, nat_lit 110, nat_lit 97, nat_lit 108]⟩⟩
noncomputable def n210 : Str := ⟨⟨[nat_lit 97]⟩⟩
noncomputable def n211 : Str := ⟨⟨[nat_lit 98]⟩⟩
noncomputable def n212 : Str := ⟨⟨[nat_lit 118, nat_lit 101, nat_lit 99, nat_lit 116, nat_lit 111, nat_lit 114, nat_lit 99, nat_lit 111, nat_lit 118, nat_lit 101, nat_lit 46, nat_lit 108, nat_lit 111, nat_lit 103, nat_lit 105, nat_lit 99]⟩⟩
noncomputable def n213 : Str := ⟨⟨[nat_lit 107, nat_lit 105, nat_lit 110, nat_lit 100]⟩⟩
noncomputable def n214 : Str := ⟨⟨[nat_lit 105, nat_lit 116, nat_lit 101, nat_lit 109]⟩⟩
noncomputable def n215 : Str := ⟨⟨[nat_lit 118]⟩⟩
noncomputable def n216 : Str := ⟨⟨[nat_lit 115, nat_lit 105, nat_lit 100, nat_lit 101]⟩⟩
noncomputable def n217 : Str := ⟨⟨[nat_lit 111, nat_lit 112]⟩⟩
noncomputable def n218 : Str := ⟨⟨[nat_lit 118, nat_lit 101, nat_lit 99, nat_lit 116, nat_lit 111, nat_lit 114, nat_lit 99, nat_lit 111, nat_lit 118, nat_lit 101, nat_lit 46, nat_lit 97, nat_lit 114, nat_lit 105, nat_lit 116, nat_lit 104, nat_lit 99, nat_lit 97, nat_lit 108, nat_lit 108, nat_lit 115]⟩⟩
noncomputable def n219 : Str := ⟨⟨[nat_lit 78, nat_lit 117, nat_lit 108, nat_lit 108, nat_lit 46, nat_lit 95, nat_lit 95, nat_lit 105, nat_lit 110, nat_lit 105, nat_lit 116, nat_lit 95, nat_lit 95]⟩⟩
noncomputable def n220 : Str := ⟨⟨[nat_lit 97, nat_lit 116, nat_lit 116, nat_lit 114, nat_lit 115]⟩⟩
noncomputable def n221 : Str := ⟨⟨[nat_lit 95, nat_lit 95, nat_lit 100, nat_lit 105, nat_lit 99, nat_lit 116, nat_lit 95, nat_lit 95]⟩⟩
noncomputable def n222 : Str := ⟨⟨[nat_lit 99, nat_lit 111, nat_lit 112, nat_lit 121]⟩⟩
noncomputable def n223 : Str := ⟨⟨[nat_lit 105, nat_lit 116, nat_lit 101, nat_lit 109, nat_lit 115]⟩⟩
noncomputable def n224 : Str := ⟨⟨[nat_lit 86, nat_lit 101, nat_lit 99, nat_lit 116, nat_lit 111, nat_lit 114, nat_lit 46, nat_lit 95, nat_lit 95, nat_lit 105, nat_lit 110, nat_lit 105, nat_lit 116, nat_lit 95, nat_lit 95]⟩⟩
noncomputable def n225 : Str := ⟨⟨[nat_lit 86, nat_lit 101, nat_lit 99, nat_lit 116, nat_lit 111, nat_lit 114, nat_lit 46, nat_lit 99, nat_lit 111, nat_lit 112, nat_lit 121]⟩⟩
noncomputable def n226 : Str := ⟨⟨[nat_lit 108, nat_lit 111, nat_lit 111, nat_lit 115, nat_lit 101]⟩⟩
noncomputable def n227 : Str := ⟨⟨[nat_lit 115, nat_lit 104, nat_lit 97, nat_lit 114, nat_lit 101, nat_lit 100]⟩⟩
noncomputable def n228 : Str := ⟨⟨[nat_lit 110, nat_lit 97, nat_lit 109, nat_lit 101]⟩⟩
noncomputable def n229 : Str := ⟨⟨[nat_lit 83, nat_lit 121, nat_lit 109, nat_lit 98, nat_lit 111, nat_lit 108, nat_lit 46, nat_lit 95, nat_lit 95, nat_lit 105, nat_lit 110, nat_lit 105, nat_lit 116, nat_lit 95, nat_lit 95]⟩⟩
noncomputable def n230 : Str := ⟨⟨[nat_lit 116, nat_lit 97, nat_lit 103, nat_lit 115]⟩⟩
noncomputable def n231 : Str := ⟨⟨[nat_lit 67, nat_lit 97, nat_lit 108, nat_lit 108, nat_lit 46, nat_lit 95, nat_lit 95, nat_lit 105, nat_lit 110, nat_lit 105, nat_lit 116, nat_lit 95, nat_lit 95]⟩⟩
noncomputable def n232 : Str := ⟨⟨[nat_lit 99, nat_lit 111, nat_lit 100, nat_lit 101]⟩⟩
noncomputable def n233 : Str := ⟨⟨[nat_lit 102, nat_lit 111, nat_lit 114, nat_lit 109, nat_lit 97, nat_lit 108, nat_lit 115]⟩⟩
noncomputable def n234 : Str := ⟨⟨[nat_lit 98, nat_lit 111, nat_lit 100, nat_lit 121]⟩⟩
noncomputable def n235 : Str := ⟨⟨[nat_lit 101, nat_lit 110, nat_lit 118]⟩⟩
noncomputable def n236 : Str := ⟨⟨[nat_lit 67, nat_lit 108, nat_lit 111, nat_lit 115, nat_lit 117, nat_lit 114, nat_lit 101, nat_lit 46, nat_lit 95, nat_lit 95, nat_lit 105, nat_lit 110, nat_lit 105, nat_lit 116, nat_lit 95, nat_lit 95]⟩⟩
noncomputable def n237 : Str := ⟨⟨[nat_lit 118, nat_lit 101, nat_lit 99, nat_lit 116, nat_lit 111, nat_lit 114, nat_lit 99, nat_lit 111, nat_lit 118, nat_lit 101, nat_lit 46, nat_lit 99, nat_lit 97, nat_lit 108, nat_lit 108, nat_lit 97, nat_lit 114, nat_lit 103, nat_lit 115]⟩⟩
noncomputable def n238 : Str := ⟨⟨[nat_lit 69, nat_lit 110, nat_lit 118, nat_lit 105, nat_lit 114, nat_lit 111, nat_lit 110, nat_lit 109, nat_lit 101, nat_lit 110, nat_lit 116]⟩⟩
noncomputable def n239 : Str := ⟨⟨[nat_lit 80, nat_lit 114, nat_lit 111, nat_lit 109, nat_lit 105, nat_lit 115, nat_lit 101]⟩⟩
noncomputable def n240 : Str := ⟨⟨[nat_lit 68, nat_lit 111, nat_lit 116, nat_lit 115]⟩⟩
noncomputable def n241 : Str := ⟨⟨[nat_lit 110, nat_lit 117, nat_lit 108, nat_lit 108]⟩⟩
noncomputable def n242 : Str := ⟨⟨[nat_lit 102, nat_lit 108, nat_lit 97, nat_lit 103]⟩⟩
noncomputable def n243 : Str := ⟨⟨[nat_lit 116, nat_lit 101, nat_lit 120, nat_lit 116]⟩⟩
noncomputable def n244 : Str := ⟨⟨[nat_lit 108, nat_lit 101, nat_lit 110, nat_lit 103, nat_lit 116, nat_lit 104]⟩⟩
noncomputable def n245 : Str := ⟨⟨[nat_lit 105, nat_lit 115, nat_lit 95, nat_lit 97, nat_lit 116, nat_lit 111, nat_lit 109, nat_lit 105, nat_lit 99]⟩⟩
noncomputable def n246 : Str := ⟨⟨[nat_lit 105, nat_lit 115, nat_lit 95, nat_lit 102, nat_lit 117, nat_lit 110, nat_lit 99, nat_lit 116, nat_lit 105, nat_lit 111, nat_lit 110]⟩⟩
noncomputable def n247 : Str := ⟨⟨[nat_lit 115, nat_lit 104, nat_lit 97, nat_lit 114, nat_lit 101]⟩⟩
noncomputable def n248 : Str := ⟨⟨[nat_lit 97, nat_lit 115, nat_lit 95, nat_lit 108, nat_lit 111, nat_lit 103, nat_lit 105, nat_lit 99, nat_lit 97, nat_lit 108, nat_lit 95, nat_lit 116, nat_lit 101, nat_lit 120, nat_lit 116]⟩⟩
noncomputable def n249 : Str := ⟨⟨[nat_lit 116, nat_lit 111, nat_lit 95, nat_lit 108, nat_lit 111, nat_lit 103, nat_lit 105, nat_lit 99, nat_lit 97, nat_lit 108]⟩⟩
noncomputable def n250 : Str := ⟨⟨[nat_lit 111, nat_lit 112, nat_lit 101, nat_lit 114, nat_lit 97, nat_lit 116, nat_lit 111, nat_lit 114, nat_lit 95, nat_lit 110, nat_lit 97, nat_lit 109, nat_lit 101, nat_lit 115]⟩⟩
noncomputable def n251 : Str := ⟨⟨[nat_lit 105, nat_lit 115, nat_lit 95, nat_lit 105, nat_lit 110, nat_lit 100, nat_lit 101, nat_lit 120]⟩⟩
noncomputable def n252 : Str := ⟨⟨[nat_lit 103, nat_lit 101, nat_lit 116, nat_lit 95, nat_lit 97, nat_lit 116, nat_lit 116, nat_lit 114]⟩⟩
noncomputable def n253 : Str := ⟨⟨[nat_lit 110, nat_lit 97, nat_lit 109, nat_lit 101, nat_lit 115, nat_lit 95, nat_lit 111, nat_lit 102]⟩⟩
noncomputable def n254 : Str := ⟨⟨[nat_lit 100, nat_lit 105, nat_lit 109, nat_lit 95, nat_lit 111, nat_lit 102]⟩⟩
noncomputable def n255 : Str := ⟨⟨[nat_lit 100, nat_lit 105, nat_lit 109, nat_lit 110, nat_lit 97, nat_lit 109, nat_lit 101, nat_lit 115, nat_lit 95, nat_lit 111, nat_lit 102]⟩⟩
noncomputable def n256 : Str := ⟨⟨[nat_lit 99, nat_lit 108, nat_lit 97, nat_lit 115, nat_lit 115, nat_lit 95, nat_lit 97, nat_lit 116, nat_lit 116, nat_lit 114]⟩⟩
noncomputable def n257 : Str := ⟨⟨[nat_lit 110, nat_lit 101, nat_lit 101, nat_lit 100]⟩⟩
noncomputable def n258 : Str := ⟨⟨[nat_lit 108, nat_lit 111, nat_lit 111, nat_lit 112, nat_lit 95, nat_lit 118, nat_lit 97, nat_lit 108, nat_lit 117, nat_lit 101, nat_lit 115]⟩⟩
noncomputable def n259 : Str := ⟨⟨[nat_lit 108, nat_lit 101, nat_lit 118, nat_lit 101, nat_lit 108, nat_lit 95, nat_lit 116, nat_lit 101, nat_lit 120, nat_lit 116]⟩⟩
noncomputable def n260 : Str := ⟨⟨[nat_lit 102, nat_lit 111, nat_lit 114, nat_lit 109, nat_lit 97, nat_lit 108, nat_lit 115, nat_lit 95, nat_lit 111, nat_lit 102]⟩⟩
noncomputable def n261 : Str := ⟨⟨[nat_lit 115, nat_lit 95, nat_lit 102, nat_lit 117, nat_lit 110, nat_lit 99, nat_lit 116, nat_lit 105, nat_lit 111, nat_lit 110]⟩⟩
noncomputable def n262 : Str := ⟨⟨[nat_lit 112, nat_lit 97, nat_lit 114, nat_lit 101, nat_lit 110, nat_lit 116]⟩⟩
noncomputable def n263 : Str := ⟨⟨[nat_lit 69, nat_lit 110, nat_lit 118, nat_lit 105, nat_lit 114, nat_lit 111, nat_lit 110, nat_lit 109, nat_lit 101, nat_lit 110, nat_lit 116, nat_lit 46, nat_lit 95, nat_lit 95, nat_lit 105, nat_lit 110, nat_lit 105, nat_lit 116, nat_lit 95, nat_lit 95]⟩⟩
noncomputable def n264 : Str := ⟨⟨[nat_lit 102, nat_lit 114, nat_lit 97, nat_lit 109, nat_lit 101]⟩⟩
noncomputable def n265 : Str := ⟨⟨[nat_lit 108, nat_lit 111, nat_lit 99, nat_lit 107, nat_lit 101, nat_lit 100]⟩⟩
noncomputable def n266 : Str := ⟨⟨[nat_lit 108, nat_lit 111, nat_lit 99, nat_lit 107, nat_lit 115]⟩⟩
noncomputable def n267 : Str := ⟨⟨[nat_lit 101, nat_lit 120, nat_lit 112, nat_lit 114]⟩⟩
noncomputable def n268 : Str := ⟨⟨[nat_lit 80, nat_lit 114, nat_lit 111, nat_lit 109, nat_lit 105, nat_lit 115, nat_lit 101, nat_lit 46, nat_lit 95, nat_lit 95, nat_lit 105, nat_lit 110, nat_lit 105, nat_lit 116, nat_lit 95, nat_lit 95]⟩⟩
noncomputable def n269 : Str := ⟨⟨[nat_lit 115, nat_lit 116, nat_lit 97, nat_lit 116, nat_lit 101]⟩⟩
noncomputable def n270 : Str := ⟨⟨[nat_lit 97, nat_lit 114, nat_lit 103, nat_lit 115]⟩⟩
noncomputable def n271 : Str := ⟨⟨[nat_lit 68, nat_lit 111, nat_lit 116, nat_lit 115, nat_lit 46, nat_lit 95, nat_lit 95, nat_lit 105, nat_lit 110, nat_lit 105, nat_lit 116, nat_lit 95, nat_lit 95]⟩⟩
noncomputable def n272 : Str := ⟨⟨[nat_lit 115]⟩⟩
noncomputable def n273 : Str := ⟨⟨[nat_lit 118, nat_lit 101, nat_lit 99, nat_lit 116, nat_lit 111, nat_lit 114, nat_lit 99, nat_lit 111, nat_lit 118, nat_lit 101, nat_lit 46, nat_lit 99, nat_lit 111, nat_lit 101, nat_lit 114, nat_lit 99, nat_lit 101]⟩⟩
noncomputable def n274 : Str := ⟨⟨[nat_lit 99, nat_lit 111, nat_lit 117, nat_lit 110, nat_lit 116]⟩⟩
noncomputable def n275 : Str := ⟨⟨[nat_lit 102, nat_lit 111, nat_lit 117, nat_lit 110, nat_lit 100]⟩⟩
noncomputable def n276 : Str := ⟨⟨[nat_lit 118, nat_lit 101, nat_lit 99, nat_lit 116, nat_lit 111, nat_lit 114, nat_lit 99, nat_lit 111, nat_lit 118, nat_lit 101, nat_lit 46, nat_lit 99, nat_lit 111, nat_lit 109, nat_lit 112, nat_lit 105, nat_lit 108, nat_lit 101, nat_lit 114]⟩⟩
noncomputable def n277 : Str := ⟨⟨[nat_lit 118, nat_lit 101, nat_lit 99, nat_lit 116, nat_lit 111, nat_lit 114, nat_lit 99, nat_lit 111, nat_lit 118, nat_lit 101, nat_lit 46, nat_lit 97, nat_lit 116, nat_lit 116, nat_lit 114, nat_lit 115]⟩⟩
noncomputable def n278 : Str := ⟨⟨[nat_lit 100, nat_lit 105, nat_lit 109, nat_lit 115]⟩⟩
noncomputable def n279 : Str := ⟨⟨[nat_lit 118, nat_lit 101, nat_lit 99, nat_lit 116, nat_lit 111, nat_lit 114, nat_lit 99, nat_lit 111, nat_lit 118, nat_lit 101, nat_lit 46, nat_lit 99, nat_lit 111, nat_lit 110, nat_lit 116, nat_lit 114, nat_lit 111, nat_lit 108]⟩⟩
noncomputable def n280 : Str := ⟨⟨[nat_lit 108, nat_lit 101, nat_lit 118, nat_lit 101, nat_lit 108, nat_lit 115]⟩⟩
noncomputable def n281 : Str := ⟨⟨[nat_lit 105, nat_lit 110, nat_lit 116, nat_lit 101, nat_lit 114, nat_lit 112]⟩⟩
noncomputable def n282 : Str := ⟨⟨[nat_lit 118, nat_lit 101, nat_lit 99, nat_lit 116, nat_lit 111, nat_lit 114, nat_lit 99, nat_lit 111, nat_lit 118, nat_lit 101, nat_lit 46, nat_lit 109, nat_lit 97, nat_lit 99, nat_lit 104, nat_lit 105, nat_lit 110, nat_lit 101]⟩⟩
noncomputable def n283 : Str := ⟨⟨[nat_lit 77, nat_lit 97, nat_lit 116, nat_lit 99, nat_lit 104, nat_lit 105, nat_lit 110, nat_lit 103]⟩⟩
noncomputable def n284 : Str := ⟨⟨[nat_lit 100, nat_lit 111, nat_lit 117, nat_lit 98, nat_lit 108, nat_lit 101, nat_lit 100, nat_lit 95, nat_lit 116, nat_lit 101, nat_lit 120, nat_lit 116]⟩⟩
noncomputable def n285 : Str := ⟨⟨[nat_lit 97, nat_lit 114, nat_lit 103, nat_lit 117, nat_lit 109, nat_lit 101, nat_lit 110, nat_lit 116, nat_lit 95, nat_lit 116, nat_lit 101, nat_lit 120, nat_lit 116]⟩⟩
noncomputable def n286 : Str := ⟨⟨[nat_lit 117, nat_lit 110, nat_lit 117, nat_lit 115, nat_lit 101, nat_lit 100, nat_lit 95, nat_lit 116, nat_lit 101, nat_lit 120, nat_lit 116]⟩⟩
noncomputable def n287 : Str := ⟨⟨[nat_lit 109, nat_lit 97, nat_lit 116, nat_lit 99, nat_lit 104, nat_lit 95, nat_lit 110, nat_lit 97, nat_lit 109, nat_lit 101, nat_lit 115]⟩⟩
noncomputable def n288 : Str := ⟨⟨[nat_lit 108, nat_lit 111, nat_lit 111, nat_lit 107, nat_lit 117, nat_lit 112, nat_lit 95, nat_lit 104, nat_lit 101, nat_lit 114, nat_lit 101]⟩⟩
noncomputable def n289 : Str := ⟨⟨[nat_lit 108, nat_lit 111, nat_lit 111, nat_lit 107, nat_lit 117, nat_lit 112]⟩⟩
noncomputable def n290 : Str := ⟨⟨[nat_lit 104, nat_lit 111, nat_lit 108, nat_lit 100, nat_lit 101, nat_lit 114]⟩⟩
noncomputable def n291 : Str := ⟨⟨[nat_lit 108, nat_lit 111, nat_lit 99, nat_lit 107, nat_lit 101, nat_lit 100, nat_lit 95, nat_lit 116, nat_lit 101, nat_lit 120, nat_lit 116]⟩⟩
noncomputable def n292 : Str := ⟨⟨[nat_lit 100, nat_lit 101, nat_lit 102, nat_lit 105, nat_lit 110, nat_lit 101]⟩⟩
noncomputable def n293 : Str := ⟨⟨[nat_lit 117, nat_lit 112, nat_lit 95, nat_lit 104, nat_lit 111, nat_lit 108, nat_lit 100, nat_lit 101, nat_lit 114]⟩⟩
noncomputable def n294 : Str := ⟨⟨[nat_lit 97, nat_lit 115, nat_lit 115, nat_lit 105, nat_lit 103, nat_lit 110, nat_lit 95, nat_lit 117, nat_lit 112]⟩⟩
noncomputable def n295 : Str := ⟨⟨[nat_lit 100, nat_lit 111, nat_lit 110, nat_lit 101, nat_lit 95, nat_lit 112, nat_lit 114, nat_lit 111, nat_lit 109, nat_lit 105, nat_lit 115, nat_lit 101]⟩⟩
noncomputable def n296 : Str := ⟨⟨[nat_lit 98, nat_lit 111, nat_lit 117, nat_lit 110, nat_lit 100, nat_lit 95, nat_lit 97, nat_lit 114, nat_lit 103, nat_lit 117, nat_lit 109, nat_lit 101, nat_lit 110, nat_lit 116]⟩⟩
noncomputable def n297 : Str := ⟨⟨[nat_lit 100, nat_lit 111, nat_lit 116, nat_lit 115, nat_lit 95, nat_lit 97, nat_lit 114, nat_lit 103, nat_lit 117, nat_lit 109, nat_lit 101, nat_lit 110, nat_lit 116]⟩⟩
noncomputable def n298 : Str := ⟨⟨[nat_lit 100, nat_lit 101, nat_lit 102, nat_lit 97, nat_lit 117, nat_lit 108, nat_lit 116, nat_lit 95, nat_lit 98, nat_lit 105, nat_lit 110, nat_lit 100, nat_lit 105, nat_lit 110, nat_lit 103]⟩⟩
noncomputable def n299 : Str := ⟨⟨[nat_lit 98, nat_lit 105, nat_lit 110, nat_lit 100, nat_lit 95, nat_lit 102, nat_lit 111, nat_lit 114, nat_lit 109, nat_lit 97, nat_lit 108, nat_lit 115]⟩⟩
noncomputable def n300 : Str := ⟨⟨[nat_lit 100, nat_lit 111, nat_lit 116, nat_lit 115, nat_lit 95, nat_lit 111, nat_lit 102]⟩⟩
noncomputable def n301 : Str := ⟨⟨[nat_lit 105, nat_lit 115, nat_lit 95, nat_lit 100, nat_lit 111, nat_lit 116, nat_lit 115, nat_lit 95, nat_lit 112, nat_lit 108, nat_lit 97, nat_lit 99, nat_lit 101]⟩⟩
noncomputable def n302 : Str := ⟨⟨[nat_lit 100, nat_lit 111, nat_lit 116, nat_lit 115, nat_lit 95, nat_lit 112, nat_lit 108, nat_lit 97, nat_lit 99, nat_lit 101]⟩⟩
noncomputable def n303 : Str := ⟨⟨[nat_lit 105, nat_lit 115, nat_lit 95, nat_lit 101, nat_lit 109, nat_lit 112, nat_lit 116, nat_lit 121, nat_lit 95, nat_lit 110, nat_lit 97, nat_lit 109, nat_lit 101]⟩⟩
noncomputable def n304 : Str := ⟨⟨[nat_lit 102, nat_lit 101, nat_lit 116, nat_lit 99, nat_lit 104, nat_lit 95, nat_lit 116, nat_lit 97, nat_lit 114, nat_lit 103, nat_lit 101, nat_lit 116]⟩⟩
noncomputable def n305 : Str := ⟨⟨[nat_lit 115, nat_lit 116, nat_lit 111, nat_lit 114, nat_lit 101, nat_lit 95, nat_lit 116, nat_lit 97, nat_lit 114, nat_lit 103, nat_lit 101, nat_lit 116]⟩⟩
noncomputable def n306 : Str := ⟨⟨[nat_lit 101, nat_lit 110, nat_lit 100, nat_lit 95, nat_lit 108, nat_lit 111, nat_lit 111, nat_lit 115, nat_lit 101]⟩⟩
noncomputable def n307 : Str := ⟨⟨[nat_lit 116, nat_lit 109, nat_lit 112, nat_lit 95, nat_lit 99, nat_lit 97, nat_lit 108, nat_lit 108]⟩⟩
noncomputable def n308 : Str := ⟨⟨[nat_lit 115, nat_lit 112, nat_lit 101, nat_lit 99, nat_lit 105, nat_lit 97, nat_lit 108, nat_lit 95, nat_lit 118, nat_lit 97, nat_lit 108, nat_lit 117, nat_lit 101]⟩⟩
noncomputable def n309 : Str := ⟨⟨[nat_lit 99, nat_lit 108, nat_lit 111, nat_lit 115, nat_lit 117, nat_lit 114, nat_lit 101, nat_lit 95, nat_lit 118, nat_lit 97, nat_lit 108, nat_lit 117, nat_lit 101]⟩⟩
noncomputable def n310 : Str := ⟨⟨[nat_lit 104, nat_lit 97, nat_lit 115, nat_lit 95, nat_lit 99, nat_lit 108, nat_lit 97, nat_lit 115, nat_lit 115]⟩⟩
noncomputable def n311 : Str := ⟨⟨[nat_lit 98, nat_lit 117, nat_lit 105, nat_lit 108, nat_lit 116, nat_lit 105, nat_lit 110, nat_lit 95, nat_lit 118, nat_lit 97, nat_lit 108, nat_lit 117, nat_lit 101]⟩⟩
noncomputable def n312 : Str := ⟨⟨[nat_lit 116, nat_lit 111, nat_lit 108, nat_lit 100, nat_lit 95, nat_lit 99, nat_lit 97, nat_lit 108, nat_lit 108]⟩⟩
noncomputable def n313 : Str := ⟨⟨[nat_lit 97, nat_lit 112, nat_lit 112, nat_lit 108, nat_lit 121, nat_lit 95, nat_lit 103, nat_lit 101, nat_lit 116, nat_lit 116, nat_lit 101, nat_lit 114]⟩⟩
noncomputable def n314 : Str := ⟨⟨[nat_lit 115, nat_lit 104, nat_lit 111, nat_lit 119, nat_lit 110, nat_lit 95, nat_lit 118, nat_lit 97, nat_lit 108, nat_lit 117, nat_lit 101]⟩⟩
noncomputable def n315 : Str := ⟨⟨[nat_lit 97, nat_lit 112, nat_lit 112, nat_lit 108, nat_lit 121, nat_lit 95, nat_lit 115, nat_lit 101, nat_lit 116, nat_lit 116, nat_lit 101, nat_lit 114]⟩⟩
noncomputable def n316 : Str := ⟨⟨[nat_lit 115, nat_lit 112, nat_lit 101, nat_lit 99, nat_lit 105, nat_lit 97, nat_lit 108, nat_lit 95, nat_lit 115, nat_lit 101, nat_lit 116, nat_lit 116, nat_lit 101, nat_lit 114]⟩⟩
noncomputable def n317 : Str := ⟨⟨[nat_lit 70, nat_lit 111, nat_lit 114, nat_lit 83, nat_lit 116, nat_lit 97, nat_lit 116, nat_lit 101]⟩⟩
noncomputable def n318 : Str := ⟨⟨[nat_lit 101, nat_lit 120, nat_lit 97, nat_lit 99, nat_lit 116]⟩⟩
noncomputable def n319 : Str := ⟨⟨[nat_lit 112, nat_lit 97, nat_lit 114, nat_lit 116, nat_lit 105, nat_lit 97, nat_lit 108]⟩⟩
noncomputable def n320 : Str := ⟨⟨[nat_lit 112, nat_lit 97, nat_lit 114, nat_lit 116, nat_lit 105, nat_lit 97, nat_lit 108, nat_lit 95, nat_lit 111, nat_lit 102]⟩⟩
noncomputable def n321 : Str := ⟨⟨[nat_lit 112, nat_lit 111, nat_lit 115, nat_lit 105, nat_lit 116, nat_lit 105, nat_lit 111, nat_lit 110, nat_lit 97, nat_lit 108]⟩⟩
noncomputable def n322 : Str := ⟨⟨[nat_lit 105, nat_lit 115, nat_lit 95, nat_lit 102, nat_lit 114, nat_lit 101, nat_lit 101]⟩⟩
noncomputable def n323 : Str := ⟨⟨[nat_lit 114, nat_lit 101, nat_lit 115, nat_lit 116]⟩⟩
noncomputable def n324 : Str := ⟨⟨[nat_lit 77, nat_lit 97, nat_lit 116, nat_lit 99, nat_lit 104, nat_lit 105, nat_lit 110, nat_lit 103, nat_lit 46, nat_lit 95, nat_lit 95, nat_lit 105, nat_lit 110, nat_lit 105, nat_lit 116, nat_lit 95, nat_lit 95]⟩⟩
noncomputable def n325 : Str := ⟨⟨[nat_lit 112, nat_lit 108, nat_lit 97, nat_lit 99, nat_lit 101]⟩⟩
noncomputable def n326 : Str := ⟨⟨[nat_lit 77, nat_lit 97, nat_lit 116, nat_lit 99, nat_lit 104, nat_lit 105, nat_lit 110, nat_lit 103, nat_lit 46, nat_lit 101, nat_lit 120, nat_lit 97, nat_lit 99, nat_lit 116]⟩⟩
noncomputable def n327 : Str := ⟨⟨[nat_lit 77, nat_lit 97, nat_lit 116, nat_lit 99, nat_lit 104, nat_lit 105, nat_lit 110, nat_lit 103, nat_lit 46, nat_lit 112, nat_lit 97, nat_lit 114, nat_lit 116, nat_lit 105, nat_lit 97, nat_lit 108]⟩⟩
noncomputable def n328 : Str := ⟨⟨[nat_lit 116, nat_lit 97, nat_lit 103]⟩⟩
noncomputable def n329 : Str := ⟨⟨[nat_lit 77, nat_lit 97, nat_lit 116, nat_lit 99, nat_lit 104, nat_lit 105, nat_lit 110, nat_lit 103, nat_lit 46, nat_lit 112, nat_lit 97, nat_lit 114, nat_lit 116, nat_lit 105, nat_lit 97, nat_lit 108, nat_lit 95, nat_lit 111, nat_lit 102]⟩⟩
noncomputable def n330 : Str := ⟨⟨[nat_lit 77, nat_lit 97, nat_lit 116, nat_lit 99, nat_lit 104, nat_lit 105, nat_lit 110, nat_lit 103, nat_lit 46, nat_lit 112, nat_lit 111, nat_lit 115, nat_lit 105, nat_lit 116, nat_lit 105, nat_lit 111, nat_lit 110, nat_lit 97, nat_lit 108]⟩⟩
noncomputable def n331 : Str := ⟨⟨[nat_lit 77, nat_lit 97, nat_lit 116, nat_lit 99, nat_lit 104, nat_lit 105, nat_lit 110, nat_lit 103, nat_lit 46, nat_lit 105, nat_lit 115, nat_lit 95, nat_lit 102, nat_lit 114, nat_lit 101, nat_lit 101]⟩⟩
noncomputable def n332 : Str := ⟨⟨[nat_lit 77, nat_lit 97, nat_lit 116, nat_lit 99, nat_lit 104, nat_lit 105, nat_lit 110, nat_lit 103, nat_lit 46, nat_lit 114, nat_lit 101, nat_lit 115, nat_lit 116]⟩⟩
noncomputable def n333 : Str := ⟨⟨[nat_lit 112, nat_lit 108, nat_lit 97, nat_lit 99, nat_lit 101, nat_lit 115]⟩⟩
noncomputable def n334 : Str := ⟨⟨[nat_lit 117, nat_lit 115, nat_lit 101, nat_lit 100]⟩⟩
noncomputable def n335 : Str := ⟨⟨[nat_lit 115, nat_lit 104, nat_lit 111, nat_lit 119]⟩⟩
noncomputable def n336 : Str := ⟨⟨[nat_lit 118, nat_lit 101, nat_lit 99, nat_lit 116, nat_lit 111, nat_lit 114, nat_lit 99, nat_lit 111, nat_lit 118, nat_lit 101, nat_lit 46, nat_lit 115, nat_lit 99, nat_lit 111, nat_lit 112, nat_lit 101]⟩⟩
noncomputable def n337 : Str := ⟨⟨[nat_lit 116, nat_lit 111, nat_lit 112]⟩⟩
noncomputable def n338 : Str := ⟨⟨[nat_lit 112, nat_lit 97, nat_lit 115, nat_lit 115, nat_lit 101, nat_lit 100]⟩⟩
noncomputable def n339 : Str := ⟨⟨[nat_lit 112, nat_lit 114, nat_lit 111, nat_lit 109, nat_lit 105, nat_lit 115, nat_lit 101]⟩⟩
noncomputable def n340 : Str := ⟨⟨[nat_lit 118, nat_lit 101, nat_lit 99, nat_lit 116, nat_lit 111, nat_lit 114, nat_lit 99, nat_lit 111, nat_lit 118, nat_lit 101, nat_lit 46, nat_lit 102, nat_lit 117, nat_lit 110, nat_lit 99, nat_lit 97, nat_lit 108, nat_lit 108]⟩⟩
noncomputable def n341 : Str := ⟨⟨[nat_lit 97, nat_lit 114, nat_lit 103]⟩⟩
noncomputable def n342 : Str := ⟨⟨[nat_lit 100, nat_lit 101, nat_lit 102, nat_lit 97, nat_lit 117, nat_lit 108, nat_lit 116]⟩⟩
noncomputable def n343 : Str := ⟨⟨[nat_lit 100, nat_lit 111, nat_lit 116, nat_lit 115]⟩⟩
noncomputable def n344 : Str := ⟨⟨[nat_lit 119, nat_lit 111, nat_lit 114, nat_lit 100]⟩⟩
noncomputable def n345 : Str := ⟨⟨[nat_lit 101]⟩⟩
noncomputable def n346 : Str := ⟨⟨[nat_lit 98, nat_lit 111, nat_lit 117, nat_lit 110, nat_lit 100]⟩⟩
noncomputable def n347 : Str := ⟨⟨[nat_lit 117, nat_lit 112]⟩⟩
noncomputable def n348 : Str := ⟨⟨[nat_lit 115, nat_lit 116, nat_lit 97, nat_lit 114, nat_lit 116]⟩⟩
noncomputable def n349 : Str := ⟨⟨[nat_lit 111, nat_lit 119, nat_lit 110, nat_lit 95, nat_lit 112, nat_lit 108, nat_lit 97, nat_lit 99, nat_lit 101]⟩⟩
noncomputable def n350 : Str := ⟨⟨[nat_lit 118, nat_lit 101, nat_lit 99, nat_lit 116, nat_lit 111, nat_lit 114, nat_lit 99, nat_lit 111, nat_lit 118, nat_lit 101, nat_lit 46, nat_lit 114, nat_lit 101, nat_lit 112, nat_lit 108, nat_lit 97, nat_lit 99, nat_lit 101]⟩⟩
noncomputable def n351 : Str := ⟨⟨[nat_lit 116, nat_lit 109, nat_lit 112]⟩⟩
noncomputable def n352 : Str := ⟨⟨[nat_lit 119, nat_lit 97, nat_lit 115]⟩⟩
noncomputable def n353 : Str := ⟨⟨[nat_lit 101, nat_lit 120, nat_lit 116, nat_lit 114, nat_lit 97]⟩⟩
noncomputable def n354 : Str := ⟨⟨[nat_lit 102]⟩⟩
noncomputable def n355 : Str := ⟨⟨[nat_lit 116, nat_lit 111, nat_lit 108, nat_lit 100]⟩⟩
noncomputable def n356 : Str := ⟨⟨[nat_lit 114, nat_lit 101, nat_lit 102, nat_lit 117, nat_lit 115, nat_lit 97, nat_lit 108]⟩⟩
noncomputable def n357 : Str := ⟨⟨[nat_lit 97, nat_lit 108, nat_lit 111, nat_lit 110, nat_lit 101]⟩⟩
noncomputable def n358 : Str := ⟨⟨[nat_lit 119, nat_lit 104, nat_lit 111, nat_lit 108, nat_lit 101]⟩⟩
noncomputable def n359 : Str := ⟨⟨[nat_lit 114, nat_lit 104, nat_lit 115]⟩⟩
noncomputable def n360 : Str := ⟨⟨[nat_lit 118, nat_lit 97, nat_lit 108, nat_lit 117, nat_lit 101, nat_lit 115]⟩⟩
noncomputable def n361 : Str := ⟨⟨[nat_lit 70, nat_lit 111, nat_lit 114, nat_lit 83, nat_lit 116, nat_lit 97, nat_lit 116, nat_lit 101, nat_lit 46, nat_lit 95, nat_lit 95, nat_lit 105, nat_lit 110, nat_lit 105, nat_lit 116, nat_lit 95, nat_lit 95]⟩⟩
noncomputable def n362 : Str := ⟨⟨[nat_lit 97, nat_lit 116]⟩⟩
noncomputable def n363 : Str := ⟨⟨[nat_lit 118, nat_lit 101, nat_lit 99, nat_lit 116, nat_lit 111, nat_lit 114, nat_lit 99, nat_lit 111, nat_lit 118, nat_lit 101, nat_lit 46, nat_lit 101, nat_lit 118, nat_lit 97, nat_lit 108, nat_lit 117, nat_lit 97, nat_lit 116, nat_lit 111, nat_lit 114]⟩⟩
noncomputable def n364 : Str := ⟨⟨[nat_lit 82, nat_lit 117, nat_lit 110]⟩⟩
noncomputable def n365 : Str := ⟨⟨[nat_lit 109, nat_lit 101, nat_lit 97, nat_lit 110, nat_lit 115, nat_lit 95, nat_lit 98, nat_lit 97, nat_lit 115, nat_lit 101]⟩⟩
noncomputable def n366 : Str := ⟨⟨[nat_lit 105, nat_lit 115, nat_lit 95, nat_lit 111, nat_lit 114, nat_lit 105, nat_lit 103, nat_lit 105, nat_lit 110, nat_lit 97, nat_lit 108]⟩⟩
noncomputable def n367 : Str := ⟨⟨[nat_lit 112, nat_lit 117, nat_lit 115, nat_lit 104, nat_lit 95, nat_lit 97, nat_lit 114, nat_lit 103]⟩⟩
noncomputable def n368 : Str := ⟨⟨[nat_lit 111, nat_lit 112, nat_lit 101, nat_lit 114, nat_lit 97, nat_lit 116, nat_lit 101]⟩⟩
noncomputable def n369 : Str := ⟨⟨[nat_lit 108, nat_lit 111, nat_lit 103, nat_lit 105, nat_lit 99, nat_lit 95, nat_lit 108, nat_lit 101, nat_lit 102, nat_lit 116]⟩⟩
noncomputable def n370 : Str := ⟨⟨[nat_lit 108, nat_lit 111, nat_lit 103, nat_lit 105, nat_lit 99, nat_lit 95, nat_lit 114, nat_lit 105, nat_lit 103, nat_lit 104, nat_lit 116]⟩⟩
noncomputable def n371 : Str := ⟨⟨[nat_lit 115, nat_lit 116, nat_lit 101, nat_lit 112, nat_lit 95, nat_lit 108, nat_lit 111, nat_lit 111, nat_lit 112]⟩⟩
noncomputable def n372 : Str := ⟨⟨[nat_lit 106, nat_lit 117, nat_lit 109, nat_lit 112]⟩⟩
noncomputable def n373 : Str := ⟨⟨[nat_lit 112, nat_lit 101, nat_lit 114, nat_lit 102, nat_lit 111, nat_lit 114, nat_lit 109, nat_lit 95, nat_lit 112, nat_lit 117, nat_lit 115, nat_lit 104]⟩⟩
noncomputable def n374 : Str := ⟨⟨[nat_lit 112, nat_lit 101, nat_lit 114, nat_lit 102, nat_lit 111, nat_lit 114, nat_lit 109, nat_lit 95, nat_lit 106, nat_lit 117, nat_lit 109, nat_lit 112]⟩⟩
noncomputable def n375 : Str := ⟨⟨[nat_lit 112, nat_lit 101, nat_lit 114, nat_lit 102, nat_lit 111, nat_lit 114, nat_lit 109, nat_lit 95, nat_lit 108, nat_lit 111, nat_lit 111, nat_lit 112]⟩⟩
noncomputable def n376 : Str := ⟨⟨[nat_lit 112, nat_lit 101, nat_lit 114, nat_lit 102, nat_lit 111, nat_lit 114, nat_lit 109, nat_lit 95, nat_lit 97, nat_lit 115, nat_lit 115, nat_lit 105, nat_lit 103, nat_lit 110]⟩⟩
noncomputable def n377 : Str := ⟨⟨[nat_lit 112, nat_lit 101, nat_lit 114, nat_lit 102, nat_lit 111, nat_lit 114, nat_lit 109]⟩⟩
noncomputable def n378 : Str := ⟨⟨[nat_lit 67, nat_lit 111, nat_lit 100, nat_lit 101]⟩⟩
noncomputable def n379 : Str := ⟨⟨[nat_lit 70, nat_lit 114, nat_lit 97, nat_lit 109, nat_lit 101]⟩⟩
noncomputable def n380 : Str := ⟨⟨[nat_lit 82, nat_lit 117, nat_lit 110, nat_lit 46, nat_lit 95, nat_lit 95, nat_lit 105, nat_lit 110, nat_lit 105, nat_lit 116, nat_lit 95, nat_lit 95]⟩⟩
noncomputable def n381 : Str := ⟨⟨[nat_lit 99, nat_lit 111, nat_lit 110, nat_lit 115, nat_lit 116, nat_lit 115]⟩⟩
noncomputable def n382 : Str := ⟨⟨[nat_lit 108, nat_lit 111, nat_lit 111, nat_lit 112, nat_lit 115]⟩⟩
noncomputable def n383 : Str := ⟨⟨[nat_lit 114, nat_lit 111, nat_lit 119, nat_lit 115]⟩⟩
noncomputable def n384 : Str := ⟨⟨[nat_lit 115, nat_lit 116, nat_lit 97, nat_lit 99, nat_lit 107]⟩⟩
noncomputable def n385 : Str := ⟨⟨[nat_lit 114, nat_lit 117, nat_lit 110]⟩⟩
noncomputable def n386 : Str := ⟨⟨[nat_lit 114, nat_lit 111, nat_lit 119]⟩⟩
noncomputable def n387 : Str := ⟨⟨[nat_lit 115, nat_lit 101, nat_lit 116, nat_lit 116, nat_lit 108, nat_lit 101, nat_lit 100]⟩⟩
noncomputable def n388 : Str := ⟨⟨[nat_lit 108, nat_lit 101, nat_lit 102, nat_lit 116]⟩⟩
noncomputable def n389 : Str := ⟨⟨[nat_lit 114, nat_lit 105, nat_lit 103, nat_lit 104, nat_lit 116]⟩⟩
noncomputable def n390 : Str := ⟨⟨[nat_lit 116, nat_lit 97, nat_lit 114, nat_lit 103, nat_lit 101, nat_lit 116]⟩⟩
noncomputable def n391 : Str := ⟨⟨[nat_lit 118, nat_lit 101, nat_lit 99, nat_lit 116, nat_lit 111, nat_lit 114, nat_lit 99, nat_lit 111, nat_lit 118, nat_lit 101, nat_lit 46, nat_lit 99, nat_lit 111, nat_lit 100, nat_lit 101]⟩⟩
noncomputable def n392 : Str := ⟨⟨[nat_lit 67, nat_lit 111, nat_lit 100, nat_lit 101, nat_lit 46, nat_lit 95, nat_lit 95, nat_lit 105, nat_lit 110, nat_lit 105, nat_lit 116, nat_lit 95, nat_lit 95]⟩⟩
noncomputable def n393 : Str := ⟨⟨[nat_lit 100, nat_lit 101, nat_lit 112, nat_lit 116, nat_lit 104]⟩⟩
noncomputable def n394 : Str := ⟨⟨[nat_lit 102, nat_lit 117, nat_lit 110, nat_lit 99, nat_lit 116, nat_lit 105, nat_lit 111, nat_lit 110]⟩⟩
noncomputable def n395 : Str := ⟨⟨[nat_lit 99, nat_lit 97, nat_lit 108, nat_lit 108, nat_lit 101, nat_lit 114]⟩⟩
noncomputable def n396 : Str := ⟨⟨[nat_lit 70, nat_lit 114, nat_lit 97, nat_lit 109, nat_lit 101, nat_lit 46, nat_lit 95, nat_lit 95, nat_lit 105, nat_lit 110, nat_lit 105, nat_lit 116, nat_lit 95, nat_lit 95]⟩⟩
noncomputable def n397 : Str := ⟨⟨[nat_lit 100, nat_lit 105, nat_lit 115, nat_lit 112, nat_lit 97, nat_lit 116, nat_lit 99, nat_lit 104]⟩⟩
noncomputable def n398 : Str := ⟨⟨[nat_lit 111, nat_lit 110, nat_lit 95, nat_lit 101, nat_lit 120, nat_lit 105, nat_lit 116]⟩⟩
noncomputable def n399 : Str := ⟨⟨[nat_lit 108, nat_lit 97, nat_lit 119, nat_lit 95, nat_lit 112, nat_lit 113, nat_lit 49, nat_lit 51, nat_lit 54, nat_lit 52, nat_lit 95, nat_lit 48, nat_lit 49]⟩⟩
noncomputable def n400 : Str := ⟨⟨[nat_lit 69, nat_lit 118, nat_lit 97, nat_lit 108, nat_lit 117, nat_lit 97, nat_lit 116, nat_lit 111, nat_lit 114]⟩⟩
noncomputable def n401 : Str := ⟨⟨[nat_lit 95, nat_lit 108, nat_lit 97, nat_lit 119, nat_lit 95, nat_lit 116, nat_lit 97, nat_lit 107, nat_lit 101]⟩⟩
noncomputable def n402 : Str := ⟨⟨[nat_lit 95, nat_lit 108, nat_lit 97, nat_lit 119, nat_lit 95, nat_lit 112, nat_lit 108, nat_lit 97, nat_lit 105, nat_lit 110]⟩⟩
noncomputable def n403 : Str := ⟨⟨[nat_lit 95, nat_lit 108, nat_lit 97, nat_lit 119, nat_lit 95, nat_lit 114, nat_lit 111, nat_lit 119]⟩⟩
noncomputable def n404 : Str := ⟨⟨[nat_lit 95, nat_lit 108, nat_lit 97, nat_lit 119, nat_lit 95, nat_lit 116, nat_lit 114, nat_lit 117, nat_lit 116, nat_lit 104]⟩⟩
noncomputable def n405 : Str := ⟨⟨[nat_lit 95, nat_lit 108, nat_lit 97, nat_lit 119, nat_lit 95, nat_lit 106, nat_lit 111, nat_lit 105, nat_lit 110, nat_lit 101, nat_lit 100]⟩⟩
noncomputable def n406 : Str := ⟨⟨[nat_lit 95, nat_lit 108, nat_lit 97, nat_lit 119, nat_lit 95, nat_lit 100, nat_lit 111, nat_lit 110, nat_lit 101]⟩⟩
noncomputable def n407 : Str := ⟨⟨[nat_lit 108, nat_lit 97, nat_lit 119]⟩⟩
noncomputable def n408 : Str := ⟨⟨[nat_lit 110, nat_lit 101, nat_lit 119, nat_lit 95, nat_lit 101, nat_lit 110, nat_lit 118]⟩⟩
noncomputable def n409 : Str := ⟨⟨[nat_lit 116, nat_lit 105, nat_lit 99, nat_lit 107]⟩⟩
noncomputable def n410 : Str := ⟨⟨[nat_lit 115, nat_lit 105, nat_lit 103, nat_lit 110, nat_lit 97, nat_lit 108, nat_lit 95, nat_lit 101, nat_lit 114, nat_lit 114, nat_lit 111, nat_lit 114]⟩⟩
noncomputable def n411 : Str := ⟨⟨[nat_lit 119, nat_lit 97, nat_lit 114, nat_lit 110, nat_lit 95, nat_lit 97, nat_lit 108, nat_lit 108]⟩⟩
noncomputable def n412 : Str := ⟨⟨[nat_lit 114, nat_lit 117, nat_lit 110, nat_lit 110, nat_lit 105, nat_lit 110, nat_lit 103, nat_lit 95, nat_lit 99, nat_lit 97, nat_lit 108, nat_lit 108]⟩⟩
noncomputable def n413 : Str := ⟨⟨[nat_lit 118, nat_lit 97, nat_lit 114, nat_lit 105, nat_lit 97, nat_lit 98, nat_lit 108, nat_lit 101]⟩⟩
noncomputable def n414 : Str := ⟨⟨[nat_lit 100, nat_lit 111, nat_lit 116, nat_lit 115, nat_lit 95, nat_lit 118, nat_lit 97, nat_lit 108, nat_lit 117, nat_lit 101]⟩⟩
noncomputable def n415 : Str := ⟨⟨[nat_lit 102, nat_lit 111, nat_lit 114, nat_lit 99, nat_lit 101]⟩⟩
noncomputable def n416 : Str := ⟨⟨[nat_lit 102, nat_lit 105, nat_lit 110, nat_lit 100, nat_lit 95, nat_lit 102, nat_lit 117, nat_lit 110, nat_lit 99, nat_lit 116, nat_lit 105, nat_lit 111, nat_lit 110]⟩⟩
noncomputable def n417 : Str := ⟨⟨[nat_lit 102, nat_lit 117, nat_lit 110, nat_lit 99, nat_lit 116, nat_lit 105, nat_lit 111, nat_lit 110, nat_lit 95, nat_lit 111, nat_lit 102]⟩⟩
noncomputable def n418 : Str := ⟨⟨[nat_lit 101, nat_lit 118, nat_lit 97, nat_lit 108, nat_lit 95, nat_lit 99, nat_lit 97, nat_lit 108, nat_lit 108]⟩⟩
noncomputable def n419 : Str := ⟨⟨[nat_lit 112, nat_lit 108, nat_lit 97, nat_lit 105, nat_lit 110, nat_lit 95, nat_lit 99, nat_lit 97, nat_lit 108, nat_lit 108]⟩⟩
noncomputable def n420 : Str := ⟨⟨[nat_lit 115, nat_lit 112, nat_lit 114, nat_lit 101, nat_lit 97, nat_lit 100, nat_lit 95, nat_lit 100, nat_lit 111, nat_lit 116, nat_lit 115]⟩⟩
noncomputable def n421 : Str := ⟨⟨[nat_lit 112, nat_lit 114, nat_lit 111, nat_lit 109, nat_lit 105, nat_lit 115, nat_lit 101, nat_lit 95, nat_lit 97, nat_lit 114, nat_lit 103, nat_lit 115]⟩⟩
noncomputable def n422 : Str := ⟨⟨[nat_lit 101, nat_lit 97, nat_lit 103, nat_lit 101, nat_lit 114, nat_lit 95, nat_lit 97, nat_lit 114, nat_lit 103, nat_lit 115]⟩⟩
noncomputable def n423 : Str := ⟨⟨[nat_lit 101, nat_lit 109, nat_lit 112, nat_lit 116, nat_lit 121, nat_lit 95, nat_lit 97, nat_lit 114, nat_lit 103]⟩⟩
noncomputable def n424 : Str := ⟨⟨[nat_lit 99, nat_lit 97, nat_lit 108, nat_lit 108, nat_lit 95, nat_lit 115, nat_lit 112, nat_lit 101, nat_lit 99, nat_lit 105, nat_lit 97, nat_lit 108]⟩⟩
noncomputable def n425 : Str := ⟨⟨[nat_lit 99, nat_lit 97, nat_lit 108, nat_lit 108, nat_lit 95, nat_lit 98, nat_lit 117, nat_lit 105, nat_lit 108, nat_lit 116, nat_lit 105, nat_lit 110]⟩⟩
noncomputable def n426 : Str := ⟨⟨[nat_lit 97, nat_lit 112, nat_lit 112, nat_lit 108, nat_lit 121, nat_lit 95, nat_lit 99, nat_lit 108, nat_lit 111, nat_lit 115, nat_lit 117, nat_lit 114, nat_lit 101]⟩⟩
noncomputable def n427 : Str := ⟨⟨[nat_lit 108, nat_lit 101, nat_lit 97, nat_lit 118, nat_lit 101]⟩⟩
noncomputable def n428 : Str := ⟨⟨[nat_lit 114, nat_lit 117, nat_lit 110, nat_lit 95, nat_lit 101, nat_lit 120, nat_lit 105, nat_lit 116, nat_lit 115]⟩⟩
noncomputable def n429 : Str := ⟨⟨[nat_lit 115, nat_lit 104, nat_lit 111, nat_lit 119, nat_lit 101, nat_lit 114]⟩⟩
noncomputable def n430 : Str := ⟨⟨[nat_lit 99, nat_lit 97, nat_lit 108, nat_lit 108, nat_lit 95, nat_lit 118, nat_lit 97, nat_lit 108, nat_lit 117, nat_lit 101]⟩⟩
noncomputable def n431 : Str := ⟨⟨[nat_lit 108, nat_lit 105, nat_lit 109, nat_lit 105, nat_lit 116]⟩⟩
noncomputable def n432 : Str := ⟨⟨[nat_lit 109, nat_lit 111, nat_lit 115, nat_lit 116, nat_lit 95, nat_lit 102, nat_lit 114, nat_lit 97, nat_lit 109, nat_lit 101, nat_lit 115]⟩⟩
noncomputable def n433 : Str := ⟨⟨[nat_lit 69, nat_lit 118, nat_lit 97, nat_lit 108, nat_lit 117, nat_lit 97, nat_lit 116, nat_lit 111, nat_lit 114, nat_lit 46, nat_lit 95, nat_lit 95, nat_lit 105, nat_lit 110, nat_lit 105, nat_lit 116, nat_lit 95, nat_lit 95]⟩⟩
noncomputable def n434 : Str := ⟨⟨[nat_lit 69, nat_lit 118, nat_lit 97, nat_lit 108, nat_lit 117, nat_lit 97, nat_lit 116, nat_lit 111, nat_lit 114, nat_lit 46, nat_lit 110, nat_lit 101, nat_lit 119, nat_lit 95, nat_lit 101, nat_lit 110, nat_lit 118]⟩⟩
noncomputable def n435 : Str := ⟨⟨[]⟩⟩
noncomputable def n436 : Str := ⟨⟨[nat_lit 115, nat_lit 112, nat_lit 101, nat_lit 99, nat_lit 105, nat_lit 97, nat_lit 108]⟩⟩
noncomputable def n437 : Str := ⟨⟨[nat_lit 102, nat_lit 110]⟩⟩
noncomputable def n438 : Str := ⟨⟨[nat_lit 103, nat_lit 114, nat_lit 111, nat_lit 117, nat_lit 112]⟩⟩
noncomputable def n439 : Str := ⟨⟨[nat_lit 69, nat_lit 118, nat_lit 97, nat_lit 108, nat_lit 117, nat_lit 97, nat_lit 116, nat_lit 111, nat_lit 114, nat_lit 46, nat_lit 100, nat_lit 101, nat_lit 102, nat_lit 105, nat_lit 110, nat_lit 101]⟩⟩
noncomputable def n440 : Str := ⟨⟨[nat_lit 69, nat_lit 118, nat_lit 97, nat_lit 108, nat_lit 117, nat_lit 97, nat_lit 116, nat_lit 111, nat_lit 114, nat_lit 46, nat_lit 116, nat_lit 105, nat_lit 99, nat_lit 107]⟩⟩
noncomputable def n441 : Str := ⟨⟨[nat_lit 69, nat_lit 118, nat_lit 97, nat_lit 108, nat_lit 117, nat_lit 97, nat_lit 116, nat_lit 111, nat_lit 114, nat_lit 46, nat_lit 115, nat_lit 105, nat_lit 103, nat_lit 110, nat_lit 97, nat_lit 108, nat_lit 95, nat_lit 101, nat_lit 114, nat_lit 114, nat_lit 111, nat_lit 114]⟩⟩
noncomputable def n442 : Str := ⟨⟨[nat_lit 110, nat_lit 111, nat_lit 116, nat_lit 101, nat_lit 115]⟩⟩
noncomputable def n443 : Str := ⟨⟨[nat_lit 69, nat_lit 118, nat_lit 97, nat_lit 108, nat_lit 117, nat_lit 97, nat_lit 116, nat_lit 111, nat_lit 114, nat_lit 46, nat_lit 119, nat_lit 97, nat_lit 114, nat_lit 110, nat_lit 95, nat_lit 97, nat_lit 108, nat_lit 108]⟩⟩
noncomputable def n444 : Str := ⟨⟨[nat_lit 69, nat_lit 118, nat_lit 97, nat_lit 108, nat_lit 117, nat_lit 97, nat_lit 116, nat_lit 111, nat_lit 114, nat_lit 46, nat_lit 114, nat_lit 117, nat_lit 110, nat_lit 110, nat_lit 105, nat_lit 110, nat_lit 103, nat_lit 95, nat_lit 99, nat_lit 97, nat_lit 108, nat_lit 108]⟩⟩
noncomputable def n445 : Str := ⟨⟨[nat_lit 69, nat_lit 118, nat_lit 97, nat_lit 108, nat_lit 117, nat_lit 97, nat_lit 116, nat_lit 111, nat_lit 114, nat_lit 46, nat_lit 101, nat_lit 118, nat_lit 97, nat_lit 108]⟩⟩
noncomputable def n446 : Str := ⟨⟨[nat_lit 69, nat_lit 118, nat_lit 97, nat_lit 108, nat_lit 117, nat_lit 97, nat_lit 116, nat_lit 111, nat_lit 114, nat_lit 46, nat_lit 118, nat_lit 97, nat_lit 114, nat_lit 105, nat_lit 97, nat_lit 98, nat_lit 108, nat_lit 101]⟩⟩
noncomputable def n447 : Str := ⟨⟨[nat_lit 69, nat_lit 118, nat_lit 97, nat_lit 108, nat_lit 117, nat_lit 97, nat_lit 116, nat_lit 111, nat_lit 114, nat_lit 46, nat_lit 100, nat_lit 111, nat_lit 116, nat_lit 115, nat_lit 95, nat_lit 118, nat_lit 97, nat_lit 108, nat_lit 117, nat_lit 101]⟩⟩
noncomputable def n448 : Str := ⟨⟨[nat_lit 69, nat_lit 118, nat_lit 97, nat_lit 108, nat_lit 117, nat_lit 97, nat_lit 116, nat_lit 111, nat_lit 114, nat_lit 46, nat_lit 102, nat_lit 111, nat_lit 114, nat_lit 99, nat_lit 101]⟩⟩
noncomputable def n449 : Str := ⟨⟨[nat_lit 69, nat_lit 118, nat_lit 97, nat_lit 108, nat_lit 117, nat_lit 97, nat_lit 116, nat_lit 111, nat_lit 114, nat_lit 46, nat_lit 102, nat_lit 105, nat_lit 110, nat_lit 100, nat_lit 95, nat_lit 102, nat_lit 117, nat_lit 110, nat_lit 99, nat_lit 116, nat_lit 105, nat_lit 111, nat_lit 110]⟩⟩
noncomputable def n450 : Str := ⟨⟨[nat_lit 104, nat_lit 101, nat_lit 97, nat_lit 100]⟩⟩
noncomputable def n451 : Str := ⟨⟨[nat_lit 69, nat_lit 118, nat_lit 97, nat_lit 108, nat_lit 117, nat_lit 97, nat_lit 116, nat_lit 111, nat_lit 114, nat_lit 46, nat_lit 102, nat_lit 117, nat_lit 110, nat_lit 99, nat_lit 116, nat_lit 105, nat_lit 111, nat_lit 110, nat_lit 95, nat_lit 111, nat_lit 102]⟩⟩
noncomputable def n452 : Str := ⟨⟨[nat_lit 69, nat_lit 118, nat_lit 97, nat_lit 108, nat_lit 117, nat_lit 97, nat_lit 116, nat_lit 111, nat_lit 114, nat_lit 46, nat_lit 101, nat_lit 118, nat_lit 97, nat_lit 108, nat_lit 95, nat_lit 99, nat_lit 97, nat_lit 108, nat_lit 108]⟩⟩
noncomputable def n453 : Str := ⟨⟨[nat_lit 69, nat_lit 118, nat_lit 97, nat_lit 108, nat_lit 117, nat_lit 97, nat_lit 116, nat_lit 111, nat_lit 114, nat_lit 46, nat_lit 112, nat_lit 108, nat_lit 97, nat_lit 105, nat_lit 110, nat_lit 95, nat_lit 99, nat_lit 97, nat_lit 108, nat_lit 108]⟩⟩
noncomputable def n454 : Str := ⟨⟨[nat_lit 69, nat_lit 118, nat_lit 97, nat_lit 108, nat_lit 117, nat_lit 97, nat_lit 116, nat_lit 111, nat_lit 114, nat_lit 46, nat_lit 115, nat_lit 112, nat_lit 114, nat_lit 101, nat_lit 97, nat_lit 100, nat_lit 95, nat_lit 100, nat_lit 111, nat_lit 116, nat_lit 115]⟩⟩
noncomputable def n455 : Str := ⟨⟨[nat_lit 69, nat_lit 118, nat_lit 97, nat_lit 108, nat_lit 117, nat_lit 97, nat_lit 116, nat_lit 111, nat_lit 114, nat_lit 46, nat_lit 112, nat_lit 114, nat_lit 111, nat_lit 109, nat_lit 105, nat_lit 115, nat_lit 101, nat_lit 95, nat_lit 97, nat_lit 114, nat_lit 103, nat_lit 115]⟩⟩
noncomputable def n456 : Str := ⟨⟨[nat_lit 107, nat_lit 101, nat_lit 101, nat_lit 112]⟩⟩
noncomputable def n457 : Str := ⟨⟨[nat_lit 69, nat_lit 118, nat_lit 97, nat_lit 108, nat_lit 117, nat_lit 97, nat_lit 116, nat_lit 111, nat_lit 114, nat_lit 46, nat_lit 101, nat_lit 97, nat_lit 103, nat_lit 101, nat_lit 114, nat_lit 95, nat_lit 97, nat_lit 114, nat_lit 103, nat_lit 115]⟩⟩
noncomputable def n458 : Str := ⟨⟨[nat_lit 69, nat_lit 118, nat_lit 97, nat_lit 108, nat_lit 117, nat_lit 97, nat_lit 116, nat_lit 111, nat_lit 114, nat_lit 46, nat_lit 101, nat_lit 109, nat_lit 112, nat_lit 116, nat_lit 121, nat_lit 95, nat_lit 97, nat_lit 114, nat_lit 103]⟩⟩
noncomputable def n459 : Str := ⟨⟨[nat_lit 69, nat_lit 118, nat_lit 97, nat_lit 108, nat_lit 117, nat_lit 97, nat_lit 116, nat_lit 111, nat_lit 114, nat_lit 46, nat_lit 99, nat_lit 97, nat_lit 108, nat_lit 108, nat_lit 95, nat_lit 115, nat_lit 112, nat_lit 101, nat_lit 99, nat_lit 105, nat_lit 97, nat_lit 108]⟩⟩
noncomputable def n460 : Str := ⟨⟨[nat_lit 98, nat_lit 117, nat_lit 105, nat_lit 108, nat_lit 116, nat_lit 105, nat_lit 110]⟩⟩
noncomputable def n461 : Str := ⟨⟨[nat_lit 115, nat_lit 97, nat_lit 118, nat_lit 101, nat_lit 100]⟩⟩
noncomputable def n462 : Str := ⟨⟨[nat_lit 69, nat_lit 118, nat_lit 97, nat_lit 108, nat_lit 117, nat_lit 97, nat_lit 116, nat_lit 111, nat_lit 114, nat_lit 46, nat_lit 99, nat_lit 97, nat_lit 108, nat_lit 108, nat_lit 95, nat_lit 98, nat_lit 117, nat_lit 105, nat_lit 108, nat_lit 116, nat_lit 105, nat_lit 110]⟩⟩
noncomputable def n463 : Str := ⟨⟨[nat_lit 99, nat_lit 108, nat_lit 111, nat_lit 115, nat_lit 117, nat_lit 114, nat_lit 101]⟩⟩
noncomputable def n464 : Str := ⟨⟨[nat_lit 108, nat_lit 111, nat_lit 115, nat_lit 116]⟩⟩
noncomputable def n465 : Str := ⟨⟨[nat_lit 115, nat_lit 105, nat_lit 103, nat_lit 110, nat_lit 97, nat_lit 108]⟩⟩
noncomputable def n466 : Str := ⟨⟨[nat_lit 69, nat_lit 118, nat_lit 97, nat_lit 108, nat_lit 117, nat_lit 97, nat_lit 116, nat_lit 111, nat_lit 114, nat_lit 46, nat_lit 97, nat_lit 112, nat_lit 112, nat_lit 108, nat_lit 121, nat_lit 95, nat_lit 99, nat_lit 108, nat_lit 111, nat_lit 115, nat_lit 117, nat_lit 114, nat_lit 101]⟩⟩
noncomputable def n467 : Str := ⟨⟨[nat_lit 118, nat_lit 105, nat_lit 115, nat_lit 105, nat_lit 98, nat_lit 108, nat_lit 101]⟩⟩
noncomputable def n468 : Str := ⟨⟨[nat_lit 69, nat_lit 118, nat_lit 97, nat_lit 108, nat_lit 117, nat_lit 97, nat_lit 116, nat_lit 111, nat_lit 114, nat_lit 46, nat_lit 108, nat_lit 101, nat_lit 97, nat_lit 118, nat_lit 101]⟩⟩
noncomputable def n469 : Str := ⟨⟨[nat_lit 102, nat_lit 105, nat_lit 114, nat_lit 115, nat_lit 116]⟩⟩
noncomputable def n470 : Str := ⟨⟨[nat_lit 69, nat_lit 118, nat_lit 97, nat_lit 108, nat_lit 117, nat_lit 97, nat_lit 116, nat_lit 111, nat_lit 114, nat_lit 46, nat_lit 114, nat_lit 117, nat_lit 110, nat_lit 95, nat_lit 101, nat_lit 120, nat_lit 105, nat_lit 116, nat_lit 115]⟩⟩
noncomputable def n471 : Str := ⟨⟨[nat_lit 100, nat_lit 101, nat_lit 112, nat_lit 97, nat_lit 114, nat_lit 115, nat_lit 101, nat_lit 114]⟩⟩
noncomputable def n472 : Str := ⟨⟨[nat_lit 69, nat_lit 118, nat_lit 97, nat_lit 108, nat_lit 117, nat_lit 97, nat_lit 116, nat_lit 111, nat_lit 114, nat_lit 46, nat_lit 115, nat_lit 104, nat_lit 111, nat_lit 119, nat_lit 101, nat_lit 114]⟩⟩
noncomputable def n473 : Str := ⟨⟨[nat_lit 69, nat_lit 118, nat_lit 97, nat_lit 108, nat_lit 117, nat_lit 97, nat_lit 116, nat_lit 111, nat_lit 114, nat_lit 46, nat_lit 99, nat_lit 97, nat_lit 108, nat_lit 108, nat_lit 95, nat_lit 118, nat_lit 97, nat_lit 108, nat_lit 117, nat_lit 101]⟩⟩
noncomputable def n474 : Str := ⟨⟨[nat_lit 112, nat_lit 114, nat_lit 111, nat_lit 103, nat_lit 114, nat_lit 97, nat_lit 109]⟩⟩
noncomputable def n475 : Str := ⟨⟨[nat_lit 69, nat_lit 118, nat_lit 97, nat_lit 108, nat_lit 117, nat_lit 97, nat_lit 116, nat_lit 111, nat_lit 114, nat_lit 46, nat_lit 114, nat_lit 117, nat_lit 110]⟩⟩
noncomputable def n476 : Str := ⟨⟨[nat_lit 98, nat_lit 97, nat_lit 115, nat_lit 101]⟩⟩
noncomputable def n477 : Str := ⟨⟨[nat_lit 99, nat_lit 117, nat_lit 114, nat_lit 114, nat_lit 101, nat_lit 110, nat_lit 116]⟩⟩
noncomputable def n478 : Str := ⟨⟨[nat_lit 100, nat_lit 105, nat_lit 115, nat_lit 112, nat_lit 97, nat_lit 116, nat_lit 99, nat_lit 104, nat_lit 101, nat_lit 114]⟩⟩
noncomputable def n479 : Str := ⟨⟨[nat_lit 102, nat_lit 114, nat_lit 97, nat_lit 109, nat_lit 101, nat_lit 115]⟩⟩
noncomputable def n480 : Str := ⟨⟨[nat_lit 104, nat_lit 97, nat_lit 110, nat_lit 100, nat_lit 108, nat_lit 101, nat_lit 114, nat_lit 115]⟩⟩
noncomputable def n481 : Str := ⟨⟨[nat_lit 110, nat_lit 101, nat_lit 120, nat_lit 116, nat_lit 95, nat_lit 110, nat_lit 117, nat_lit 109, nat_lit 98, nat_lit 101, nat_lit 114]⟩⟩
noncomputable def n482 : Str := ⟨⟨[nat_lit 111, nat_lit 117, nat_lit 116]⟩⟩
noncomputable def n483 : Str := ⟨⟨[nat_lit 114, nat_lit 101, nat_lit 115, nat_lit 116, nat_lit 97, nat_lit 114, nat_lit 116, nat_lit 115]⟩⟩
noncomputable def n484 : Str := ⟨⟨[nat_lit 115, nat_lit 52]⟩⟩
noncomputable def n485 : Str := ⟨⟨[nat_lit 115, nat_lit 105, nat_lit 103, nat_lit 110, nat_lit 97, nat_lit 108, nat_lit 108, nat_lit 101, nat_lit 114]⟩⟩
noncomputable def n486 : Str := ⟨⟨[nat_lit 115, nat_lit 116, nat_lit 101, nat_lit 112, nat_lit 115]⟩⟩
noncomputable def n487 : Str := ⟨⟨[nat_lit 116, nat_lit 97, nat_lit 114, nat_lit 103, nat_lit 101, nat_lit 116, nat_lit 115]⟩⟩
noncomputable def n488 : Str := ⟨⟨[nat_lit 119, nat_lit 97, nat_lit 114, nat_lit 110, nat_lit 101, nat_lit 114]⟩⟩
noncomputable def n489 : Str := ⟨⟨[nat_lit 119, nat_lit 97, nat_lit 114, nat_lit 110, nat_lit 105, nat_lit 110, nat_lit 103, nat_lit 115]⟩⟩
noncomputable def n490 : Str := ⟨⟨[nat_lit 115, nat_lit 111, nat_lit 117, nat_lit 114, nat_lit 99, nat_lit 101]⟩⟩
noncomputable def n491 : Str := ⟨⟨[nat_lit 109, nat_lit 111, nat_lit 115, nat_lit 116]⟩⟩
noncomputable def n492 : Str := ⟨⟨[nat_lit 104, nat_lit 101, nat_lit 105, nat_lit 103, nat_lit 104, nat_lit 116]⟩⟩
noncomputable def n493 : Str := ⟨⟨[nat_lit 104, nat_lit 101, nat_lit 114, nat_lit 101]⟩⟩
noncomputable def n494 : Str := ⟨⟨[nat_lit 101, nat_lit 110, nat_lit 100]⟩⟩
noncomputable def n495 : Str := ⟨⟨[nat_lit 102, nat_lit 111, nat_lit 114, nat_lit 109]⟩⟩
noncomputable def n496 : Str := ⟨⟨[nat_lit 97, nat_lit 104, nat_lit 101, nat_lit 97, nat_lit 100]⟩⟩
noncomputable def n497 : Str := ⟨⟨[nat_lit 110, nat_lit 97, nat_lit 109, nat_lit 101, nat_lit 115]⟩⟩
noncomputable def n498 : Str := ⟨⟨[nat_lit 116, nat_lit 114, nat_lit 117, nat_lit 116, nat_lit 104]⟩⟩
noncomputable def d0 (P : Params) : List (Nat × Obj) := [
  (0, xD [xE P n0 1 (.str n1 160), xE P n2 2 (.builtin "builtins.__doc__:str#opaque"), xE P n3 3 (.builtin "builtins.__package__:str#opaque"), xE P n4 4 (.builtin "builtins.__loader__:shared#opaque"), xE P n5 5 (.builtin "builtins.__spec__#opaque"), xE P n6 6 (.builtin "__build_class__"), xE P n7 7 (.builtin "__import__"), xE P n8 8 (.builtin "abs"), xE P n9 9 (.builtin "all"), xE P n10 10 (.builtin "any"), xE P n11 11 (.builtin "ascii"), xE P n12 12 (.builtin "bin"), xE P n13 13 (.builtin "breakpoint"), xE P n14 14 (.builtin "callable"), xE P n15 15 (.builtin "chr"), xE P n16 16 (.builtin "compile"), xE P n17 17 (.builtin "delattr"), xE P n18 18 (.builtin "dir"), xE P n19 19 (.builtin "divmod"), xE P n20 20 (.builtin "eval"), xE P n21 21 (.builtin "exec"), xE P n22 22 (.builtin "format"), xE P n23 23 (.builtin "getattr"), xE P n24 24 (.builtin "globals"), xE P n25 25 (.builtin "hasattr"), xE P n26 26 (.builtin "hash"), xE P n27 27 (.builtin "hex"), xE P n28 28 (.builtin "id"), xE P n29 29 (.builtin "input"), xE P n30 30 (.builtin "isinstance"), xE P n31 31 (.builtin "issubclass"), xE P n32 32 (.builtin "iter"), xE P n33 33 (.builtin "aiter"), xE P n34 34 (.builtin "len"), xE P n35 35 (.builtin "locals"), xE P n36 36 (.builtin "max"), xE P n37 37 (.builtin "min"), xE P n38 38 (.builtin "next"), xE P n39 39 (.builtin "anext"), xE P n40 40 (.builtin "oct"), xE P n41 41 (.builtin "ord"), xE P n42 42 (.builtin "pow"), xE P n43 43 (.builtin "print"), xE P n44 44 (.builtin "repr"), xE P n45 45 (.builtin "round"), xE P n46 46 (.builtin "setattr"), xE P n47 47 (.builtin "sorted"), xE P n48 48 (.builtin "sum"), xE P n49 49 (.builtin "vars"), xE P n50 50 (.none), xE P n51 51 (.ellipsis), xE P n52 52 (.notImplemented), xE P n53 53 (.bool false), xE P n54 54 (.bool true), xE P n55 55 (.type "bool"), xE P n56 56 (.type "memoryview"), xE P n57 57 (.type "bytearray"), xE P n58 58 (.type "bytes"), xE P n59 59 (.type "classmethod"), xE P n60 60 (.type "complex"), xE P n61 61 (.type "dict"), xE P n62 62 (.type "enumerate"), xE P n63 63 (.type "filter"), xE P n64 64 (.type "float"), xE P n65 65 (.type "frozenset"), xE P n66 66 (.type "property"), xE P n67 67 (.type "int"), xE P n68 68 (.type "list"), xE P n69 69 (.type "map"), xE P n70 70 (.type "object"), xE P n71 71 (.type "range"), xE P n72 72 (.type "reversed"), xE P n73 73 (.type "set"), xE P n74 74 (.type "slice"), xE P n75 75 (.type "staticmethod"), xE P n76 76 (.type "str"), xE P n77 77 (.type "super"), xE P n78 78 (.type "tuple"), xE P n79 79 (.type "type"), xE P n80 80 (.type "zip"), xE P n81 81 (.bool true), xE P n82 82 (.type "BaseException"), xE P n83 83 (.type "BaseExceptionGroup"), xE P n84 84 (.type "Exception"), xE P n85 85 (.type "GeneratorExit"), xE P n86 86 (.type "KeyboardInterrupt"), xE P n87 87 (.type "SystemExit"), xE P n88 88 (.type "ArithmeticError"), xE P n89 89 (.type "AssertionError"), xE P n90 90 (.type "AttributeError"), xE P n91 91 (.type "BufferError"), xE P n92 92 (.type "EOFError"), xE P n93 93 (.type "ImportError"), xE P n94 94 (.type "LookupError"), xE P n95 95 (.type "MemoryError"), xE P n96 96 (.type "NameError"), xE P n97 97 (.type "OSError"), xE P n98 98 (.type "ReferenceError"), xE P n99 99 (.type "RuntimeError"), xE P n100 100 (.type "StopAsyncIteration"), xE P n101 101 (.type "StopIteration"), xE P n102 102 (.type "SyntaxError"), xE P n103 103 (.type "SystemError"), xE P n104 104 (.type "TypeError"), xE P n105 105 (.type "ValueError"), xE P n106 106 (.type "Warning"), xE P n107 107 (.type "FloatingPointError"), xE P n108 108 (.type "OverflowError"), xE P n109 109 (.type "ZeroDivisionError"), xE P n110 110 (.type "BytesWarning"), xE P n111 111 (.type "DeprecationWarning"), xE P n112 112 (.type "EncodingWarning"), xE P n113 113 (.type "FutureWarning"), xE P n114 114 (.type "ImportWarning"), xE P n115 115 (.type "PendingDeprecationWarning"), xE P n116 116 (.type "ResourceWarning"), xE P n117 117 (.type "RuntimeWarning"), xE P n118 118 (.type "SyntaxWarning"), xE P n119 119 (.type "UnicodeWarning"), xE P n120 120 (.type "UserWarning"), xE P n121 121 (.type "BlockingIOError"), xE P n122 122 (.type "ChildProcessError"), xE P n123 123 (.type "ConnectionError"), xE P n124 124 (.type "FileExistsError"), xE P n125 125 (.type "FileNotFoundError"), xE P n126 126 (.type "InterruptedError"), xE P n127 127 (.type "IsADirectoryError"), xE P n128 128 (.type "NotADirectoryError"), xE P n129 129 (.type "PermissionError"), xE P n130 130 (.type "ProcessLookupError"), xE P n131 131 (.type "TimeoutError"), xE P n132 132 (.type "IndentationError"), xE P n133 133 (.type "_IncompleteInputError"), xE P n134 134 (.type "IndexError"), xE P n135 135 (.type "KeyError"), xE P n136 136 (.type "ModuleNotFoundError"), xE P n137 137 (.type "NotImplementedError"), xE P n138 138 (.type "PythonFinalizationError"), xE P n139 139 (.type "RecursionError"), xE P n140 140 (.type "UnboundLocalError"), xE P n141 141 (.type "UnicodeError"), xE P n142 142 (.type "BrokenPipeError"), xE P n143 143 (.type "ConnectionAbortedError"), xE P n144 144 (.type "ConnectionRefusedError"), xE P n145 145 (.type "ConnectionResetError"), xE P n146 146 (.type "TabError"), xE P n147 147 (.type "UnicodeDecodeError"), xE P n148 148 (.type "UnicodeEncodeError"), xE P n149 149 (.type "UnicodeTranslateError"), xE P n150 150 (.type "ExceptionGroup"), xE P n151 151 (.type "OSError"), xE P n152 152 (.type "OSError"), xE P n153 153 (.builtin "open"), xE P n154 154 (.builtin "builtins.quit#opaque"), xE P n155 155 (.builtin "builtins.exit#opaque"), xE P n156 156 (.builtin "builtins.copyright#opaque"), xE P n157 157 (.builtin "builtins.credits#opaque"), xE P n158 158 (.builtin "builtins.license#opaque"), xE P n159 159 (.builtin "builtins.help#opaque")] 159),
  (1, xD [xE P n1 162 (.ref 4), xE P n160 163 (.ref 5)] 2),
  (2, xS [] 0),
  (3, xD [xE P n0 165 (.str n160 164), xE P n2 166 (.none), xE P n3 167 (.none), xE P n4 168 (.builtin "__main__.__loader__#opaque"), xE P n5 169 (.none), xE P n161 170 (.ref 6), xE P n162 171 (.ref 4), xE P n163 173 (.str n164 172), xE P n165 174 (.none)] 9),
  (4, boot_o_4 P),
  (5, boot_o_5 P),
  (6, xD [] 0),
  (7, xT []),
  (8, xN []),
  (9, xF "code" [.str n166 176, .str n166 177, .str n164 178, .int 1 0, .int 0 0, .int 0 0, .int 0 0, .int 0 0, .ref 7, .bool false, .int 175 0, .ref 8, .none, .none, .none, .none, .int 179 0, .int 1 0, .str n164 180]),
  (10, xR [some (.ref 9), some (.ref 3), some (.ref 3), none, some (.str n160 164), none, some (.ref 0)])]
noncomputable def t0 (P : Params) : BT := forceT (putD .nil (d0 P)) id
noncomputable def dA (P : Params) : List (Nat × Obj) := [
  (11, xT []),
  (12, xN []),
  (13, xF "code" [.str n166 182, .str n166 183, .str n164 184, .int 1 0, .int 0 0, .int 0 0, .int 0 0, .int 0 0, .ref 11, .bool false, .int 181 0, .ref 12, .none, .none, .none, .none, .int 185 0, .int 1 0, .str n164 186]),
  (14, xR [some (.ref 13), some (.ref 3), some (.ref 3), none, some (.str n160 164), none, some (.ref 0)])]
noncomputable def tA (P : Params) : BT := forceT (putD (t0 P) (dA P)) id
noncomputable def sA (P : Params) (os : OsState) : SharedT := ⟨tA P, 15, (boot_heap P).life, ⟨[]⟩, boot_drawn, 187, os⟩
noncomputable def pA : Pos := ⟨0, 0, 0, 0⟩
noncomputable def d1 (P : Params) : List (Nat × Obj) := [
  (2, xS [xE P n167 212 (.int 31 0), xE P n168 213 (.int 1 0)] 2),
  (3, xD [xE P n0 165 (.str n169 194), xE P n2 166 (.none), xE P n3 167 (.none), xE P n4 168 (.builtin "__main__.__loader__#opaque"), xE P n5 169 (.none), xE P n161 170 (.ref 6), xE P n162 171 (.ref 4), xE P n163 173 (.str n164 172), xE P n165 174 (.none), xE P n170 193 (.ref 21), xE P n171 215 (.ref 31), xE P n172 240 (.ref 51), xE P n173 269 (.ref 70), xE P n174 294 (.ref 89), xE P n175 321 (.ref 108), xE P n176 348 (.ref 127)] 16),
  (12, xN [.int 1 0, .int 0 0, .ref 20, .int 5 0, .int 0 0, .ref 27, .int 7 0, .int 0 0, .ref 40, .int 11 0, .int 0 0, .ref 59, .int 17 0, .int 0 0, .ref 78, .int 21 0, .int 0 0, .ref 97, .int 26 0, .int 0 0, .ref 116]),
  (15, xT []),
  (16, xN []),
  (17, xT [.str n177 190]),
  (18, xT []),
  (19, xG n170 n170 (stm 0)),
  (20, xF "code" [.str n170 187, .str n170 188, .str n164 189, .int 1 0, .int 1 0, .int 0 0, .int 0 0, .int 3 0, .ref 15, .bool true, .int 181 0, .ref 16, .none, .ref 17, .ref 18, .ref 19, .int 191 0, .int 1 0, .str n164 192]),
  (21, xH n170 n170 (stm 0) (.none) (.str n160 164) (.ref 20)),
  (22, xT [.type "Exception"]),
  (23, xF "builtin_function_or_method" [.builtin "type.__prepare__", .type "type"]),
  (24, xD [xE P n178 203 (.str n169 194), xE P n179 205 (.str n171 204), xE P n180 207 (.int 5 206), xE P n181 208 (.ref 29)] 4),
  (25, xT []),
  (26, xN []),
  (27, xF "code" [.str n171 198, .str n171 199, .str n164 200, .int 5 0, .int 0 0, .int 0 0, .int 0 0, .int 0 0, .ref 25, .bool false, .int 181 0, .ref 26, .none, .none, .none, .none, .int 201 0, .int 5 0, .str n164 202]),
  (28, xR [some (.ref 27), some (.ref 3), some (.ref 24), none, some (.str n169 194), none, some (.ref 0)]),
  (29, xT []),
  (30, xD [xE P n178 203 (.str n169 194), xE P n180 207 (.int 5 206), xE P n181 208 (.ref 29), xE P n182 210 (.ref 32), xE P n2 211 (.none)] 3),
  (31, xC n171 n171 [.type "Exception"] [.ref 31, .type "Exception", .type "BaseException", .type "object"] 30 [.ref 51, .ref 70, .ref 89, .ref 108, .ref 127] [some (.ref 22), none, some (.str n171 196), some (.str n171 204), some (.builtin "Exception.__new__"), some (.bool true)]),
  (32, xF "getset_descriptor" [.str n182 209, .ref 31, .builtin "ExceptionGroup.__weakref__", .none]),
  (33, xF "super" [.ref 31, .ref 31, .ref 31]),
  (34, xF "builtin_function_or_method" [.builtin "object.__init_subclass__", .ref 31]),
  (35, xT [.ref 31]),
  (36, xF "builtin_function_or_method" [.builtin "type.__prepare__", .type "type"]),
  (37, xD [xE P n178 223 (.str n169 194), xE P n179 225 (.str n172 224), xE P n180 227 (.int 7 226), xE P n183 235 (.ref 48), xE P n181 237 (.ref 49)] 5),
  (38, xT []),
  (39, xN [.int 9 0, .int 4 0, .ref 47]),
  (40, xF "code" [.str n172 218, .str n172 219, .str n164 220, .int 7 0, .int 0 0, .int 0 0, .int 0 0, .int 0 0, .ref 38, .bool false, .int 181 0, .ref 39, .none, .none, .none, .none, .int 221 0, .int 7 0, .str n164 222]),
  (41, xR [some (.ref 40), some (.ref 3), some (.ref 37), none, some (.str n169 194), none, some (.ref 0)]),
  (42, xT []),
  (43, xN []),
  (44, xT [.str n184 231, .str n185 232]),
  (45, xT []),
  (46, xG n183 n186 (mth 3 0)),
  (47, xF "code" [.str n183 228, .str n186 229, .str n164 230, .int 9 0, .int 2 0, .int 0 0, .int 0 0, .int 3 0, .ref 42, .bool true, .int 181 0, .ref 43, .none, .ref 44, .ref 45, .ref 46, .int 233 0, .int 9 0, .str n164 234]),
  (48, xH n183 n186 (mth 3 0) (.none) (.str n169 194) (.ref 47)),
  (49, xT [.str n185 236]),
  (50, xD [xE P n178 223 (.str n169 194), xE P n180 227 (.int 7 226), xE P n183 235 (.ref 48), xE P n181 237 (.ref 49), xE P n2 238 (.none)] 2),
  (51, xC n172 n172 [.ref 31] [.ref 51, .ref 31, .type "Exception", .type "BaseException", .type "object"] 50 [] [some (.ref 35), none, some (.str n172 216), some (.str n172 224), some (.builtin "Exception.__new__"), some (.bool true)]),
  (52, xF "super" [.ref 51, .ref 51, .ref 51]),
  (53, xF "builtin_function_or_method" [.builtin "object.__init_subclass__", .ref 51]),
  (54, xT [.ref 31]),
  (55, xF "builtin_function_or_method" [.builtin "type.__prepare__", .type "type"]),
  (56, xD [xE P n178 248 (.str n169 194), xE P n179 250 (.str n173 249), xE P n180 252 (.int 11 251), xE P n183 262 (.ref 67), xE P n181 266 (.ref 68)] 5),
  (57, xT []),
  (58, xN [.int 13 0, .int 4 0, .ref 66]),
  (59, xF "code" [.str n173 243, .str n173 244, .str n164 245, .int 11 0, .int 0 0, .int 0 0, .int 0 0, .int 0 0, .ref 57, .bool false, .int 181 0, .ref 58, .none, .none, .none, .none, .int 246 0, .int 11 0, .str n164 247]),
  (60, xR [some (.ref 59), some (.ref 3), some (.ref 56), none, some (.str n169 194), none, some (.ref 0)]),
  (61, xT []),
  (62, xN []),
  (63, xT [.str n184 256, .str n185 257, .str n187 258, .str n188 259]),
  (64, xT []),
  (65, xG n183 n189 (mth 4 0)),
  (66, xF "code" [.str n183 253, .str n189 254, .str n164 255, .int 13 0, .int 4 0, .int 0 0, .int 0 0, .int 3 0, .ref 61, .bool true, .int 181 0, .ref 62, .none, .ref 63, .ref 64, .ref 65, .int 260 0, .int 13 0, .str n164 261]),
  (67, xH n183 n189 (mth 4 0) (.none) (.str n169 194) (.ref 66)),
  (68, xT [.str n187 263, .str n188 264, .str n185 265]),
  (69, xD [xE P n178 248 (.str n169 194), xE P n180 252 (.int 11 251), xE P n183 262 (.ref 67), xE P n181 266 (.ref 68), xE P n2 267 (.none)] 2),
  (70, xC n173 n173 [.ref 31] [.ref 70, .ref 31, .type "Exception", .type "BaseException", .type "object"] 69 [] [some (.ref 54), none, some (.str n173 241), some (.str n173 249), some (.builtin "Exception.__new__"), some (.bool true)]),
  (71, xF "super" [.ref 70, .ref 70, .ref 70]),
  (72, xF "builtin_function_or_method" [.builtin "object.__init_subclass__", .ref 70]),
  (73, xT [.ref 31]),
  (74, xF "builtin_function_or_method" [.builtin "type.__prepare__", .type "type"]),
  (75, xD [xE P n178 277 (.str n169 194), xE P n179 279 (.str n174 278), xE P n180 281 (.int 17 280), xE P n183 289 (.ref 86), xE P n181 291 (.ref 87)] 5),
  (76, xT []),
  (77, xN [.int 19 0, .int 4 0, .ref 85]),
  (78, xF "code" [.str n174 272, .str n174 273, .str n164 274, .int 17 0, .int 0 0, .int 0 0, .int 0 0, .int 0 0, .ref 76, .bool false, .int 181 0, .ref 77, .none, .none, .none, .none, .int 275 0, .int 17 0, .str n164 276]),
  (79, xR [some (.ref 78), some (.ref 3), some (.ref 75), none, some (.str n169 194), none, some (.ref 0)]),
  (80, xT []),
  (81, xN []),
  (82, xT [.str n184 285, .str n190 286]),
  (83, xT []),
  (84, xG n183 n191 (mth 5 0)),
  (85, xF "code" [.str n183 282, .str n191 283, .str n164 284, .int 19 0, .int 2 0, .int 0 0, .int 0 0, .int 3 0, .ref 80, .bool true, .int 181 0, .ref 81, .none, .ref 82, .ref 83, .ref 84, .int 287 0, .int 19 0, .str n164 288]),
  (86, xH n183 n191 (mth 5 0) (.none) (.str n169 194) (.ref 85)),
  (87, xT [.str n190 290]),
  (88, xD [xE P n178 277 (.str n169 194), xE P n180 281 (.int 17 280), xE P n183 289 (.ref 86), xE P n181 291 (.ref 87), xE P n2 292 (.none)] 2),
  (89, xC n174 n174 [.ref 31] [.ref 89, .ref 31, .type "Exception", .type "BaseException", .type "object"] 88 [] [some (.ref 73), none, some (.str n174 270), some (.str n174 278), some (.builtin "Exception.__new__"), some (.bool true)]),
  (90, xF "super" [.ref 89, .ref 89, .ref 89]),
  (91, xF "builtin_function_or_method" [.builtin "object.__init_subclass__", .ref 89]),
  (92, xT [.ref 31]),
  (93, xF "builtin_function_or_method" [.builtin "type.__prepare__", .type "type"]),
  (94, xD [xE P n178 302 (.str n169 194), xE P n179 304 (.str n175 303), xE P n180 306 (.int 21 305), xE P n183 315 (.ref 105), xE P n181 318 (.ref 106)] 5),
  (95, xT []),
  (96, xN [.int 23 0, .int 4 0, .ref 104]),
  (97, xF "code" [.str n175 297, .str n175 298, .str n164 299, .int 21 0, .int 0 0, .int 0 0, .int 0 0, .int 0 0, .ref 95, .bool false, .int 181 0, .ref 96, .none, .none, .none, .none, .int 300 0, .int 21 0, .str n164 301]),
  (98, xR [some (.ref 97), some (.ref 3), some (.ref 94), none, some (.str n169 194), none, some (.ref 0)]),
  (99, xT []),
  (100, xN []),
  (101, xT [.str n184 310, .str n192 311, .str n193 312]),
  (102, xT []),
  (103, xG n183 n194 (mth 6 0)),
  (104, xF "code" [.str n183 307, .str n194 308, .str n164 309, .int 23 0, .int 3 0, .int 0 0, .int 0 0, .int 3 0, .ref 99, .bool true, .int 181 0, .ref 100, .none, .ref 101, .ref 102, .ref 103, .int 313 0, .int 23 0, .str n164 314]),
  (105, xH n183 n194 (mth 6 0) (.none) (.str n169 194) (.ref 104)),
  (106, xT [.str n192 316, .str n193 317]),
  (107, xD [xE P n178 302 (.str n169 194), xE P n180 306 (.int 21 305), xE P n183 315 (.ref 105), xE P n181 318 (.ref 106), xE P n2 319 (.none)] 2),
  (108, xC n175 n175 [.ref 31] [.ref 108, .ref 31, .type "Exception", .type "BaseException", .type "object"] 107 [] [some (.ref 92), none, some (.str n175 295), some (.str n175 303), some (.builtin "Exception.__new__"), some (.bool true)]),
  (109, xF "super" [.ref 108, .ref 108, .ref 108]),
  (110, xF "builtin_function_or_method" [.builtin "object.__init_subclass__", .ref 108]),
  (111, xT [.ref 31]),
  (112, xF "builtin_function_or_method" [.builtin "type.__prepare__", .type "type"]),
  (113, xD [xE P n178 329 (.str n169 194), xE P n179 331 (.str n176 330), xE P n180 333 (.int 26 332), xE P n183 342 (.ref 124), xE P n181 345 (.ref 125)] 5),
  (114, xT []),
  (115, xN [.int 28 0, .int 4 0, .ref 123]),
  (116, xF "code" [.str n176 324, .str n176 325, .str n164 326, .int 26 0, .int 0 0, .int 0 0, .int 0 0, .int 0 0, .ref 114, .bool false, .int 181 0, .ref 115, .none, .none, .none, .none, .int 327 0, .int 26 0, .str n164 328]),
  (117, xR [some (.ref 116), some (.ref 3), some (.ref 113), none, some (.str n169 194), none, some (.ref 0)]),
  (118, xT []),
  (119, xN []),
  (120, xT [.str n184 337, .str n192 338, .str n195 339]),
  (121, xT []),
  (122, xG n183 n196 (mth 7 0)),
  (123, xF "code" [.str n183 334, .str n196 335, .str n164 336, .int 28 0, .int 3 0, .int 0 0, .int 0 0, .int 3 0, .ref 118, .bool true, .int 181 0, .ref 119, .none, .ref 120, .ref 121, .ref 122, .int 340 0, .int 28 0, .str n164 341]),
  (124, xH n183 n196 (mth 7 0) (.none) (.str n169 194) (.ref 123)),
  (125, xT [.str n195 343, .str n192 344]),
  (126, xD [xE P n178 329 (.str n169 194), xE P n180 333 (.int 26 332), xE P n183 342 (.ref 124), xE P n181 345 (.ref 125), xE P n2 346 (.none)] 2),
  (127, xC n176 n176 [.ref 31] [.ref 127, .ref 31, .type "Exception", .type "BaseException", .type "object"] 126 [] [some (.ref 111), none, some (.str n176 322), some (.str n176 330), some (.builtin "Exception.__new__"), some (.bool true)]),
  (128, xF "super" [.ref 127, .ref 127, .ref 127]),
  (129, xF "builtin_function_or_method" [.builtin "object.__init_subclass__", .ref 127])]
noncomputable def t1 (P : Params) : BT := forceT (putD (tA P) (d1 P)) id
noncomputable def s1 (P : Params) (os : OsState) : SharedT := ⟨t1 P, 130, (boot_heap P).life, ⟨[]⟩, boot_drawn, 349, os⟩
noncomputable def p1 : Pos := ⟨26, 0, 30, 26⟩
noncomputable def d2 (P : Params) : List (Nat × Obj) := [
  (3, xD [xE P n0 165 (.str n197 395), xE P n2 166 (.none), xE P n3 167 (.none), xE P n4 168 (.builtin "__main__.__loader__#opaque"), xE P n5 169 (.none), xE P n161 170 (.ref 6), xE P n162 171 (.ref 4), xE P n163 173 (.str n164 172), xE P n165 174 (.none), xE P n170 193 (.ref 21), xE P n171 215 (.ref 31), xE P n172 240 (.ref 51), xE P n173 269 (.ref 70), xE P n174 294 (.ref 89), xE P n175 321 (.ref 108), xE P n176 348 (.ref 127), xE P n198 357 (.ref 136), xE P n199 367 (.ref 143), xE P n200 375 (.ref 150), xE P n201 383 (.ref 157), xE P n202 394 (.ref 164), xE P n203 425 (.ref 181), xE P n204 467 (.ref 210), xE P n205 498 (.ref 231), xE P n206 533 (.ref 253), xE P n207 569 (.ref 275)] 26),
  (12, xN [.int 1 0, .int 0 0, .ref 20, .int 5 0, .int 0 0, .ref 27, .int 7 0, .int 0 0, .ref 40, .int 11 0, .int 0 0, .ref 59, .int 17 0, .int 0 0, .ref 78, .int 21 0, .int 0 0, .ref 97, .int 26 0, .int 0 0, .ref 116, .int 32 0, .int 0 0, .ref 135, .int 35 0, .int 0 0, .ref 142, .int 41 0, .int 0 0, .ref 149, .int 47 0, .int 0 0, .ref 156, .int 56 0, .int 0 0, .ref 163, .int 65 0, .int 0 0, .ref 170, .int 70 0, .int 0 0, .ref 191, .int 81 0, .int 0 0, .ref 220, .int 87 0, .int 0 0, .ref 241, .int 95 0, .int 0 0, .ref 263]),
  (130, xT []),
  (131, xN []),
  (132, xT [.str n208 354]),
  (133, xT []),
  (134, xG n198 n198 (stm 9)),
  (135, xF "code" [.str n198 351, .str n198 352, .str n164 353, .int 32 0, .int 1 0, .int 0 0, .int 0 0, .int 3 0, .ref 130, .bool true, .int 181 0, .ref 131, .none, .ref 132, .ref 133, .ref 134, .int 355 0, .int 32 0, .str n164 356]),
  (136, xH n198 n198 (stm 9) (.none) (.str n209 349) (.ref 135)),
  (137, xT []),
  (138, xN []),
  (139, xT [.str n210 363, .str n211 364]),
  (140, xT []),
  (141, xG n199 n199 (stm 11)),
  (142, xF "code" [.str n199 360, .str n199 361, .str n164 362, .int 35 0, .int 2 0, .int 0 0, .int 0 0, .int 3 0, .ref 137, .bool true, .int 181 0, .ref 138, .none, .ref 139, .ref 140, .ref 141, .int 365 0, .int 35 0, .str n164 366]),
  (143, xH n199 n199 (stm 11) (.none) (.str n212 358) (.ref 142)),
  (144, xT []),
  (145, xN []),
  (146, xT [.str n210 371, .str n211 372]),
  (147, xT []),
  (148, xG n200 n200 (stm 12)),
  (149, xF "code" [.str n200 368, .str n200 369, .str n164 370, .int 41 0, .int 2 0, .int 0 0, .int 0 0, .int 3 0, .ref 144, .bool true, .int 181 0, .ref 145, .none, .ref 146, .ref 147, .ref 148, .int 373 0, .int 41 0, .str n164 374]),
  (150, xH n200 n200 (stm 12) (.none) (.str n212 358) (.ref 149)),
  (151, xT []),
  (152, xN []),
  (153, xT [.str n213 379, .str n214 380]),
  (154, xT []),
  (155, xG n201 n201 (stm 13)),
  (156, xF "code" [.str n201 376, .str n201 377, .str n164 378, .int 47 0, .int 2 0, .int 0 0, .int 0 0, .int 3 0, .ref 151, .bool true, .int 181 0, .ref 152, .none, .ref 153, .ref 154, .ref 155, .int 381 0, .int 47 0, .str n164 382]),
  (157, xH n201 n201 (stm 13) (.none) (.str n212 358) (.ref 156)),
  (158, xT []),
  (159, xN []),
  (160, xT [.str n215 389, .str n216 390, .str n217 391]),
  (161, xT []),
  (162, xG n202 n202 (stm 15)),
  (163, xF "code" [.str n202 386, .str n202 387, .str n164 388, .int 56 0, .int 3 0, .int 0 0, .int 0 0, .int 3 0, .ref 158, .bool true, .int 181 0, .ref 159, .none, .ref 160, .ref 161, .ref 162, .int 392 0, .int 56 0, .str n164 393]),
  (164, xH n202 n202 (stm 15) (.none) (.str n218 384) (.ref 163)),
  (165, xT []),
  (166, xF "builtin_function_or_method" [.builtin "type.__prepare__", .type "type"]),
  (167, xD [xE P n178 404 (.str n197 395), xE P n179 406 (.str n203 405), xE P n180 408 (.int 65 407), xE P n183 415 (.ref 178), xE P n181 418 (.ref 179)] 5),
  (168, xT []),
  (169, xN [.int 67 0, .int 4 0, .ref 177]),
  (170, xF "code" [.str n203 399, .str n203 400, .str n164 401, .int 65 0, .int 0 0, .int 0 0, .int 0 0, .int 0 0, .ref 168, .bool false, .int 181 0, .ref 169, .none, .none, .none, .none, .int 402 0, .int 65 0, .str n164 403]),
  (171, xR [some (.ref 170), some (.ref 3), some (.ref 167), none, some (.str n197 395), none, some (.ref 0)]),
  (172, xT []),
  (173, xN []),
  (174, xT [.str n184 412]),
  (175, xT []),
  (176, xG n183 n219 (mth 17 0)),
  (177, xF "code" [.str n183 409, .str n219 410, .str n164 411, .int 67 0, .int 1 0, .int 0 0, .int 0 0, .int 3 0, .ref 172, .bool true, .int 181 0, .ref 173, .none, .ref 174, .ref 175, .ref 176, .int 413 0, .int 67 0, .str n164 414]),
  (178, xH n183 n219 (mth 17 0) (.none) (.str n197 395) (.ref 177)),
  (179, xT [.str n220 416, .str n213 417]),
  (180, xD [xE P n178 404 (.str n197 395), xE P n180 408 (.int 65 407), xE P n183 415 (.ref 178), xE P n181 418 (.ref 179), xE P n221 420 (.ref 182), xE P n182 422 (.ref 183), xE P n2 423 (.none)] 4),
  (181, xC n203 n203 [.type "object"] [.ref 181, .type "object"] 180 [] [none, none, some (.str n203 397), some (.str n203 405), some (.builtin "object.__new__"), some (.bool true)]),
  (182, xF "getset_descriptor" [.str n221 419, .ref 181, .builtin "function.__dict__", .builtin "function.__dict__#set"]),
  (183, xF "getset_descriptor" [.str n182 421, .ref 181, .builtin "ExceptionGroup.__weakref__", .none]),
  (184, xF "super" [.ref 181, .ref 181, .ref 181]),
  (185, xF "builtin_function_or_method" [.builtin "object.__init_subclass__", .ref 181]),
  (186, xT []),
  (187, xF "builtin_function_or_method" [.builtin "type.__prepare__", .type "type"]),
  (188, xD [xE P n178 433 (.str n197 395), xE P n179 435 (.str n204 434), xE P n180 437 (.int 70 436), xE P n183 447 (.ref 200), xE P n222 454 (.ref 207), xE P n181 460 (.ref 208)] 6),
  (189, xT []),
  (190, xN [.int 72 0, .int 4 0, .ref 199, .int 79 0, .int 4 0, .ref 206]),
  (191, xF "code" [.str n204 428, .str n204 429, .str n164 430, .int 70 0, .int 0 0, .int 0 0, .int 0 0, .int 0 0, .ref 189, .bool false, .int 181 0, .ref 190, .none, .none, .none, .none, .int 431 0, .int 70 0, .str n164 432]),
  (192, xR [some (.ref 191), some (.ref 3), some (.ref 188), none, some (.str n197 395), none, some (.ref 0)]),
  (193, xT [.none]),
  (194, xT []),
  (195, xN []),
  (196, xT [.str n184 441, .str n213 442, .str n223 443, .str n220 444]),
  (197, xT []),
  (198, xG n183 n224 (mth 18 0)),
  (199, xF "code" [.str n183 438, .str n224 439, .str n164 440, .int 72 0, .int 4 0, .int 0 0, .int 0 0, .int 3 0, .ref 194, .bool true, .int 181 0, .ref 195, .none, .ref 196, .ref 197, .ref 198, .int 445 0, .int 72 0, .str n164 446]),
  (200, xH n183 n224 (mth 18 0) (.ref 193) (.str n197 395) (.ref 199)),
  (201, xT []),
  (202, xN []),
  (203, xT [.str n184 451]),
  (204, xT []),
  (205, xG n222 n225 (mth 18 1)),
  (206, xF "code" [.str n222 448, .str n225 449, .str n164 450, .int 79 0, .int 1 0, .int 0 0, .int 0 0, .int 3 0, .ref 201, .bool true, .int 181 0, .ref 202, .none, .ref 203, .ref 204, .ref 205, .int 452 0, .int 79 0, .str n164 453]),
  (207, xH n222 n225 (mth 18 1) (.none) (.str n197 395) (.ref 206)),
  (208, xT [.str n220 455, .str n223 456, .str n213 457, .str n226 458, .str n227 459]),
  (209, xD [xE P n178 433 (.str n197 395), xE P n180 437 (.int 70 436), xE P n183 447 (.ref 200), xE P n222 454 (.ref 207), xE P n181 460 (.ref 208), xE P n221 462 (.ref 211), xE P n182 464 (.ref 212), xE P n2 465 (.none)] 4),
  (210, xC n204 n204 [.type "object"] [.ref 210, .type "object"] 209 [] [none, none, some (.str n204 426), some (.str n204 434), some (.builtin "object.__new__"), some (.bool true)]),
  (211, xF "getset_descriptor" [.str n221 461, .ref 210, .builtin "function.__dict__", .builtin "function.__dict__#set"]),
  (212, xF "getset_descriptor" [.str n182 463, .ref 210, .builtin "ExceptionGroup.__weakref__", .none]),
  (213, xF "super" [.ref 210, .ref 210, .ref 210]),
  (214, xF "builtin_function_or_method" [.builtin "object.__init_subclass__", .ref 210]),
  (215, xT []),
  (216, xF "builtin_function_or_method" [.builtin "type.__prepare__", .type "type"]),
  (217, xD [xE P n178 475 (.str n197 395), xE P n179 477 (.str n205 476), xE P n180 479 (.int 81 478), xE P n183 487 (.ref 228), xE P n181 491 (.ref 229)] 5),
  (218, xT []),
  (219, xN [.int 83 0, .int 4 0, .ref 227]),
  (220, xF "code" [.str n205 470, .str n205 471, .str n164 472, .int 81 0, .int 0 0, .int 0 0, .int 0 0, .int 0 0, .ref 218, .bool false, .int 181 0, .ref 219, .none, .none, .none, .none, .int 473 0, .int 81 0, .str n164 474]),
  (221, xR [some (.ref 220), some (.ref 3), some (.ref 217), none, some (.str n197 395), none, some (.ref 0)]),
  (222, xT []),
  (223, xN []),
  (224, xT [.str n184 483, .str n228 484]),
  (225, xT []),
  (226, xG n183 n229 (mth 19 0)),
  (227, xF "code" [.str n183 480, .str n229 481, .str n164 482, .int 83 0, .int 2 0, .int 0 0, .int 0 0, .int 3 0, .ref 222, .bool true, .int 181 0, .ref 223, .none, .ref 224, .ref 225, .ref 226, .int 485 0, .int 83 0, .str n164 486]),
  (228, xH n183 n229 (mth 19 0) (.none) (.str n197 395) (.ref 227)),
  (229, xT [.str n220 488, .str n213 489, .str n228 490]),
  (230, xD [xE P n178 475 (.str n197 395), xE P n180 479 (.int 81 478), xE P n183 487 (.ref 228), xE P n181 491 (.ref 229), xE P n221 493 (.ref 232), xE P n182 495 (.ref 233), xE P n2 496 (.none)] 4),
  (231, xC n205 n205 [.type "object"] [.ref 231, .type "object"] 230 [] [none, none, some (.str n205 468), some (.str n205 476), some (.builtin "object.__new__"), some (.bool true)]),
  (232, xF "getset_descriptor" [.str n221 492, .ref 231, .builtin "function.__dict__", .builtin "function.__dict__#set"]),
  (233, xF "getset_descriptor" [.str n182 494, .ref 231, .builtin "ExceptionGroup.__weakref__", .none]),
  (234, xF "super" [.ref 231, .ref 231, .ref 231]),
  (235, xF "builtin_function_or_method" [.builtin "object.__init_subclass__", .ref 231]),
  (236, xT []),
  (237, xF "builtin_function_or_method" [.builtin "type.__prepare__", .type "type"]),
  (238, xD [xE P n178 506 (.str n197 395), xE P n179 508 (.str n206 507), xE P n180 510 (.int 87 509), xE P n183 520 (.ref 250), xE P n181 526 (.ref 251)] 5),
  (239, xT []),
  (240, xN [.int 89 0, .int 4 0, .ref 249]),
  (241, xF "code" [.str n206 501, .str n206 502, .str n164 503, .int 87 0, .int 0 0, .int 0 0, .int 0 0, .int 0 0, .ref 239, .bool false, .int 181 0, .ref 240, .none, .none, .none, .none, .int 504 0, .int 87 0, .str n164 505]),
  (242, xR [some (.ref 241), some (.ref 3), some (.ref 238), none, some (.str n197 395), none, some (.ref 0)]),
  (243, xT [.none]),
  (244, xT []),
  (245, xN []),
  (246, xT [.str n184 514, .str n223 515, .str n230 516, .str n220 517]),
  (247, xT []),
  (248, xG n183 n231 (mth 20 0)),
  (249, xF "code" [.str n183 511, .str n231 512, .str n164 513, .int 89 0, .int 4 0, .int 0 0, .int 0 0, .int 3 0, .ref 244, .bool true, .int 181 0, .ref 245, .none, .ref 246, .ref 247, .ref 248, .int 518 0, .int 89 0, .str n164 519]),
  (250, xH n183 n231 (mth 20 0) (.ref 243) (.str n197 395) (.ref 249)),
  (251, xT [.str n220 521, .str n232 522, .str n223 523, .str n213 524, .str n230 525]),
  (252, xD [xE P n178 506 (.str n197 395), xE P n180 510 (.int 87 509), xE P n183 520 (.ref 250), xE P n181 526 (.ref 251), xE P n221 528 (.ref 254), xE P n182 530 (.ref 255), xE P n2 531 (.none)] 4),
  (253, xC n206 n206 [.type "object"] [.ref 253, .type "object"] 252 [] [none, none, some (.str n206 499), some (.str n206 507), some (.builtin "object.__new__"), some (.bool true)]),
  (254, xF "getset_descriptor" [.str n221 527, .ref 253, .builtin "function.__dict__", .builtin "function.__dict__#set"]),
  (255, xF "getset_descriptor" [.str n182 529, .ref 253, .builtin "ExceptionGroup.__weakref__", .none]),
  (256, xF "super" [.ref 253, .ref 253, .ref 253]),
  (257, xF "builtin_function_or_method" [.builtin "object.__init_subclass__", .ref 253]),
  (258, xT []),
  (259, xF "builtin_function_or_method" [.builtin "type.__prepare__", .type "type"]),
  (260, xD [xE P n178 541 (.str n197 395), xE P n179 543 (.str n207 542), xE P n180 545 (.int 95 544), xE P n183 556 (.ref 272), xE P n181 562 (.ref 273)] 5),
  (261, xT []),
  (262, xN [.int 97 0, .int 4 0, .ref 271]),
  (263, xF "code" [.str n207 536, .str n207 537, .str n164 538, .int 95 0, .int 0 0, .int 0 0, .int 0 0, .int 0 0, .ref 261, .bool false, .int 181 0, .ref 262, .none, .none, .none, .none, .int 539 0, .int 95 0, .str n164 540]),
  (264, xR [some (.ref 263), some (.ref 3), some (.ref 260), none, some (.str n197 395), none, some (.ref 0)]),
  (265, xT [.none]),
  (266, xT []),
  (267, xN []),
  (268, xT [.str n184 549, .str n233 550, .str n234 551, .str n235 552, .str n220 553]),
  (269, xT []),
  (270, xG n183 n236 (mth 21 0)),
  (271, xF "code" [.str n183 546, .str n236 547, .str n164 548, .int 97 0, .int 5 0, .int 0 0, .int 0 0, .int 3 0, .ref 266, .bool true, .int 181 0, .ref 267, .none, .ref 268, .ref 269, .ref 270, .int 554 0, .int 97 0, .str n164 555]),
  (272, xH n183 n236 (mth 21 0) (.ref 265) (.str n197 395) (.ref 271)),
  (273, xT [.str n220 557, .str n234 558, .str n235 559, .str n233 560, .str n213 561]),
  (274, xD [xE P n178 541 (.str n197 395), xE P n180 545 (.int 95 544), xE P n183 556 (.ref 272), xE P n181 562 (.ref 273), xE P n221 564 (.ref 276), xE P n182 566 (.ref 277), xE P n2 567 (.none)] 4),
  (275, xC n207 n207 [.type "object"] [.ref 275, .type "object"] 274 [] [none, none, some (.str n207 534), some (.str n207 542), some (.builtin "object.__new__"), some (.bool true)]),
  (276, xF "getset_descriptor" [.str n221 563, .ref 275, .builtin "function.__dict__", .builtin "function.__dict__#set"]),
  (277, xF "getset_descriptor" [.str n182 565, .ref 275, .builtin "ExceptionGroup.__weakref__", .none]),
  (278, xF "super" [.ref 275, .ref 275, .ref 275]),
  (279, xF "builtin_function_or_method" [.builtin "object.__init_subclass__", .ref 275])]
noncomputable def t2 (P : Params) : BT := forceT (putD (t1 P) (d2 P)) id
noncomputable def s2 (P : Params) (os : OsState) : SharedT := ⟨t2 P, 280, (boot_heap P).life, ⟨[]⟩, boot_drawn, 570, os⟩
noncomputable def p2 : Pos := ⟨95, 0, 102, 26⟩
noncomputable def d3 (P : Params) : List (Nat × Obj) := [
  (3, xD [xE P n0 165 (.str n237 840), xE P n2 166 (.none), xE P n3 167 (.none), xE P n4 168 (.builtin "__main__.__loader__#opaque"), xE P n5 169 (.none), xE P n161 170 (.ref 6), xE P n162 171 (.ref 4), xE P n163 173 (.str n164 172), xE P n165 174 (.none), xE P n170 193 (.ref 21), xE P n171 215 (.ref 31), xE P n172 240 (.ref 51), xE P n173 269 (.ref 70), xE P n174 294 (.ref 89), xE P n175 321 (.ref 108), xE P n176 348 (.ref 127), xE P n198 357 (.ref 136), xE P n199 367 (.ref 143), xE P n200 375 (.ref 150), xE P n201 383 (.ref 157), xE P n202 394 (.ref 164), xE P n203 425 (.ref 181), xE P n204 467 (.ref 210), xE P n205 498 (.ref 231), xE P n206 533 (.ref 253), xE P n207 569 (.ref 275), xE P n238 606 (.ref 297), xE P n239 641 (.ref 318), xE P n240 672 (.ref 339), xE P n241 678 (.ref 350), xE P n242 685 (.ref 357), xE P n243 692 (.ref 364), xE P n244 700 (.ref 371), xE P n245 707 (.ref 378), xE P n246 714 (.ref 385), xE P n247 721 (.ref 392), xE P n248 730 (.ref 399), xE P n249 738 (.ref 406), xE P n188 747 (.ref 413), xE P n250 755 (.ref 420), xE P n251 762 (.ref 427), xE P n252 772 (.ref 434), xE P n253 778 (.ref 439), xE P n254 786 (.ref 446), xE P n255 792 (.ref 451), xE P n256 800 (.ref 458), xE P n257 810 (.ref 465), xE P n258 816 (.ref 470), xE P n259 824 (.ref 477), xE P n260 830 (.ref 482), xE P n261 839 (.ref 489)] 51),
  (12, xN [.int 1 0, .int 0 0, .ref 20, .int 5 0, .int 0 0, .ref 27, .int 7 0, .int 0 0, .ref 40, .int 11 0, .int 0 0, .ref 59, .int 17 0, .int 0 0, .ref 78, .int 21 0, .int 0 0, .ref 97, .int 26 0, .int 0 0, .ref 116, .int 32 0, .int 0 0, .ref 135, .int 35 0, .int 0 0, .ref 142, .int 41 0, .int 0 0, .ref 149, .int 47 0, .int 0 0, .ref 156, .int 56 0, .int 0 0, .ref 163, .int 65 0, .int 0 0, .ref 170, .int 70 0, .int 0 0, .ref 191, .int 81 0, .int 0 0, .ref 220, .int 87 0, .int 0 0, .ref 241, .int 95 0, .int 0 0, .ref 263, .int 103 0, .int 0 0, .ref 285, .int 113 0, .int 0 0, .ref 307, .int 122 0, .int 0 0, .ref 328, .int 128 0, .int 0 0, .ref 349, .int 130 0, .int 0 0, .ref 356, .int 134 0, .int 0 0, .ref 363, .int 136 0, .int 0 0, .ref 370, .int 147 0, .int 0 0, .ref 377, .int 149 0, .int 0 0, .ref 384, .int 151 0, .int 0 0, .ref 391, .int 156 0, .int 0 0, .ref 398, .int 162 0, .int 0 0, .ref 405, .int 172 0, .int 0 0, .ref 412, .int 187 0, .int 0 0, .ref 419, .int 189 0, .int 0 0, .ref 426, .int 192 0, .int 0 0, .ref 433, .int 196 0, .int 0 0, .ref 438, .int 212 0, .int 0 0, .ref 445, .int 217 0, .int 0 0, .ref 450, .int 222 0, .int 0 0, .ref 457, .int 228 0, .int 0 0, .ref 464, .int 231 0, .int 0 0, .ref 469, .int 242 0, .int 0 0, .ref 476, .int 246 0, .int 0 0, .ref 481, .int 251 0, .int 0 0, .ref 488]),
  (280, xT []),
  (281, xF "builtin_function_or_method" [.builtin "type.__prepare__", .type "type"]),
  (282, xD [xE P n178 577 (.str n197 395), xE P n179 579 (.str n238 578), xE P n180 581 (.int 103 580), xE P n183 591 (.ref 294), xE P n181 599 (.ref 295)] 5),
  (283, xT []),
  (284, xN [.int 105 0, .int 4 0, .ref 293]),
  (285, xF "code" [.str n238 572, .str n238 573, .str n164 574, .int 103 0, .int 0 0, .int 0 0, .int 0 0, .int 0 0, .ref 283, .bool false, .int 181 0, .ref 284, .none, .none, .none, .none, .int 575 0, .int 103 0, .str n164 576]),
  (286, xR [some (.ref 285), some (.ref 3), some (.ref 282), none, some (.str n197 395), none, some (.ref 0)]),
  (287, xT [.none]),
  (288, xT []),
  (289, xN []),
  (290, xT [.str n184 585, .str n192 586, .str n262 587, .str n220 588]),
  (291, xT []),
  (292, xG n183 n263 (mth 22 0)),
  (293, xF "code" [.str n183 582, .str n263 583, .str n164 584, .int 105 0, .int 4 0, .int 0 0, .int 0 0, .int 3 0, .ref 288, .bool true, .int 181 0, .ref 289, .none, .ref 290, .ref 291, .ref 292, .int 589 0, .int 105 0, .str n164 590]),
  (294, xH n183 n263 (mth 22 0) (.ref 287) (.str n197 395) (.ref 293)),
  (295, xT [.str n220 592, .str n264 593, .str n213 594, .str n265 595, .str n266 596, .str n192 597, .str n262 598]),
  (296, xD [xE P n178 577 (.str n197 395), xE P n180 581 (.int 103 580), xE P n183 591 (.ref 294), xE P n181 599 (.ref 295), xE P n221 601 (.ref 298), xE P n182 603 (.ref 299), xE P n2 604 (.none)] 4),
  (297, xC n238 n238 [.type "object"] [.ref 297, .type "object"] 296 [] [none, none, some (.str n238 570), some (.str n238 578), some (.builtin "object.__new__"), some (.bool true)]),
  (298, xF "getset_descriptor" [.str n221 600, .ref 297, .builtin "function.__dict__", .builtin "function.__dict__#set"]),
  (299, xF "getset_descriptor" [.str n182 602, .ref 297, .builtin "ExceptionGroup.__weakref__", .none]),
  (300, xF "super" [.ref 297, .ref 297, .ref 297]),
  (301, xF "builtin_function_or_method" [.builtin "object.__init_subclass__", .ref 297]),
  (302, xT []),
  (303, xF "builtin_function_or_method" [.builtin "type.__prepare__", .type "type"]),
  (304, xD [xE P n178 614 (.str n197 395), xE P n179 616 (.str n239 615), xE P n180 618 (.int 113 617), xE P n183 627 (.ref 315), xE P n181 634 (.ref 316)] 5),
  (305, xT []),
  (306, xN [.int 115 0, .int 4 0, .ref 314]),
  (307, xF "code" [.str n239 609, .str n239 610, .str n164 611, .int 113 0, .int 0 0, .int 0 0, .int 0 0, .int 0 0, .ref 305, .bool false, .int 181 0, .ref 306, .none, .none, .none, .none, .int 612 0, .int 113 0, .str n164 613]),
  (308, xR [some (.ref 307), some (.ref 3), some (.ref 304), none, some (.str n197 395), none, some (.ref 0)]),
  (309, xT []),
  (310, xN []),
  (311, xT [.str n184 622, .str n267 623, .str n235 624]),
  (312, xT []),
  (313, xG n183 n268 (mth 23 0)),
  (314, xF "code" [.str n183 619, .str n268 620, .str n164 621, .int 115 0, .int 3 0, .int 0 0, .int 0 0, .int 3 0, .ref 309, .bool true, .int 181 0, .ref 310, .none, .ref 311, .ref 312, .ref 313, .int 625 0, .int 115 0, .str n164 626]),
  (315, xH n183 n268 (mth 23 0) (.none) (.str n197 395) (.ref 314)),
  (316, xT [.str n220 628, .str n235 629, .str n267 630, .str n213 631, .str n269 632, .str n193 633]),
  (317, xD [xE P n178 614 (.str n197 395), xE P n180 618 (.int 113 617), xE P n183 627 (.ref 315), xE P n181 634 (.ref 316), xE P n221 636 (.ref 319), xE P n182 638 (.ref 320), xE P n2 639 (.none)] 4),
  (318, xC n239 n239 [.type "object"] [.ref 318, .type "object"] 317 [] [none, none, some (.str n239 607), some (.str n239 615), some (.builtin "object.__new__"), some (.bool true)]),
  (319, xF "getset_descriptor" [.str n221 635, .ref 318, .builtin "function.__dict__", .builtin "function.__dict__#set"]),
  (320, xF "getset_descriptor" [.str n182 637, .ref 318, .builtin "ExceptionGroup.__weakref__", .none]),
  (321, xF "super" [.ref 318, .ref 318, .ref 318]),
  (322, xF "builtin_function_or_method" [.builtin "object.__init_subclass__", .ref 318]),
  (323, xT []),
  (324, xF "builtin_function_or_method" [.builtin "type.__prepare__", .type "type"]),
  (325, xD [xE P n178 649 (.str n197 395), xE P n179 651 (.str n240 650), xE P n180 653 (.int 122 652), xE P n183 661 (.ref 336), xE P n181 665 (.ref 337)] 5),
  (326, xT []),
  (327, xN [.int 124 0, .int 4 0, .ref 335]),
  (328, xF "code" [.str n240 644, .str n240 645, .str n164 646, .int 122 0, .int 0 0, .int 0 0, .int 0 0, .int 0 0, .ref 326, .bool false, .int 181 0, .ref 327, .none, .none, .none, .none, .int 647 0, .int 122 0, .str n164 648]),
  (329, xR [some (.ref 328), some (.ref 3), some (.ref 325), none, some (.str n197 395), none, some (.ref 0)]),
  (330, xT []),
  (331, xN []),
  (332, xT [.str n184 657, .str n270 658]),
  (333, xT []),
  (334, xG n183 n271 (mth 24 0)),
  (335, xF "code" [.str n183 654, .str n271 655, .str n164 656, .int 124 0, .int 2 0, .int 0 0, .int 0 0, .int 3 0, .ref 330, .bool true, .int 181 0, .ref 331, .none, .ref 332, .ref 333, .ref 334, .int 659 0, .int 124 0, .str n164 660]),
  (336, xH n183 n271 (mth 24 0) (.none) (.str n197 395) (.ref 335)),
  (337, xT [.str n270 662, .str n220 663, .str n213 664]),
  (338, xD [xE P n178 649 (.str n197 395), xE P n180 653 (.int 122 652), xE P n183 661 (.ref 336), xE P n181 665 (.ref 337), xE P n221 667 (.ref 340), xE P n182 669 (.ref 341), xE P n2 670 (.none)] 4),
  (339, xC n240 n240 [.type "object"] [.ref 339, .type "object"] 338 [] [none, none, some (.str n240 642), some (.str n240 650), some (.builtin "object.__new__"), some (.bool true)]),
  (340, xF "getset_descriptor" [.str n221 666, .ref 339, .builtin "function.__dict__", .builtin "function.__dict__#set"]),
  (341, xF "getset_descriptor" [.str n182 668, .ref 339, .builtin "ExceptionGroup.__weakref__", .none]),
  (342, xF "super" [.ref 339, .ref 339, .ref 339]),
  (343, xF "builtin_function_or_method" [.builtin "object.__init_subclass__", .ref 339]),
  (344, xT []),
  (345, xN []),
  (346, xT []),
  (347, xT []),
  (348, xG n241 n241 (stm 25)),
  (349, xF "code" [.str n241 673, .str n241 674, .str n164 675, .int 128 0, .int 0 0, .int 0 0, .int 0 0, .int 3 0, .ref 344, .bool true, .int 181 0, .ref 345, .none, .ref 346, .ref 347, .ref 348, .int 676 0, .int 128 0, .str n164 677]),
  (350, xH n241 n241 (stm 25) (.none) (.str n197 395) (.ref 349)),
  (351, xT []),
  (352, xN []),
  (353, xT [.str n211 682]),
  (354, xT []),
  (355, xG n242 n242 (stm 26)),
  (356, xF "code" [.str n242 679, .str n242 680, .str n164 681, .int 130 0, .int 1 0, .int 0 0, .int 0 0, .int 3 0, .ref 351, .bool true, .int 181 0, .ref 352, .none, .ref 353, .ref 354, .ref 355, .int 683 0, .int 130 0, .str n164 684]),
  (357, xH n242 n242 (stm 26) (.none) (.str n197 395) (.ref 356)),
  (358, xT []),
  (359, xN []),
  (360, xT [.str n272 689]),
  (361, xT []),
  (362, xG n243 n243 (stm 27)),
  (363, xF "code" [.str n243 686, .str n243 687, .str n164 688, .int 134 0, .int 1 0, .int 0 0, .int 0 0, .int 3 0, .ref 358, .bool true, .int 181 0, .ref 359, .none, .ref 360, .ref 361, .ref 362, .int 690 0, .int 134 0, .str n164 691]),
  (364, xH n243 n243 (stm 27) (.none) (.str n197 395) (.ref 363)),
  (365, xT []),
  (366, xN []),
  (367, xT [.str n215 696, .str n213 697]),
  (368, xT []),
  (369, xG n244 n244 (stm 28)),
  (370, xF "code" [.str n244 693, .str n244 694, .str n164 695, .int 136 0, .int 1 0, .int 0 0, .int 0 0, .int 3 0, .ref 365, .bool true, .int 181 0, .ref 366, .none, .ref 367, .ref 368, .ref 369, .int 698 0, .int 136 0, .str n164 699]),
  (371, xH n244 n244 (stm 28) (.none) (.str n197 395) (.ref 370)),
  (372, xT []),
  (373, xN []),
  (374, xT [.str n215 704]),
  (375, xT []),
  (376, xG n245 n245 (stm 29)),
  (377, xF "code" [.str n245 701, .str n245 702, .str n164 703, .int 147 0, .int 1 0, .int 0 0, .int 0 0, .int 3 0, .ref 372, .bool true, .int 181 0, .ref 373, .none, .ref 374, .ref 375, .ref 376, .int 705 0, .int 147 0, .str n164 706]),
  (378, xH n245 n245 (stm 29) (.none) (.str n197 395) (.ref 377)),
  (379, xT []),
  (380, xN []),
  (381, xT [.str n215 711]),
  (382, xT []),
  (383, xG n246 n246 (stm 30)),
  (384, xF "code" [.str n246 708, .str n246 709, .str n164 710, .int 149 0, .int 1 0, .int 0 0, .int 0 0, .int 3 0, .ref 379, .bool true, .int 181 0, .ref 380, .none, .ref 381, .ref 382, .ref 383, .int 712 0, .int 149 0, .str n164 713]),
  (385, xH n246 n246 (stm 30) (.none) (.str n197 395) (.ref 384)),
  (386, xT []),
  (387, xN []),
  (388, xT [.str n215 718]),
  (389, xT []),
  (390, xG n247 n247 (stm 31)),
  (391, xF "code" [.str n247 715, .str n247 716, .str n164 717, .int 151 0, .int 1 0, .int 0 0, .int 0 0, .int 3 0, .ref 386, .bool true, .int 181 0, .ref 387, .none, .ref 388, .ref 389, .ref 390, .int 719 0, .int 151 0, .str n164 720]),
  (392, xH n247 n247 (stm 31) (.none) (.str n197 395) (.ref 391)),
  (393, xT []),
  (394, xN []),
  (395, xT [.str n272 727]),
  (396, xT []),
  (397, xG n248 n248 (stm 33)),
  (398, xF "code" [.str n248 724, .str n248 725, .str n164 726, .int 156 0, .int 1 0, .int 0 0, .int 0 0, .int 3 0, .ref 393, .bool true, .int 181 0, .ref 394, .none, .ref 395, .ref 396, .ref 397, .int 728 0, .int 156 0, .str n164 729]),
  (399, xH n248 n248 (stm 33) (.none) (.str n273 722) (.ref 398)),
  (400, xT []),
  (401, xN []),
  (402, xT [.str n213 734, .str n214 735]),
  (403, xT []),
  (404, xG n249 n249 (stm 34)),
  (405, xF "code" [.str n249 731, .str n249 732, .str n164 733, .int 162 0, .int 2 0, .int 0 0, .int 0 0, .int 3 0, .ref 400, .bool true, .int 181 0, .ref 401, .none, .ref 402, .ref 403, .ref 404, .int 736 0, .int 162 0, .str n164 737]),
  (406, xH n249 n249 (stm 34) (.none) (.str n273 722) (.ref 405)),
  (407, xT []),
  (408, xN []),
  (409, xT [.str n215 742, .str n274 743, .str n275 744]),
  (410, xT []),
  (411, xG n188 n188 (stm 35)),
  (412, xF "code" [.str n188 739, .str n188 740, .str n164 741, .int 172 0, .int 1 0, .int 0 0, .int 0 0, .int 3 0, .ref 407, .bool true, .int 181 0, .ref 408, .none, .ref 409, .ref 410, .ref 411, .int 745 0, .int 172 0, .str n164 746]),
  (413, xH n188 n188 (stm 35) (.none) (.str n273 722) (.ref 412)),
  (414, xT []),
  (415, xN []),
  (416, xT []),
  (417, xT []),
  (418, xG n250 n250 (stm 37)),
  (419, xF "code" [.str n250 750, .str n250 751, .str n164 752, .int 187 0, .int 0 0, .int 0 0, .int 0 0, .int 3 0, .ref 414, .bool true, .int 181 0, .ref 415, .none, .ref 416, .ref 417, .ref 418, .int 753 0, .int 187 0, .str n164 754]),
  (420, xH n250 n250 (stm 37) (.none) (.str n276 748) (.ref 419)),
  (421, xT []),
  (422, xN []),
  (423, xT [.str n228 759]),
  (424, xT []),
  (425, xG n251 n251 (stm 38)),
  (426, xF "code" [.str n251 756, .str n251 757, .str n164 758, .int 189 0, .int 1 0, .int 0 0, .int 0 0, .int 3 0, .ref 421, .bool true, .int 181 0, .ref 422, .none, .ref 423, .ref 424, .ref 425, .int 760 0, .int 189 0, .str n164 761]),
  (427, xH n251 n251 (stm 38) (.none) (.str n276 748) (.ref 426)),
  (428, xT []),
  (429, xN []),
  (430, xT [.str n215 768, .str n228 769]),
  (431, xT []),
  (432, xG n252 n252 (stm 40)),
  (433, xF "code" [.str n252 765, .str n252 766, .str n164 767, .int 192 0, .int 2 0, .int 0 0, .int 0 0, .int 3 0, .ref 428, .bool true, .int 181 0, .ref 429, .none, .ref 430, .ref 431, .ref 432, .int 770 0, .int 192 0, .str n164 771]),
  (434, xH n252 n252 (stm 40) (.none) (.str n277 763) (.ref 433)),
  (435, xT []),
  (436, xN []),
  (437, xG n253 n253 (stm 41)),
  (438, xF "code" [.str n253 773, .str n253 774, .str n164 775, .int 196 0, .int 1 0, .int 0 0, .int 0 0, .int 3 0, .ref 435, .bool true, .int 181 0, .ref 436, .none, .none, .none, .ref 437, .int 776 0, .int 196 0, .str n164 777]),
  (439, xH n253 n253 (stm 41) (.none) (.str n277 763) (.ref 438)),
  (440, xT []),
  (441, xN []),
  (442, xT [.str n215 782, .str n278 783]),
  (443, xT []),
  (444, xG n254 n254 (stm 42)),
  (445, xF "code" [.str n254 779, .str n254 780, .str n164 781, .int 212 0, .int 1 0, .int 0 0, .int 0 0, .int 3 0, .ref 440, .bool true, .int 181 0, .ref 441, .none, .ref 442, .ref 443, .ref 444, .int 784 0, .int 212 0, .str n164 785]),
  (446, xH n254 n254 (stm 42) (.none) (.str n277 763) (.ref 445)),
  (447, xT []),
  (448, xN []),
  (449, xG n255 n255 (stm 43)),
  (450, xF "code" [.str n255 787, .str n255 788, .str n164 789, .int 217 0, .int 1 0, .int 0 0, .int 0 0, .int 3 0, .ref 447, .bool true, .int 181 0, .ref 448, .none, .none, .none, .ref 449, .int 790 0, .int 217 0, .str n164 791]),
  (451, xH n255 n255 (stm 43) (.none) (.str n277 763) (.ref 450)),
  (452, xT []),
  (453, xN []),
  (454, xT [.str n215 796, .str n275 797]),
  (455, xT []),
  (456, xG n256 n256 (stm 44)),
  (457, xF "code" [.str n256 793, .str n256 794, .str n164 795, .int 222 0, .int 1 0, .int 0 0, .int 0 0, .int 3 0, .ref 452, .bool true, .int 181 0, .ref 453, .none, .ref 454, .ref 455, .ref 456, .int 798 0, .int 222 0, .str n164 799]),
  (458, xH n256 n256 (stm 44) (.none) (.str n277 763) (.ref 457)),
  (459, xT []),
  (460, xN []),
  (461, xT [.str n187 806, .str n274 807]),
  (462, xT []),
  (463, xG n257 n257 (stm 46)),
  (464, xF "code" [.str n257 803, .str n257 804, .str n164 805, .int 228 0, .int 2 0, .int 0 0, .int 0 0, .int 3 0, .ref 459, .bool true, .int 181 0, .ref 460, .none, .ref 461, .ref 462, .ref 463, .int 808 0, .int 228 0, .str n164 809]),
  (465, xH n257 n257 (stm 46) (.none) (.str n279 801) (.ref 464)),
  (466, xT []),
  (467, xN []),
  (468, xG n258 n258 (stm 47)),
  (469, xF "code" [.str n258 811, .str n258 812, .str n164 813, .int 231 0, .int 1 0, .int 0 0, .int 0 0, .int 3 0, .ref 466, .bool true, .int 181 0, .ref 467, .none, .none, .none, .ref 468, .int 814 0, .int 231 0, .str n164 815]),
  (470, xH n258 n258 (stm 47) (.none) (.str n279 801) (.ref 469)),
  (471, xT []),
  (472, xN []),
  (473, xT [.str n280 820, .str n232 821]),
  (474, xT []),
  (475, xG n259 n259 (stm 48)),
  (476, xF "code" [.str n259 817, .str n259 818, .str n164 819, .int 242 0, .int 2 0, .int 0 0, .int 0 0, .int 3 0, .ref 471, .bool true, .int 181 0, .ref 472, .none, .ref 473, .ref 474, .ref 475, .int 822 0, .int 242 0, .str n164 823]),
  (477, xH n259 n259 (stm 48) (.none) (.str n279 801) (.ref 476)),
  (478, xT []),
  (479, xN []),
  (480, xG n260 n260 (stm 49)),
  (481, xF "code" [.str n260 825, .str n260 826, .str n164 827, .int 246 0, .int 1 0, .int 0 0, .int 0 0, .int 3 0, .ref 478, .bool true, .int 181 0, .ref 479, .none, .none, .none, .ref 480, .int 828 0, .int 246 0, .str n164 829]),
  (482, xH n260 n260 (stm 49) (.none) (.str n279 801) (.ref 481)),
  (483, xT []),
  (484, xN []),
  (485, xT [.str n281 834, .str n187 835, .str n235 836]),
  (486, xT []),
  (487, xG n261 n261 (stm 50)),
  (488, xF "code" [.str n261 831, .str n261 832, .str n164 833, .int 251 0, .int 3 0, .int 0 0, .int 0 0, .int 3 0, .ref 483, .bool true, .int 181 0, .ref 484, .none, .ref 485, .ref 486, .ref 487, .int 837 0, .int 251 0, .str n164 838]),
  (489, xH n261 n261 (stm 50) (.none) (.str n279 801) (.ref 488))]
noncomputable def t3 (P : Params) : BT := forceT (putD (t2 P) (d3 P)) id
noncomputable def s3 (P : Params) (os : OsState) : SharedT := ⟨t3 P, 490, (boot_heap P).life, ⟨[]⟩, boot_drawn, 842, os⟩
noncomputable def p3 : Pos := ⟨255, 0, 255, 8⟩
noncomputable def d4 (P : Params) : List (Nat × Obj) := [
  (3, xD [xE P n0 165 (.str n282 1261), xE P n2 166 (.none), xE P n3 167 (.none), xE P n4 168 (.builtin "__main__.__loader__#opaque"), xE P n5 169 (.none), xE P n161 170 (.ref 6), xE P n162 171 (.ref 4), xE P n163 173 (.str n164 172), xE P n165 174 (.none), xE P n170 193 (.ref 21), xE P n171 215 (.ref 31), xE P n172 240 (.ref 51), xE P n173 269 (.ref 70), xE P n174 294 (.ref 89), xE P n175 321 (.ref 108), xE P n176 348 (.ref 127), xE P n198 357 (.ref 136), xE P n199 367 (.ref 143), xE P n200 375 (.ref 150), xE P n201 383 (.ref 157), xE P n202 394 (.ref 164), xE P n203 425 (.ref 181), xE P n204 467 (.ref 210), xE P n205 498 (.ref 231), xE P n206 533 (.ref 253), xE P n207 569 (.ref 275), xE P n238 606 (.ref 297), xE P n239 641 (.ref 318), xE P n240 672 (.ref 339), xE P n241 678 (.ref 350), xE P n242 685 (.ref 357), xE P n243 692 (.ref 364), xE P n244 700 (.ref 371), xE P n245 707 (.ref 378), xE P n246 714 (.ref 385), xE P n247 721 (.ref 392), xE P n248 730 (.ref 399), xE P n249 738 (.ref 406), xE P n188 747 (.ref 413), xE P n250 755 (.ref 420), xE P n251 762 (.ref 427), xE P n252 772 (.ref 434), xE P n253 778 (.ref 439), xE P n254 786 (.ref 446), xE P n255 792 (.ref 451), xE P n256 800 (.ref 458), xE P n257 810 (.ref 465), xE P n258 816 (.ref 470), xE P n259 824 (.ref 477), xE P n260 830 (.ref 482), xE P n261 839 (.ref 489), xE P n283 924 (.ref 546), xE P n284 931 (.ref 557), xE P n285 942 (.ref 564), xE P n286 948 (.ref 569), xE P n287 954 (.ref 575), xE P n288 964 (.ref 582), xE P n289 973 (.ref 589), xE P n290 981 (.ref 596), xE P n291 988 (.ref 603), xE P n292 997 (.ref 610), xE P n293 1008 (.ref 617), xE P n294 1018 (.ref 624), xE P n295 1029 (.ref 631), xE P n296 1036 (.ref 638), xE P n297 1045 (.ref 645), xE P n298 1053 (.ref 652), xE P n299 1059 (.ref 658), xE P n300 1067 (.ref 665), xE P n301 1074 (.ref 672), xE P n302 1085 (.ref 679), xE P n303 1094 (.ref 686), xE P n304 1110 (.ref 693), xE P n305 1121 (.ref 700), xE P n306 1129 (.ref 707), xE P n307 1142 (.ref 714), xE P n308 1161 (.ref 721), xE P n309 1177 (.ref 728), xE P n310 1184 (.ref 735), xE P n311 1199 (.ref 742), xE P n312 1208 (.ref 749), xE P n313 1222 (.ref 757), xE P n314 1229 (.ref 764), xE P n315 1246 (.ref 772), xE P n316 1260 (.ref 779), xE P n317 1292 (.ref 796)] 86),
  (12, xN [.int 1 0, .int 0 0, .ref 20, .int 5 0, .int 0 0, .ref 27, .int 7 0, .int 0 0, .ref 40, .int 11 0, .int 0 0, .ref 59, .int 17 0, .int 0 0, .ref 78, .int 21 0, .int 0 0, .ref 97, .int 26 0, .int 0 0, .ref 116, .int 32 0, .int 0 0, .ref 135, .int 35 0, .int 0 0, .ref 142, .int 41 0, .int 0 0, .ref 149, .int 47 0, .int 0 0, .ref 156, .int 56 0, .int 0 0, .ref 163, .int 65 0, .int 0 0, .ref 170, .int 70 0, .int 0 0, .ref 191, .int 81 0, .int 0 0, .ref 220, .int 87 0, .int 0 0, .ref 241, .int 95 0, .int 0 0, .ref 263, .int 103 0, .int 0 0, .ref 285, .int 113 0, .int 0 0, .ref 307, .int 122 0, .int 0 0, .ref 328, .int 128 0, .int 0 0, .ref 349, .int 130 0, .int 0 0, .ref 356, .int 134 0, .int 0 0, .ref 363, .int 136 0, .int 0 0, .ref 370, .int 147 0, .int 0 0, .ref 377, .int 149 0, .int 0 0, .ref 384, .int 151 0, .int 0 0, .ref 391, .int 156 0, .int 0 0, .ref 398, .int 162 0, .int 0 0, .ref 405, .int 172 0, .int 0 0, .ref 412, .int 187 0, .int 0 0, .ref 419, .int 189 0, .int 0 0, .ref 426, .int 192 0, .int 0 0, .ref 433, .int 196 0, .int 0 0, .ref 438, .int 212 0, .int 0 0, .ref 445, .int 217 0, .int 0 0, .ref 450, .int 222 0, .int 0 0, .ref 457, .int 228 0, .int 0 0, .ref 464, .int 231 0, .int 0 0, .ref 469, .int 242 0, .int 0 0, .ref 476, .int 246 0, .int 0 0, .ref 481, .int 251 0, .int 0 0, .ref 488, .int 256 0, .int 0 0, .ref 495, .int 309 0, .int 0 0, .ref 556, .int 311 0, .int 0 0, .ref 563, .int 320 0, .int 0 0, .ref 568, .int 326 0, .int 0 0, .ref 574, .int 336 0, .int 0 0, .ref 581, .int 338 0, .int 0 0, .ref 588, .int 345 0, .int 0 0, .ref 595, .int 351 0, .int 0 0, .ref 602, .int 353 0, .int 0 0, .ref 609, .int 359 0, .int 0 0, .ref 616, .int 371 0, .int 0 0, .ref 623, .int 374 0, .int 0 0, .ref 630, .int 379 0, .int 0 0, .ref 637, .int 383 0, .int 0 0, .ref 644, .int 388 0, .int 0 0, .ref 651, .int 392 0, .int 0 0, .ref 657, .int 405 0, .int 0 0, .ref 664, .int 410 0, .int 0 0, .ref 671, .int 412 0, .int 0 0, .ref 678, .int 421 0, .int 0 0, .ref 685, .int 427 0, .int 0 0, .ref 692, .int 444 0, .int 0 0, .ref 699, .int 449 0, .int 0 0, .ref 706, .int 455 0, .int 0 0, .ref 713, .int 462 0, .int 0 0, .ref 720, .int 473 0, .int 0 0, .ref 727, .int 479 0, .int 0 0, .ref 734, .int 481 0, .int 0 0, .ref 741, .int 491 0, .int 0 0, .ref 748, .int 495 0, .int 0 0, .ref 756, .int 506 0, .int 0 0, .ref 763, .int 510 0, .int 0 0, .ref 771, .int 522 0, .int 0 0, .ref 778, .int 530 0, .int 0 0, .ref 785]),
  (490, xT []),
  (491, xF "builtin_function_or_method" [.builtin "type.__prepare__", .type "type"]),
  (492, xD [xE P n178 849 (.str n237 840), xE P n179 851 (.str n283 850), xE P n180 853 (.int 256 852), xE P n183 862 (.ref 503), xE P n318 871 (.ref 510), xE P n319 879 (.ref 517), xE P n320 889 (.ref 524), xE P n321 898 (.ref 531), xE P n322 906 (.ref 538), xE P n323 912 (.ref 543), xE P n181 917 (.ref 544)] 11),
  (493, xT []),
  (494, xN [.int 258 0, .int 4 0, .ref 502, .int 264 0, .int 4 0, .ref 509, .int 274 0, .int 4 0, .ref 516, .int 281 0, .int 4 0, .ref 523, .int 292 0, .int 4 0, .ref 530, .int 304 0, .int 4 0, .ref 537, .int 307 0, .int 4 0, .ref 542]),
  (495, xF "code" [.str n283 844, .str n283 845, .str n164 846, .int 256 0, .int 0 0, .int 0 0, .int 0 0, .int 0 0, .ref 493, .bool false, .int 181 0, .ref 494, .none, .none, .none, .none, .int 847 0, .int 256 0, .str n164 848]),
  (496, xR [some (.ref 495), some (.ref 3), some (.ref 492), none, some (.str n237 840), none, some (.ref 0)]),
  (497, xT []),
  (498, xN []),
  (499, xT [.str n184 857, .str n233 858, .str n230 859]),
  (500, xT []),
  (501, xG n183 n324 (mth 52 0)),
  (502, xF "code" [.str n183 854, .str n324 855, .str n164 856, .int 258 0, .int 3 0, .int 0 0, .int 0 0, .int 3 0, .ref 497, .bool true, .int 181 0, .ref 498, .none, .ref 499, .ref 500, .ref 501, .int 860 0, .int 258 0, .str n164 861]),
  (503, xH n183 n324 (mth 52 0) (.none) (.str n237 840) (.ref 502)),
  (504, xT []),
  (505, xN []),
  (506, xT [.str n184 866, .str n228 867, .str n325 868]),
  (507, xT []),
  (508, xG n318 n326 (mth 52 1)),
  (509, xF "code" [.str n318 863, .str n326 864, .str n164 865, .int 264 0, .int 1 0, .int 0 0, .int 0 0, .int 3 0, .ref 504, .bool true, .int 181 0, .ref 505, .none, .ref 506, .ref 507, .ref 508, .int 869 0, .int 264 0, .str n164 870]),
  (510, xH n318 n326 (mth 52 1) (.none) (.str n237 840) (.ref 509)),
  (511, xT []),
  (512, xN []),
  (513, xT [.str n184 875, .str n228 876]),
  (514, xT []),
  (515, xG n319 n327 (mth 52 2)),
  (516, xF "code" [.str n319 872, .str n327 873, .str n164 874, .int 274 0, .int 1 0, .int 0 0, .int 0 0, .int 3 0, .ref 511, .bool true, .int 181 0, .ref 512, .none, .ref 513, .ref 514, .ref 515, .int 877 0, .int 274 0, .str n164 878]),
  (517, xH n319 n327 (mth 52 2) (.none) (.str n237 840) (.ref 516)),
  (518, xT []),
  (519, xN []),
  (520, xT [.str n184 883, .str n228 884, .str n325 885, .str n328 886]),
  (521, xT []),
  (522, xG n320 n329 (mth 52 3)),
  (523, xF "code" [.str n320 880, .str n329 881, .str n164 882, .int 281 0, .int 2 0, .int 0 0, .int 0 0, .int 3 0, .ref 518, .bool true, .int 181 0, .ref 519, .none, .ref 520, .ref 521, .ref 522, .int 887 0, .int 281 0, .str n164 888]),
  (524, xH n320 n329 (mth 52 3) (.none) (.str n237 840) (.ref 523)),
  (525, xT []),
  (526, xN []),
  (527, xT [.str n184 893, .str n325 894, .str n228 895]),
  (528, xT []),
  (529, xG n321 n330 (mth 52 4)),
  (530, xF "code" [.str n321 890, .str n330 891, .str n164 892, .int 292 0, .int 1 0, .int 0 0, .int 0 0, .int 3 0, .ref 525, .bool true, .int 181 0, .ref 526, .none, .ref 527, .ref 528, .ref 529, .int 896 0, .int 292 0, .str n164 897]),
  (531, xH n321 n330 (mth 52 4) (.none) (.str n237 840) (.ref 530)),
  (532, xT []),
  (533, xN []),
  (534, xT [.str n184 902, .str n325 903]),
  (535, xT []),
  (536, xG n322 n331 (mth 52 5)),
  (537, xF "code" [.str n322 899, .str n331 900, .str n164 901, .int 304 0, .int 2 0, .int 0 0, .int 0 0, .int 3 0, .ref 532, .bool true, .int 181 0, .ref 533, .none, .ref 534, .ref 535, .ref 536, .int 904 0, .int 304 0, .str n164 905]),
  (538, xH n322 n331 (mth 52 5) (.none) (.str n237 840) (.ref 537)),
  (539, xT []),
  (540, xN []),
  (541, xG n323 n332 (mth 52 6)),
  (542, xF "code" [.str n323 907, .str n332 908, .str n164 909, .int 307 0, .int 1 0, .int 0 0, .int 0 0, .int 3 0, .ref 539, .bool true, .int 181 0, .ref 540, .none, .none, .none, .ref 541, .int 910 0, .int 307 0, .str n164 911]),
  (543, xH n323 n332 (mth 52 6) (.none) (.str n237 840) (.ref 542)),
  (544, xT [.str n233 913, .str n333 914, .str n230 915, .str n334 916]),
  (545, xD [xE P n178 849 (.str n237 840), xE P n180 853 (.int 256 852), xE P n183 862 (.ref 503), xE P n318 871 (.ref 510), xE P n319 879 (.ref 517), xE P n320 889 (.ref 524), xE P n321 898 (.ref 531), xE P n322 906 (.ref 538), xE P n323 912 (.ref 543), xE P n181 917 (.ref 544), xE P n221 919 (.ref 547), xE P n182 921 (.ref 548), xE P n2 922 (.none)] 4),
  (546, xC n283 n283 [.type "object"] [.ref 546, .type "object"] 545 [] [none, none, some (.str n283 842), some (.str n283 850), some (.builtin "object.__new__"), some (.bool true)]),
  (547, xF "getset_descriptor" [.str n221 918, .ref 546, .builtin "function.__dict__", .builtin "function.__dict__#set"]),
  (548, xF "getset_descriptor" [.str n182 920, .ref 546, .builtin "ExceptionGroup.__weakref__", .none]),
  (549, xF "super" [.ref 546, .ref 546, .ref 546]),
  (550, xF "builtin_function_or_method" [.builtin "object.__init_subclass__", .ref 546]),
  (551, xT []),
  (552, xN []),
  (553, xT [.str n228 928]),
  (554, xT []),
  (555, xG n284 n284 (stm 53)),
  (556, xF "code" [.str n284 925, .str n284 926, .str n164 927, .int 309 0, .int 1 0, .int 0 0, .int 0 0, .int 3 0, .ref 551, .bool true, .int 181 0, .ref 552, .none, .ref 553, .ref 554, .ref 555, .int 929 0, .int 309 0, .str n164 930]),
  (557, xH n284 n284 (stm 53) (.none) (.str n237 840) (.ref 556)),
  (558, xT []),
  (559, xN []),
  (560, xT [.str n270 935, .str n325 936, .str n335 937, .str n328 938, .str n193 939]),
  (561, xT []),
  (562, xG n285 n285 (stm 54)),
  (563, xF "code" [.str n285 932, .str n285 933, .str n164 934, .int 311 0, .int 3 0, .int 0 0, .int 0 0, .int 3 0, .ref 558, .bool true, .int 181 0, .ref 559, .none, .ref 560, .ref 561, .ref 562, .int 940 0, .int 311 0, .str n164 941]),
  (564, xH n285 n285 (stm 54) (.none) (.str n237 840) (.ref 563)),
  (565, xT []),
  (566, xN []),
  (567, xG n286 n286 (stm 55)),
  (568, xF "code" [.str n286 943, .str n286 944, .str n164 945, .int 320 0, .int 3 0, .int 0 0, .int 0 0, .int 3 0, .ref 565, .bool true, .int 181 0, .ref 566, .none, .none, .none, .ref 567, .int 946 0, .int 320 0, .str n164 947]),
  (569, xH n286 n286 (stm 55) (.none) (.str n237 840) (.ref 568)),
  (570, xT [.none]),
  (571, xT []),
  (572, xN []),
  (573, xG n287 n287 (stm 56)),
  (574, xF "code" [.str n287 949, .str n287 950, .str n164 951, .int 326 0, .int 3 0, .int 0 0, .int 0 0, .int 3 0, .ref 571, .bool true, .int 181 0, .ref 572, .none, .none, .none, .ref 573, .int 952 0, .int 326 0, .str n164 953]),
  (575, xH n287 n287 (stm 56) (.ref 570) (.str n237 840) (.ref 574)),
  (576, xT []),
  (577, xN []),
  (578, xT [.str n235 960, .str n228 961]),
  (579, xT []),
  (580, xG n288 n288 (stm 58)),
  (581, xF "code" [.str n288 957, .str n288 958, .str n164 959, .int 336 0, .int 2 0, .int 0 0, .int 0 0, .int 3 0, .ref 576, .bool true, .int 181 0, .ref 577, .none, .ref 578, .ref 579, .ref 580, .int 962 0, .int 336 0, .str n164 963]),
  (582, xH n288 n288 (stm 58) (.none) (.str n336 955) (.ref 581)),
  (583, xT []),
  (584, xN []),
  (585, xT [.str n235 968, .str n228 969, .str n275 970]),
  (586, xT []),
  (587, xG n289 n289 (stm 59)),
  (588, xF "code" [.str n289 965, .str n289 966, .str n164 967, .int 338 0, .int 2 0, .int 0 0, .int 0 0, .int 3 0, .ref 583, .bool true, .int 181 0, .ref 584, .none, .ref 585, .ref 586, .ref 587, .int 971 0, .int 338 0, .str n164 972]),
  (589, xH n289 n289 (stm 59) (.none) (.str n336 955) (.ref 588)),
  (590, xT []),
  (591, xN []),
  (592, xT [.str n235 977, .str n228 978]),
  (593, xT []),
  (594, xG n290 n290 (stm 60)),
  (595, xF "code" [.str n290 974, .str n290 975, .str n164 976, .int 345 0, .int 2 0, .int 0 0, .int 0 0, .int 3 0, .ref 590, .bool true, .int 181 0, .ref 591, .none, .ref 592, .ref 593, .ref 594, .int 979 0, .int 345 0, .str n164 980]),
  (596, xH n290 n290 (stm 60) (.none) (.str n336 955) (.ref 595)),
  (597, xT []),
  (598, xN []),
  (599, xT [.str n228 985]),
  (600, xT []),
  (601, xG n291 n291 (stm 61)),
  (602, xF "code" [.str n291 982, .str n291 983, .str n164 984, .int 351 0, .int 1 0, .int 0 0, .int 0 0, .int 3 0, .ref 597, .bool true, .int 181 0, .ref 598, .none, .ref 599, .ref 600, .ref 601, .int 986 0, .int 351 0, .str n164 987]),
  (603, xH n291 n291 (stm 61) (.none) (.str n336 955) (.ref 602)),
  (604, xT []),
  (605, xN []),
  (606, xT [.str n235 992, .str n228 993, .str n193 994]),
  (607, xT []),
  (608, xG n292 n292 (stm 62)),
  (609, xF "code" [.str n292 989, .str n292 990, .str n164 991, .int 353 0, .int 3 0, .int 0 0, .int 0 0, .int 3 0, .ref 604, .bool true, .int 181 0, .ref 605, .none, .ref 606, .ref 607, .ref 608, .int 995 0, .int 353 0, .str n164 996]),
  (610, xH n292 n292 (stm 62) (.none) (.str n336 955) (.ref 609)),
  (611, xT []),
  (612, xN []),
  (613, xT [.str n235 1001, .str n228 1002, .str n337 1003, .str n325 1004, .str n338 1005]),
  (614, xT []),
  (615, xG n293 n293 (stm 63)),
  (616, xF "code" [.str n293 998, .str n293 999, .str n164 1000, .int 359 0, .int 3 0, .int 0 0, .int 0 0, .int 3 0, .ref 611, .bool true, .int 181 0, .ref 612, .none, .ref 613, .ref 614, .ref 615, .int 1006 0, .int 359 0, .str n164 1007]),
  (617, xH n293 n293 (stm 63) (.none) (.str n336 955) (.ref 616)),
  (618, xT []),
  (619, xN []),
  (620, xT [.str n235 1012, .str n228 1013, .str n193 1014, .str n337 1015]),
  (621, xT []),
  (622, xG n294 n294 (stm 64)),
  (623, xF "code" [.str n294 1009, .str n294 1010, .str n164 1011, .int 371 0, .int 4 0, .int 0 0, .int 0 0, .int 3 0, .ref 618, .bool true, .int 181 0, .ref 619, .none, .ref 620, .ref 621, .ref 622, .int 1016 0, .int 371 0, .str n164 1017]),
  (624, xH n294 n294 (stm 64) (.none) (.str n336 955) (.ref 623)),
  (625, xT []),
  (626, xN []),
  (627, xT [.str n267 1024, .str n193 1025, .str n339 1026]),
  (628, xT []),
  (629, xG n295 n295 (stm 66)),
  (630, xF "code" [.str n295 1021, .str n295 1022, .str n164 1023, .int 374 0, .int 2 0, .int 0 0, .int 0 0, .int 3 0, .ref 625, .bool true, .int 181 0, .ref 626, .none, .ref 627, .ref 628, .ref 629, .int 1027 0, .int 374 0, .str n164 1028]),
  (631, xH n295 n295 (stm 66) (.none) (.str n340 1019) (.ref 630)),
  (632, xT []),
  (633, xN []),
  (634, xT [.str n193 1033]),
  (635, xT []),
  (636, xG n296 n296 (stm 67)),
  (637, xF "code" [.str n296 1030, .str n296 1031, .str n164 1032, .int 379 0, .int 1 0, .int 0 0, .int 0 0, .int 3 0, .ref 632, .bool true, .int 181 0, .ref 633, .none, .ref 634, .ref 635, .ref 636, .int 1034 0, .int 379 0, .str n164 1035]),
  (638, xH n296 n296 (stm 67) (.none) (.str n340 1019) (.ref 637)),
  (639, xT []),
  (640, xN []),
  (641, xT [.str n341 1040, .str n328 1041, .str n193 1042]),
  (642, xT []),
  (643, xG n297 n297 (stm 68)),
  (644, xF "code" [.str n297 1037, .str n297 1038, .str n164 1039, .int 383 0, .int 1 0, .int 0 0, .int 0 0, .int 3 0, .ref 639, .bool true, .int 181 0, .ref 640, .none, .ref 641, .ref 642, .ref 643, .int 1043 0, .int 383 0, .str n164 1044]),
  (645, xH n297 n297 (stm 68) (.none) (.str n340 1019) (.ref 644)),
  (646, xT []),
  (647, xN []),
  (648, xT [.str n342 1049, .str n235 1050]),
  (649, xT []),
  (650, xG n298 n298 (stm 69)),
  (651, xF "code" [.str n298 1046, .str n298 1047, .str n164 1048, .int 388 0, .int 2 0, .int 0 0, .int 0 0, .int 3 0, .ref 646, .bool true, .int 181 0, .ref 647, .none, .ref 648, .ref 649, .ref 650, .int 1051 0, .int 388 0, .str n164 1052]),
  (652, xH n298 n298 (stm 69) (.none) (.str n340 1019) (.ref 651)),
  (653, xT [.none]),
  (654, xT []),
  (655, xN []),
  (656, xG n299 n299 (stm 70)),
  (657, xF "code" [.str n299 1054, .str n299 1055, .str n164 1056, .int 392 0, .int 4 0, .int 0 0, .int 0 0, .int 3 0, .ref 654, .bool true, .int 181 0, .ref 655, .none, .none, .none, .ref 656, .int 1057 0, .int 392 0, .str n164 1058]),
  (658, xH n299 n299 (stm 70) (.ref 653) (.str n340 1019) (.ref 657)),
  (659, xT []),
  (660, xN []),
  (661, xT [.str n235 1063, .str n275 1064]),
  (662, xT []),
  (663, xG n300 n300 (stm 71)),
  (664, xF "code" [.str n300 1060, .str n300 1061, .str n164 1062, .int 405 0, .int 1 0, .int 0 0, .int 0 0, .int 3 0, .ref 659, .bool true, .int 181 0, .ref 660, .none, .ref 661, .ref 662, .ref 663, .int 1065 0, .int 405 0, .str n164 1066]),
  (665, xH n300 n300 (stm 71) (.none) (.str n340 1019) (.ref 664)),
  (666, xT []),
  (667, xN []),
  (668, xT [.str n228 1071]),
  (669, xT []),
  (670, xG n301 n301 (stm 72)),
  (671, xF "code" [.str n301 1068, .str n301 1069, .str n164 1070, .int 410 0, .int 1 0, .int 0 0, .int 0 0, .int 3 0, .ref 666, .bool true, .int 181 0, .ref 667, .none, .ref 668, .ref 669, .ref 670, .int 1072 0, .int 410 0, .str n164 1073]),
  (672, xH n301 n301 (stm 72) (.none) (.str n340 1019) (.ref 671)),
  (673, xT []),
  (674, xN []),
  (675, xT [.str n235 1078, .str n228 1079, .str n343 1080, .str n325 1081, .str n344 1082]),
  (676, xT []),
  (677, xG n302 n302 (stm 73)),
  (678, xF "code" [.str n302 1075, .str n302 1076, .str n164 1077, .int 412 0, .int 2 0, .int 0 0, .int 0 0, .int 3 0, .ref 673, .bool true, .int 181 0, .ref 674, .none, .ref 675, .ref 676, .ref 677, .int 1083 0, .int 412 0, .str n164 1084]),
  (679, xH n302 n302 (stm 73) (.none) (.str n340 1019) (.ref 678)),
  (680, xT []),
  (681, xN []),
  (682, xT [.str n345 1089, .str n235 1090, .str n346 1091]),
  (683, xT []),
  (684, xG n303 n303 (stm 74)),
  (685, xF "code" [.str n303 1086, .str n303 1087, .str n164 1088, .int 421 0, .int 2 0, .int 0 0, .int 0 0, .int 3 0, .ref 680, .bool true, .int 181 0, .ref 681, .none, .ref 682, .ref 683, .ref 684, .int 1092 0, .int 421 0, .str n164 1093]),
  (686, xH n303 n303 (stm 74) (.none) (.str n340 1019) (.ref 685)),
  (687, xT []),
  (688, xN []),
  (689, xT [.str n281 1100, .str n228 1101, .str n235 1102, .str n347 1103, .str n348 1104, .str n325 1105, .str n193 1106, .str n349 1107]),
  (690, xT []),
  (691, xG n304 n304 (stm 76)),
  (692, xF "code" [.str n304 1097, .str n304 1098, .str n164 1099, .int 427 0, .int 4 0, .int 0 0, .int 0 0, .int 3 0, .ref 687, .bool true, .int 181 0, .ref 688, .none, .ref 689, .ref 690, .ref 691, .int 1108 0, .int 427 0, .str n164 1109]),
  (693, xH n304 n304 (stm 76) (.none) (.str n350 1095) (.ref 692)),
  (694, xT []),
  (695, xN []),
  (696, xT [.str n281 1114, .str n228 1115, .str n193 1116, .str n235 1117, .str n347 1118]),
  (697, xT []),
  (698, xG n305 n305 (stm 77)),
  (699, xF "code" [.str n305 1111, .str n305 1112, .str n164 1113, .int 444 0, .int 5 0, .int 0 0, .int 0 0, .int 3 0, .ref 694, .bool true, .int 181 0, .ref 695, .none, .ref 696, .ref 697, .ref 698, .int 1119 0, .int 444 0, .str n164 1120]),
  (700, xH n305 n305 (stm 77) (.none) (.str n350 1095) (.ref 699)),
  (701, xT []),
  (702, xN []),
  (703, xT [.str n351 1125, .str n352 1126]),
  (704, xT []),
  (705, xG n306 n306 (stm 78)),
  (706, xF "code" [.str n306 1122, .str n306 1123, .str n164 1124, .int 449 0, .int 1 0, .int 0 0, .int 0 0, .int 3 0, .ref 701, .bool true, .int 181 0, .ref 702, .none, .ref 703, .ref 704, .ref 705, .int 1127 0, .int 449 0, .str n164 1128]),
  (707, xH n306 n306 (stm 78) (.none) (.str n350 1095) (.ref 706)),
  (708, xT []),
  (709, xN []),
  (710, xT [.str n228 1133, .str n187 1134, .str n353 1135, .str n223 1136, .str n230 1137, .str n328 1138, .str n214 1139]),
  (711, xT []),
  (712, xG n307 n307 (stm 79)),
  (713, xF "code" [.str n307 1130, .str n307 1131, .str n164 1132, .int 455 0, .int 3 0, .int 0 0, .int 0 0, .int 3 0, .ref 708, .bool true, .int 181 0, .ref 709, .none, .ref 710, .ref 711, .ref 712, .int 1140 0, .int 455 0, .str n164 1141]),
  (714, xH n307 n307 (stm 79) (.none) (.str n350 1095) (.ref 713)),
  (715, xT []),
  (716, xN []),
  (717, xT [.str n281 1146, .str n354 1147, .str n355 1148, .str n187 1149, .str n351 1150, .str n353 1151, .str n235 1152, .str n223 1153, .str n230 1154, .str n328 1155, .str n193 1156, .str n356 1157, .str n185 1158]),
  (718, xT []),
  (719, xG n308 n308 (stm 80)),
  (720, xF "code" [.str n308 1143, .str n308 1144, .str n164 1145, .int 462 0, .int 7 0, .int 0 0, .int 0 0, .int 3 0, .ref 715, .bool true, .int 181 0, .ref 716, .none, .ref 717, .ref 718, .ref 719, .int 1159 0, .int 462 0, .str n164 1160]),
  (721, xH n308 n308 (stm 80) (.none) (.str n350 1095) (.ref 720)),
  (722, xT []),
  (723, xN []),
  (724, xT [.str n281 1165, .str n354 1166, .str n355 1167, .str n187 1168, .str n351 1169, .str n353 1170, .str n235 1171, .str n270 1172, .str n328 1173, .str n193 1174]),
  (725, xT []),
  (726, xG n309 n309 (stm 81)),
  (727, xF "code" [.str n309 1162, .str n309 1163, .str n164 1164, .int 473 0, .int 7 0, .int 0 0, .int 0 0, .int 3 0, .ref 722, .bool true, .int 181 0, .ref 723, .none, .ref 724, .ref 725, .ref 726, .int 1175 0, .int 473 0, .str n164 1176]),
  (728, xH n309 n309 (stm 81) (.none) (.str n350 1095) (.ref 727)),
  (729, xT []),
  (730, xN []),
  (731, xT [.str n193 1181]),
  (732, xT []),
  (733, xG n310 n310 (stm 82)),
  (734, xF "code" [.str n310 1178, .str n310 1179, .str n164 1180, .int 479 0, .int 1 0, .int 0 0, .int 0 0, .int 3 0, .ref 729, .bool true, .int 181 0, .ref 730, .none, .ref 731, .ref 732, .ref 733, .int 1182 0, .int 479 0, .str n164 1183]),
  (735, xH n310 n310 (stm 82) (.none) (.str n350 1095) (.ref 734)),
  (736, xT []),
  (737, xN []),
  (738, xT [.str n281 1188, .str n354 1189, .str n355 1190, .str n187 1191, .str n351 1192, .str n353 1193, .str n357 1194, .str n235 1195, .str n270 1196]),
  (739, xT []),
  (740, xG n311 n311 (stm 83)),
  (741, xF "code" [.str n311 1185, .str n311 1186, .str n164 1187, .int 481 0, .int 8 0, .int 0 0, .int 0 0, .int 3 0, .ref 736, .bool true, .int 181 0, .ref 737, .none, .ref 738, .ref 739, .ref 740, .int 1197 0, .int 481 0, .str n164 1198]),
  (742, xH n311 n311 (stm 83) (.none) (.str n350 1095) (.ref 741)),
  (743, xT []),
  (744, xN []),
  (745, xT [.str n355 1203, .str n351 1204, .str n358 1205]),
  (746, xT []),
  (747, xG n312 n312 (stm 84)),
  (748, xF "code" [.str n312 1200, .str n312 1201, .str n164 1202, .int 491 0, .int 3 0, .int 0 0, .int 0 0, .int 3 0, .ref 743, .bool true, .int 181 0, .ref 744, .none, .ref 745, .ref 746, .ref 747, .int 1206 0, .int 491 0, .str n164 1207]),
  (749, xH n312 n312 (stm 84) (.none) (.str n350 1095) (.ref 748)),
  (750, xT [.none]),
  (751, xT []),
  (752, xN []),
  (753, xT [.str n281 1212, .str n187 1213, .str n351 1214, .str n235 1215, .str n358 1216, .str n228 1217, .str n355 1218, .str n354 1219]),
  (754, xT []),
  (755, xG n313 n313 (stm 85)),
  (756, xF "code" [.str n313 1209, .str n313 1210, .str n164 1211, .int 495 0, .int 5 0, .int 0 0, .int 0 0, .int 3 0, .ref 751, .bool true, .int 181 0, .ref 752, .none, .ref 753, .ref 754, .ref 755, .int 1220 0, .int 495 0, .str n164 1221]),
  (757, xH n313 n313 (stm 85) (.ref 750) (.str n350 1095) (.ref 756)),
  (758, xT []),
  (759, xN []),
  (760, xT [.str n359 1226]),
  (761, xT []),
  (762, xG n314 n314 (stm 86)),
  (763, xF "code" [.str n314 1223, .str n314 1224, .str n164 1225, .int 506 0, .int 1 0, .int 0 0, .int 0 0, .int 3 0, .ref 758, .bool true, .int 181 0, .ref 759, .none, .ref 760, .ref 761, .ref 762, .int 1227 0, .int 506 0, .str n164 1228]),
  (764, xH n314 n314 (stm 86) (.none) (.str n350 1095) (.ref 763)),
  (765, xT [.none]),
  (766, xT []),
  (767, xN []),
  (768, xT [.str n281 1233, .str n187 1234, .str n351 1235, .str n359 1236, .str n235 1237, .str n358 1238, .str n357 1239, .str n228 1240, .str n353 1241, .str n355 1242, .str n354 1243]),
  (769, xT []),
  (770, xG n315 n315 (stm 87)),
  (771, xF "code" [.str n315 1230, .str n315 1231, .str n164 1232, .int 510 0, .int 6 0, .int 0 0, .int 0 0, .int 3 0, .ref 766, .bool true, .int 181 0, .ref 767, .none, .ref 768, .ref 769, .ref 770, .int 1244 0, .int 510 0, .str n164 1245]),
  (772, xH n315 n315 (stm 87) (.ref 765) (.str n350 1095) (.ref 771)),
  (773, xT []),
  (774, xN []),
  (775, xT [.str n281 1250, .str n354 1251, .str n355 1252, .str n187 1253, .str n351 1254, .str n353 1255, .str n357 1256, .str n235 1257]),
  (776, xT []),
  (777, xG n316 n316 (stm 88)),
  (778, xF "code" [.str n316 1247, .str n316 1248, .str n164 1249, .int 522 0, .int 8 0, .int 0 0, .int 0 0, .int 3 0, .ref 773, .bool true, .int 181 0, .ref 774, .none, .ref 775, .ref 776, .ref 777, .int 1258 0, .int 522 0, .str n164 1259]),
  (779, xH n316 n316 (stm 88) (.none) (.str n350 1095) (.ref 778)),
  (780, xT []),
  (781, xF "builtin_function_or_method" [.builtin "type.__prepare__", .type "type"]),
  (782, xD [xE P n178 1270 (.str n282 1261), xE P n179 1272 (.str n317 1271), xE P n180 1274 (.int 530 1273), xE P n183 1282 (.ref 793), xE P n181 1285 (.ref 794)] 5),
  (783, xT []),
  (784, xN [.int 532 0, .int 4 0, .ref 792]),
  (785, xF "code" [.str n317 1265, .str n317 1266, .str n164 1267, .int 530 0, .int 0 0, .int 0 0, .int 0 0, .int 0 0, .ref 783, .bool false, .int 181 0, .ref 784, .none, .none, .none, .none, .int 1268 0, .int 530 0, .str n164 1269]),
  (786, xR [some (.ref 785), some (.ref 3), some (.ref 782), none, some (.str n282 1261), none, some (.ref 0)]),
  (787, xT []),
  (788, xN []),
  (789, xT [.str n184 1278, .str n360 1279]),
  (790, xT []),
  (791, xG n183 n361 (mth 90 0)),
  (792, xF "code" [.str n183 1275, .str n361 1276, .str n164 1277, .int 532 0, .int 2 0, .int 0 0, .int 0 0, .int 3 0, .ref 787, .bool true, .int 181 0, .ref 788, .none, .ref 789, .ref 790, .ref 791, .int 1280 0, .int 532 0, .str n164 1281]),
  (793, xH n183 n361 (mth 90 0) (.none) (.str n282 1261) (.ref 792)),
  (794, xT [.str n362 1283, .str n360 1284]),
  (795, xD [xE P n178 1270 (.str n282 1261), xE P n180 1274 (.int 530 1273), xE P n183 1282 (.ref 793), xE P n181 1285 (.ref 794), xE P n221 1287 (.ref 797), xE P n182 1289 (.ref 798), xE P n2 1290 (.none)] 4),
  (796, xC n317 n317 [.type "object"] [.ref 796, .type "object"] 795 [] [none, none, some (.str n317 1263), some (.str n317 1271), some (.builtin "object.__new__"), some (.bool true)]),
  (797, xF "getset_descriptor" [.str n221 1286, .ref 796, .builtin "function.__dict__", .builtin "function.__dict__#set"]),
  (798, xF "getset_descriptor" [.str n182 1288, .ref 796, .builtin "ExceptionGroup.__weakref__", .none]),
  (799, xF "super" [.ref 796, .ref 796, .ref 796]),
  (800, xF "builtin_function_or_method" [.builtin "object.__init_subclass__", .ref 796])]
noncomputable def t4 (P : Params) : BT := forceT (putD (t3 P) (d4 P)) id
noncomputable def s4 (P : Params) (os : OsState) : SharedT := ⟨t4 P, 801, (boot_heap P).life, ⟨[]⟩, boot_drawn, 1293, os⟩
noncomputable def p4 : Pos := ⟨530, 0, 534, 19⟩
noncomputable def d5 (P : Params) : List (Nat × Obj) := [
  (3, xD [xE P n0 165 (.str n363 1494), xE P n2 166 (.none), xE P n3 167 (.none), xE P n4 168 (.builtin "__main__.__loader__#opaque"), xE P n5 169 (.none), xE P n161 170 (.ref 6), xE P n162 171 (.ref 4), xE P n163 173 (.str n164 172), xE P n165 174 (.none), xE P n170 193 (.ref 21), xE P n171 215 (.ref 31), xE P n172 240 (.ref 51), xE P n173 269 (.ref 70), xE P n174 294 (.ref 89), xE P n175 321 (.ref 108), xE P n176 348 (.ref 127), xE P n198 357 (.ref 136), xE P n199 367 (.ref 143), xE P n200 375 (.ref 150), xE P n201 383 (.ref 157), xE P n202 394 (.ref 164), xE P n203 425 (.ref 181), xE P n204 467 (.ref 210), xE P n205 498 (.ref 231), xE P n206 533 (.ref 253), xE P n207 569 (.ref 275), xE P n238 606 (.ref 297), xE P n239 641 (.ref 318), xE P n240 672 (.ref 339), xE P n241 678 (.ref 350), xE P n242 685 (.ref 357), xE P n243 692 (.ref 364), xE P n244 700 (.ref 371), xE P n245 707 (.ref 378), xE P n246 714 (.ref 385), xE P n247 721 (.ref 392), xE P n248 730 (.ref 399), xE P n249 738 (.ref 406), xE P n188 747 (.ref 413), xE P n250 755 (.ref 420), xE P n251 762 (.ref 427), xE P n252 772 (.ref 434), xE P n253 778 (.ref 439), xE P n254 786 (.ref 446), xE P n255 792 (.ref 451), xE P n256 800 (.ref 458), xE P n257 810 (.ref 465), xE P n258 816 (.ref 470), xE P n259 824 (.ref 477), xE P n260 830 (.ref 482), xE P n261 839 (.ref 489), xE P n283 924 (.ref 546), xE P n284 931 (.ref 557), xE P n285 942 (.ref 564), xE P n286 948 (.ref 569), xE P n287 954 (.ref 575), xE P n288 964 (.ref 582), xE P n289 973 (.ref 589), xE P n290 981 (.ref 596), xE P n291 988 (.ref 603), xE P n292 997 (.ref 610), xE P n293 1008 (.ref 617), xE P n294 1018 (.ref 624), xE P n295 1029 (.ref 631), xE P n296 1036 (.ref 638), xE P n297 1045 (.ref 645), xE P n298 1053 (.ref 652), xE P n299 1059 (.ref 658), xE P n300 1067 (.ref 665), xE P n301 1074 (.ref 672), xE P n302 1085 (.ref 679), xE P n303 1094 (.ref 686), xE P n304 1110 (.ref 693), xE P n305 1121 (.ref 700), xE P n306 1129 (.ref 707), xE P n307 1142 (.ref 714), xE P n308 1161 (.ref 721), xE P n309 1177 (.ref 728), xE P n310 1184 (.ref 735), xE P n311 1199 (.ref 742), xE P n312 1208 (.ref 749), xE P n313 1222 (.ref 757), xE P n314 1229 (.ref 764), xE P n315 1246 (.ref 772), xE P n316 1260 (.ref 779), xE P n317 1292 (.ref 796), xE P n364 1327 (.ref 817), xE P n365 1337 (.ref 828), xE P n366 1345 (.ref 835), xE P n367 1355 (.ref 842), xE P n368 1361 (.ref 847), xE P n369 1373 (.ref 854), xE P n370 1384 (.ref 861), xE P n371 1395 (.ref 868), xE P n372 1404 (.ref 875), xE P n373 1414 (.ref 882), xE P n374 1424 (.ref 889), xE P n375 1435 (.ref 896), xE P n376 1449 (.ref 903), xE P n377 1459 (.ref 910), xE P n378 1493 (.ref 927), xE P n379 1534 (.ref 948)] 102),
  (12, xN [.int 1 0, .int 0 0, .ref 20, .int 5 0, .int 0 0, .ref 27, .int 7 0, .int 0 0, .ref 40, .int 11 0, .int 0 0, .ref 59, .int 17 0, .int 0 0, .ref 78, .int 21 0, .int 0 0, .ref 97, .int 26 0, .int 0 0, .ref 116, .int 32 0, .int 0 0, .ref 135, .int 35 0, .int 0 0, .ref 142, .int 41 0, .int 0 0, .ref 149, .int 47 0, .int 0 0, .ref 156, .int 56 0, .int 0 0, .ref 163, .int 65 0, .int 0 0, .ref 170, .int 70 0, .int 0 0, .ref 191, .int 81 0, .int 0 0, .ref 220, .int 87 0, .int 0 0, .ref 241, .int 95 0, .int 0 0, .ref 263, .int 103 0, .int 0 0, .ref 285, .int 113 0, .int 0 0, .ref 307, .int 122 0, .int 0 0, .ref 328, .int 128 0, .int 0 0, .ref 349, .int 130 0, .int 0 0, .ref 356, .int 134 0, .int 0 0, .ref 363, .int 136 0, .int 0 0, .ref 370, .int 147 0, .int 0 0, .ref 377, .int 149 0, .int 0 0, .ref 384, .int 151 0, .int 0 0, .ref 391, .int 156 0, .int 0 0, .ref 398, .int 162 0, .int 0 0, .ref 405, .int 172 0, .int 0 0, .ref 412, .int 187 0, .int 0 0, .ref 419, .int 189 0, .int 0 0, .ref 426, .int 192 0, .int 0 0, .ref 433, .int 196 0, .int 0 0, .ref 438, .int 212 0, .int 0 0, .ref 445, .int 217 0, .int 0 0, .ref 450, .int 222 0, .int 0 0, .ref 457, .int 228 0, .int 0 0, .ref 464, .int 231 0, .int 0 0, .ref 469, .int 242 0, .int 0 0, .ref 476, .int 246 0, .int 0 0, .ref 481, .int 251 0, .int 0 0, .ref 488, .int 256 0, .int 0 0, .ref 495, .int 309 0, .int 0 0, .ref 556, .int 311 0, .int 0 0, .ref 563, .int 320 0, .int 0 0, .ref 568, .int 326 0, .int 0 0, .ref 574, .int 336 0, .int 0 0, .ref 581, .int 338 0, .int 0 0, .ref 588, .int 345 0, .int 0 0, .ref 595, .int 351 0, .int 0 0, .ref 602, .int 353 0, .int 0 0, .ref 609, .int 359 0, .int 0 0, .ref 616, .int 371 0, .int 0 0, .ref 623, .int 374 0, .int 0 0, .ref 630, .int 379 0, .int 0 0, .ref 637, .int 383 0, .int 0 0, .ref 644, .int 388 0, .int 0 0, .ref 651, .int 392 0, .int 0 0, .ref 657, .int 405 0, .int 0 0, .ref 664, .int 410 0, .int 0 0, .ref 671, .int 412 0, .int 0 0, .ref 678, .int 421 0, .int 0 0, .ref 685, .int 427 0, .int 0 0, .ref 692, .int 444 0, .int 0 0, .ref 699, .int 449 0, .int 0 0, .ref 706, .int 455 0, .int 0 0, .ref 713, .int 462 0, .int 0 0, .ref 720, .int 473 0, .int 0 0, .ref 727, .int 479 0, .int 0 0, .ref 734, .int 481 0, .int 0 0, .ref 741, .int 491 0, .int 0 0, .ref 748, .int 495 0, .int 0 0, .ref 756, .int 506 0, .int 0 0, .ref 763, .int 510 0, .int 0 0, .ref 771, .int 522 0, .int 0 0, .ref 778, .int 530 0, .int 0 0, .ref 785, .int 535 0, .int 0 0, .ref 806, .int 544 0, .int 0 0, .ref 827, .int 556 0, .int 0 0, .ref 834, .int 562 0, .int 0 0, .ref 841, .int 569 0, .int 0 0, .ref 846, .int 576 0, .int 0 0, .ref 853, .int 584 0, .int 0 0, .ref 860, .int 592 0, .int 0 0, .ref 867, .int 600 0, .int 0 0, .ref 874, .int 604 0, .int 0 0, .ref 881, .int 627 0, .int 0 0, .ref 888, .int 648 0, .int 0 0, .ref 895, .int 668 0, .int 0 0, .ref 902, .int 691 0, .int 0 0, .ref 909, .int 706 0, .int 0 0, .ref 916, .int 714 0, .int 0 0, .ref 937]),
  (801, xT []),
  (802, xF "builtin_function_or_method" [.builtin "type.__prepare__", .type "type"]),
  (803, xD [xE P n178 1300 (.str n282 1261), xE P n179 1302 (.str n364 1301), xE P n180 1304 (.int 535 1303), xE P n183 1313 (.ref 814), xE P n181 1320 (.ref 815)] 5),
  (804, xT []),
  (805, xN [.int 537 0, .int 4 0, .ref 813]),
  (806, xF "code" [.str n364 1295, .str n364 1296, .str n164 1297, .int 535 0, .int 0 0, .int 0 0, .int 0 0, .int 0 0, .ref 804, .bool false, .int 181 0, .ref 805, .none, .none, .none, .none, .int 1298 0, .int 535 0, .str n164 1299]),
  (807, xR [some (.ref 806), some (.ref 3), some (.ref 803), none, some (.str n282 1261), none, some (.ref 0)]),
  (808, xT []),
  (809, xN []),
  (810, xT [.str n184 1308, .str n232 1309, .str n235 1310]),
  (811, xT []),
  (812, xG n183 n380 (mth 91 0)),
  (813, xF "code" [.str n183 1305, .str n380 1306, .str n164 1307, .int 537 0, .int 3 0, .int 0 0, .int 0 0, .int 3 0, .ref 808, .bool true, .int 181 0, .ref 809, .none, .ref 810, .ref 811, .ref 812, .int 1311 0, .int 537 0, .str n164 1312]),
  (814, xH n183 n380 (mth 91 0) (.none) (.str n282 1261) (.ref 813)),
  (815, xT [.str n381 1314, .str n235 1315, .str n382 1316, .str n325 1317, .str n383 1318, .str n384 1319]),
  (816, xD [xE P n178 1300 (.str n282 1261), xE P n180 1304 (.int 535 1303), xE P n183 1313 (.ref 814), xE P n181 1320 (.ref 815), xE P n221 1322 (.ref 818), xE P n182 1324 (.ref 819), xE P n2 1325 (.none)] 4),
  (817, xC n364 n364 [.type "object"] [.ref 817, .type "object"] 816 [] [none, none, some (.str n364 1293), some (.str n364 1301), some (.builtin "object.__new__"), some (.bool true)]),
  (818, xF "getset_descriptor" [.str n221 1321, .ref 817, .builtin "function.__dict__", .builtin "function.__dict__#set"]),
  (819, xF "getset_descriptor" [.str n182 1323, .ref 817, .builtin "ExceptionGroup.__weakref__", .none]),
  (820, xF "super" [.ref 817, .ref 817, .ref 817]),
  (821, xF "builtin_function_or_method" [.builtin "object.__init_subclass__", .ref 817]),
  (822, xT []),
  (823, xN []),
  (824, xT [.str n281 1331, .str n228 1332, .str n235 1333, .str n275 1334]),
  (825, xT []),
  (826, xG n365 n365 (stm 92)),
  (827, xF "code" [.str n365 1328, .str n365 1329, .str n164 1330, .int 544 0, .int 3 0, .int 0 0, .int 0 0, .int 3 0, .ref 822, .bool true, .int 181 0, .ref 823, .none, .ref 824, .ref 825, .ref 826, .int 1335 0, .int 544 0, .str n164 1336]),
  (828, xH n365 n365 (stm 92) (.none) (.str n282 1261) (.ref 827)),
  (829, xT []),
  (830, xN []),
  (831, xT [.str n275 1341, .str n228 1342]),
  (832, xT []),
  (833, xG n366 n366 (stm 93)),
  (834, xF "code" [.str n366 1338, .str n366 1339, .str n164 1340, .int 556 0, .int 2 0, .int 0 0, .int 0 0, .int 3 0, .ref 829, .bool true, .int 181 0, .ref 830, .none, .ref 831, .ref 832, .ref 833, .int 1343 0, .int 556 0, .str n164 1344]),
  (835, xH n366 n366 (stm 93) (.none) (.str n282 1261) (.ref 834)),
  (836, xT []),
  (837, xN []),
  (838, xT [.str n281 1349, .str n385 1350, .str n228 1351, .str n346 1352]),
  (839, xT []),
  (840, xG n367 n367 (stm 94)),
  (841, xF "code" [.str n367 1346, .str n367 1347, .str n164 1348, .int 562 0, .int 3 0, .int 0 0, .int 0 0, .int 3 0, .ref 836, .bool true, .int 181 0, .ref 837, .none, .ref 838, .ref 839, .ref 840, .int 1353 0, .int 562 0, .str n164 1354]),
  (842, xH n367 n367 (stm 94) (.none) (.str n282 1261) (.ref 841)),
  (843, xT []),
  (844, xN []),
  (845, xG n368 n368 (stm 95)),
  (846, xF "code" [.str n368 1356, .str n368 1357, .str n164 1358, .int 569 0, .int 3 0, .int 0 0, .int 0 0, .int 3 0, .ref 843, .bool true, .int 181 0, .ref 844, .none, .none, .none, .ref 845, .int 1359 0, .int 569 0, .str n164 1360]),
  (847, xH n368 n368 (stm 95) (.none) (.str n282 1261) (.ref 846)),
  (848, xT []),
  (849, xN []),
  (850, xT [.str n281 1365, .str n385 1366, .str n386 1367, .str n217 1368, .str n387 1369, .str n388 1370]),
  (851, xT []),
  (852, xG n369 n369 (stm 96)),
  (853, xF "code" [.str n369 1362, .str n369 1363, .str n164 1364, .int 576 0, .int 3 0, .int 0 0, .int 0 0, .int 3 0, .ref 848, .bool true, .int 181 0, .ref 849, .none, .ref 850, .ref 851, .ref 852, .int 1371 0, .int 576 0, .str n164 1372]),
  (854, xH n369 n369 (stm 96) (.none) (.str n282 1261) (.ref 853)),
  (855, xT []),
  (856, xN []),
  (857, xT [.str n281 1377, .str n385 1378, .str n386 1379, .str n389 1380, .str n388 1381]),
  (858, xT []),
  (859, xG n370 n370 (stm 97)),
  (860, xF "code" [.str n370 1374, .str n370 1375, .str n164 1376, .int 584 0, .int 3 0, .int 0 0, .int 0 0, .int 3 0, .ref 855, .bool true, .int 181 0, .ref 856, .none, .ref 857, .ref 858, .ref 859, .int 1382 0, .int 584 0, .str n164 1383]),
  (861, xH n370 n370 (stm 97) (.none) (.str n282 1261) (.ref 860)),
  (862, xT []),
  (863, xN []),
  (864, xT [.str n281 1388, .str n385 1389, .str n386 1390, .str n269 1391, .str n193 1392]),
  (865, xT []),
  (866, xG n371 n371 (stm 98)),
  (867, xF "code" [.str n371 1385, .str n371 1386, .str n164 1387, .int 592 0, .int 3 0, .int 0 0, .int 0 0, .int 3 0, .ref 862, .bool true, .int 181 0, .ref 863, .none, .ref 864, .ref 865, .ref 866, .int 1393 0, .int 592 0, .str n164 1394]),
  (868, xH n371 n371 (stm 98) (.none) (.str n282 1261) (.ref 867)),
  (869, xT []),
  (870, xN []),
  (871, xT [.str n281 1399, .str n385 1400, .str n390 1401]),
  (872, xT []),
  (873, xG n372 n372 (stm 99)),
  (874, xF "code" [.str n372 1396, .str n372 1397, .str n164 1398, .int 600 0, .int 3 0, .int 0 0, .int 0 0, .int 3 0, .ref 869, .bool true, .int 181 0, .ref 870, .none, .ref 871, .ref 872, .ref 873, .int 1402 0, .int 600 0, .str n164 1403]),
  (875, xH n372 n372 (stm 99) (.none) (.str n282 1261) (.ref 874)),
  (876, xT []),
  (877, xN []),
  (878, xT [.str n281 1408, .str n385 1409, .str n386 1410, .str n228 1411]),
  (879, xT []),
  (880, xG n373 n373 (stm 100)),
  (881, xF "code" [.str n373 1405, .str n373 1406, .str n164 1407, .int 604 0, .int 3 0, .int 0 0, .int 0 0, .int 3 0, .ref 876, .bool true, .int 181 0, .ref 877, .none, .ref 878, .ref 879, .ref 880, .int 1412 0, .int 604 0, .str n164 1413]),
  (882, xH n373 n373 (stm 100) (.none) (.str n282 1261) (.ref 881)),
  (883, xT []),
  (884, xN []),
  (885, xT [.str n281 1418, .str n385 1419, .str n386 1420, .str n228 1421]),
  (886, xT []),
  (887, xG n374 n374 (stm 101)),
  (888, xF "code" [.str n374 1415, .str n374 1416, .str n164 1417, .int 627 0, .int 3 0, .int 0 0, .int 0 0, .int 3 0, .ref 883, .bool true, .int 181 0, .ref 884, .none, .ref 885, .ref 886, .ref 887, .int 1422 0, .int 627 0, .str n164 1423]),
  (889, xH n374 n374 (stm 101) (.none) (.str n282 1261) (.ref 888)),
  (890, xT []),
  (891, xN []),
  (892, xT [.str n281 1428, .str n385 1429, .str n386 1430, .str n228 1431, .str n360 1432]),
  (893, xT []),
  (894, xG n375 n375 (stm 102)),
  (895, xF "code" [.str n375 1425, .str n375 1426, .str n164 1427, .int 648 0, .int 3 0, .int 0 0, .int 0 0, .int 3 0, .ref 890, .bool true, .int 181 0, .ref 891, .none, .ref 892, .ref 893, .ref 894, .int 1433 0, .int 648 0, .str n164 1434]),
  (896, xH n375 n375 (stm 102) (.none) (.str n282 1261) (.ref 895)),
  (897, xT []),
  (898, xN []),
  (899, xT [.str n281 1439, .str n385 1440, .str n386 1441, .str n228 1442, .str n384 1443, .str n358 1444, .str n193 1445, .str n351 1446]),
  (900, xT []),
  (901, xG n376 n376 (stm 103)),
  (902, xF "code" [.str n376 1436, .str n376 1437, .str n164 1438, .int 668 0, .int 3 0, .int 0 0, .int 0 0, .int 3 0, .ref 897, .bool true, .int 181 0, .ref 898, .none, .ref 899, .ref 900, .ref 901, .int 1447 0, .int 668 0, .str n164 1448]),
  (903, xH n376 n376 (stm 103) (.none) (.str n282 1261) (.ref 902)),
  (904, xT []),
  (905, xN []),
  (906, xT [.str n281 1453, .str n385 1454, .str n386 1455, .str n228 1456]),
  (907, xT []),
  (908, xG n377 n377 (stm 104)),
  (909, xF "code" [.str n377 1450, .str n377 1451, .str n164 1452, .int 691 0, .int 3 0, .int 0 0, .int 0 0, .int 3 0, .ref 904, .bool true, .int 181 0, .ref 905, .none, .ref 906, .ref 907, .ref 908, .int 1457 0, .int 691 0, .str n164 1458]),
  (910, xH n377 n377 (stm 104) (.none) (.str n282 1261) (.ref 909)),
  (911, xT []),
  (912, xF "builtin_function_or_method" [.builtin "type.__prepare__", .type "type"]),
  (913, xD [xE P n178 1469 (.str n391 1460), xE P n179 1471 (.str n378 1470), xE P n180 1473 (.int 706 1472), xE P n183 1481 (.ref 924), xE P n181 1486 (.ref 925)] 5),
  (914, xT []),
  (915, xN [.int 708 0, .int 4 0, .ref 923]),
  (916, xF "code" [.str n378 1464, .str n378 1465, .str n164 1466, .int 706 0, .int 0 0, .int 0 0, .int 0 0, .int 0 0, .ref 914, .bool false, .int 181 0, .ref 915, .none, .none, .none, .none, .int 1467 0, .int 706 0, .str n164 1468]),
  (917, xR [some (.ref 916), some (.ref 3), some (.ref 913), none, some (.str n391 1460), none, some (.ref 0)]),
  (918, xT []),
  (919, xN []),
  (920, xT [.str n184 1477, .str n267 1478]),
  (921, xT []),
  (922, xG n183 n392 (mth 106 0)),
  (923, xF "code" [.str n183 1474, .str n392 1475, .str n164 1476, .int 708 0, .int 2 0, .int 0 0, .int 0 0, .int 3 0, .ref 918, .bool true, .int 181 0, .ref 919, .none, .ref 920, .ref 921, .ref 922, .int 1479 0, .int 708 0, .str n164 1480]),
  (924, xH n183 n392 (mth 106 0) (.none) (.str n391 1460) (.ref 923)),
  (925, xT [.str n381 1482, .str n393 1483, .str n267 1484, .str n383 1485]),
  (926, xD [xE P n178 1469 (.str n391 1460), xE P n180 1473 (.int 706 1472), xE P n183 1481 (.ref 924), xE P n181 1486 (.ref 925), xE P n221 1488 (.ref 928), xE P n182 1490 (.ref 929), xE P n2 1491 (.none)] 4),
  (927, xC n378 n378 [.type "object"] [.ref 927, .type "object"] 926 [] [none, none, some (.str n378 1462), some (.str n378 1470), some (.builtin "object.__new__"), some (.bool true)]),
  (928, xF "getset_descriptor" [.str n221 1487, .ref 927, .builtin "function.__dict__", .builtin "function.__dict__#set"]),
  (929, xF "getset_descriptor" [.str n182 1489, .ref 927, .builtin "ExceptionGroup.__weakref__", .none]),
  (930, xF "super" [.ref 927, .ref 927, .ref 927]),
  (931, xF "builtin_function_or_method" [.builtin "object.__init_subclass__", .ref 927]),
  (932, xT []),
  (933, xF "builtin_function_or_method" [.builtin "type.__prepare__", .type "type"]),
  (934, xD [xE P n178 1503 (.str n363 1494), xE P n179 1505 (.str n379 1504), xE P n180 1507 (.int 714 1506), xE P n183 1519 (.ref 945), xE P n181 1527 (.ref 946)] 5),
  (935, xT []),
  (936, xN [.int 716 0, .int 4 0, .ref 944]),
  (937, xF "code" [.str n379 1498, .str n379 1499, .str n164 1500, .int 714 0, .int 0 0, .int 0 0, .int 0 0, .int 0 0, .ref 935, .bool false, .int 181 0, .ref 936, .none, .none, .none, .none, .int 1501 0, .int 714 0, .str n164 1502]),
  (938, xR [some (.ref 937), some (.ref 3), some (.ref 934), none, some (.str n363 1494), none, some (.ref 0)]),
  (939, xT []),
  (940, xN []),
  (941, xT [.str n184 1511, .str n187 1512, .str n394 1513, .str n235 1514, .str n395 1515, .str n270 1516]),
  (942, xT []),
  (943, xG n183 n396 (mth 108 0)),
  (944, xF "code" [.str n183 1508, .str n396 1509, .str n164 1510, .int 716 0, .int 6 0, .int 0 0, .int 0 0, .int 3 0, .ref 939, .bool true, .int 181 0, .ref 940, .none, .ref 941, .ref 942, .ref 943, .int 1517 0, .int 716 0, .str n164 1518]),
  (945, xH n183 n396 (mth 108 0) (.none) (.str n363 1494) (.ref 944)),
  (946, xT [.str n270 1520, .str n187 1521, .str n395 1522, .str n397 1523, .str n235 1524, .str n394 1525, .str n398 1526]),
  (947, xD [xE P n178 1503 (.str n363 1494), xE P n180 1507 (.int 714 1506), xE P n183 1519 (.ref 945), xE P n181 1527 (.ref 946), xE P n221 1529 (.ref 949), xE P n182 1531 (.ref 950), xE P n2 1532 (.none)] 4),
  (948, xC n379 n379 [.type "object"] [.ref 948, .type "object"] 947 [] [none, none, some (.str n379 1496), some (.str n379 1504), some (.builtin "object.__new__"), some (.bool true)]),
  (949, xF "getset_descriptor" [.str n221 1528, .ref 948, .builtin "function.__dict__", .builtin "function.__dict__#set"]),
  (950, xF "getset_descriptor" [.str n182 1530, .ref 948, .builtin "ExceptionGroup.__weakref__", .none]),
  (951, xF "super" [.ref 948, .ref 948, .ref 948]),
  (952, xF "builtin_function_or_method" [.builtin "object.__init_subclass__", .ref 948])]
noncomputable def t5 (P : Params) : BT := forceT (putD (t4 P) (d5 P)) id
noncomputable def s5 (P : Params) (os : OsState) : SharedT := ⟨t5 P, 953, (boot_heap P).life, ⟨[]⟩, boot_drawn, 1535, os⟩
noncomputable def p5 : Pos := ⟨714, 0, 723, 28⟩
noncomputable def d6 (P : Params) : List (Nat × Obj) := [
  (3, xD [xE P n0 165 (.str n399 1864), xE P n2 166 (.none), xE P n3 167 (.none), xE P n4 168 (.builtin "__main__.__loader__#opaque"), xE P n5 169 (.none), xE P n161 170 (.ref 6), xE P n162 171 (.ref 4), xE P n163 173 (.str n164 172), xE P n165 174 (.none), xE P n170 193 (.ref 21), xE P n171 215 (.ref 31), xE P n172 240 (.ref 51), xE P n173 269 (.ref 70), xE P n174 294 (.ref 89), xE P n175 321 (.ref 108), xE P n176 348 (.ref 127), xE P n198 357 (.ref 136), xE P n199 367 (.ref 143), xE P n200 375 (.ref 150), xE P n201 383 (.ref 157), xE P n202 394 (.ref 164), xE P n203 425 (.ref 181), xE P n204 467 (.ref 210), xE P n205 498 (.ref 231), xE P n206 533 (.ref 253), xE P n207 569 (.ref 275), xE P n238 606 (.ref 297), xE P n239 641 (.ref 318), xE P n240 672 (.ref 339), xE P n241 678 (.ref 350), xE P n242 685 (.ref 357), xE P n243 692 (.ref 364), xE P n244 700 (.ref 371), xE P n245 707 (.ref 378), xE P n246 714 (.ref 385), xE P n247 721 (.ref 392), xE P n248 730 (.ref 399), xE P n249 738 (.ref 406), xE P n188 747 (.ref 413), xE P n250 755 (.ref 420), xE P n251 762 (.ref 427), xE P n252 772 (.ref 434), xE P n253 778 (.ref 439), xE P n254 786 (.ref 446), xE P n255 792 (.ref 451), xE P n256 800 (.ref 458), xE P n257 810 (.ref 465), xE P n258 816 (.ref 470), xE P n259 824 (.ref 477), xE P n260 830 (.ref 482), xE P n261 839 (.ref 489), xE P n283 924 (.ref 546), xE P n284 931 (.ref 557), xE P n285 942 (.ref 564), xE P n286 948 (.ref 569), xE P n287 954 (.ref 575), xE P n288 964 (.ref 582), xE P n289 973 (.ref 589), xE P n290 981 (.ref 596), xE P n291 988 (.ref 603), xE P n292 997 (.ref 610), xE P n293 1008 (.ref 617), xE P n294 1018 (.ref 624), xE P n295 1029 (.ref 631), xE P n296 1036 (.ref 638), xE P n297 1045 (.ref 645), xE P n298 1053 (.ref 652), xE P n299 1059 (.ref 658), xE P n300 1067 (.ref 665), xE P n301 1074 (.ref 672), xE P n302 1085 (.ref 679), xE P n303 1094 (.ref 686), xE P n304 1110 (.ref 693), xE P n305 1121 (.ref 700), xE P n306 1129 (.ref 707), xE P n307 1142 (.ref 714), xE P n308 1161 (.ref 721), xE P n309 1177 (.ref 728), xE P n310 1184 (.ref 735), xE P n311 1199 (.ref 742), xE P n312 1208 (.ref 749), xE P n313 1222 (.ref 757), xE P n314 1229 (.ref 764), xE P n315 1246 (.ref 772), xE P n316 1260 (.ref 779), xE P n317 1292 (.ref 796), xE P n364 1327 (.ref 817), xE P n365 1337 (.ref 828), xE P n366 1345 (.ref 835), xE P n367 1355 (.ref 842), xE P n368 1361 (.ref 847), xE P n369 1373 (.ref 854), xE P n370 1384 (.ref 861), xE P n371 1395 (.ref 868), xE P n372 1404 (.ref 875), xE P n373 1414 (.ref 882), xE P n374 1424 (.ref 889), xE P n375 1435 (.ref 896), xE P n376 1449 (.ref 903), xE P n377 1459 (.ref 910), xE P n378 1493 (.ref 927), xE P n379 1534 (.ref 948), xE P n400 1863 (.ref 1158), xE P n401 1874 (.ref 1169), xE P n402 1881 (.ref 1176), xE P n403 1894 (.ref 1183), xE P n404 1902 (.ref 1190), xE P n405 1911 (.ref 1197), xE P n406 1925 (.ref 1204), xE P n407 1931 (.ref 1209)] 110),
  (12, xN [.int 1 0, .int 0 0, .ref 20, .int 5 0, .int 0 0, .ref 27, .int 7 0, .int 0 0, .ref 40, .int 11 0, .int 0 0, .ref 59, .int 17 0, .int 0 0, .ref 78, .int 21 0, .int 0 0, .ref 97, .int 26 0, .int 0 0, .ref 116, .int 32 0, .int 0 0, .ref 135, .int 35 0, .int 0 0, .ref 142, .int 41 0, .int 0 0, .ref 149, .int 47 0, .int 0 0, .ref 156, .int 56 0, .int 0 0, .ref 163, .int 65 0, .int 0 0, .ref 170, .int 70 0, .int 0 0, .ref 191, .int 81 0, .int 0 0, .ref 220, .int 87 0, .int 0 0, .ref 241, .int 95 0, .int 0 0, .ref 263, .int 103 0, .int 0 0, .ref 285, .int 113 0, .int 0 0, .ref 307, .int 122 0, .int 0 0, .ref 328, .int 128 0, .int 0 0, .ref 349, .int 130 0, .int 0 0, .ref 356, .int 134 0, .int 0 0, .ref 363, .int 136 0, .int 0 0, .ref 370, .int 147 0, .int 0 0, .ref 377, .int 149 0, .int 0 0, .ref 384, .int 151 0, .int 0 0, .ref 391, .int 156 0, .int 0 0, .ref 398, .int 162 0, .int 0 0, .ref 405, .int 172 0, .int 0 0, .ref 412, .int 187 0, .int 0 0, .ref 419, .int 189 0, .int 0 0, .ref 426, .int 192 0, .int 0 0, .ref 433, .int 196 0, .int 0 0, .ref 438, .int 212 0, .int 0 0, .ref 445, .int 217 0, .int 0 0, .ref 450, .int 222 0, .int 0 0, .ref 457, .int 228 0, .int 0 0, .ref 464, .int 231 0, .int 0 0, .ref 469, .int 242 0, .int 0 0, .ref 476, .int 246 0, .int 0 0, .ref 481, .int 251 0, .int 0 0, .ref 488, .int 256 0, .int 0 0, .ref 495, .int 309 0, .int 0 0, .ref 556, .int 311 0, .int 0 0, .ref 563, .int 320 0, .int 0 0, .ref 568, .int 326 0, .int 0 0, .ref 574, .int 336 0, .int 0 0, .ref 581, .int 338 0, .int 0 0, .ref 588, .int 345 0, .int 0 0, .ref 595, .int 351 0, .int 0 0, .ref 602, .int 353 0, .int 0 0, .ref 609, .int 359 0, .int 0 0, .ref 616, .int 371 0, .int 0 0, .ref 623, .int 374 0, .int 0 0, .ref 630, .int 379 0, .int 0 0, .ref 637, .int 383 0, .int 0 0, .ref 644, .int 388 0, .int 0 0, .ref 651, .int 392 0, .int 0 0, .ref 657, .int 405 0, .int 0 0, .ref 664, .int 410 0, .int 0 0, .ref 671, .int 412 0, .int 0 0, .ref 678, .int 421 0, .int 0 0, .ref 685, .int 427 0, .int 0 0, .ref 692, .int 444 0, .int 0 0, .ref 699, .int 449 0, .int 0 0, .ref 706, .int 455 0, .int 0 0, .ref 713, .int 462 0, .int 0 0, .ref 720, .int 473 0, .int 0 0, .ref 727, .int 479 0, .int 0 0, .ref 734, .int 481 0, .int 0 0, .ref 741, .int 491 0, .int 0 0, .ref 748, .int 495 0, .int 0 0, .ref 756, .int 506 0, .int 0 0, .ref 763, .int 510 0, .int 0 0, .ref 771, .int 522 0, .int 0 0, .ref 778, .int 530 0, .int 0 0, .ref 785, .int 535 0, .int 0 0, .ref 806, .int 544 0, .int 0 0, .ref 827, .int 556 0, .int 0 0, .ref 834, .int 562 0, .int 0 0, .ref 841, .int 569 0, .int 0 0, .ref 846, .int 576 0, .int 0 0, .ref 853, .int 584 0, .int 0 0, .ref 860, .int 592 0, .int 0 0, .ref 867, .int 600 0, .int 0 0, .ref 874, .int 604 0, .int 0 0, .ref 881, .int 627 0, .int 0 0, .ref 888, .int 648 0, .int 0 0, .ref 895, .int 668 0, .int 0 0, .ref 902, .int 691 0, .int 0 0, .ref 909, .int 706 0, .int 0 0, .ref 916, .int 714 0, .int 0 0, .ref 937, .int 724 0, .int 0 0, .ref 958, .int 997 0, .int 0 0, .ref 1168, .int 1005 0, .int 0 0, .ref 1175, .int 1007 0, .int 0 0, .ref 1182, .int 1028 0, .int 0 0, .ref 1189, .int 1033 0, .int 0 0, .ref 1196, .int 1037 0, .int 0 0, .ref 1203, .int 1068 0, .int 0 0, .ref 1208]),
  (953, xT []),
  (954, xF "builtin_function_or_method" [.builtin "type.__prepare__", .type "type"]),
  (955, xD [xE P n178 1542 (.str n363 1494), xE P n179 1544 (.str n400 1543), xE P n180 1546 (.int 724 1545), xE P n183 1557 (.ref 967), xE P n408 1566 (.ref 974), xE P n292 1578 (.ref 982), xE P n409 1585 (.ref 989), xE P n410 1594 (.ref 996), xE P n411 1603 (.ref 1004), xE P n412 1610 (.ref 1011), xE P n20 1620 (.ref 1018), xE P n413 1631 (.ref 1025), xE P n414 1641 (.ref 1032), xE P n415 1649 (.ref 1039), xE P n416 1660 (.ref 1047), xE P n417 1671 (.ref 1054), xE P n418 1680 (.ref 1061), xE P n419 1691 (.ref 1068), xE P n420 1700 (.ref 1075), xE P n421 1713 (.ref 1082), xE P n422 1729 (.ref 1090), xE P n423 1739 (.ref 1097), xE P n424 1751 (.ref 1104), xE P n425 1767 (.ref 1111), xE P n426 1786 (.ref 1119), xE P n427 1797 (.ref 1126), xE P n428 1806 (.ref 1133), xE P n429 1815 (.ref 1140), xE P n430 1826 (.ref 1148), xE P n385 1836 (.ref 1155), xE P n181 1856 (.ref 1156)] 31),
  (956, xT []),
  (957, xN [.int 726 0, .int 4 0, .ref 966, .int 747 0, .int 4 0, .ref 973, .int 752 0, .int 4 0, .ref 981, .int 755 0, .int 4 0, .ref 988, .int 760 0, .int 4 0, .ref 995, .int 765 0, .int 4 0, .ref 1003, .int 768 0, .int 4 0, .ref 1010, .int 773 0, .int 4 0, .ref 1017, .int 784 0, .int 4 0, .ref 1024, .int 800 0, .int 4 0, .ref 1031, .int 806 0, .int 4 0, .ref 1038, .int 820 0, .int 4 0, .ref 1046, .int 833 0, .int 4 0, .ref 1053, .int 844 0, .int 4 0, .ref 1060, .int 847 0, .int 4 0, .ref 1067, .int 857 0, .int 4 0, .ref 1074, .int 863 0, .int 4 0, .ref 1081, .int 875 0, .int 4 0, .ref 1089, .int 893 0, .int 4 0, .ref 1096, .int 898 0, .int 4 0, .ref 1103, .int 906 0, .int 4 0, .ref 1110, .int 922 0, .int 4 0, .ref 1118, .int 956 0, .int 4 0, .ref 1125, .int 969 0, .int 4 0, .ref 1132, .int 977 0, .int 4 0, .ref 1139, .int 988 0, .int 4 0, .ref 1147, .int 991 0, .int 4 0, .ref 1154]),
  (958, xF "code" [.str n400 1537, .str n400 1538, .str n164 1539, .int 724 0, .int 0 0, .int 0 0, .int 0 0, .int 0 0, .ref 956, .bool false, .int 181 0, .ref 957, .none, .none, .none, .none, .int 1540 0, .int 724 0, .str n164 1541]),
  (959, xR [some (.ref 958), some (.ref 3), some (.ref 955), none, some (.str n363 1494), none, some (.ref 0)]),
  (960, xT [.int 20000 1547, .int 40 1548]),
  (961, xT []),
  (962, xN []),
  (963, xT [.str n184 1552, .str n431 1553, .str n432 1554]),
  (964, xT []),
  (965, xG n183 n433 (mth 109 0)),
  (966, xF "code" [.str n183 1549, .str n433 1550, .str n164 1551, .int 726 0, .int 3 0, .int 0 0, .int 0 0, .int 3 0, .ref 961, .bool true, .int 181 0, .ref 962, .none, .ref 963, .ref 964, .ref 965, .int 1555 0, .int 726 0, .str n164 1556]),
  (967, xH n183 n433 (mth 109 0) (.ref 960) (.str n363 1494) (.ref 966)),
  (968, xT []),
  (969, xN []),
  (970, xT [.str n184 1561, .str n262 1562, .str n235 1563]),
  (971, xT []),
  (972, xG n408 n434 (mth 109 1)),
  (973, xF "code" [.str n408 1558, .str n434 1559, .str n164 1560, .int 747 0, .int 2 0, .int 0 0, .int 0 0, .int 3 0, .ref 968, .bool true, .int 181 0, .ref 969, .none, .ref 970, .ref 971, .ref 972, .int 1564 0, .int 747 0, .str n164 1565]),
  (974, xH n408 n434 (mth 109 1) (.none) (.str n363 1494) (.ref 973)),
  (975, xT [.str n435 1567]),
  (976, xT []),
  (977, xN []),
  (978, xT [.str n184 1571, .str n228 1572, .str n436 1573, .str n437 1574, .str n438 1575]),
  (979, xT []),
  (980, xG n292 n439 (mth 109 2)),
  (981, xF "code" [.str n292 1568, .str n439 1569, .str n164 1570, .int 752 0, .int 5 0, .int 0 0, .int 0 0, .int 3 0, .ref 976, .bool true, .int 181 0, .ref 977, .none, .ref 978, .ref 979, .ref 980, .int 1576 0, .int 752 0, .str n164 1577]),
  (982, xH n292 n439 (mth 109 2) (.ref 975) (.str n363 1494) (.ref 981)),
  (983, xT []),
  (984, xN []),
  (985, xT [.str n184 1582]),
  (986, xT []),
  (987, xG n409 n440 (mth 109 3)),
  (988, xF "code" [.str n409 1579, .str n440 1580, .str n164 1581, .int 755 0, .int 1 0, .int 0 0, .int 0 0, .int 3 0, .ref 983, .bool true, .int 181 0, .ref 984, .none, .ref 985, .ref 986, .ref 987, .int 1583 0, .int 755 0, .str n164 1584]),
  (989, xH n409 n440 (mth 109 3) (.none) (.str n363 1494) (.ref 988)),
  (990, xT []),
  (991, xN []),
  (992, xT [.str n184 1589, .str n185 1590, .str n187 1591]),
  (993, xT []),
  (994, xG n410 n441 (mth 109 4)),
  (995, xF "code" [.str n410 1586, .str n441 1587, .str n164 1588, .int 760 0, .int 3 0, .int 0 0, .int 0 0, .int 3 0, .ref 990, .bool true, .int 181 0, .ref 991, .none, .ref 992, .ref 993, .ref 994, .int 1592 0, .int 760 0, .str n164 1593]),
  (996, xH n410 n441 (mth 109 4) (.none) (.str n363 1494) (.ref 995)),
  (997, xT [.none]),
  (998, xT []),
  (999, xN []),
  (1000, xT [.str n184 1598, .str n442 1599, .str n187 1600]),
  (1001, xT []),
  (1002, xG n411 n443 (mth 109 5)),
  (1003, xF "code" [.str n411 1595, .str n443 1596, .str n164 1597, .int 765 0, .int 3 0, .int 0 0, .int 0 0, .int 3 0, .ref 998, .bool true, .int 181 0, .ref 999, .none, .ref 1000, .ref 1001, .ref 1002, .int 1601 0, .int 765 0, .str n164 1602]),
  (1004, xH n411 n443 (mth 109 5) (.ref 997) (.str n363 1494) (.ref 1003)),
  (1005, xT []),
  (1006, xN []),
  (1007, xT [.str n184 1607]),
  (1008, xT []),
  (1009, xG n412 n444 (mth 109 6)),
  (1010, xF "code" [.str n412 1604, .str n444 1605, .str n164 1606, .int 768 0, .int 1 0, .int 0 0, .int 0 0, .int 3 0, .ref 1005, .bool true, .int 181 0, .ref 1006, .none, .ref 1007, .ref 1008, .ref 1009, .int 1608 0, .int 768 0, .str n164 1609]),
  (1011, xH n412 n444 (mth 109 6) (.none) (.str n363 1494) (.ref 1010)),
  (1012, xT []),
  (1013, xN []),
  (1014, xT [.str n184 1614, .str n345 1615, .str n235 1616, .str n213 1617]),
  (1015, xT []),
  (1016, xG n20 n445 (mth 109 7)),
  (1017, xF "code" [.str n20 1611, .str n445 1612, .str n164 1613, .int 773 0, .int 3 0, .int 0 0, .int 0 0, .int 3 0, .ref 1012, .bool true, .int 181 0, .ref 1013, .none, .ref 1014, .ref 1015, .ref 1016, .int 1618 0, .int 773 0, .str n164 1619]),
  (1018, xH n20 n445 (mth 109 7) (.none) (.str n363 1494) (.ref 1017)),
  (1019, xT []),
  (1020, xN []),
  (1021, xT [.str n184 1624, .str n228 1625, .str n235 1626, .str n275 1627, .str n185 1628]),
  (1022, xT []),
  (1023, xG n413 n446 (mth 109 8)),
  (1024, xF "code" [.str n413 1621, .str n446 1622, .str n164 1623, .int 784 0, .int 3 0, .int 0 0, .int 0 0, .int 3 0, .ref 1019, .bool true, .int 181 0, .ref 1020, .none, .ref 1021, .ref 1022, .ref 1023, .int 1629 0, .int 784 0, .str n164 1630]),
  (1025, xH n413 n446 (mth 109 8) (.none) (.str n363 1494) (.ref 1024)),
  (1026, xT []),
  (1027, xN []),
  (1028, xT [.str n184 1635, .str n228 1636, .str n235 1637, .str n356 1638]),
  (1029, xT []),
  (1030, xG n414 n447 (mth 109 9)),
  (1031, xF "code" [.str n414 1632, .str n447 1633, .str n164 1634, .int 800 0, .int 3 0, .int 0 0, .int 0 0, .int 3 0, .ref 1026, .bool true, .int 181 0, .ref 1027, .none, .ref 1028, .ref 1029, .ref 1030, .int 1639 0, .int 800 0, .str n164 1640]),
  (1032, xH n414 n447 (mth 109 9) (.none) (.str n363 1494) (.ref 1031)),
  (1033, xT []),
  (1034, xN []),
  (1035, xT [.str n184 1645, .str n339 1646]),
  (1036, xT []),
  (1037, xG n415 n448 (mth 109 10)),
  (1038, xF "code" [.str n415 1642, .str n448 1643, .str n164 1644, .int 806 0, .int 2 0, .int 0 0, .int 0 0, .int 3 0, .ref 1033, .bool true, .int 181 0, .ref 1034, .none, .ref 1035, .ref 1036, .ref 1037, .int 1647 0, .int 806 0, .str n164 1648]),
  (1039, xH n415 n448 (mth 109 10) (.none) (.str n363 1494) (.ref 1038)),
  (1040, xT [.none]),
  (1041, xT []),
  (1042, xN []),
  (1043, xT [.str n184 1653, .str n228 1654, .str n235 1655, .str n187 1656, .str n275 1657]),
  (1044, xT []),
  (1045, xG n416 n449 (mth 109 11)),
  (1046, xF "code" [.str n416 1650, .str n449 1651, .str n164 1652, .int 820 0, .int 4 0, .int 0 0, .int 0 0, .int 3 0, .ref 1041, .bool true, .int 181 0, .ref 1042, .none, .ref 1043, .ref 1044, .ref 1045, .int 1658 0, .int 820 0, .str n164 1659]),
  (1047, xH n416 n449 (mth 109 11) (.ref 1040) (.str n363 1494) (.ref 1046)),
  (1048, xT []),
  (1049, xN []),
  (1050, xT [.str n184 1664, .str n187 1665, .str n235 1666, .str n450 1667, .str n275 1668]),
  (1051, xT []),
  (1052, xG n417 n451 (mth 109 12)),
  (1053, xF "code" [.str n417 1661, .str n451 1662, .str n164 1663, .int 833 0, .int 3 0, .int 0 0, .int 0 0, .int 3 0, .ref 1048, .bool true, .int 181 0, .ref 1049, .none, .ref 1050, .ref 1051, .ref 1052, .int 1669 0, .int 833 0, .str n164 1670]),
  (1054, xH n417 n451 (mth 109 12) (.none) (.str n363 1494) (.ref 1053)),
  (1055, xT []),
  (1056, xN []),
  (1057, xT [.str n184 1675, .str n187 1676, .str n235 1677]),
  (1058, xT []),
  (1059, xG n418 n452 (mth 109 13)),
  (1060, xF "code" [.str n418 1672, .str n452 1673, .str n164 1674, .int 844 0, .int 3 0, .int 0 0, .int 0 0, .int 3 0, .ref 1055, .bool true, .int 181 0, .ref 1056, .none, .ref 1057, .ref 1058, .ref 1059, .int 1678 0, .int 844 0, .str n164 1679]),
  (1061, xH n418 n452 (mth 109 13) (.none) (.str n363 1494) (.ref 1060)),
  (1062, xT []),
  (1063, xN []),
  (1064, xT [.str n184 1684, .str n187 1685, .str n235 1686, .str n354 1687, .str n270 1688]),
  (1065, xT []),
  (1066, xG n419 n453 (mth 109 14)),
  (1067, xF "code" [.str n419 1681, .str n453 1682, .str n164 1683, .int 847 0, .int 3 0, .int 0 0, .int 0 0, .int 3 0, .ref 1062, .bool true, .int 181 0, .ref 1063, .none, .ref 1064, .ref 1065, .ref 1066, .int 1689 0, .int 847 0, .str n164 1690]),
  (1068, xH n419 n453 (mth 109 14) (.none) (.str n363 1494) (.ref 1067)),
  (1069, xT []),
  (1070, xN []),
  (1071, xT [.str n184 1695, .str n235 1696, .str n343 1697]),
  (1072, xT []),
  (1073, xG n420 n454 (mth 109 15)),
  (1074, xF "code" [.str n420 1692, .str n454 1693, .str n164 1694, .int 857 0, .int 2 0, .int 0 0, .int 0 0, .int 3 0, .ref 1069, .bool true, .int 181 0, .ref 1070, .none, .ref 1071, .ref 1072, .ref 1073, .int 1698 0, .int 857 0, .str n164 1699]),
  (1075, xH n420 n454 (mth 109 15) (.none) (.str n363 1494) (.ref 1074)),
  (1076, xT []),
  (1077, xN []),
  (1078, xT [.str n184 1704, .str n223 1705, .str n230 1706, .str n235 1707, .str n270 1708, .str n325 1709, .str n214 1710]),
  (1079, xT []),
  (1080, xG n421 n455 (mth 109 16)),
  (1081, xF "code" [.str n421 1701, .str n455 1702, .str n164 1703, .int 863 0, .int 4 0, .int 0 0, .int 0 0, .int 3 0, .ref 1076, .bool true, .int 181 0, .ref 1077, .none, .ref 1078, .ref 1079, .ref 1080, .int 1711 0, .int 863 0, .str n164 1712]),
  (1082, xH n421 n455 (mth 109 16) (.none) (.str n363 1494) (.ref 1081)),
  (1083, xT [.bool false]),
  (1084, xT []),
  (1085, xN []),
  (1086, xT [.str n184 1717, .str n223 1718, .str n230 1719, .str n235 1720, .str n456 1721, .str n270 1722, .str n325 1723, .str n214 1724, .str n328 1725, .str n193 1726]),
  (1087, xT []),
  (1088, xG n422 n457 (mth 109 17)),
  (1089, xF "code" [.str n422 1714, .str n457 1715, .str n164 1716, .int 875 0, .int 5 0, .int 0 0, .int 0 0, .int 3 0, .ref 1084, .bool true, .int 181 0, .ref 1085, .none, .ref 1086, .ref 1087, .ref 1088, .int 1727 0, .int 875 0, .str n164 1728]),
  (1090, xH n422 n457 (mth 109 17) (.ref 1083) (.str n363 1494) (.ref 1089)),
  (1091, xT []),
  (1092, xN []),
  (1093, xT [.str n184 1733, .str n214 1734, .str n456 1735, .str n325 1736]),
  (1094, xT []),
  (1095, xG n423 n458 (mth 109 18)),
  (1096, xF "code" [.str n423 1730, .str n458 1731, .str n164 1732, .int 893 0, .int 4 0, .int 0 0, .int 0 0, .int 3 0, .ref 1091, .bool true, .int 181 0, .ref 1092, .none, .ref 1093, .ref 1094, .ref 1095, .int 1737 0, .int 893 0, .str n164 1738]),
  (1097, xH n423 n458 (mth 109 18) (.none) (.str n363 1494) (.ref 1096)),
  (1098, xT []),
  (1099, xN []),
  (1100, xT [.str n184 1743, .str n354 1744, .str n187 1745, .str n235 1746, .str n356 1747, .str n185 1748]),
  (1101, xT []),
  (1102, xG n424 n459 (mth 109 19)),
  (1103, xF "code" [.str n424 1740, .str n459 1741, .str n164 1742, .int 898 0, .int 4 0, .int 0 0, .int 0 0, .int 3 0, .ref 1098, .bool true, .int 181 0, .ref 1099, .none, .ref 1100, .ref 1101, .ref 1102, .int 1749 0, .int 898 0, .str n164 1750]),
  (1104, xH n424 n459 (mth 109 19) (.none) (.str n363 1494) (.ref 1103)),
  (1105, xT []),
  (1106, xN []),
  (1107, xT [.str n184 1755, .str n460 1756, .str n187 1757, .str n270 1758, .str n235 1759, .str n461 1760, .str n275 1761, .str n193 1762, .str n356 1763, .str n185 1764]),
  (1108, xT []),
  (1109, xG n425 n462 (mth 109 20)),
  (1110, xF "code" [.str n425 1752, .str n462 1753, .str n164 1754, .int 906 0, .int 5 0, .int 0 0, .int 0 0, .int 3 0, .ref 1105, .bool true, .int 181 0, .ref 1106, .none, .ref 1107, .ref 1108, .ref 1109, .int 1765 0, .int 906 0, .str n164 1766]),
  (1111, xH n425 n462 (mth 109 20) (.none) (.str n363 1494) (.ref 1110)),
  (1112, xT [.none]),
  (1113, xT []),
  (1114, xN []),
  (1115, xT [.str n184 1771, .str n463 1772, .str n270 1773, .str n187 1774, .str n395 1775, .str n397 1776, .str n235 1777, .str n185 1778, .str n356 1779, .str n264 1780, .str n193 1781, .str n464 1782, .str n465 1783]),
  (1116, xT []),
  (1117, xG n426 n466 (mth 109 21)),
  (1118, xF "code" [.str n426 1768, .str n466 1769, .str n164 1770, .int 922 0, .int 6 0, .int 0 0, .int 0 0, .int 3 0, .ref 1113, .bool true, .int 181 0, .ref 1114, .none, .ref 1115, .ref 1116, .ref 1117, .int 1784 0, .int 922 0, .str n164 1785]),
  (1119, xH n426 n466 (mth 109 21) (.ref 1112) (.str n363 1494) (.ref 1118)),
  (1120, xT []),
  (1121, xN []),
  (1122, xT [.str n184 1790, .str n264 1791, .str n193 1792, .str n467 1793, .str n465 1794]),
  (1123, xT []),
  (1124, xG n427 n468 (mth 109 22)),
  (1125, xF "code" [.str n427 1787, .str n468 1788, .str n164 1789, .int 956 0, .int 3 0, .int 0 0, .int 0 0, .int 3 0, .ref 1120, .bool true, .int 181 0, .ref 1121, .none, .ref 1122, .ref 1123, .ref 1124, .int 1795 0, .int 956 0, .str n164 1796]),
  (1126, xH n427 n468 (mth 109 22) (.none) (.str n363 1494) (.ref 1125)),
  (1127, xT []),
  (1128, xN []),
  (1129, xT [.str n184 1801, .str n264 1802, .str n469 1803]),
  (1130, xT []),
  (1131, xG n428 n470 (mth 109 23)),
  (1132, xF "code" [.str n428 1798, .str n470 1799, .str n164 1800, .int 969 0, .int 2 0, .int 0 0, .int 0 0, .int 3 0, .ref 1127, .bool true, .int 181 0, .ref 1128, .none, .ref 1129, .ref 1130, .ref 1131, .int 1804 0, .int 969 0, .str n164 1805]),
  (1133, xH n428 n470 (mth 109 23) (.none) (.str n363 1494) (.ref 1132)),
  (1134, xT []),
  (1135, xN []),
  (1136, xT [.str n184 1810, .str n335 1811]),
  (1137, xT [.str n471 1812]),
  (1138, xG n429 n472 (mth 109 24)),
  (1139, xF "code" [.str n429 1807, .str n472 1808, .str n164 1809, .int 977 0, .int 1 0, .int 0 0, .int 0 0, .int 3 0, .ref 1134, .bool true, .int 181 0, .ref 1135, .none, .ref 1136, .ref 1137, .ref 1138, .int 1813 0, .int 977 0, .str n164 1814]),
  (1140, xH n429 n472 (mth 109 24) (.none) (.str n363 1494) (.ref 1139)),
  (1141, xT [.none]),
  (1142, xT []),
  (1143, xN []),
  (1144, xT [.str n184 1819, .str n354 1820, .str n270 1821, .str n235 1822, .str n187 1823]),
  (1145, xT []),
  (1146, xG n430 n473 (mth 109 25)),
  (1147, xF "code" [.str n430 1816, .str n473 1817, .str n164 1818, .int 988 0, .int 5 0, .int 0 0, .int 0 0, .int 3 0, .ref 1142, .bool true, .int 181 0, .ref 1143, .none, .ref 1144, .ref 1145, .ref 1146, .int 1824 0, .int 988 0, .str n164 1825]),
  (1148, xH n430 n473 (mth 109 25) (.ref 1141) (.str n363 1494) (.ref 1147)),
  (1149, xT []),
  (1150, xN []),
  (1151, xT [.str n184 1830, .str n474 1831, .str n193 1832, .str n345 1833]),
  (1152, xT []),
  (1153, xG n385 n475 (mth 109 26)),
  (1154, xF "code" [.str n385 1827, .str n475 1828, .str n164 1829, .int 991 0, .int 2 0, .int 0 0, .int 0 0, .int 3 0, .ref 1149, .bool true, .int 181 0, .ref 1150, .none, .ref 1151, .ref 1152, .ref 1153, .int 1834 0, .int 991 0, .str n164 1835]),
  (1155, xH n385 n475 (mth 109 26) (.none) (.str n363 1494) (.ref 1154)),
  (1156, xT [.str n476 1837, .str n477 1838, .str n471 1839, .str n478 1840, .str n479 1841, .str n24 1842, .str n480 1843, .str n431 1844, .str n432 1845, .str n481 1846, .str n482 1847, .str n483 1848, .str n484 1849, .str n485 1850, .str n486 1851, .str n487 1852, .str n467 1853, .str n488 1854, .str n489 1855]),
  (1157, xD [xE P n178 1542 (.str n363 1494), xE P n180 1546 (.int 724 1545), xE P n183 1557 (.ref 967), xE P n408 1566 (.ref 974), xE P n292 1578 (.ref 982), xE P n409 1585 (.ref 989), xE P n410 1594 (.ref 996), xE P n411 1603 (.ref 1004), xE P n412 1610 (.ref 1011), xE P n20 1620 (.ref 1018), xE P n413 1631 (.ref 1025), xE P n414 1641 (.ref 1032), xE P n415 1649 (.ref 1039), xE P n416 1660 (.ref 1047), xE P n417 1671 (.ref 1054), xE P n418 1680 (.ref 1061), xE P n419 1691 (.ref 1068), xE P n420 1700 (.ref 1075), xE P n421 1713 (.ref 1082), xE P n422 1729 (.ref 1090), xE P n423 1739 (.ref 1097), xE P n424 1751 (.ref 1104), xE P n425 1767 (.ref 1111), xE P n426 1786 (.ref 1119), xE P n427 1797 (.ref 1126), xE P n428 1806 (.ref 1133), xE P n429 1815 (.ref 1140), xE P n430 1826 (.ref 1148), xE P n385 1836 (.ref 1155), xE P n181 1856 (.ref 1156), xE P n221 1858 (.ref 1159), xE P n182 1860 (.ref 1160), xE P n2 1861 (.none)] 4),
  (1158, xC n400 n400 [.type "object"] [.ref 1158, .type "object"] 1157 [] [none, none, some (.str n400 1535), some (.str n400 1543), some (.builtin "object.__new__"), some (.bool true)]),
  (1159, xF "getset_descriptor" [.str n221 1857, .ref 1158, .builtin "function.__dict__", .builtin "function.__dict__#set"]),
  (1160, xF "getset_descriptor" [.str n182 1859, .ref 1158, .builtin "ExceptionGroup.__weakref__", .none]),
  (1161, xF "super" [.ref 1158, .ref 1158, .ref 1158]),
  (1162, xF "builtin_function_or_method" [.builtin "object.__init_subclass__", .ref 1158]),
  (1163, xT []),
  (1164, xN []),
  (1165, xT [.str n490 1869, .str n491 1870, .str n275 1871]),
  (1166, xT []),
  (1167, xG n401 n401 (stm 111)),
  (1168, xF "code" [.str n401 1866, .str n401 1867, .str n164 1868, .int 997 0, .int 2 0, .int 0 0, .int 0 0, .int 3 0, .ref 1163, .bool true, .int 181 0, .ref 1164, .none, .ref 1165, .ref 1166, .ref 1167, .int 1872 0, .int 997 0, .str n164 1873]),
  (1169, xH n401 n401 (stm 111) (.none) (.str n399 1864) (.ref 1168)),
  (1170, xT []),
  (1171, xN []),
  (1172, xT [.str n215 1878]),
  (1173, xT []),
  (1174, xG n402 n402 (stm 112)),
  (1175, xF "code" [.str n402 1875, .str n402 1876, .str n164 1877, .int 1005 0, .int 1 0, .int 0 0, .int 0 0, .int 3 0, .ref 1170, .bool true, .int 181 0, .ref 1171, .none, .ref 1172, .ref 1173, .ref 1174, .int 1879 0, .int 1005 0, .str n164 1880]),
  (1176, xH n402 n402 (stm 112) (.none) (.str n399 1864) (.ref 1175)),
  (1177, xT []),
  (1178, xN []),
  (1179, xT [.str n490 1885, .str n492 1886, .str n493 1887, .str n494 1888, .str n495 1889, .str n496 1890, .str n390 1891]),
  (1180, xT []),
  (1181, xG n403 n403 (stm 113)),
  (1182, xF "code" [.str n403 1882, .str n403 1883, .str n164 1884, .int 1007 0, .int 4 0, .int 0 0, .int 0 0, .int 3 0, .ref 1177, .bool true, .int 181 0, .ref 1178, .none, .ref 1179, .ref 1180, .ref 1181, .int 1892 0, .int 1007 0, .str n164 1893]),
  (1183, xH n403 n403 (stm 113) (.none) (.str n399 1864) (.ref 1182)),
  (1184, xT []),
  (1185, xN []),
  (1186, xT [.str n193 1898, .str n214 1899]),
  (1187, xT []),
  (1188, xG n404 n404 (stm 114)),
  (1189, xF "code" [.str n404 1895, .str n404 1896, .str n164 1897, .int 1028 0, .int 1 0, .int 0 0, .int 0 0, .int 3 0, .ref 1184, .bool true, .int 181 0, .ref 1185, .none, .ref 1186, .ref 1187, .ref 1188, .int 1900 0, .int 1028 0, .str n164 1901]),
  (1190, xH n404 n404 (stm 114) (.none) (.str n399 1864) (.ref 1189)),
  (1191, xT []),
  (1192, xN []),
  (1193, xT [.str n228 1906, .str n388 1907, .str n389 1908]),
  (1194, xT []),
  (1195, xG n405 n405 (stm 115)),
  (1196, xF "code" [.str n405 1903, .str n405 1904, .str n164 1905, .int 1033 0, .int 3 0, .int 0 0, .int 0 0, .int 3 0, .ref 1191, .bool true, .int 181 0, .ref 1192, .none, .ref 1193, .ref 1194, .ref 1195, .int 1909 0, .int 1033 0, .str n164 1910]),
  (1197, xH n405 n405 (stm 115) (.none) (.str n399 1864) (.ref 1196)),
  (1198, xT []),
  (1199, xN []),
  (1200, xT [.str n386 1915, .str n381 1916, .str n384 1917, .str n497 1918, .str n325 1919, .str n498 1920, .str n389 1921, .str n388 1922]),
  (1201, xT []),
  (1202, xG n406 n406 (stm 116)),
  (1203, xF "code" [.str n406 1912, .str n406 1913, .str n164 1914, .int 1037 0, .int 5 0, .int 0 0, .int 0 0, .int 3 0, .ref 1198, .bool true, .int 181 0, .ref 1199, .none, .ref 1200, .ref 1201, .ref 1202, .int 1923 0, .int 1037 0, .str n164 1924]),
  (1204, xH n406 n406 (stm 116) (.none) (.str n399 1864) (.ref 1203)),
  (1205, xT []),
  (1206, xN []),
  (1207, xG n407 n407 (stm 117)),
  (1208, xF "code" [.str n407 1926, .str n407 1927, .str n164 1928, .int 1068 0, .int 1 0, .int 0 0, .int 0 0, .int 3 0, .ref 1205, .bool true, .int 181 0, .ref 1206, .none, .none, .none, .ref 1207, .int 1929 0, .int 1068 0, .str n164 1930]),
  (1209, xH n407 n407 (stm 117) (.none) (.str n399 1864) (.ref 1208))]
noncomputable def t6 (P : Params) : BT := forceT (putD (t5 P) (d6 P)) id
noncomputable def s6 (P : Params) (os : OsState) : SharedT := ⟨t6 P, 1210, (boot_heap P).life, ⟨[]⟩, boot_drawn, 1932, os⟩
noncomputable def p6 : Pos := ⟨1068, 0, 1101, 15⟩
end
noncomputable section
set_option maxHeartbeats 0
noncomputable def eB : List Stmt := behindTheImports PySem.Challenge.pw_pq1364_01
noncomputable def eV : Env := { scope := PySem.Challenge.pw_pq1364_01.main.scope, locals := mainNs, globals := mainNs, cells := [], code := .ref 13, frame := some 14 }
noncomputable def eC : Code := .body eB eV
noncomputable def k1 : List Stmt := (eB.drop 0).take 8
theorem run1 (w : World) (os : OsState) : runP (stepT (denote treeTable) PySem.Challenge.pw_pq1364_01 w) (stepOk 11 (some (.ref 6))) (sA w.params os) k1 eV eC pA 40 = some (.next, s1 w.params os, eC, p1) := by
  rw [PySem.W.Fast.te10156331382660048174, PySem.W.Fast.te11892475500146522536, PySem.W.Fast.te14364793385576792824, PySem.W.Fast.te6613529449190102663]
  kernel_rfl
end
noncomputable section
set_option maxHeartbeats 0
noncomputable def k2 : List Stmt := (eB.drop 8).take 14
theorem run2 (w : World) (os : OsState) : runP (stepT (denote treeTable) PySem.Challenge.pw_pq1364_01 w) (stepOk 11 (some (.ref 6))) (s1 w.params os) k2 eV eC p1 40 = some (.next, s2 w.params os, eC, p2) := by
  rw [PySem.W.Fast.te10156331382660048174, PySem.W.Fast.te11892475500146522536, PySem.W.Fast.te14364793385576792824, PySem.W.Fast.te6613529449190102663]
  kernel_rfl
end
noncomputable section
set_option maxHeartbeats 0
noncomputable def k3 : List Stmt := (eB.drop 22).take 30
theorem run3 (w : World) (os : OsState) : runP (stepT (denote treeTable) PySem.Challenge.pw_pq1364_01 w) (stepOk 11 (some (.ref 6))) (s2 w.params os) k3 eV eC p2 40 = some (.next, s3 w.params os, eC, p3) := by
  rw [PySem.W.Fast.te10156331382660048174, PySem.W.Fast.te11892475500146522536, PySem.W.Fast.te14364793385576792824, PySem.W.Fast.te6613529449190102663]
  kernel_rfl
end
noncomputable section
set_option maxHeartbeats 0
noncomputable def k4 : List Stmt := (eB.drop 52).take 39
theorem run4 (w : World) (os : OsState) : runP (stepT (denote treeTable) PySem.Challenge.pw_pq1364_01 w) (stepOk 11 (some (.ref 6))) (s3 w.params os) k4 eV eC p3 40 = some (.next, s4 w.params os, eC, p4) := by
  rw [PySem.W.Fast.te10156331382660048174, PySem.W.Fast.te11892475500146522536, PySem.W.Fast.te14364793385576792824, PySem.W.Fast.te6613529449190102663]
  kernel_rfl
end
noncomputable section
set_option maxHeartbeats 0
noncomputable def k5 : List Stmt := (eB.drop 91).take 18
theorem run5 (w : World) (os : OsState) : runP (stepT (denote treeTable) PySem.Challenge.pw_pq1364_01 w) (stepOk 11 (some (.ref 6))) (s4 w.params os) k5 eV eC p4 40 = some (.next, s5 w.params os, eC, p5) := by
  rw [PySem.W.Fast.te10156331382660048174, PySem.W.Fast.te11892475500146522536, PySem.W.Fast.te14364793385576792824, PySem.W.Fast.te6613529449190102663]
  kernel_rfl
end
noncomputable section
set_option maxHeartbeats 0
noncomputable def k6 : List Stmt := (eB.drop 109).take 9
theorem run6 (w : World) (os : OsState) : runP (stepT (denote treeTable) PySem.Challenge.pw_pq1364_01 w) (stepOk 11 (some (.ref 6))) (s5 w.params os) k6 eV eC p5 40 = some (.next, s6 w.params os, eC, p6) := by
  rw [PySem.W.Fast.te10156331382660048174, PySem.W.Fast.te11892475500146522536, PySem.W.Fast.te14364793385576792824, PySem.W.Fast.te6613529449190102663]
  kernel_rfl
end
noncomputable section
set_option maxHeartbeats 0
theorem runP_seg {p : Program} {w : World} {s : SharedT} {l : List Stmt} {env : Env} {c : Code} {pos : Pos} {n : Nat} {f : Flow} {s' : SharedT} {c' : Code} {pos' : Pos} (h : runP (stepT (denote treeTable) p w) (stepOk 11 (some (.ref 6))) s l env c pos n = some (f, s', c', pos')) :
    segRun treeTable p w 11 (some (.ref 6)) 1 (50 * n + 1) s.abs (piecesOf l env c pos [topFrame ⟨0, 0, 0, 0⟩]) = some (f, s'.abs, c', pos') := by
  unfold runP at h
  rw [forceS_eq] at h
  exact segRun_of (segF_run h)
abbrev pw := PySem.Challenge.pw_pq1364_01
noncomputable def h1 (P : Params) : Heap := absHeap (t6 P) 1210 (boot_heap P).life
theorem cut_all : eB = k1 ++ (k2 ++ (k3 ++ (k4 ++ (k5 ++ (k6 ++ []))))) := by kernel_rfl
theorem go0 (w : World) (os : OsState) : topGo treeTable pw w 11 (some (.ref 6)) 12 ⟨boot_heap w.params, ⟨[]⟩, boot_drawn, boot_toks, os⟩ (topStub pw) = some ((sA w.params os).abs, ⟨denote treeTable eC, eC, pA, [topFrame ⟨0, 0, 0, 0⟩]⟩) := by
  rw [PySem.W.Fast.te15667345088766844465, PySem.W.Fast.te14364793385576792824, PySem.W.Fast.te11892475500146522536]
  kernel_rfl
theorem blk0 (w : World) (os : OsState) : segRun treeTable pw w 11 (some (.ref 6)) 1 1 (sA w.params os).abs (blockOf eB eV eC pA [topFrame ⟨0, 0, 0, 0⟩]) = some (.next, (sA w.params os).abs, eC, pA) := by
  rw [PySem.W.Fast.te14374325043358763698, PySem.W.Fast.te14364793385576792824]
  kernel_rfl
theorem fin0 (w : World) (os : OsState) : topRun treeTable pw w 11 (some (.ref 6)) 2 (s6 w.params os).abs ⟨doneF .next, eC, p6, [topFrame ⟨0, 0, 0, 0⟩]⟩ = some (s6 w.params os).abs := by
  rw [PySem.W.Fast.te14082659384304107361, PySem.W.Fast.te14364793385576792824]
  kernel_rfl
end
noncomputable section
section
variable (w : World) (os : OsState)
theorem goT0 : topGo treeTable pw w 11 (some (.ref 6)) 12 ⟨boot_heap w.params, ⟨[]⟩, boot_drawn, boot_toks, os⟩ (topStub pw) = some ((sA w.params os).abs, ⟨denote treeTable (.body eB eV), eC, pA, [topFrame ⟨0, 0, 0, 0⟩]⟩) := go0 w os
theorem blkT0 : segRun treeTable pw w 11 (some (.ref 6)) 1 1 (sA w.params os).abs (blockOf eB eV eC pA [topFrame ⟨0, 0, 0, 0⟩]) = some (.next, (sA w.params os).abs, eC, pA) := blk0 w os
theorem seg1 : segRun treeTable pw w 11 (some (.ref 6)) 1 2001 (sA w.params os).abs (piecesOf k1 eV eC pA [topFrame ⟨0, 0, 0, 0⟩]) = some (.next, (s1 w.params os).abs, eC, p1) := runP_seg (n := 40) (run1 w os)
theorem seg2 : segRun treeTable pw w 11 (some (.ref 6)) 1 2001 (s1 w.params os).abs (piecesOf k2 eV eC p1 [topFrame ⟨0, 0, 0, 0⟩]) = some (.next, (s2 w.params os).abs, eC, p2) := runP_seg (n := 40) (run2 w os)
theorem seg3 : segRun treeTable pw w 11 (some (.ref 6)) 1 2001 (s2 w.params os).abs (piecesOf k3 eV eC p2 [topFrame ⟨0, 0, 0, 0⟩]) = some (.next, (s3 w.params os).abs, eC, p3) := runP_seg (n := 40) (run3 w os)
theorem seg4 : segRun treeTable pw w 11 (some (.ref 6)) 1 2001 (s3 w.params os).abs (piecesOf k4 eV eC p3 [topFrame ⟨0, 0, 0, 0⟩]) = some (.next, (s4 w.params os).abs, eC, p4) := runP_seg (n := 40) (run4 w os)
theorem seg5 : segRun treeTable pw w 11 (some (.ref 6)) 1 2001 (s4 w.params os).abs (piecesOf k5 eV eC p4 [topFrame ⟨0, 0, 0, 0⟩]) = some (.next, (s5 w.params os).abs, eC, p5) := runP_seg (n := 40) (run5 w os)
theorem seg6 : segRun treeTable pw w 11 (some (.ref 6)) 1 2001 (s5 w.params os).abs (piecesOf k6 eV eC p5 [topFrame ⟨0, 0, 0, 0⟩]) = some (.next, (s6 w.params os).abs, eC, p6) := runP_seg (n := 40) (run6 w os)
theorem tail7 : topRun treeTable pw w 11 (some (.ref 6)) 2 (s6 w.params os).abs (restOf [] eV eC p6 [topFrame ⟨0, 0, 0, 0⟩]) = some (s6 w.params os).abs := piece_nil (fin0 w os)
theorem tail6 : topRun treeTable pw w 11 (some (.ref 6)) (2001 + 2) (s5 w.params os).abs (restOf (k6 ++ []) eV eC p5 [topFrame ⟨0, 0, 0, 0⟩]) = some (s6 w.params os).abs := piece_app (seg6 w os) (tail7 w os)
theorem tail5 : topRun treeTable pw w 11 (some (.ref 6)) (2001 + (2001 + 2)) (s4 w.params os).abs (restOf (k5 ++ (k6 ++ [])) eV eC p4 [topFrame ⟨0, 0, 0, 0⟩]) = some (s6 w.params os).abs := piece_app (seg5 w os) (tail6 w os)
theorem tail4 : topRun treeTable pw w 11 (some (.ref 6)) (2001 + (2001 + (2001 + 2))) (s3 w.params os).abs (restOf (k4 ++ (k5 ++ (k6 ++ []))) eV eC p3 [topFrame ⟨0, 0, 0, 0⟩]) = some (s6 w.params os).abs := piece_app (seg4 w os) (tail5 w os)
theorem tail3 : topRun treeTable pw w 11 (some (.ref 6)) (2001 + (2001 + (2001 + (2001 + 2)))) (s2 w.params os).abs (restOf (k3 ++ (k4 ++ (k5 ++ (k6 ++ [])))) eV eC p2 [topFrame ⟨0, 0, 0, 0⟩]) = some (s6 w.params os).abs := piece_app (seg3 w os) (tail4 w os)
theorem tail2 : topRun treeTable pw w 11 (some (.ref 6)) (2001 + (2001 + (2001 + (2001 + (2001 + 2))))) (s1 w.params os).abs (restOf (k2 ++ (k3 ++ (k4 ++ (k5 ++ (k6 ++ []))))) eV eC p1 [topFrame ⟨0, 0, 0, 0⟩]) = some (s6 w.params os).abs := piece_app (seg2 w os) (tail3 w os)
theorem tail1 : topRun treeTable pw w 11 (some (.ref 6)) (2001 + (2001 + (2001 + (2001 + (2001 + (2001 + 2)))))) (sA w.params os).abs (restOf (k1 ++ (k2 ++ (k3 ++ (k4 ++ (k5 ++ (k6 ++ [])))))) eV eC pA [topFrame ⟨0, 0, 0, 0⟩]) = some (s6 w.params os).abs := piece_app (seg1 w os) (tail2 w os)
theorem tail0 : topRun treeTable pw w 11 (some (.ref 6)) (2001 + (2001 + (2001 + (2001 + (2001 + (2001 + 2)))))) (sA w.params os).abs (restOf eB eV eC pA [topFrame ⟨0, 0, 0, 0⟩]) = some (s6 w.params os).abs := by
  have := tail1 w os
  rwa [← cut_all] at this
theorem tailB : topRun treeTable pw w 11 (some (.ref 6)) (1 + (2001 + (2001 + (2001 + (2001 + (2001 + (2001 + 2))))))) (sA w.params os).abs ⟨denote treeTable (.body eB eV), eC, pA, [topFrame ⟨0, 0, 0, 0⟩]⟩ = some (s6 w.params os).abs := piece_block (blkT0 w os) (tail0 w os)
theorem top_run : topRun treeTable pw w 11 (some (.ref 6)) (12 + (1 + (2001 + (2001 + (2001 + (2001 + (2001 + (2001 + 2)))))))) ⟨boot_heap w.params, ⟨[]⟩, boot_drawn, boot_toks, os⟩ (topStub pw) = some (s6 w.params os).abs := go_top (goT0 w os) (tailB w os)
end
end
noncomputable section
set_option maxHeartbeats 0
noncomputable def qv : Program := { pw with main := { pw.main with body := [stm 117] } }
noncomputable def lo : List Str := [n170, n171, n172, n173, n174, n175, n176, n198, n199, n200, n201, n202, n203, n204, n205, n206, n207, n238, n239, n240, n241, n242, n243, n244, n245, n246, n247, n248, n249, n188, n250, n251, n252, n253, n254, n255, n256, n257, n258, n259, n260, n261, n283, n284, n285, n286, n287, n288, n289, n290, n291, n292, n293, n294, n295, n296, n297, n298, n299, n300, n301, n302, n303, n304, n305, n306, n307, n308, n309, n310, n311, n312, n313, n314, n315, n316, n317, n364, n365, n366, n367, n368, n369, n370, n371, n372, n373, n374, n375, n376, n377, n378, n379, n400, n401, n402, n403, n404, n405, n406]
noncomputable def mods0 : List Str := importedModules pw.main.body
theorem mods0_e : mods0 = [] := by kernel_rfl
noncomputable abbrev sF (P : Params) (os : OsState) : Shared := ⟨h1 P, ⟨[]⟩, boot_drawn, 1932, os⟩
noncomputable def lookA (p : Program) (h₀ h₁ : Heap) (s : Shared) : Bool := staticsOk (importedModules p.main.body) h₀ h₁ && namesBound p h₁ && gensDone s && laidKept h₀ h₁
theorem look1 (w : World) (os : OsState) : lookA pw (boot_heap w.params) (h1 w.params) (sF w.params os) = true := by kernel_rfl
theorem size0 (w : World) : ((boot_heap w.params).isNs mainGlobals && (⟨[]⟩ : Array GenState).size == 0, (boot_heap w.params).objs.size, (boot_heap w.params).nsMap mainGlobals "__annotations__") = (true, 11, some (Value.ref 6)) := by kernel_rfl
theorem open0 (w : World) : (fencedOpening treeTable pw w 20000).map (fun s => (s.heap, s.gens, s.drawn, s.toks)) = some (boot_heap w.params, Array.mk [], boot_drawn, boot_toks) :=
  boot_open (p := pw) (N := 20000) (by kernel_rfl) (by decide) (fun s => by kernel_rfl) w
end
noncomputable section
set_option maxHeartbeats 0
noncomputable def gP (x : Str) (v : Option Value) : Str × Option Value := (x, v)
noncomputable def globs : List (Str × Option Value) := [gP "and_items" (some (.ref 143)), gP "or_items" (some (.ref 150)), gP "truth_item" (some (.ref 157)), gP "scalar_truth" (some (.ref 164)), gP "flag" (some (.ref 357)), gP "length" (some (.ref 371)), gP "is_atomic" (some (.ref 378)), gP "share" (some (.ref 392)), gP "to_logical" (some (.ref 406)), gP "condition" (some (.ref 413)), gP "lookup" (some (.ref 589)), gP "define" (some (.ref 610)), gP "is_dots_place" (some (.ref 672)), gP "logic_left" (some (.ref 854)), gP "logic_right" (some (.ref 861)), gP "jump" (some (.ref 875)), gP "perform_push" (some (.ref 882)), gP "perform_jump" (some (.ref 889)), gP "perform_loop" (some (.ref 896)), gP "perform_assign" (some (.ref 903)), gP "perform" (some (.ref 910)), gP "_law_take" (some (.ref 1169)), gP "_law_plain" (some (.ref 1176)), gP "_law_row" (some (.ref 1183)), gP "_law_truth" (some (.ref 1190)), gP "_law_joined" (some (.ref 1197)), gP "_law_done" (some (.ref 1204)), gP "law" (some (.ref 1209)), gP "Vector" (some (.ref 210)), gP "Environment" (some (.ref 297)), gP "Run" (some (.ref 817)), gP "Code" (some (.ref 927)), gP "Evaluator" (some (.ref 1158)), gP "Refusal" (some (.ref 51)), gP "len" (none), gP "isinstance" (none), gP "list" (none), gP "sum" (none), gP "range" (none)]
noncomputable def xtB (gl : List (Str × Option Value)) (s : Shared) : Bool := gl.all fun p => decide (s.heap.nsMap mainGlobals p.1 = p.2)
abbrev xtP (gl : List (Str × Option Value)) (mg : Str → Option Value) : Prop := ∀ p ∈ gl, mg p.1 = p.2
theorem xtB_of {gl : List (Str × Option Value)} {s : Shared} (h : xtB gl s = true) : xtP gl (s.heap.nsMap mainGlobals) := fun p hp => of_decide_eq_true (List.all_eq_true.mp h p hp)
noncomputable def ka : List Addr := [1, 30, 31, 47, 48, 50, 51, 142, 143, 149, 150, 156, 157, 163, 164, 193, 199, 200, 209, 210, 287, 293, 294, 296, 297, 356, 357, 370, 371, 377, 378, 391, 392, 405, 406, 412, 413, 588, 589, 609, 610, 671, 672, 813, 814, 816, 817, 853, 854, 860, 861, 874, 875, 881, 882, 888, 889, 895, 896, 902, 903, 909, 910, 923, 924, 926, 927, 960, 966, 967, 973, 974, 1024, 1025, 1157, 1158, 1168, 1169, 1175, 1176, 1182, 1183, 1189, 1190, 1196, 1197, 1203, 1204, 1208, 1209]
noncomputable def kK (P : Params) : Frag := [
  (1, xD [xE P n1 162 (.ref 4), xE P n160 163 (.ref 5)] 2),
  (30, xD [xE P n178 203 (.str n169 194), xE P n180 207 (.int 5 206), xE P n181 208 (.ref 29), xE P n182 210 (.ref 32), xE P n2 211 (.none)] 3),
  (31, xC n171 n171 [.type "Exception"] [.ref 31, .type "Exception", .type "BaseException", .type "object"] 30 [.ref 51, .ref 70, .ref 89, .ref 108, .ref 127] [some (.ref 22), none, some (.str n171 196), some (.str n171 204), some (.builtin "Exception.__new__"), some (.bool true)]),
  (47, xF "code" [.str n183 228, .str n186 229, .str n164 230, .int 9 0, .int 2 0, .int 0 0, .int 0 0, .int 3 0, .ref 42, .bool true, .int 181 0, .ref 43, .none, .ref 44, .ref 45, .ref 46, .int 233 0, .int 9 0, .str n164 234]),
  (48, xH n183 n186 (mth 3 0) (.none) (.str n169 194) (.ref 47)),
  (50, xD [xE P n178 223 (.str n169 194), xE P n180 227 (.int 7 226), xE P n183 235 (.ref 48), xE P n181 237 (.ref 49), xE P n2 238 (.none)] 2),
  (51, xC n172 n172 [.ref 31] [.ref 51, .ref 31, .type "Exception", .type "BaseException", .type "object"] 50 [] [some (.ref 35), none, some (.str n172 216), some (.str n172 224), some (.builtin "Exception.__new__"), some (.bool true)]),
  (142, xF "code" [.str n199 360, .str n199 361, .str n164 362, .int 35 0, .int 2 0, .int 0 0, .int 0 0, .int 3 0, .ref 137, .bool true, .int 181 0, .ref 138, .none, .ref 139, .ref 140, .ref 141, .int 365 0, .int 35 0, .str n164 366]),
  (143, xH n199 n199 (stm 11) (.none) (.str n212 358) (.ref 142)),
  (149, xF "code" [.str n200 368, .str n200 369, .str n164 370, .int 41 0, .int 2 0, .int 0 0, .int 0 0, .int 3 0, .ref 144, .bool true, .int 181 0, .ref 145, .none, .ref 146, .ref 147, .ref 148, .int 373 0, .int 41 0, .str n164 374]),
  (150, xH n200 n200 (stm 12) (.none) (.str n212 358) (.ref 149)),
  (156, xF "code" [.str n201 376, .str n201 377, .str n164 378, .int 47 0, .int 2 0, .int 0 0, .int 0 0, .int 3 0, .ref 151, .bool true, .int 181 0, .ref 152, .none, .ref 153, .ref 154, .ref 155, .int 381 0, .int 47 0, .str n164 382]),
  (157, xH n201 n201 (stm 13) (.none) (.str n212 358) (.ref 156)),
  (163, xF "code" [.str n202 386, .str n202 387, .str n164 388, .int 56 0, .int 3 0, .int 0 0, .int 0 0, .int 3 0, .ref 158, .bool true, .int 181 0, .ref 159, .none, .ref 160, .ref 161, .ref 162, .int 392 0, .int 56 0, .str n164 393]),
  (164, xH n202 n202 (stm 15) (.none) (.str n218 384) (.ref 163)),
  (193, xT [.none]),
  (199, xF "code" [.str n183 438, .str n224 439, .str n164 440, .int 72 0, .int 4 0, .int 0 0, .int 0 0, .int 3 0, .ref 194, .bool true, .int 181 0, .ref 195, .none, .ref 196, .ref 197, .ref 198, .int 445 0, .int 72 0, .str n164 446]),
  (200, xH n183 n224 (mth 18 0) (.ref 193) (.str n197 395) (.ref 199)),
  (209, xD [xE P n178 433 (.str n197 395), xE P n180 437 (.int 70 436), xE P n183 447 (.ref 200), xE P n222 454 (.ref 207), xE P n181 460 (.ref 208), xE P n221 462 (.ref 211), xE P n182 464 (.ref 212), xE P n2 465 (.none)] 4),
  (210, xC n204 n204 [.type "object"] [.ref 210, .type "object"] 209 [] [none, none, some (.str n204 426), some (.str n204 434), some (.builtin "object.__new__"), some (.bool true)]),
  (287, xT [.none]),
  (293, xF "code" [.str n183 582, .str n263 583, .str n164 584, .int 105 0, .int 4 0, .int 0 0, .int 0 0, .int 3 0, .ref 288, .bool true, .int 181 0, .ref 289, .none, .ref 290, .ref 291, .ref 292, .int 589 0, .int 105 0, .str n164 590]),
  (294, xH n183 n263 (mth 22 0) (.ref 287) (.str n197 395) (.ref 293)),
  (296, xD [xE P n178 577 (.str n197 395), xE P n180 581 (.int 103 580), xE P n183 591 (.ref 294), xE P n181 599 (.ref 295), xE P n221 601 (.ref 298), xE P n182 603 (.ref 299), xE P n2 604 (.none)] 4),
  (297, xC n238 n238 [.type "object"] [.ref 297, .type "object"] 296 [] [none, none, some (.str n238 570), some (.str n238 578), some (.builtin "object.__new__"), some (.bool true)]),
  (356, xF "code" [.str n242 679, .str n242 680, .str n164 681, .int 130 0, .int 1 0, .int 0 0, .int 0 0, .int 3 0, .ref 351, .bool true, .int 181 0, .ref 352, .none, .ref 353, .ref 354, .ref 355, .int 683 0, .int 130 0, .str n164 684]),
  (357, xH n242 n242 (stm 26) (.none) (.str n197 395) (.ref 356)),
  (370, xF "code" [.str n244 693, .str n244 694, .str n164 695, .int 136 0, .int 1 0, .int 0 0, .int 0 0, .int 3 0, .ref 365, .bool true, .int 181 0, .ref 366, .none, .ref 367, .ref 368, .ref 369, .int 698 0, .int 136 0, .str n164 699]),
  (371, xH n244 n244 (stm 28) (.none) (.str n197 395) (.ref 370)),
  (377, xF "code" [.str n245 701, .str n245 702, .str n164 703, .int 147 0, .int 1 0, .int 0 0, .int 0 0, .int 3 0, .ref 372, .bool true, .int 181 0, .ref 373, .none, .ref 374, .ref 375, .ref 376, .int 705 0, .int 147 0, .str n164 706]),
  (378, xH n245 n245 (stm 29) (.none) (.str n197 395) (.ref 377)),
  (391, xF "code" [.str n247 715, .str n247 716, .str n164 717, .int 151 0, .int 1 0, .int 0 0, .int 0 0, .int 3 0, .ref 386, .bool true, .int 181 0, .ref 387, .none, .ref 388, .ref 389, .ref 390, .int 719 0, .int 151 0, .str n164 720]),
  (392, xH n247 n247 (stm 31) (.none) (.str n197 395) (.ref 391)),
  (405, xF "code" [.str n249 731, .str n249 732, .str n164 733, .int 162 0, .int 2 0, .int 0 0, .int 0 0, .int 3 0, .ref 400, .bool true, .int 181 0, .ref 401, .none, .ref 402, .ref 403, .ref 404, .int 736 0, .int 162 0, .str n164 737]),
  (406, xH n249 n249 (stm 34) (.none) (.str n273 722) (.ref 405)),
  (412, xF "code" [.str n188 739, .str n188 740, .str n164 741, .int 172 0, .int 1 0, .int 0 0, .int 0 0, .int 3 0, .ref 407, .bool true, .int 181 0, .ref 408, .none, .ref 409, .ref 410, .ref 411, .int 745 0, .int 172 0, .str n164 746]),
  (413, xH n188 n188 (stm 35) (.none) (.str n273 722) (.ref 412)),
  (588, xF "code" [.str n289 965, .str n289 966, .str n164 967, .int 338 0, .int 2 0, .int 0 0, .int 0 0, .int 3 0, .ref 583, .bool true, .int 181 0, .ref 584, .none, .ref 585, .ref 586, .ref 587, .int 971 0, .int 338 0, .str n164 972]),
  (589, xH n289 n289 (stm 59) (.none) (.str n336 955) (.ref 588)),
  (609, xF "code" [.str n292 989, .str n292 990, .str n164 991, .int 353 0, .int 3 0, .int 0 0, .int 0 0, .int 3 0, .ref 604, .bool true, .int 181 0, .ref 605, .none, .ref 606, .ref 607, .ref 608, .int 995 0, .int 353 0, .str n164 996]),
  (610, xH n292 n292 (stm 62) (.none) (.str n336 955) (.ref 609)),
  (671, xF "code" [.str n301 1068, .str n301 1069, .str n164 1070, .int 410 0, .int 1 0, .int 0 0, .int 0 0, .int 3 0, .ref 666, .bool true, .int 181 0, .ref 667, .none, .ref 668, .ref 669, .ref 670, .int 1072 0, .int 410 0, .str n164 1073]),
  (672, xH n301 n301 (stm 72) (.none) (.str n340 1019) (.ref 671)),
  (813, xF "code" [.str n183 1305, .str n380 1306, .str n164 1307, .int 537 0, .int 3 0, .int 0 0, .int 0 0, .int 3 0, .ref 808, .bool true, .int 181 0, .ref 809, .none, .ref 810, .ref 811, .ref 812, .int 1311 0, .int 537 0, .str n164 1312]),
  (814, xH n183 n380 (mth 91 0) (.none) (.str n282 1261) (.ref 813)),
  (816, xD [xE P n178 1300 (.str n282 1261), xE P n180 1304 (.int 535 1303), xE P n183 1313 (.ref 814), xE P n181 1320 (.ref 815), xE P n221 1322 (.ref 818), xE P n182 1324 (.ref 819), xE P n2 1325 (.none)] 4),
  (817, xC n364 n364 [.type "object"] [.ref 817, .type "object"] 816 [] [none, none, some (.str n364 1293), some (.str n364 1301), some (.builtin "object.__new__"), some (.bool true)]),
  (853, xF "code" [.str n369 1362, .str n369 1363, .str n164 1364, .int 576 0, .int 3 0, .int 0 0, .int 0 0, .int 3 0, .ref 848, .bool true, .int 181 0, .ref 849, .none, .ref 850, .ref 851, .ref 852, .int 1371 0, .int 576 0, .str n164 1372]),
  (854, xH n369 n369 (stm 96) (.none) (.str n282 1261) (.ref 853)),
  (860, xF "code" [.str n370 1374, .str n370 1375, .str n164 1376, .int 584 0, .int 3 0, .int 0 0, .int 0 0, .int 3 0, .ref 855, .bool true, .int 181 0, .ref 856, .none, .ref 857, .ref 858, .ref 859, .int 1382 0, .int 584 0, .str n164 1383]),
  (861, xH n370 n370 (stm 97) (.none) (.str n282 1261) (.ref 860)),
  (874, xF "code" [.str n372 1396, .str n372 1397, .str n164 1398, .int 600 0, .int 3 0, .int 0 0, .int 0 0, .int 3 0, .ref 869, .bool true, .int 181 0, .ref 870, .none, .ref 871, .ref 872, .ref 873, .int 1402 0, .int 600 0, .str n164 1403]),
  (875, xH n372 n372 (stm 99) (.none) (.str n282 1261) (.ref 874)),
  (881, xF "code" [.str n373 1405, .str n373 1406, .str n164 1407, .int 604 0, .int 3 0, .int 0 0, .int 0 0, .int 3 0, .ref 876, .bool true, .int 181 0, .ref 877, .none, .ref 878, .ref 879, .ref 880, .int 1412 0, .int 604 0, .str n164 1413]),
  (882, xH n373 n373 (stm 100) (.none) (.str n282 1261) (.ref 881)),
  (888, xF "code" [.str n374 1415, .str n374 1416, .str n164 1417, .int 627 0, .int 3 0, .int 0 0, .int 0 0, .int 3 0, .ref 883, .bool true, .int 181 0, .ref 884, .none, .ref 885, .ref 886, .ref 887, .int 1422 0, .int 627 0, .str n164 1423]),
  (889, xH n374 n374 (stm 101) (.none) (.str n282 1261) (.ref 888)),
  (895, xF "code" [.str n375 1425, .str n375 1426, .str n164 1427, .int 648 0, .int 3 0, .int 0 0, .int 0 0, .int 3 0, .ref 890, .bool true, .int 181 0, .ref 891, .none, .ref 892, .ref 893, .ref 894, .int 1433 0, .int 648 0, .str n164 1434]),
  (896, xH n375 n375 (stm 102) (.none) (.str n282 1261) (.ref 895)),
  (902, xF "code" [.str n376 1436, .str n376 1437, .str n164 1438, .int 668 0, .int 3 0, .int 0 0, .int 0 0, .int 3 0, .ref 897, .bool true, .int 181 0, .ref 898, .none, .ref 899, .ref 900, .ref 901, .int 1447 0, .int 668 0, .str n164 1448]),
  (903, xH n376 n376 (stm 103) (.none) (.str n282 1261) (.ref 902)),
  (909, xF "code" [.str n377 1450, .str n377 1451, .str n164 1452, .int 691 0, .int 3 0, .int 0 0, .int 0 0, .int 3 0, .ref 904, .bool true, .int 181 0, .ref 905, .none, .ref 906, .ref 907, .ref 908, .int 1457 0, .int 691 0, .str n164 1458]),
  (910, xH n377 n377 (stm 104) (.none) (.str n282 1261) (.ref 909)),
  (923, xF "code" [.str n183 1474, .str n392 1475, .str n164 1476, .int 708 0, .int 2 0, .int 0 0, .int 0 0, .int 3 0, .ref 918, .bool true, .int 181 0, .ref 919, .none, .ref 920, .ref 921, .ref 922, .int 1479 0, .int 708 0, .str n164 1480]),
  (924, xH n183 n392 (mth 106 0) (.none) (.str n391 1460) (.ref 923)),
  (926, xD [xE P n178 1469 (.str n391 1460), xE P n180 1473 (.int 706 1472), xE P n183 1481 (.ref 924), xE P n181 1486 (.ref 925), xE P n221 1488 (.ref 928), xE P n182 1490 (.ref 929), xE P n2 1491 (.none)] 4),
  (927, xC n378 n378 [.type "object"] [.ref 927, .type "object"] 926 [] [none, none, some (.str n378 1462), some (.str n378 1470), some (.builtin "object.__new__"), some (.bool true)]),
  (960, xT [.int 20000 1547, .int 40 1548]),
  (966, xF "code" [.str n183 1549, .str n433 1550, .str n164 1551, .int 726 0, .int 3 0, .int 0 0, .int 0 0, .int 3 0, .ref 961, .bool true, .int 181 0, .ref 962, .none, .ref 963, .ref 964, .ref 965, .int 1555 0, .int 726 0, .str n164 1556]),
  (967, xH n183 n433 (mth 109 0) (.ref 960) (.str n363 1494) (.ref 966)),
  (973, xF "code" [.str n408 1558, .str n434 1559, .str n164 1560, .int 747 0, .int 2 0, .int 0 0, .int 0 0, .int 3 0, .ref 968, .bool true, .int 181 0, .ref 969, .none, .ref 970, .ref 971, .ref 972, .int 1564 0, .int 747 0, .str n164 1565]),
  (974, xH n408 n434 (mth 109 1) (.none) (.str n363 1494) (.ref 973)),
  (1024, xF "code" [.str n413 1621, .str n446 1622, .str n164 1623, .int 784 0, .int 3 0, .int 0 0, .int 0 0, .int 3 0, .ref 1019, .bool true, .int 181 0, .ref 1020, .none, .ref 1021, .ref 1022, .ref 1023, .int 1629 0, .int 784 0, .str n164 1630]),
  (1025, xH n413 n446 (mth 109 8) (.none) (.str n363 1494) (.ref 1024)),
  (1157, xD [xE P n178 1542 (.str n363 1494), xE P n180 1546 (.int 724 1545), xE P n183 1557 (.ref 967), xE P n408 1566 (.ref 974), xE P n292 1578 (.ref 982), xE P n409 1585 (.ref 989), xE P n410 1594 (.ref 996), xE P n411 1603 (.ref 1004), xE P n412 1610 (.ref 1011), xE P n20 1620 (.ref 1018), xE P n413 1631 (.ref 1025), xE P n414 1641 (.ref 1032), xE P n415 1649 (.ref 1039), xE P n416 1660 (.ref 1047), xE P n417 1671 (.ref 1054), xE P n418 1680 (.ref 1061), xE P n419 1691 (.ref 1068), xE P n420 1700 (.ref 1075), xE P n421 1713 (.ref 1082), xE P n422 1729 (.ref 1090), xE P n423 1739 (.ref 1097), xE P n424 1751 (.ref 1104), xE P n425 1767 (.ref 1111), xE P n426 1786 (.ref 1119), xE P n427 1797 (.ref 1126), xE P n428 1806 (.ref 1133), xE P n429 1815 (.ref 1140), xE P n430 1826 (.ref 1148), xE P n385 1836 (.ref 1155), xE P n181 1856 (.ref 1156), xE P n221 1858 (.ref 1159), xE P n182 1860 (.ref 1160), xE P n2 1861 (.none)] 4),
  (1158, xC n400 n400 [.type "object"] [.ref 1158, .type "object"] 1157 [] [none, none, some (.str n400 1535), some (.str n400 1543), some (.builtin "object.__new__"), some (.bool true)]),
  (1168, xF "code" [.str n401 1866, .str n401 1867, .str n164 1868, .int 997 0, .int 2 0, .int 0 0, .int 0 0, .int 3 0, .ref 1163, .bool true, .int 181 0, .ref 1164, .none, .ref 1165, .ref 1166, .ref 1167, .int 1872 0, .int 997 0, .str n164 1873]),
  (1169, xH n401 n401 (stm 111) (.none) (.str n399 1864) (.ref 1168)),
  (1175, xF "code" [.str n402 1875, .str n402 1876, .str n164 1877, .int 1005 0, .int 1 0, .int 0 0, .int 0 0, .int 3 0, .ref 1170, .bool true, .int 181 0, .ref 1171, .none, .ref 1172, .ref 1173, .ref 1174, .int 1879 0, .int 1005 0, .str n164 1880]),
  (1176, xH n402 n402 (stm 112) (.none) (.str n399 1864) (.ref 1175)),
  (1182, xF "code" [.str n403 1882, .str n403 1883, .str n164 1884, .int 1007 0, .int 4 0, .int 0 0, .int 0 0, .int 3 0, .ref 1177, .bool true, .int 181 0, .ref 1178, .none, .ref 1179, .ref 1180, .ref 1181, .int 1892 0, .int 1007 0, .str n164 1893]),
  (1183, xH n403 n403 (stm 113) (.none) (.str n399 1864) (.ref 1182)),
  (1189, xF "code" [.str n404 1895, .str n404 1896, .str n164 1897, .int 1028 0, .int 1 0, .int 0 0, .int 0 0, .int 3 0, .ref 1184, .bool true, .int 181 0, .ref 1185, .none, .ref 1186, .ref 1187, .ref 1188, .int 1900 0, .int 1028 0, .str n164 1901]),
  (1190, xH n404 n404 (stm 114) (.none) (.str n399 1864) (.ref 1189)),
  (1196, xF "code" [.str n405 1903, .str n405 1904, .str n164 1905, .int 1033 0, .int 3 0, .int 0 0, .int 0 0, .int 3 0, .ref 1191, .bool true, .int 181 0, .ref 1192, .none, .ref 1193, .ref 1194, .ref 1195, .int 1909 0, .int 1033 0, .str n164 1910]),
  (1197, xH n405 n405 (stm 115) (.none) (.str n399 1864) (.ref 1196)),
  (1203, xF "code" [.str n406 1912, .str n406 1913, .str n164 1914, .int 1037 0, .int 5 0, .int 0 0, .int 0 0, .int 3 0, .ref 1198, .bool true, .int 181 0, .ref 1199, .none, .ref 1200, .ref 1201, .ref 1202, .int 1923 0, .int 1037 0, .str n164 1924]),
  (1204, xH n406 n406 (stm 116) (.none) (.str n399 1864) (.ref 1203)),
  (1208, xF "code" [.str n407 1926, .str n407 1927, .str n164 1928, .int 1068 0, .int 1 0, .int 0 0, .int 0 0, .int 3 0, .ref 1205, .bool true, .int 181 0, .ref 1206, .none, .none, .none, .ref 1207, .int 1929 0, .int 1068 0, .str n164 1930]),
  (1209, xH n407 n407 (stm 117) (.none) (.str n399 1864) (.ref 1208))]
theorem ka_e (P : Params) : ka = (kK P).map (·.1) := by kernel_rfl
noncomputable def lookB (q : Program) (lo mods : List Str) (gl : List (Str × Option Value)) (s : Shared) := openSeen q lo mods (xtB gl) false s
theorem look2 (w : World) (os : OsState) : lookB qv lo mods0 globs (sF w.params os) = openGood qv lo := by
  unfold lookB
  rw [PySem.W.Fast.te4187177175401517315]
  kernel_rfl
noncomputable def lookC (h : Heap) (as : List Addr) : List (Option Obj) := as.map h.get?
theorem look3 (w : World) : lookC (h1 w.params) ka = (kK w.params).map fun p => some p.2 := by kernel_rfl
noncomputable abbrev Xt0 : Shared → Bool := xtB globs
noncomputable abbrev Yf0 (s : Shared) : List (Option Obj) := lookC s.heap ka
noncomputable abbrev Ya0 (w : World) : List (Option Obj) := (kK w.params).map fun p => some p.2
theorem s6_abs (P : Params) (os : OsState) : (s6 P os).abs = sF P os := by
  unfold sF h1 s6
  unfold SharedT.abs
  dsimp only
theorem top_run' (w : World) (os : OsState) : topRun treeTable pw w 11 (some (.ref 6)) (12 + (1 + (2001 + (2001 + (2001 + (2001 + (2001 + (2001 + 2)))))))) ⟨boot_heap w.params, ⟨[]⟩, boot_drawn, boot_toks, os⟩ (topStub pw) = some ⟨h1 w.params, ⟨[]⟩, boot_drawn, 1932, os⟩ := (top_run w os).trans (congrArg some (s6_abs _ os))
theorem l1 (w : World) (os : OsState) : (staticsOk (importedModules pw.main.body) (boot_heap w.params) (h1 w.params) && namesBound pw (h1 w.params) && gensDone (sF w.params os) && laidKept (boot_heap w.params) (h1 w.params)) = true := look1 w os
theorem l2 (w : World) (os : OsState) : openSeen qv lo (importedModules pw.main.body) (xtB globs) false (sF w.params os) = openGood qv lo := look2 w os
theorem three {α β γ : Type} {a a' : α} {b b' : β} {c c' : γ} (x : a = a') (y : b = b') (z : c = c') : (a, b, c) = (a', b', c') := by subst x; subst y; subst z; rfl
theorem l3 (w : World) : (fun os => ((staticsOk (importedModules pw.main.body) (boot_heap w.params) (h1 w.params) && namesBound pw (h1 w.params) && gensDone ⟨h1 w.params, ⟨[]⟩, boot_drawn, 1932, os⟩ && laidKept (boot_heap w.params) (h1 w.params)),
    openSeen qv lo (importedModules pw.main.body) (xtB globs) false ⟨h1 w.params, ⟨[]⟩, boot_drawn, 1932, os⟩, Yf0 ⟨h1 w.params, ⟨[]⟩, boot_drawn, 1932, os⟩)) = fun _ => (true, openGood qv lo, Ya0 w) :=
  funext fun os => three (l1 w os) (l2 w os) (look3 w)
theorem left0 : LeftO pw qv lo (xtB globs) Yf0 Ya0 20000 false :=
  LeftO.of_pieces (p := pw) (q := qv) (loose := lo) (Xt := xtB globs) (Yf := Yf0) (Ya := Ya0) (N := 20000) (g0 := false) (H₀ := boot_heap) (H₁ := h1) (gs₀ := ⟨[]⟩) (gs₁ := ⟨[]⟩) (d₀ := boot_drawn) (d₁ := boot_drawn) (k₀ := boot_toks) (k₁ := 1932) (m₀ := 11) (ann := some (.ref 6)) (M := 12 + (1 + (2001 + (2001 + (2001 + (2001 + (2001 + (2001 + 2)))))))) open0 size0 top_run' (by decide) l3
end
noncomputable section
set_option maxHeartbeats 0
abbrev rw0 := PySem.Challenge.rw_pq1364_01
/-- the law's words but for looksOpen -/
noncomputable def wsSub (l : OpenLaw) : { b : Bool // looksOpen l.prog = true → l.wellSaid = b } := by
  refine ⟨?b, fun h => ?h⟩
  case h =>
    have h' : looksOpen l.row.toRowW.prog = true := h
    unfold OpenLaw.wellSaid OpenRow.wellSaid OpenRow.partSaid
    rw [h']
noncomputable def loSub (p : Program) : { x : Look × Bool // noRoadLSs x.1 p.main.body = true → looksOpen p = x.2 } := by
  apply Subtype.mk (_, _)
  intro h
  dsimp only at h
  unfold looksOpen
  rw [h]
theorem nr_app (lk : Look) : ∀ (l : List Stmt) (n : Nat), noRoadLSs lk (l.take n) = true → noRoadLSs lk (l.drop n) = true → noRoadLSs lk l = true
  | [], _, _, h => by rwa [List.drop_nil] at h
  | s :: l, 0, _, h => h
  | s :: l, n + 1, h1, h2 => by
    have h1 : (noRoadLS lk s && noRoadLSs lk (l.take n)) = true := h1
    have h3 := Bool.and_eq_true_iff.mp h1
    show (noRoadLS lk s && noRoadLSs lk l) = true
    rw [h3.1, nr_app lk l n h3.2 h2]; rfl
def lkL : Look := { strict := false, foot := none }
theorem lk_lit : (loSub rw0.prog).1.1 = lkL := by
  unfold loSub
  dsimp only
  rw [PySem.W.Fast.te13343964577679436407, PySem.W.Fast.te5923862056798008813]
  kernel_rfl
theorem nr1 : noRoadLSs lkL ((rw0.prog.main.body).take 40) = true := by
  rw [PySem.W.Fast.te8326940854005059898]
  kernel_rfl
theorem nr2 : noRoadLSs lkL (((rw0.prog.main.body).drop 40).take 35) = true := by
  rw [PySem.W.Fast.te8326940854005059898]
  kernel_rfl
theorem nr3 : noRoadLSs lkL ((((rw0.prog.main.body).drop 40).drop 35).take 25) = true := by
  rw [PySem.W.Fast.te8326940854005059898]
  kernel_rfl
theorem nr4 : noRoadLSs lkL ((((rw0.prog.main.body).drop 40).drop 35).drop 25) = true := by
  rw [PySem.W.Fast.te8326940854005059898]
  kernel_rfl
theorem nr_all : noRoadLSs (loSub rw0.prog).1.1 rw0.prog.main.body = true := by
  rw [lk_lit]
  exact nr_app _ _ 40 nr1 (nr_app _ _ 35 nr2 (nr_app _ _ 25 nr3 nr4))
theorem lo_rest : (loSub rw0.prog).1.2 = true := by
  unfold loSub
  dsimp only
  rw [PySem.W.Fast.te11788848310118352699, PySem.W.Fast.te9807087744658564304, PySem.W.Fast.te12862048085361865435, PySem.W.Fast.te8377067652309620493, PySem.W.Fast.te18344453789297297638, PySem.W.Fast.te14412699480532031325, PySem.W.Fast.te17119622794617984870, PySem.W.Fast.te17868728402115742887]
  kernel_rfl
theorem looks_all : looksOpen rw0.prog = true := ((loSub rw0.prog).2 nr_all).trans lo_rest
theorem ws_rest : (wsSub rw0).1 = true := by
  unfold wsSub
  dsimp only
  rw [PySem.W.Fast.te8326940854005059898, PySem.W.Fast.te17119622794617984870, PySem.W.Fast.te8179353310426384613, PySem.W.Fast.te10501279942588096481, PySem.W.Fast.te9558739934217749035, PySem.W.Fast.te16286561074155671207, PySem.W.Fast.named_eq, PySem.W.Fast.te6984425678791042302, PySem.W.Fast.te797321630700447069, PySem.W.Fast.te10792542408131684335, PySem.W.Fast.te18344453789297297638]
  kernel_rfl
theorem ws_law : rw0.wellSaid = true := ((wsSub rw0).2 looks_all).trans ws_rest
end
noncomputable section
set_option maxHeartbeats 0
noncomputable def okB (q p : Program) (r : RowW) : Bool := chainsOk q && opensWell p && (frees r && r.within.isEmpty)
theorem ok0 : okB qv pw rw0.row.toRowW = true := by
  kernel_rfl
noncomputable def tdB (p : Program) (n : Str) : Option (Arguments × List Stmt × Scope) := p.theDef n
theorem td0 : tdB pw "law" = some (paramsOf (stm 117), bodyOf (stm 117), scopeOf (stm 117)) := by
  unfold tdB
  rw [PySem.W.Fast.te10235530238920679567]
  kernel_rfl
theorem tw0 : pw.tablesWhole = true := by
  unfold Program.tablesWhole TablesWhole.wProgram
  unfold TablesWhole.holds
  rw [PySem.W.Fast.te6116379765354995101, PySem.W.Fast.te15985051520779696433]
  kernel_rfl
def posOf : Stmt → Pos
  | .FunctionDef _ _ _ _ _ _ _ _ _ p => p
  | _ => ⟨0, 0, 0, 0⟩
noncomputable def d0r : DefRec := ⟨"law", paramsOf (stm 117), bodyOf (stm 117), scopeOf (stm 117), posOf (stm 117)⟩
theorem def0 : defOf qv "law" = some (d0r, []) := by kernel_rfl
theorem kw0 : kwWritten? d0r.params.kwonlyargs d0r.params.kw_defaults = some [] := by kernel_rfl
theorem wit0 : rw0.row.toRowW.promised := ⟨[.list []], by decide +kernel, by decide +kernel⟩
end
end Mine.Hd
namespace Mine
open PySem PySem.W PySem.Calls PyProof.Rows
noncomputable section
-- Refusal.__init__
theorem sc_Refusal_init : Sc (scopeOf (mth 3 0)) ((["self", "message"] : List Str) ++ ([] : List Str)) ([] : List Str) := by refine ⟨?_, ?_, ?_, ?_, ?_, ?_, ?_, ?_⟩ <;> decide +kernel
theorem bnd_Refusal_init (a0 a1 : Value) : Bnd (mth 3 0) [] [a0, a1] [a0, a1] := by
  intro s name qual dV kV doc pm an cdv ct h
  rcases h with ⟨_, rfl⟩ | ⟨ne, _⟩
  · exact BindsTo.of_eq (by rfl)
  · exact absurd rfl ne
-- and_items
theorem sc_and_items : Sc (scopeOf (stm 11)) ((["a", "b"] : List Str) ++ ([] : List Str)) ([] : List Str) := by refine ⟨?_, ?_, ?_, ?_, ?_, ?_, ?_, ?_⟩ <;> decide +kernel
theorem bnd_and_items (a0 a1 : Value) : Bnd (stm 11) [] [a0, a1] [a0, a1] := by
  intro s name qual dV kV doc pm an cdv ct h
  rcases h with ⟨_, rfl⟩ | ⟨ne, _⟩
  · exact BindsTo.of_eq (by rfl)
  · exact absurd rfl ne
-- or_items
theorem sc_or_items : Sc (scopeOf (stm 12)) ((["a", "b"] : List Str) ++ ([] : List Str)) ([] : List Str) := by refine ⟨?_, ?_, ?_, ?_, ?_, ?_, ?_, ?_⟩ <;> decide +kernel
theorem bnd_or_items (a0 a1 : Value) : Bnd (stm 12) [] [a0, a1] [a0, a1] := by
  intro s name qual dV kV doc pm an cdv ct h
  rcases h with ⟨_, rfl⟩ | ⟨ne, _⟩
  · exact BindsTo.of_eq (by rfl)
  · exact absurd rfl ne
-- truth_item
theorem sc_truth_item : Sc (scopeOf (stm 13)) ((["kind", "item"] : List Str) ++ ([] : List Str)) (["is_na"] : List Str) := by refine ⟨?_, ?_, ?_, ?_, ?_, ?_, ?_, ?_⟩ <;> decide +kernel
theorem bnd_truth_item (a0 a1 : Value) : Bnd (stm 13) [] [a0, a1] [a0, a1] := by
  intro s name qual dV kV doc pm an cdv ct h
  rcases h with ⟨_, rfl⟩ | ⟨ne, _⟩
  · exact BindsTo.of_eq (by rfl)
  · exact absurd rfl ne
-- scalar_truth
theorem sc_scalar_truth : Sc (scopeOf (stm 15)) ((["v", "side", "op"] : List Str) ++ ([] : List Str)) (["Refusal", "len", "truth_item"] : List Str) := by refine ⟨?_, ?_, ?_, ?_, ?_, ?_, ?_, ?_⟩ <;> decide +kernel
theorem bnd_scalar_truth (a0 a1 a2 : Value) : Bnd (stm 15) [] [a0, a1, a2] [a0, a1, a2] := by
  intro s name qual dV kV doc pm an cdv ct h
  rcases h with ⟨_, rfl⟩ | ⟨ne, _⟩
  · exact BindsTo.of_eq (by rfl)
  · exact absurd rfl ne
-- Vector.__init__
theorem sc_Vector_init : Sc (scopeOf (mth 18 0)) ((["self", "kind", "items", "attrs"] : List Str) ++ ([] : List Str)) ([] : List Str) := by refine ⟨?_, ?_, ?_, ?_, ?_, ?_, ?_, ?_⟩ <;> decide +kernel
theorem bnd_Vector_init3 (a0 a1 a2 e0 : Value) : Bnd (mth 18 0) [e0] [a0, a1, a2] [a0, a1, a2, e0] := by
  intro s name qual dV kV doc pm an cdv ct h
  rcases h with ⟨e, _⟩ | ⟨_, T, o, n, rfl, h, e⟩
  · cases e
  · exact BindsTo.of_defaults rfl h e rfl rfl
theorem bnd_Vector_init4 (a0 a1 a2 a3 e0 : Value) : Bnd (mth 18 0) [e0] [a0, a1, a2, a3] [a0, a1, a2, a3] := by
  intro s name qual dV kV doc pm an cdv ct h
  rcases h with ⟨e, _⟩ | ⟨_, T, o, n, rfl, h, e⟩
  · cases e
  · exact BindsTo.of_defaults rfl h e rfl rfl
-- Environment.__init__
theorem sc_Environment_init : Sc (scopeOf (mth 22 0)) ((["self", "number", "parent", "attrs"] : List Str) ++ ([] : List Str)) ([] : List Str) := by refine ⟨?_, ?_, ?_, ?_, ?_, ?_, ?_, ?_⟩ <;> decide +kernel
theorem bnd_Environment_init3 (a0 a1 a2 e0 : Value) : Bnd (mth 22 0) [e0] [a0, a1, a2] [a0, a1, a2, e0] := by
  intro s name qual dV kV doc pm an cdv ct h
  rcases h with ⟨e, _⟩ | ⟨_, T, o, n, rfl, h, e⟩
  · cases e
  · exact BindsTo.of_defaults rfl h e rfl rfl
theorem bnd_Environment_init4 (a0 a1 a2 a3 e0 : Value) : Bnd (mth 22 0) [e0] [a0, a1, a2, a3] [a0, a1, a2, a3] := by
  intro s name qual dV kV doc pm an cdv ct h
  rcases h with ⟨e, _⟩ | ⟨_, T, o, n, rfl, h, e⟩
  · cases e
  · exact BindsTo.of_defaults rfl h e rfl rfl
-- flag
theorem sc_flag : Sc (scopeOf (stm 26)) ((["b"] : List Str) ++ ([] : List Str)) (["Vector"] : List Str) := by refine ⟨?_, ?_, ?_, ?_, ?_, ?_, ?_, ?_⟩ <;> decide +kernel
theorem bnd_flag (a0 : Value) : Bnd (stm 26) [] [a0] [a0] := by
  intro s name qual dV kV doc pm an cdv ct h
  rcases h with ⟨_, rfl⟩ | ⟨ne, _⟩
  · exact BindsTo.of_eq (by rfl)
  · exact absurd rfl ne
-- length
theorem sc_length : Sc (scopeOf (stm 28)) ((["v"] : List Str) ++ (["kind"] : List Str)) (["isinstance", "Vector", "len"] : List Str) := by refine ⟨?_, ?_, ?_, ?_, ?_, ?_, ?_, ?_⟩ <;> decide +kernel
theorem bnd_length (a0 : Value) : Bnd (stm 28) [] [a0] [a0] := by
  intro s name qual dV kV doc pm an cdv ct h
  rcases h with ⟨_, rfl⟩ | ⟨ne, _⟩
  · exact BindsTo.of_eq (by rfl)
  · exact absurd rfl ne
-- is_atomic
theorem sc_is_atomic : Sc (scopeOf (stm 29)) ((["v"] : List Str) ++ ([] : List Str)) ([] : List Str) := by refine ⟨?_, ?_, ?_, ?_, ?_, ?_, ?_, ?_⟩ <;> decide +kernel
theorem bnd_is_atomic (a0 : Value) : Bnd (stm 29) [] [a0] [a0] := by
  intro s name qual dV kV doc pm an cdv ct h
  rcases h with ⟨_, rfl⟩ | ⟨ne, _⟩
  · exact BindsTo.of_eq (by rfl)
  · exact absurd rfl ne
-- share
theorem sc_share : Sc (scopeOf (stm 31)) ((["v"] : List Str) ++ ([] : List Str)) (["isinstance", "Vector"] : List Str) := by refine ⟨?_, ?_, ?_, ?_, ?_, ?_, ?_, ?_⟩ <;> decide +kernel
theorem bnd_share (a0 : Value) : Bnd (stm 31) [] [a0] [a0] := by
  intro s name qual dV kV doc pm an cdv ct h
  rcases h with ⟨_, rfl⟩ | ⟨ne, _⟩
  · exact BindsTo.of_eq (by rfl)
  · exact absurd rfl ne
-- to_logical
theorem sc_to_logical : Sc (scopeOf (stm 34)) ((["kind", "item"] : List Str) ++ ([] : List Str)) (["as_logical_text", "is_na"] : List Str) := by refine ⟨?_, ?_, ?_, ?_, ?_, ?_, ?_, ?_⟩ <;> decide +kernel
theorem bnd_to_logical (a0 a1 : Value) : Bnd (stm 34) [] [a0, a1] [a0, a1] := by
  intro s name qual dV kV doc pm an cdv ct h
  rcases h with ⟨_, rfl⟩ | ⟨ne, _⟩
  · exact BindsTo.of_eq (by rfl)
  · exact absurd rfl ne
-- condition
theorem sc_condition : Sc (scopeOf (stm 35)) ((["v"] : List Str) ++ (["count", "found"] : List Str)) (["length", "Refusal", "is_atomic", "to_logical"] : List Str) := by refine ⟨?_, ?_, ?_, ?_, ?_, ?_, ?_, ?_⟩ <;> decide +kernel
theorem bnd_condition (a0 : Value) : Bnd (stm 35) [] [a0] [a0] := by
  intro s name qual dV kV doc pm an cdv ct h
  rcases h with ⟨_, rfl⟩ | ⟨ne, _⟩
  · exact BindsTo.of_eq (by rfl)
  · exact absurd rfl ne
-- lookup
theorem sc_lookup : Sc (scopeOf (stm 59)) ((["env", "name"] : List Str) ++ (["found"] : List Str)) ([] : List Str) := by refine ⟨?_, ?_, ?_, ?_, ?_, ?_, ?_, ?_⟩ <;> decide +kernel
theorem bnd_lookup (a0 a1 : Value) : Bnd (stm 59) [] [a0, a1] [a0, a1] := by
  intro s name qual dV kV doc pm an cdv ct h
  rcases h with ⟨_, rfl⟩ | ⟨ne, _⟩
  · exact BindsTo.of_eq (by rfl)
  · exact absurd rfl ne
-- define
theorem sc_define : Sc (scopeOf (stm 62)) ((["env", "name", "value"] : List Str) ++ ([] : List Str)) (["Refusal", "locked_text"] : List Str) := by refine ⟨?_, ?_, ?_, ?_, ?_, ?_, ?_, ?_⟩ <;> decide +kernel
theorem bnd_define (a0 a1 a2 : Value) : Bnd (stm 62) [] [a0, a1, a2] [a0, a1, a2] := by
  intro s name qual dV kV doc pm an cdv ct h
  rcases h with ⟨_, rfl⟩ | ⟨ne, _⟩
  · exact BindsTo.of_eq (by rfl)
  · exact absurd rfl ne
-- is_dots_place
theorem sc_is_dots_place : Sc (scopeOf (stm 72)) ((["name"] : List Str) ++ ([] : List Str)) (["len"] : List Str) := by refine ⟨?_, ?_, ?_, ?_, ?_, ?_, ?_, ?_⟩ <;> decide +kernel
theorem bnd_is_dots_place (a0 : Value) : Bnd (stm 72) [] [a0] [a0] := by
  intro s name qual dV kV doc pm an cdv ct h
  rcases h with ⟨_, rfl⟩ | ⟨ne, _⟩
  · exact BindsTo.of_eq (by rfl)
  · exact absurd rfl ne
-- Run.__init__
theorem sc_Run_init : Sc (scopeOf (mth 91 0)) ((["self", "code", "env"] : List Str) ++ ([] : List Str)) ([] : List Str) := by refine ⟨?_, ?_, ?_, ?_, ?_, ?_, ?_, ?_⟩ <;> decide +kernel
theorem bnd_Run_init (a0 a1 a2 : Value) : Bnd (mth 91 0) [] [a0, a1, a2] [a0, a1, a2] := by
  intro s name qual dV kV doc pm an cdv ct h
  rcases h with ⟨_, rfl⟩ | ⟨ne, _⟩
  · exact BindsTo.of_eq (by rfl)
  · exact absurd rfl ne
-- logic_left
theorem sc_logic_left : Sc (scopeOf (stm 96)) ((["interp", "run", "row"] : List Str) ++ (["op", "settled", "left"] : List Str)) (["scalar_truth", "flag"] : List Str) := by refine ⟨?_, ?_, ?_, ?_, ?_, ?_, ?_, ?_⟩ <;> decide +kernel
theorem bnd_logic_left (a0 a1 a2 : Value) : Bnd (stm 96) [] [a0, a1, a2] [a0, a1, a2] := by
  intro s name qual dV kV doc pm an cdv ct h
  rcases h with ⟨_, rfl⟩ | ⟨ne, _⟩
  · exact BindsTo.of_eq (by rfl)
  · exact absurd rfl ne
-- logic_right
theorem sc_logic_right : Sc (scopeOf (stm 97)) ((["interp", "run", "row"] : List Str) ++ (["right", "left"] : List Str)) (["scalar_truth", "flag", "and_items", "or_items"] : List Str) := by refine ⟨?_, ?_, ?_, ?_, ?_, ?_, ?_, ?_⟩ <;> decide +kernel
theorem bnd_logic_right (a0 a1 a2 : Value) : Bnd (stm 97) [] [a0, a1, a2] [a0, a1, a2] := by
  intro s name qual dV kV doc pm an cdv ct h
  rcases h with ⟨_, rfl⟩ | ⟨ne, _⟩
  · exact BindsTo.of_eq (by rfl)
  · exact absurd rfl ne
-- jump
theorem sc_jump : Sc (scopeOf (stm 99)) ((["interp", "run", "target"] : List Str) ++ ([] : List Str)) ([] : List Str) := by refine ⟨?_, ?_, ?_, ?_, ?_, ?_, ?_, ?_⟩ <;> decide +kernel
theorem bnd_jump (a0 a1 a2 : Value) : Bnd (stm 99) [] [a0, a1, a2] [a0, a1, a2] := by
  intro s name qual dV kV doc pm an cdv ct h
  rcases h with ⟨_, rfl⟩ | ⟨ne, _⟩
  · exact BindsTo.of_eq (by rfl)
  · exact absurd rfl ne
-- perform_push
theorem sc_perform_push : Sc (scopeOf (stm 100)) ((["interp", "run", "row"] : List Str) ++ (["name"] : List Str)) (["push_arg", "s_function"] : List Str) := by refine ⟨?_, ?_, ?_, ?_, ?_, ?_, ?_, ?_⟩ <;> decide +kernel
theorem bnd_perform_push (a0 a1 a2 : Value) : Bnd (stm 100) [] [a0, a1, a2] [a0, a1, a2] := by
  intro s name qual dV kV doc pm an cdv ct h
  rcases h with ⟨_, rfl⟩ | ⟨ne, _⟩
  · exact BindsTo.of_eq (by rfl)
  · exact absurd rfl ne
-- perform_jump
theorem sc_perform_jump : Sc (scopeOf (stm 101)) ((["interp", "run", "row"] : List Str) ++ (["name"] : List Str)) (["means_base", "jump", "condition", "logic_left", "logic_right", "ReturnSignal"] : List Str) := by refine ⟨?_, ?_, ?_, ?_, ?_, ?_, ?_, ?_⟩ <;> decide +kernel
theorem bnd_perform_jump (a0 a1 a2 : Value) : Bnd (stm 101) [] [a0, a1, a2] [a0, a1, a2] := by
  intro s name qual dV kV doc pm an cdv ct h
  rcases h with ⟨_, rfl⟩ | ⟨ne, _⟩
  · exact BindsTo.of_eq (by rfl)
  · exact absurd rfl ne
-- perform_loop
theorem sc_perform_loop : Sc (scopeOf (stm 102)) ((["interp", "run", "row"] : List Str) ++ (["name", "values"] : List Str)) (["step_loop", "loop_values", "define", "null", "ForState", "len"] : List Str) := by refine ⟨?_, ?_, ?_, ?_, ?_, ?_, ?_, ?_⟩ <;> decide +kernel
theorem bnd_perform_loop (a0 a1 a2 : Value) : Bnd (stm 102) [] [a0, a1, a2] [a0, a1, a2] := by
  intro s name qual dV kV doc pm an cdv ct h
  rcases h with ⟨_, rfl⟩ | ⟨ne, _⟩
  · exact BindsTo.of_eq (by rfl)
  · exact absurd rfl ne
-- perform_assign
theorem sc_perform_assign : Sc (scopeOf (stm 103)) ((["interp", "run", "row"] : List Str) ++ (["name", "stack", "whole", "value", "tmp"] : List Str)) (["define", "share", "assign_up", "fetch_target", "apply_getter", "apply_setter", "store_target"] : List Str) := by refine ⟨?_, ?_, ?_, ?_, ?_, ?_, ?_, ?_⟩ <;> decide +kernel
theorem bnd_perform_assign (a0 a1 a2 : Value) : Bnd (stm 103) [] [a0, a1, a2] [a0, a1, a2] := by
  intro s name qual dV kV doc pm an cdv ct h
  rcases h with ⟨_, rfl⟩ | ⟨ne, _⟩
  · exact BindsTo.of_eq (by rfl)
  · exact absurd rfl ne
-- perform
theorem sc_perform : Sc (scopeOf (stm 104)) ((["interp", "run", "row"] : List Str) ++ (["name"] : List Str)) (["operate", "len", "perform_push", "perform_jump", "perform_loop", "perform_assign"] : List Str) := by refine ⟨?_, ?_, ?_, ?_, ?_, ?_, ?_, ?_⟩ <;> decide +kernel
theorem bnd_perform (a0 a1 a2 : Value) : Bnd (stm 104) [] [a0, a1, a2] [a0, a1, a2] := by
  intro s name qual dV kV doc pm an cdv ct h
  rcases h with ⟨_, rfl⟩ | ⟨ne, _⟩
  · exact BindsTo.of_eq (by rfl)
  · exact absurd rfl ne
-- Code.__init__
theorem sc_Code_init : Sc (scopeOf (mth 106 0)) ((["self", "expr"] : List Str) ++ ([] : List Str)) ([] : List Str) := by refine ⟨?_, ?_, ?_, ?_, ?_, ?_, ?_, ?_⟩ <;> decide +kernel
theorem bnd_Code_init (a0 a1 : Value) : Bnd (mth 106 0) [] [a0, a1] [a0, a1] := by
  intro s name qual dV kV doc pm an cdv ct h
  rcases h with ⟨_, rfl⟩ | ⟨ne, _⟩
  · exact BindsTo.of_eq (by rfl)
  · exact absurd rfl ne
-- Evaluator.__init__
theorem sc_Evaluator_init : Sc (scopeOf (mth 109 0)) ((["self", "limit", "most_frames"] : List Str) ++ ([] : List Str)) ([] : List Str) := by refine ⟨?_, ?_, ?_, ?_, ?_, ?_, ?_, ?_⟩ <;> decide +kernel
theorem bnd_Evaluator_init1 (a0 e0 e1 : Value) : Bnd (mth 109 0) [e0, e1] [a0] [a0, e0, e1] := by
  intro s name qual dV kV doc pm an cdv ct h
  rcases h with ⟨e, _⟩ | ⟨_, T, o, n, rfl, h, e⟩
  · cases e
  · exact BindsTo.of_defaults rfl h e rfl rfl
theorem bnd_Evaluator_init2 (a0 a1 e0 e1 : Value) : Bnd (mth 109 0) [e0, e1] [a0, a1] [a0, a1, e1] := by
  intro s name qual dV kV doc pm an cdv ct h
  rcases h with ⟨e, _⟩ | ⟨_, T, o, n, rfl, h, e⟩
  · cases e
  · exact BindsTo.of_defaults rfl h e rfl rfl
theorem bnd_Evaluator_init3 (a0 a1 a2 e0 e1 : Value) : Bnd (mth 109 0) [e0, e1] [a0, a1, a2] [a0, a1, a2] := by
  intro s name qual dV kV doc pm an cdv ct h
  rcases h with ⟨e, _⟩ | ⟨_, T, o, n, rfl, h, e⟩
  · cases e
  · exact BindsTo.of_defaults rfl h e rfl rfl
-- Evaluator.new_env
theorem sc_Evaluator_new_env : Sc (scopeOf (mth 109 1)) ((["self", "parent"] : List Str) ++ (["env"] : List Str)) (["Environment"] : List Str) := by refine ⟨?_, ?_, ?_, ?_, ?_, ?_, ?_, ?_⟩ <;> decide +kernel
theorem bnd_Evaluator_new_env (a0 a1 : Value) : Bnd (mth 109 1) [] [a0, a1] [a0, a1] := by
  intro s name qual dV kV doc pm an cdv ct h
  rcases h with ⟨_, rfl⟩ | ⟨ne, _⟩
  · exact BindsTo.of_eq (by rfl)
  · exact absurd rfl ne
-- Evaluator.variable
theorem sc_Evaluator_variable : Sc (scopeOf (mth 109 8)) ((["self", "name", "env"] : List Str) ++ (["found", "message"] : List Str)) (["is_dots_place", "lookup", "share"] : List Str) := by refine ⟨?_, ?_, ?_, ?_, ?_, ?_, ?_, ?_⟩ <;> decide +kernel
theorem bnd_Evaluator_variable (a0 a1 a2 : Value) : Bnd (mth 109 8) [] [a0, a1, a2] [a0, a1, a2] := by
  intro s name qual dV kV doc pm an cdv ct h
  rcases h with ⟨_, rfl⟩ | ⟨ne, _⟩
  · exact BindsTo.of_eq (by rfl)
  · exact absurd rfl ne
-- _law_take
theorem sc_law_take : Sc (scopeOf (stm 111)) ((["source", "most"] : List Str) ++ (["found"] : List Str)) ([] : List Str) := by refine ⟨?_, ?_, ?_, ?_, ?_, ?_, ?_, ?_⟩ <;> decide +kernel
theorem bnd_law_take (a0 a1 : Value) : Bnd (stm 111) [] [a0, a1] [a0, a1] := by
  intro s name qual dV kV doc pm an cdv ct h
  rcases h with ⟨_, rfl⟩ | ⟨ne, _⟩
  · exact BindsTo.of_eq (by rfl)
  · exact absurd rfl ne
-- _law_plain
theorem sc_law_plain : Sc (scopeOf (stm 112)) ((["v"] : List Str) ++ ([] : List Str)) (["list"] : List Str) := by refine ⟨?_, ?_, ?_, ?_, ?_, ?_, ?_, ?_⟩ <;> decide +kernel
theorem bnd_law_plain (a0 : Value) : Bnd (stm 112) [] [a0] [a0] := by
  intro s name qual dV kV doc pm an cdv ct h
  rcases h with ⟨_, rfl⟩ | ⟨ne, _⟩
  · exact BindsTo.of_eq (by rfl)
  · exact absurd rfl ne
-- _law_row
theorem sc_law_row : Sc (scopeOf (stm 113)) ((["source", "height", "here", "end"] : List Str) ++ (["form", "ahead", "target"] : List Str)) (["_law_take"] : List Str) := by refine ⟨?_, ?_, ?_, ?_, ?_, ?_, ?_, ?_⟩ <;> decide +kernel
theorem bnd_law_row (a0 a1 a2 a3 : Value) : Bnd (stm 113) [] [a0, a1, a2, a3] [a0, a1, a2, a3] := by
  intro s name qual dV kV doc pm an cdv ct h
  rcases h with ⟨_, rfl⟩ | ⟨ne, _⟩
  · exact BindsTo.of_eq (by rfl)
  · exact absurd rfl ne
-- _law_truth
theorem sc_law_truth : Sc (scopeOf (stm 114)) ((["value"] : List Str) ++ (["item"] : List Str)) (["len"] : List Str) := by refine ⟨?_, ?_, ?_, ?_, ?_, ?_, ?_, ?_⟩ <;> decide +kernel
theorem bnd_law_truth (a0 : Value) : Bnd (stm 114) [] [a0] [a0] := by
  intro s name qual dV kV doc pm an cdv ct h
  rcases h with ⟨_, rfl⟩ | ⟨ne, _⟩
  · exact BindsTo.of_eq (by rfl)
  · exact absurd rfl ne
-- _law_joined
theorem sc_law_joined : Sc (scopeOf (stm 115)) ((["name", "left", "right"] : List Str) ++ ([] : List Str)) ([] : List Str) := by refine ⟨?_, ?_, ?_, ?_, ?_, ?_, ?_, ?_⟩ <;> decide +kernel
theorem bnd_law_joined (a0 a1 a2 : Value) : Bnd (stm 115) [] [a0, a1, a2] [a0, a1, a2] := by
  intro s name qual dV kV doc pm an cdv ct h
  rcases h with ⟨_, rfl⟩ | ⟨ne, _⟩
  · exact BindsTo.of_eq (by rfl)
  · exact absurd rfl ne
-- _law_done
theorem sc_law_done : Sc (scopeOf (stm 116)) ((["row", "consts", "stack", "names", "place"] : List Str) ++ (["truth", "right", "left"] : List Str)) (["len", "_law_truth", "_law_joined"] : List Str) := by refine ⟨?_, ?_, ?_, ?_, ?_, ?_, ?_, ?_⟩ <;> decide +kernel
theorem bnd_law_done (a0 a1 a2 a3 a4 : Value) : Bnd (stm 116) [] [a0, a1, a2, a3, a4] [a0, a1, a2, a3, a4] := by
  intro s name qual dV kV doc pm an cdv ct h
  rcases h with ⟨_, rfl⟩ | ⟨ne, _⟩
  · exact BindsTo.of_eq (by rfl)
  · exact absurd rfl ne
-- law
theorem sc_law : Sc (scopeOf (stm 117)) ((["script"] : List Str) ++ (["source", "interp", "values", "code", "run", "names", "name", "stack", "end", "place", "_", "row", "refused"] : List Str)) (["list", "sum", "Evaluator", "Vector", "Code", "Run", "_law_take", "range", "_law_row", "len", "perform", "Refusal", "_law_done", "_law_plain"] : List Str) := by refine ⟨?_, ?_, ?_, ?_, ?_, ?_, ?_, ?_⟩ <;> decide +kernel
theorem bnd_law (a0 : Value) : Bnd (stm 117) [] [a0] [a0] := by
  intro s name qual dV kV doc pm an cdv ct h
  rcases h with ⟨_, rfl⟩ | ⟨ne, _⟩
  · exact BindsTo.of_eq (by rfl)
  · exact absurd rfl ne
end
noncomputable section
abbrev vf : List Str := ["kind", "items", "attrs", "shared", "loose"]
abbrev ef : List Str := ["kind", "number", "parent", "attrs", "frame", "locked", "locks"]
abbrev rf : List Str := ["rows", "consts", "env", "place", "stack", "loops"]
abbrev cof : List Str := ["expr", "rows", "consts", "depth"]
abbrev evf : List Str := ["limit", "most_frames", "steps", "next_number", "base", "globals", "frames", "out", "warnings", "handlers", "restarts", "targets", "visible", "current", "dispatcher", "signaller", "warner", "deparser", "s4"]

/-- what the law's call asks of the top -/
structure Pk (c : Cx) : Prop where
  B : Base c
  mods : (c.b.get? sysModules).isSome = true
  and_items : Gfn c "and_items" (stm 11) []
  or_items : Gfn c "or_items" (stm 12) []
  truth_item : Gfn c "truth_item" (stm 13) []
  scalar_truth : Gfn c "scalar_truth" (stm 15) []
  flag : Gfn c "flag" (stm 26) []
  length : Gfn c "length" (stm 28) []
  is_atomic : Gfn c "is_atomic" (stm 29) []
  share : Gfn c "share" (stm 31) []
  to_logical : Gfn c "to_logical" (stm 34) []
  condition : Gfn c "condition" (stm 35) []
  lookup : Gfn c "lookup" (stm 59) []
  define : Gfn c "define" (stm 62) []
  is_dots_place : Gfn c "is_dots_place" (stm 72) []
  logic_left : Gfn c "logic_left" (stm 96) []
  logic_right : Gfn c "logic_right" (stm 97) []
  jump : Gfn c "jump" (stm 99) []
  perform_push : Gfn c "perform_push" (stm 100) []
  perform_jump : Gfn c "perform_jump" (stm 101) []
  perform_loop : Gfn c "perform_loop" (stm 102) []
  perform_assign : Gfn c "perform_assign" (stm 103) []
  perform : Gfn c "perform" (stm 104) []
  take : Gfn c "_law_take" (stm 111) []
  plain : Gfn c "_law_plain" (stm 112) []
  row : Gfn c "_law_row" (stm 113) []
  truth : Gfn c "_law_truth" (stm 114) []
  joined : Gfn c "_law_joined" (stm 115) []
  done : Gfn c "_law_done" (stm 116) []
  gv : c.mg "Vector" = some (.ref c.cv)
  vecF : Cls c.K c.cv vf
  envF : Cls c.K c.ce ef
  runF : Cls c.K c.cr rf
  codF : Cls c.K c.cc cof
  evaF : Cls c.K c.ci evf
  mvariable : Mt c c.ci "variable" "Evaluator.variable" (mth 109 8) []
  mkVec : Mk c c.cv "Vector.__init__" (mth 18 0) [.none]
  mkEnv : Mk c c.ce "Environment.__init__" (mth 22 0) [.none]
  mkRun : Mk c c.cr "Run.__init__" (mth 91 0) []
  mkCod : Mk c c.cc "Code.__init__" (mth 106 0) []
  mkEva : ∃ t1 t2, Mk c c.ci "Evaluator.__init__" (mth 109 0) [.int 20000 t1, .int 40 t2]
  gen : c.mg "Environment" = some (.ref c.ce)
  grn : c.mg "Run" = some (.ref c.cr)
  gco : c.mg "Code" = some (.ref c.cc)
  gev : c.mg "Evaluator" = some (.ref c.ci)
  kVec : keepIn c.K (.ref c.cv) = true
  kEnv : keepIn c.K (.ref c.ce) = true
  kRun : keepIn c.K (.ref c.cr) = true
  kCod : keepIn c.K (.ref c.cc) = true
  kEva : keepIn c.K (.ref c.ci) = true
  mnewenv : Mt c c.ci "new_env" "Evaluator.new_env" (mth 109 1) []
  vecIs : isIn c.K (.ref c.cv) c.cv = true
  nlen : c.mg "len" = none
  nisi : c.mg "isinstance" = none
  nlist : c.mg "list" = none
  nsum : c.mg "sum" = none
  nrange : c.mg "range" = none

/-! ## the values of the small machine -/
/-- an item: NA or a number -/
def It (v : Value) (i : Option Int) : Prop := match i with
  | none => v = .none
  | some i => ∃ t, v = .int i t
theorem It.handed {v : Value} {i : Option Int} (x : It v i) : handedIn v = true := by
  cases i with
  | none => cases x; rfl
  | some i => obtain ⟨t, rfl⟩ := x; rfl
structure Va where
  kd : Str
  it : Option Int
def Va.ok (a : Va) : Prop := a.kd = "logical" ∨ a.kd = "integer"
structure Vat (c : Cx) (R : Led) (x : Addr) (a : Va) (dx il : Addr) (tk : Nat → Tok) (n1 n2 : Nat) (t1 : Tok) (sh lo : Bool) (iv : Value) : Prop where
  x : (x, instObj c.cv dx) ∈ R
  d : (dx, fld c tk vf [.str a.kd t1, .ref il, .none, .bool sh, .bool lo] n1) ∈ R
  l : (il, listOf [iv].toArray n2) ∈ R
  i : It iv a.it
  ok : a.ok
/-- a Vector of the soup, of one item -/
def VecIn (c : Cx) (R : Led) (v : Value) (a : Va) : Prop := ∃ x dx il tk n1 n2 t1 sh lo iv, v = .ref x ∧ Vat c R x a dx il tk n1 n2 t1 sh lo iv
/-- a tuple of the law's, (kind, [item]) -/
def TupIn (R : Led) (v : Value) (a : Va) : Prop := ∃ x il n1 n2 t1 iv, v = .ref x ∧ (x, tupOf [.str a.kd t1, .ref il] n1) ∈ R ∧ (il, listOf [iv].toArray n2) ∈ R ∧ It iv a.it ∧ a.ok
/-- the soup grows: nothing is lost -/
structure Le (c : Cx) (R R' : Led) : Prop where
  v : ∀ v a, VecIn c R v a → VecIn c R' v a
  t : ∀ v a, TupIn R v a → TupIn R' v a
  o : ∀ p, p ∈ R → p.2.cls ≠ .type "dict" → p ∈ R'
theorem Le.refl {c : Cx} {R : Led} : Le c R R := ⟨fun _ _ x => x, fun _ _ x => x, fun _ x _ => x⟩
theorem Le.trans {c : Cx} {R R' R'' : Led} (x : Le c R R') (y : Le c R' R'') : Le c R R'' := ⟨fun v a z => y.v v a (x.v v a z), fun v a z => y.t v a (x.t v a z), fun p z e => y.o p (x.o p z e) e⟩
theorem Le.cons {c : Cx} {R : Led} (p : Addr × Obj) : Le c R (p :: R) :=
  ⟨fun _ _ ⟨x, dx, il, tk, n1, n2, t1, sh, lo, iv, e, z⟩ => ⟨x, dx, il, tk, n1, n2, t1, sh, lo, iv, e, .tail _ z.x, .tail _ z.d, .tail _ z.l, z.i, z.ok⟩,
   fun _ _ ⟨x, il, n1, n2, t1, iv, e, a, b, r⟩ => ⟨x, il, n1, n2, t1, iv, e, .tail _ a, .tail _ b, r⟩, fun _ x _ => .tail _ x⟩
theorem Le.tup {c : Cx} {R R' : Led} {t : Addr} {l : List Value} {n : Nat} (x : Le c R R') (h : (t, tupOf l n) ∈ R) : (t, tupOf l n) ∈ R' := x.o _ h fun e => absurd (Value.type.inj e) (by decide)

def andO (x y : Option Int) : Option Int := if x = some 0 ∨ y = some 0 then some 0 else if x = none ∨ y = none then none else some 1
def orO (x y : Option Int) : Option Int := if x = some 1 ∨ y = some 1 then some 1 else if x = none ∨ y = none then none else some 0
def truO : Option Int → Option Int
  | none => none
  | some i => some (if i = 0 then 0 else 1)
end
noncomputable section
section
variable {c : Cx} {A : Around} {E : Value → Heap → Prop} {h : Heap} {ns gs os : List Str} {L f : Addr} {vs : List (Option Value)} {X X' R Z : Led} {env : Env} {scope : Scope} {name : Str} {cd : Value}

theorem w_len {xp pos : Pos} {e : Expr} {rest : List Expr} {Q : Value → Heap → Prop} (P : Pk c) (S : St c ns L vs X R Z h) (sc : Sc scope ns gs) (hx : ("len" : Str) ∈ gs)
    (he : starEach (e :: rest) (envOf name scope L f cd) = (false, eval e (envOf name scope L f cd)) :: starEach rest (envOf name scope L f cd)) (hp : (backTo pos (starEach rest (envOf name scope L f cd))).any (·.1) = false)
    (q : W c A (spliced (backTo pos (starEach (e :: rest) (envOf name scope L f cd)))) (fun us h => W c A (call (.builtin "len") us) Q E h) E h) :
    W c A (eval (.Call (.Name "len" xp) (e :: rest) [] pos) (envOf name scope L f cd)) Q E h := w_bn P.B S sc hx P.nlen bb_len (by decide) he hp q
theorem w_isi {xp pos : Pos} {e : Expr} {rest : List Expr} {Q : Value → Heap → Prop} (P : Pk c) (S : St c ns L vs X R Z h) (sc : Sc scope ns gs) (hx : ("isinstance" : Str) ∈ gs)
    (he : starEach (e :: rest) (envOf name scope L f cd) = (false, eval e (envOf name scope L f cd)) :: starEach rest (envOf name scope L f cd)) (hp : (backTo pos (starEach rest (envOf name scope L f cd))).any (·.1) = false)
    (q : W c A (spliced (backTo pos (starEach (e :: rest) (envOf name scope L f cd)))) (fun us h => W c A (call (.builtin "isinstance") us) Q E h) E h) :
    W c A (eval (.Call (.Name "isinstance" xp) (e :: rest) [] pos) (envOf name scope L f cd)) Q E h := w_bn P.B S sc hx P.nisi bb_isinstance (by decide) he hp q
theorem w_gVec {pos : Pos} {Q : Value → Heap → Prop} (P : Pk c) (S : St c ns L vs X R Z h) (sc : Sc scope ns gs) (hx : ("Vector" : Str) ∈ gs) (q : Q (.ref c.cv) h) : W c A (eval (.Name "Vector" pos) (envOf name scope L f cd)) Q E h := w_gl P.B S sc hx P.gv q

/-- a call of a class of the top -/
theorem w_kl {x : Str} {C : Addr} {xp pos : Pos} {e : Expr} {rest : List Expr} {Q : Value → Heap → Prop} (B : Base c) (S : St c ns L vs X R Z h) (sc : Sc scope ns gs) (hx : x ∈ gs) (hg : c.mg x = some (.ref C)) (hk : keepIn c.K (.ref C) = true)
    (he : starEach (e :: rest) (envOf name scope L f cd) = (false, eval e (envOf name scope L f cd)) :: starEach rest (envOf name scope L f cd)) (hp : (backTo pos (starEach rest (envOf name scope L f cd))).any (·.1) = false)
    (q : W c A (spliced (backTo pos (starEach (e :: rest) (envOf name scope L f cd)))) (fun us h => c.K.In h ∧ W c A (call (.ref C) us) Q E h) E h) :
    W c A (eval (.Call (.Name x xp) (e :: rest) [] pos) (envOf name scope L f cd)) Q E h := w_call (w_gl B S sc hx hg (cwith B hk he hp q))
theorem w_kVec {xp pos : Pos} {e : Expr} {rest : List Expr} {Q : Value → Heap → Prop} (P : Pk c) (S : St c ns L vs X R Z h) (sc : Sc scope ns gs) (hx : ("Vector" : Str) ∈ gs)
    (he : starEach (e :: rest) (envOf name scope L f cd) = (false, eval e (envOf name scope L f cd)) :: starEach rest (envOf name scope L f cd)) (hp : (backTo pos (starEach rest (envOf name scope L f cd))).any (·.1) = false)
    (q : W c A (spliced (backTo pos (starEach (e :: rest) (envOf name scope L f cd)))) (fun us h => c.K.In h ∧ W c A (call (.ref c.cv) us) Q E h) E h) :
    W c A (eval (.Call (.Name "Vector" xp) (e :: rest) [] pos) (envOf name scope L f cd)) Q E h := w_kl P.B S sc hx P.gv P.kVec he hp q

/-! ### a Vector of the soup changed -/
theorem mem_swap {P S : Led} {d : Addr} {o o' : Obj} {p : Addr × Obj} (hp : p ∈ P ++ (d, o) :: S) : p ∈ P ++ (d, o') :: S ∨ p = (d, o) := by
  rcases List.mem_append.mp hp with h | h
  · exact .inl (List.mem_append_left _ h)
  · rcases List.mem_cons.mp h with h | h
    · exact .inr h
    · exact .inl (List.mem_append_right _ (.tail _ h))
def valsOf (o : Obj) : List Value := match o.data with
  | .dict es _ => es.toList.map (·.val)
  | _ => []
theorem vals_inj {c : Cx} {tk tk' : Nat → Tok} {n n' : Nat} {a1 a2 a3 a4 a5 b1 b2 b3 b4 b5 : Value} (e : fld c tk vf [a1, a2, a3, a4, a5] n = fld c tk' vf [b1, b2, b3, b4, b5] n') : a1 = b1 ∧ a2 = b2 ∧ a3 = b3 ∧ a4 = b4 ∧ a5 = b5 := by
  have : [a1, a2, a3, a4, a5] = [b1, b2, b3, b4, b5] := congrArg valsOf e
  injection this with h1 h2; injection h2 with h2 h3; injection h3 with h3 h4; injection h4 with h4 h5; injection h5 with h5 h6
  exact ⟨h1, h2, h3, h4, h5⟩
/-- a Vector marked as shared: the soup keeps its Vectors and tuples -/
theorem Le.share {P S : Led} {dx il : Addr} {tk : Nat → Tok} {n : Nat} {kv atv sh sh' lo : Value} : Le c (P ++ (dx, fld c tk vf [kv, .ref il, atv, sh, lo] n) :: S) (P ++ (dx, fld c tk vf [kv, .ref il, atv, .bool true, lo] n) :: S) := by
  constructor
  · rintro v a ⟨x, dx', il', tk', n1, n2, t1, sh', lo', iv, rfl, z⟩
    have hx := mem_swap (o' := fld c tk vf [kv, .ref il, atv, .bool true, lo] n) z.x
    have hl := mem_swap (o' := fld c tk vf [kv, .ref il, atv, .bool true, lo] n) z.l
    have hd := mem_swap (o' := fld c tk vf [kv, .ref il, atv, .bool true, lo] n) z.d
    rcases hx with hx | hx
    · rcases hl with hl | hl
      · rcases hd with hd | hd
        · exact ⟨x, dx', il', tk', n1, n2, t1, sh', lo', iv, rfl, hx, hd, hl, z.i, z.ok⟩
        · have e1 := (Prod.mk.inj hd).1
          have e2 := vals_inj (Prod.mk.inj hd).2
          obtain ⟨e3, e4, e5, e6, e7⟩ := e2
          refine ⟨x, dx, il, tk, n, n2, t1, true, lo', iv, rfl, e1 ▸ hx, ?_, (Value.ref.inj e4) ▸ hl, z.i, z.ok⟩
          rw [e3, e5, e7]
          exact List.mem_append_right _ (.head _)
      · exact absurd (Value.type.inj (congrArg Obj.cls (Prod.mk.inj hl).2)) (by decide)
    · have := congrArg Obj.cls (Prod.mk.inj hx).2; cases this
  · rintro v a ⟨x, il', n1, n2, t1, iv, rfl, z1, z2, z3⟩
    rcases mem_swap (o' := fld c tk vf [kv, .ref il, atv, .bool true, lo] n) z1 with z1 | z1
    · rcases mem_swap (o' := fld c tk vf [kv, .ref il, atv, .bool true, lo] n) z2 with z2 | z2
      · exact ⟨x, il', n1, n2, t1, iv, rfl, z1, z2, z3⟩
      · exact absurd (Value.type.inj (congrArg Obj.cls (Prod.mk.inj z2).2)) (by decide)
    · exact absurd (Value.type.inj (congrArg Obj.cls (Prod.mk.inj z1).2)) (by decide)
  · intro p hp he
    rcases mem_swap (o' := fld c tk vf [kv, .ref il, atv, .bool true, lo] n) hp with h | h
    · exact h
    · rw [h] at he; exact absurd rfl he
theorem w_shr {x dx il : Addr} {tk : Nat → Tok} {n : Nat} {kv atv sh lo : Value} {Q : Unit → Heap → Prop} (P : Pk c) (S : St c ns L vs X R Z h) (hx : (x, instObj c.cv dx) ∈ R) (hd : (dx, fld c tk vf [kv, .ref il, atv, sh, lo] n) ∈ R)
    (q : ∀ h' R', Le c R R' → St c ns L vs X R' Z h' → Q () h') : W c A (setAttr (.ref x) "shared" (.bool true)) Q E h := fun _ => by
  obtain ⟨m, F, l⟩ := S.fr
  have k := P.vecF.fld "shared" (by decide)
  have p : Put ("shared" : Str) (Value.bool true) vf [kv, .ref il, atv, sh, lo] [kv, .ref il, atv, .bool true, lo] := .tail (.tail (.tail .head))
  have hd' := in3R (X := X) (Z := Z) hd
  obtain ⟨w0, a⟩ := At.put p
  obtain ⟨Pr, So, e, U⟩ := upd_in hd (fld c tk vf [kv, .ref il, atv, .bool true, lo] n) X Z S.nd
  refine set_dict F P.B.X S.nw (InstAt.of_news S.nw (in3R hx) hd') rfl k.set k.over k.taker k.dict (by rw [getL_mk a P.vecF.nd tk]; rfl) (es' := mkEs c.w.params tk vf [kv, .ref il, atv, .bool true, lo]) (n' := n) ?_ U (Nat.le_trans mkEs_len P.vecF.len) (fun h' F' N' => up_of (q h' _ (e ▸ Le.share (sh := sh) (sh' := sh)) ⟨⟨_, F', l⟩, N', ?_⟩))
  · rw [(putL_mk p P.vecF.nd tk).1]
    unfold putN
    rw [(putL_mk (P := c.w.params) (hsh := 0) (key := .none) p P.vecF.nd tk).2, if_pos rfl]
  · have := S.nd
    rw [e] at this
    simp only [keys, all3, List.map_append, List.map_cons] at this ⊢
    exact this
end
end
noncomputable section
section
variable {c : Cx} {A : Around} {E : Value → Heap → Prop} {h : Heap} {ns gs os : List Str} {L f : Addr} {vs : List (Option Value)} {X X' R Z : Led} {env : Env} {scope : Scope} {name : Str} {cd : Value}

theorem cwmA {pos : Pos} {id : String} {o : Value} {e : Expr} {rest : List Expr} {Q : Value → Heap → Prop} (he : starEach (e :: rest) env = (false, eval e env) :: starEach rest env) (hp : (backTo pos (starEach rest env)).any (·.1) = false)
    (q : W c A (spliced (backTo pos (starEach (e :: rest) env))) (fun us h => W c A (call (.builtin id) (o :: us)) Q E h) E h) : W c A (callWith pos (.builtin id) [o] (backTo pos (starEach (e :: rest) env)) []) Q E h := cwm1 he hp q
theorem cwmB {pos : Pos} {id : String} {o : Value} {Q : Value → Heap → Prop} (q : W c A (call (.builtin id) [o]) Q E h) : W c A (callWith pos (.builtin id) [o] (backTo pos (starEach [] env)) []) Q E h := cwm0 q
theorem cwfA {pos : Pos} {g o : Value} {e : Expr} {rest : List Expr} {Q : Value → Heap → Prop} (B : Base c) (hk : keepIn c.K g = true) (he : starEach (e :: rest) env = (false, eval e env) :: starEach rest env) (hp : (backTo pos (starEach rest env)).any (·.1) = false)
    (q : W c A (spliced (backTo pos (starEach (e :: rest) env))) (fun us h => c.K.In h ∧ W c A (call g (o :: us)) Q E h) E h) : W c A (callWith pos g [o] (backTo pos (starEach (e :: rest) env)) []) Q E h := cwith B hk he hp q
def retK (Q : Flow → Heap → Prop) (f : Flow) (h : Heap) : Prop := match f with
  | .ret v => Q (.ret v) h
  | _ => False
theorem rk_ret {v : Value} {Q : Flow → Heap → Prop} (q : Q (.ret v) h) : retK Q (.ret v) h := q
/-- a while that ends within its first turn -/
theorem w_while1 {test : Expr} {body orelse : List Stmt} {pos : Pos} {Q : Flow → Heap → Prop}
    (q : W c A (isTrue test env (eval test env)) (fun b h => Br b (W c A (execs body env) (retK Q) (fun _ _ => False) h) False) (fun _ _ => False) h) : W c A (exec (.While test body orelse pos) env) Q E h := fun tk => by
  refine wpAny_While (codeAny_whileLoop (fun _ s => s = c.st h tk) (fun n s e => ?_) 0 rfl)
  subst e
  refine wpAny_mono (q tk) (fun b s x => ?_) (fun _ _ ⟨_, _, _, x⟩ => x.elim)
  obtain ⟨h', t', rfl, x⟩ := x
  cases b
  · exact (x.2 rfl).elim
  · refine wpAny_mono (x.1 rfl t') (fun f s x => ?_) (fun _ _ ⟨_, _, _, x⟩ => x.elim)
    obtain ⟨h', t', rfl, x⟩ := x
    cases f
    · exact x.elim
    · exact x.elim
    · exact x.elim
    · exact ⟨_, _, rfl, x⟩
theorem r_getD1 {d : Addr} {o : Obj} {kvs : List (Str × Value)} {x : Str} {t : Tok} {v : Value} {Q : Value → Heap → Prop} (hmods : (c.b.get? sysModules).isSome = true) (S : St c ns L vs X R Z h) (hm : (d, o) ∈ all3 X R Z) (hd : o.IsDictOf (strKind c.prog c.w) kvs)
    (hl : valueAt kvs x = some v) (q : Q v h) : W c A (call (.builtin "dict.get") [.ref d, .str x t]) Q E h := r_getD hmods S hm hd (by rw [hl]; exact q)
theorem r_getD0 {d : Addr} {o : Obj} {x : Str} {t : Tok} {Q : Value → Heap → Prop} (hmods : (c.b.get? sysModules).isSome = true) (S : St c ns L vs X R Z h) (hm : (d, o) ∈ all3 X R Z) (hd : o.IsDictOf (strKind c.prog c.w) [])
    (q : Q .none h) : W c A (call (.builtin "dict.get") [.ref d, .str x t]) Q E h := r_getD hmods S hm hd q
end
end
noncomputable section
/-- the evaluator's fields but visible -/
structure Ev where
  a1 : Value
  a2 : Value
  a3 : Value
  a4 : Value
  a5 : Value
  a7 : Value
  a8 : Value
  a9 : Value
  a10 : Value
  a11 : Value
  a12 : Value
  b1 : Value
  b2 : Value
  b3 : Value
  b4 : Value
  b5 : Value
  b6 : Value
abbrev evs (e : Ev) (g : Addr) (v : Value) : List Value := [e.a1, e.a2, e.a3, e.a4, e.a5, .ref g, e.a7, e.a8, e.a9, e.a10, e.a11, e.a12, v, e.b1, e.b2, e.b3, e.b4, e.b5, e.b6]
/-- what of the machine does not change -/
structure Mc where
  r : Addr
  dr : Addr
  sk : Addr
  I : Addr
  dI : Addr
  cs : Addr
  G : Addr
  dG : Addr
  fr : Addr
  lk : Addr
  tr : Nat → Tok
  ti : Nat → Tok
  tg : Nat → Tok
  nr : Nat
  ni : Nat
  ncs : Nat
  ng : Nat
  rows : Value
  loops : Value
  e1 : Value
  e2 : Value
  e3 : Value
  e4 : Value
  lkO : Obj
  ev : Ev
  consts : List Value
abbrev MX (c : Cx) (m : Mc) (vis pl : Value) (sk : List Value) (nsk : Nat) (frO : Obj) (Y : Led) : Led :=
  (m.sk, listOf sk.toArray nsk) :: (m.r, instObj c.cr m.dr) :: (m.dr, fld c m.tr rf [m.rows, .ref m.cs, .ref m.G, pl, .ref m.sk, m.loops] m.nr) :: (m.I, instObj c.ci m.dI) :: (m.dI, fld c m.ti evf (evs m.ev m.G vis) m.ni) ::
  (m.cs, listOf m.consts.toArray m.ncs) :: (m.G, instObj c.ce m.dG) :: (m.dG, fld c m.tg ef [m.e1, m.e2, m.e3, m.e4, .ref m.fr, .bool false, .ref m.lk] m.ng) :: (m.fr, frO) :: (m.lk, m.lkO) :: Y
theorem truO_truO (o : Option Int) : truO (truO o) = truO o := by
  cases o with
  | none => rfl
  | some i => by_cases e : i = 0 <;> simp [truO, e]
theorem truO_and (x y : Option Int) : truO (andO x y) = andO x y := by unfold andO; split <;> (try split) <;> rfl
theorem truO_or (x y : Option Int) : truO (orO x y) = orO x y := by unfold orO; split <;> (try split) <;> rfl
section
variable {c : Cx} {A : Around} {E : Value → Heap → Prop} {h : Heap} {ns : List Str} {L : Addr} {vs : List (Option Value)} {X R Z : Led} {value slice : Expr}
theorem r_tup0 {t : Addr} {v : Value} {l : List Value} {n : Nat} {u : Tok} {Q : Value → Heap → Prop} (S : St c ns L vs X R Z h) (hm : (t, tupOf (v :: l) n) ∈ all3 X R Z)
    (hs : subscripted slice false (.ref t) (.int 0 u) = operate [.ref t, .int 0 u] (getItem (.ref t) (.int 0 u))) (q : Q v h) : W c A (subscriptTail value slice (.ref t) (.int 0 u)) Q E h :=
  r_tup (j := 0) (x := v) S hm (by decide) (by decide) (by unfold seqIndex?; simp) rfl hs q
theorem r_last {D : Addr} {p : List Value} {v : Value} {n : Nat} {u : Tok} {Q : Value → Heap → Prop} (S : St c ns L vs X R Z h) (hm : (D, listOf (p ++ [v]).toArray n) ∈ all3 X R Z)
    (hs : subscripted slice false (.ref D) (.int (-1) u) = operate [.ref D, .int (-1) u] (getItem (.ref D) (.int (-1) u))) (q : Q v h) : W c A (subscriptTail value slice (.ref D) (.int (-1) u)) Q E h :=
  r_lstN (j := p.length) (x := v) S hm (by decide) (by decide) (by unfold seqIndex?; simp; try omega) (by simp) hs q
theorem seqIndex_neg {i : Int} {n : Nat} (h0 : 0 ≤ i) (hi : i < n) : seqIndex? (-1 - i) n = some (n - 1 - i.toNat) := by
  unfold seqIndex?
  simp only
  rw [if_pos (by omega : -1 - i < 0), if_pos (by simp only [Bool.and_eq_true, decide_eq_true_eq]; omega)]
  congr 1
  omega
theorem r_pick {D : Addr} {l : List Value} {v : Value} {i : Int} {n : Nat} {u : Tok} {Q : Value → Heap → Prop} (S : St c ns L vs X R Z h) (hm : (D, listOf l.toArray n) ∈ all3 X R Z) (h0 : 0 ≤ i) (hi : i < l.length) (hz : l.length ≤ 1000) (hv : l[l.length - 1 - i.toNat]? = some v)
    (hs : subscripted slice false (.ref D) (.int (-1 - i) u) = operate [.ref D, .int (-1 - i) u] (getItem (.ref D) (.int (-1 - i) u))) (q : Q v h) : W c A (subscriptTail value slice (.ref D) (.int (-1 - i) u)) Q E h :=
  r_lstN (j := l.length - 1 - i.toNat) (x := v) S hm (by omega) (by omega) (seqIndex_neg h0 hi) hv hs q
end
end
noncomputable section
section
variable {prog : Program} {w : World} {A : Around} {E : Value → Shared → Prop} {s : Shared}
def sels (start stop step : Int) (i : Nat) : Bool :=
  if step > 0 then start ≤ i && i < stop && (i - start) % step == 0
  else stop < i && i ≤ start && (start - i) % (-step) == 0
theorem filt_last (sel : Int → Int → Int → Nat → Bool) (a b c : Int) (p : List Value) (v : Value) (h1 : ∀ i < p.length, sel a b c i = false) (h2 : sel a b c p.length = true) :
    (List.filterMap (fun x : Value × Nat => if sel a b c x.2 = true then none else some x.1) (p ++ [v]).toArray.toList.zipIdx).toArray = p.toArray := by
  congr 1
  simp only [List.zipIdx_append, List.filterMap_append, Nat.zero_add]
  have e2 : List.filterMap (fun x : Value × Nat => if sel a b c x.2 = true then none else some x.1) (List.zipIdx [v] p.length) = [] := by simp [h2]
  rw [e2, List.append_nil]
  have key : ∀ (l : List Value) (k : Nat), (∀ i, k ≤ i → i < k + l.length → sel a b c i = false) → List.filterMap (fun x : Value × Nat => if sel a b c x.2 = true then none else some x.1) (l.zipIdx k) = l := by
    intro l
    induction l with
    | nil => intro k _; rfl
    | cons x l ih =>
      intro k hk
      rw [List.zipIdx_cons, List.filterMap_cons]
      have := hk k (Nat.le_refl _) (by simp)
      simp only [this, Bool.false_eq_true, if_false]
      rw [ih (k + 1) fun i h1 h2 => hk i (by omega) (by simp only [List.length_cons]; omega)]
  exact key p 0 fun i _ h => h1 i (by omega)
theorem delSlice_core {l sl : Addr} {p : List Value} {v : Value} {n : Nat} {t : Tok} {Q : Unit → Shared → Prop} (ho : s.heap.get? l = some (listOf (p ++ [v]).toArray n)) (hz : p.length ≤ 1000)
    (hs : s.heap.IsSliceOf sl (.int p.length t) .none .none) (h : ∀ f : Array Value → Array Value, f (p ++ [v]).toArray = p.toArray → Q () { s with heap := s.heap.update l (Obj.mapSeq f) }) : wpAny (model prog w) A (delItem (.ref l) (.ref sl)) Q E s := by
  have hl : s.heap.IsList l (p ++ [v]).toArray := ⟨_, ho, rfl, _, rfl⟩
  obtain ⟨os, hos, hcs, hds⟩ := id hs
  have hTs : s.TypeIs (.ref sl) "slice" := ⟨os, hos, hcs⟩
  refine wpAny_delItem_slot hl.typeIs (by decide) PySem.F.slot_list_delitem (wpAny_call_entry PySem.F.slot_list_delitem hl.typeIs PySem.F.entry_list_delitem ?_ (PySem.F.args_list_delitem_2 _ _))
  show wpAny _ _ (Builtin.List.listSubscript? (.ref sl) >>= _) _ _ s
  refine wpAny_bind ?_
  unfold Builtin.List.listSubscript?
  refine wpAny_bind (wpAny_specialOf hTs slice_no_index ?_)
  simp only [Option.isNone_none, if_true]
  refine wpAny_pure ?_
  show wpAny _ _ (typeOf (.ref sl) >>= _) _ _ s
  refine wpAny_bind (wpAny_typeOf hTs ?_)
  rw [if_neg (by decide)]
  rw [listSliceParts_eq]
  refine wpAny_bind (wpAny_bind (wpAny_field hos hds (x := .none) rfl (wpAny_bind (wpAny_listPart (k := none) .none ?_))))
  rw [if_neg (show ¬ ((rawPart none == rawInt 0) = true) from Bool.false_ne_true)]
  refine wpAny_bind (wpAny_field hos hds (x := .int p.length t) rfl (wpAny_bind (wpAny_listPart (.int _ _) ?_)))
  refine wpAny_bind (wpAny_field hos hds (x := .none) rfl (wpAny_bind (wpAny_listPart (k := none) .none (wpAny_pure ?_))))
  refine wpAny_bind (m := Builtin.List.listItems (.ref l)) ?_
  unfold Builtin.List.listItems
  refine wpAny_bind (wpAny_seqItems ho rfl (wpAny_pure ?_))
  refine wpAny_bind (wpAny_of_eq (sliceIndices_raw (some (p.length : Int)) none none _ (by simp)) ?_)
  have e : sliceBounds (some (p.length : Int)) none none (p ++ [v]).toArray.size = ((p.length : Int), (p.length : Int) + 1, 1) := by
    unfold sliceBounds
    simp only [Option.getD_none, List.size_toArray, List.length_append, List.length_cons, List.length_nil]
    have h1 : ((1 : Int) > 0) := by omega
    have h2 : ¬ ((p.length : Int) < 0) := by omega
    simp only [h1, h2, if_true, if_false]
    refine Prod.ext ?_ (Prod.ext ?_ rfl) <;> dsimp only <;> omega
  rw [e]
  refine wpAny_bind (wpAny_rule (wpAny_bind ?_))
  have z := filt_last sels (p.length : Int) ((p.length : Int) + 1) 1 p v (fun i hi => by
    unfold sels
    rw [if_pos (by omega), decide_eq_false (by omega)]; rfl) (by
    unfold sels
    rw [if_pos (by omega)]; simp
    omega)
  exact wpAny_updateSeq ho rfl (wpAny_bind (wpAny_letGo (wpAny_pure ⟨_, rfl, h _ z⟩))) (by simp only [List.size_toArray, List.length_append, List.length_cons, List.length_nil, sizeLine_eq]; omega) (Nat.le_trans (Nat.le_of_eq (congrArg Array.size z)) (by rw [List.size_toArray, sizeLine_eq]; omega))
end

section
variable {c : Cx} {A : Around} {E : Value → Heap → Prop} {h : Heap} {ns gs os : List Str} {L f : Addr} {vs : List (Option Value)} {X X' R Z : Led} {env : Env}
theorem r_delS {D sl : Addr} {p : List Value} {v : Value} {n : Nat} {t : Tok} {Q : Unit → Heap → Prop} (S : St c ns L vs X R Z h) (hc : Chg D (listOf (p ++ [v]).toArray n) (listOf p.toArray (n + 1)) X X') (hsl : (sl, ({ cls := .type "slice", data := .fields #[.int p.length t, .none, .none] } : Obj)) ∈ all3 X R Z) (hz : p.length ≤ 1000)
    (q : ∀ h', St c ns L vs X' R Z h' → Q () h') : W c A (delItem (.ref D) (.ref sl)) Q E h := fun _ => by
  obtain ⟨m, F, l'⟩ := S.fr
  obtain ⟨pre, post, e1, e2, a, b⟩ := (hc.upd S.nd (t := R ++ Z)).split
  have hN : News c.b L h (pre ++ (D, listOf (p ++ [v]).toArray n) :: post) := fun p hp => S.nw p (by show p ∈ X ++ (R ++ Z); rw [e1]; exact hp)
  have z := hN (D, listOf (p ++ [v]).toArray n) (List.mem_append.mpr (.inr (.head _)))
  refine delSlice_core (s := c.st h _) z.1 hz ⟨_, (S.nw _ hsl).1, rfl, rfl⟩ fun g hg => up_of (q _ (S.set hc (F.change (Heap.SameBut.update ..) z.2.1 z.2.2) l' ?_))
  have := ki_turn (f := g) (its' := p.toArray) (n' := n + 1) hN a b hg (by simp)
  intro q hq
  refine this q ?_
  rw [← e2]; exact hq
theorem w_del {o i : Expr} {pos' pos : Pos} {Q : Flow → Heap → Prop} (q : W c A (eval o env) (fun ov h => W c A (eval i env) (fun iv h => W c A (delItem ov iv) (fun _ => Q .next) E h) E h) E h) : W c A (exec (.Delete [.Subscript o i pos'] pos) env) Q E h := fun tk =>
  wpAny_Delete (wpAny_deleteEach_cons (wpAny_mono (delete_Subscript (pos := pos') (Q := fun _ => up c Q .next) (wpAny_mono (q tk) (fun _ _ ⟨_, t, e, q⟩ => e ▸ wpAny_mono (q t) (fun _ _ ⟨_, t, e, q⟩ => e ▸ q t) id_) id_)) (fun _ _ x => wpAny_deleteEach_nil x) id_))
abbrev sliceO (l u st : Value) : Obj := { cls := .type "slice", data := .fields #[l, u, st] }
/-- a slice object made -/
def SlK (c : Cx) (Q : Value → Heap → Prop) (l u : Value) (h : Heap) : Prop := ∃ ns L vs X R Z, St c ns L vs X R Z h ∧ ∀ sl h', St c ns L vs ((sl, sliceO l u .none) :: X) R Z h' → Q (.ref sl) h'
theorem slk {l u : Value} {Q : Value → Heap → Prop} (S : St c ns L vs X R Z h) (q : ∀ sl h', St c ns L vs ((sl, sliceO l u .none) :: X) R Z h' → Q (.ref sl) h') : SlK c Q l u h := ⟨_, _, _, _, _, _, S, q⟩
theorem SlK.done {l u : Value} {Q : Value → Heap → Prop} (x : SlK c Q l u h) : Q (.ref h.objs.size) (h.push (sliceO l u .none)) := let ⟨_, _, _, _, _, _, S, q⟩ := x; q _ _ (S.push rfl)
theorem w_sliceL {lower : Expr} {pos : Pos} {Q : Value → Heap → Prop} (q : W c A (eval lower env) (fun v h => SlK c Q v .none h) E h) : W c A (eval (.Slice (some lower) none none pos) env) Q E h := fun tk =>
  wpAny_Slice (wpAny_mono (q tk) (fun v s ⟨h', t, e, q⟩ => by subst e; exact wpAny_pure (wpAny_pure (up_of q.done))) id_)
theorem w_sliceU {upper : Expr} {pos : Pos} {Q : Value → Heap → Prop} (q : W c A (eval upper env) (fun v h => SlK c Q .none v h) E h) : W c A (eval (.Slice none (some upper) none pos) env) Q E h := fun tk =>
  wpAny_Slice (wpAny_pure (wpAny_mono (q tk) (fun v s ⟨h', t, e, q⟩ => by subst e; exact wpAny_pure (up_of q.done)) id_))
end
end
noncomputable section
def AllInt (l : List Value) : Prop := ∀ v ∈ l, ∃ i t, v = .int i t
theorem AllInt.reads {h : Heap} : ∀ {l : List Value}, AllInt l → ∃ ds, ReadsAll h l ds [] ∧ PyData.canLayAll0 ds = true ∧ ds.length = l.length
  | [], _ => ⟨[], .nil, by kernel_rfl, rfl⟩
  | v :: l, x => by
    obtain ⟨i, t, rfl⟩ := x _ (.head _)
    obtain ⟨ds, r, c, e⟩ := AllInt.reads (h := h) fun v hv => x v (.tail _ hv)
    exact ⟨.int i :: ds, .cons (.int i t) r, by unfold PyData.canLayAll0; simp [PyData.canLay0, c], by simp [e]⟩
section
variable {c : Cx} {A : Around} {E : Value → Heap → Prop} {h : Heap} {ns gs os : List Str} {L f : Addr} {vs : List (Option Value)} {X X' R Z : Led} {env : Env}
theorem r_neNil {D D' : Addr} {l : List Value} {n n' m : Nat} {Q : Value → Heap → Prop} (hA : Rm m A) (S : St c ns L vs X R Z h) (hm : (D, listOf l.toArray n) ∈ all3 X R Z) (hm' : (D', listOf ([] : List Value).toArray n') ∈ all3 X R Z) (hi : AllInt l)
    (q : Q (.bool (!l.isEmpty)) h) : W c A (compareOp .NotEq (.ref D) (.ref D')) Q E h := fun _ => by
  obtain ⟨ds, r, k, e⟩ := hi.reads (h := h)
  refine SeqAt.compareNe_reads (s := c.st h _) (rd_list S hm r) (rd_list S hm' .nil) (by unfold PyData.canLay0; exact k) (by kernel_rfl) ?_ (up_of ?_)
  · have : (PyData.list []).depth = 1 := by kernel_rfl
    have h1 := Nat.min_le_right (PyData.list ds).depth (PyData.list []).depth
    have := hA.deep (k := 1) (by omega)
    omega
  · have : PyData.eqv (.list ds) (.list []) = l.isEmpty := by
      cases l with
      | nil => cases ds with
        | nil => kernel_rfl
        | cons _ _ => cases e
      | cons _ _ => cases ds with
        | nil => cases e
        | cons _ _ => unfold PyData.eqv; unfold PyData.eqvAll; rfl
    rw [this]; exact q
theorem r_pop0 {D : Addr} {l : List Value} {y : Value} {n : Nat} {u : Tok} {Q : Value → Heap → Prop} (S : St c ns L vs X R Z h) (hc : Chg D (listOf (y :: l).toArray n) (listOf l.toArray (n + 1)) X X') (hz : l.length ≤ 900) (q : ∀ h', St c ns L vs X' R Z h' → Q y h') :
    W c A (call (.builtin "list.pop") [.ref D, .int 0 u]) Q E h := fun _ => by
  obtain ⟨m, F, l'⟩ := S.fr
  exact kl_popAt (k := 0) (p := []) (q := l) (y := y) F S.nw (by decide) (by unfold seqIndex?; simp) (by simp [kl_cut]) (hc.upd S.nd) (by simp only [List.length_cons, sizeLine_eq]; omega) (fun h' F' N' => up_of (q h' (S.set hc F' l' N')))
/-- a place of a list written out -/
theorem r_setI {D : Addr} {l l' : List Value} {n : Nat} {k : Int} {u : Tok} {v : Value} {Q : Unit → Heap → Prop} (S : St c ns L vs X R Z h) (e : l.set k.toNat v = l') (hc : Chg D (listOf l.toArray n) (listOf l'.toArray n) X X') (h0 : 0 ≤ k) (hhi : k < 2 ^ 63) (hn : k < l.length)
    (q : ∀ h', St c ns L vs X' R Z h' → Q () h') : W c A (setItem (.ref D) (.int k u) v) Q E h := r_setL S (e ▸ hc) h0 hhi hn q
theorem r_set1 {D : Addr} {x y z : Value} {n : Nat} {u : Tok} {v : Value} {Q : Unit → Heap → Prop} (S : St c ns L vs X R Z h) (hc : Chg D (listOf [x, y, z].toArray n) (listOf [x, v, z].toArray n) X X')
    (q : ∀ h', St c ns L vs X' R Z h' → Q () h') : W c A (setItem (.ref D) (.int 1 u) v) Q E h := r_setI S rfl hc (by decide) (by decide) (by simp) q
theorem r_set2 {D : Addr} {x y z : Value} {n : Nat} {u : Tok} {v : Value} {Q : Unit → Heap → Prop} (S : St c ns L vs X R Z h) (hc : Chg D (listOf [x, y, z].toArray n) (listOf [x, y, v].toArray n) X X')
    (q : ∀ h', St c ns L vs X' R Z h' → Q () h') : W c A (setItem (.ref D) (.int 2 u) v) Q E h := r_setI S rfl hc (by decide) (by decide) (by simp) q
theorem r_modI {a b : Int} {t u : Tok} {Q : Value → Heap → Prop} (hb : 0 < b) (q : ∀ t, Q (.int (a % b) t) h) : W c A (binaryOp .Mod (.int a t) (.int b u)) Q E h := r_mod (by omega) fun t => by
  rw [Int.fmod_eq_emod_of_nonneg _ (by omega)]; exact q t
theorem r_divI {a b : Int} {t u : Tok} {Q : Value → Heap → Prop} (hb : 0 < b) (hs : b < 2 ^ 64) (q : ∀ t, Q (.int (a / b) t) h) : W c A (binaryOp .FloorDiv (.int a t) (.int b u)) Q E h := r_div (by omega) (by
  unfold Builtin.divisionGoesByPylong
  have : b.natAbs.log2 < 64 := by
    have : b.natAbs < 2 ^ 64 := by omega
    exact (Nat.log2_lt (by omega)).mpr this
  have h : ¬ ((if (b == 0) = true then 0 else b.natAbs.log2 / 30 + 1) > 300) := by split <;> omega
  exact Bool.and_eq_false_iff.mpr (.inl (decide_eq_false h))) fun t => by
  rw [Int.fdiv_eq_ediv_of_nonneg _ (by omega)]; exact q t
theorem r_mulI {a b : Int} {t u : Tok} {Q : Value → Heap → Prop} (hb : Builtin.Int.intBits b ≤ 64) (q : ∀ t, Q (.int (a * b) t) h) : W c A (binaryOp .Mult (.int a t) (.int b u)) Q E h := r_mul (.of_right hb) q
end
end
noncomputable section
theorem eqv_ss (x y : Str) : PyData.eqv (.str x) (.str y) = (x == y) := by unfold PyData.eqv; rfl
theorem eqv_ii (x y : Int) : PyData.eqv (.int x) (.int y) = (x == y) := by unfold PyData.eqv; rfl
theorem eqv_ni (y : Int) : PyData.eqv .none (.int y) = false := by unfold PyData.eqv; rfl
theorem eqv_in (y : Int) : PyData.eqv (.int y) .none = false := by unfold PyData.eqv; rfl
theorem eqv_nn : PyData.eqv .none .none = true := by unfold PyData.eqv; rfl
theorem any2 (a b d : PyData) : ([a, b].any fun y => PyData.eqv y d) = (PyData.eqv a d || PyData.eqv b d) := by simp
section
variable {c : Cx} {A : Around} {E : Value → Heap → Prop} {h : Heap} {ns gs os : List Str} {L f : Addr} {vs : List (Option Value)} {X X' R Z : Led} {env : Env} {scope : Scope} {name : Str} {cd : Value} {value slice : Expr}
theorem w_ty {x : Str} {xp pos : Pos} {T : String} {e : Expr} {rest : List Expr} {Q : Value → Heap → Prop} (B : Base c) (S : St c ns L vs X R Z h) (sc : Sc scope ns gs) (hx : x ∈ gs) (hm : c.mg x = none) (hb : bootBuiltins x = some (.type T)) (hn : x ≠ "__name__")
    (he : starEach (e :: rest) (envOf name scope L f cd) = (false, eval e (envOf name scope L f cd)) :: starEach rest (envOf name scope L f cd)) (hp : (backTo pos (starEach rest (envOf name scope L f cd))).any (·.1) = false)
    (q : W c A (spliced (backTo pos (starEach (e :: rest) (envOf name scope L f cd)))) (fun us h => W c A (call (.type T) us) Q E h) E h) :
    W c A (eval (.Call (.Name x xp) (e :: rest) [] pos) (envOf name scope L f cd)) Q E h :=
  w_call (w_bi B S sc hx hm hb hn fun tk => PyProof.Rows.callWith_type1 (wpAny_mono (q tk) (fun _ _ ⟨_, t, e, q⟩ => e ▸ q t) id_) he hp)
theorem w_lst {xp pos : Pos} {e : Expr} {rest : List Expr} {Q : Value → Heap → Prop} (P : Pk c) (S : St c ns L vs X R Z h) (sc : Sc scope ns gs) (hx : ("list" : Str) ∈ gs)
    (he : starEach (e :: rest) (envOf name scope L f cd) = (false, eval e (envOf name scope L f cd)) :: starEach rest (envOf name scope L f cd)) (hp : (backTo pos (starEach rest (envOf name scope L f cd))).any (·.1) = false)
    (q : W c A (spliced (backTo pos (starEach (e :: rest) (envOf name scope L f cd)))) (fun us h => W c A (call (.type "list") us) Q E h) E h) :
    W c A (eval (.Call (.Name "list" xp) (e :: rest) [] pos) (envOf name scope L f cd)) Q E h := w_ty P.B S sc hx P.nlist bb_list (by decide) he hp q
theorem r_copy {D : Addr} {l : List Value} {n : Nat} {Q : Value → Heap → Prop} (S : St c ns L vs X R Z h) (hm : (D, listOf l.toArray n) ∈ all3 X R Z) (hz : l.length ≤ 1000) (q : ∀ t n' h', St c ns L vs ((t, listOf l.toArray n') :: X) R Z h' → Q (.ref t) h') :
    W c A (call (.type "list") [.ref D]) Q E h := fun tk => by
  obtain ⟨m, F, l'⟩ := S.fr
  have hl : h.IsList D l.toArray := ⟨_, (S.nw _ hm).1, rfl, _, rfl⟩
  exact list_copyK (s := c.st h tk) F S.nw hl (fun D' k h' F' N' hlt => up_of (q D' k h' ⟨⟨m, F', l'⟩, N', List.nodup_cons.mpr ⟨fun hm => by
    obtain ⟨p, hp, e⟩ := List.mem_map.mp hm
    exact absurd (hlt p hp) (by rw [e]; exact Nat.lt_irrefl _), S.nd⟩⟩)) (by rw [List.size_toArray, sizeLine_eq]; omega)
theorem r_chr {x : Str} {t u : Tok} {i : Int} {k : Nat} {Q : Value → Heap → Prop} (hr : (decide (i < -(2 ^ 63 : Int)) || decide (i ≥ 2 ^ 63)) = false) (hc : (seqIndex? i x.length).bind (x.cps[·]?) = some k)
    (hs : subscripted slice false (.str x t) (.int i u) = operate [.str x t, .int i u] (getItem (.str x t) (.int i u))) (q : ∀ t, Q (.str ⟨#[k]⟩ t) h) : W c A (subscriptTail value slice (.str x t) (.int i u)) Q E h := fun tk =>
  tail_any (s := c.st h tk) (typeIs_str _ x t) PySem.F.slot_str_getitem.lookup (P.getItem_str hr hc (up_of (q _))) hs
theorem r_gmIdx {D : Addr} {its : Array Value} {n : Nat} {pl : Sem Bool} {Q : Value × List Value → Heap → Prop} (S : St c ns L vs X R Z h) (hm : (D, listOf its n) ∈ all3 X R Z) (q : Q (.builtin "list.index", [.ref D]) h) : W c A (getMethod (.ref D) "index" pl) Q E h :=
  r_gmL S hm PySem.F.slot_list_index PySem.F.type_list_index q
def strEq (x : Str) : Value → Bool
  | .str z _ => z == x
  | _ => false
theorem r_index {D : Addr} {x y z : Str} {t1 t2 t3 : Tok} {n m j : Nat} {Q : Value → Heap → Prop} (hA : Rm m A) (S : St c ns L vs X R Z h) (hm : (D, listOf [.str x t1, .str y t2].toArray n) ∈ all3 X R Z) (hj : z = x ∧ j = 0 ∨ z = y ∧ (x == z) = false ∧ j = 1) (hx : PyData.canLay0 (.str x) = true) (hy : PyData.canLay0 (.str y) = true) (hzz : PyData.canLay0 (.str z) = true)
    (q : ∀ t, Q (.int j t) h) : W c A (call (.builtin "list.index") [.ref D, .str z t3]) Q E h := fun tk => by
  have ho := (S.nw _ hm).1
  have hu := hA.deep (k := 0) (by omega)
  have eqs : ∀ v ∈ ([Value.str x t1, Value.str y t2] : List Value).toArray, SeqAt.EqAt A.in1 (c.st h tk) v (.str z t3) (strEq z v) := by
    intro v hv
    have hv' : v = .str x t1 ∨ v = .str y t2 := by simpa using hv
    have key : ∀ (a : Str) (t : Tok), PyData.canLay0 (.str a) = true → SeqAt.EqAt A.in1 (c.st h tk) (.str a t) (.str z t3) (a == z) := fun a t ha => by
      have := SeqAt.eqAt_reads (.str a) (.str z) A.in1 (c.st h tk) (.str a t) (.str z t3) _ _ (.str a t) (.str z t3) ha hzz (by
        have d1 : (PyData.str a).depth = 0 := by unfold PyData.depth; rfl
        show A.units + 1 + min _ _ < cLine
        rw [d1, Nat.zero_min]; exact hu)
      rwa [eqv_ss] at this
    rcases hv' with rfl | rfl
    · exact key x t1 hx
    · exact key y t2 hy
  refine call_meets PySem.F.slot_list_index ⟨_, ho, rfl⟩ PySem.F.entry_list_index (PySem.F.args_list_index_2 _ _) (SeqAt.list_indexAt D _ n none #[] (.str z t3) (strEq z) j ?_ ?_ ?_ ?_) ⟨ho, eqs, up_of (q _)⟩
  · rcases hj with ⟨_, rfl⟩ | ⟨_, _, rfl⟩ <;> simp
  · rcases hj with ⟨_, rfl⟩ | ⟨_, _, rfl⟩ <;> decide
  · rcases hj with ⟨rfl, rfl⟩ | ⟨rfl, _, rfl⟩ <;> simp [strEq]
  · intro i hi hlt
    rcases hj with ⟨_, rfl⟩ | ⟨_, e, rfl⟩
    · omega
    · obtain rfl : i = 0 := by omega
      exact e
end
end
noncomputable section
inductive Rw where
  | const (i : Int)
  | var (x : Str)
  | pick (i : Int)
  | drop
  | set (x : Str)
  | jump (t : Int)
  | unless (t : Int)
  | left (nm : Str) (t : Int)
  | truth (nm : Str)
def Rw.tup (t1 t2 t3 : Tok) : Rw → List Value
  | .const i => [.str "const" t1, .int i t2]
  | .var x => [.str "var" t1, .str x t2]
  | .pick i => [.str "pick" t1, .int i t2]
  | .drop => [.str "drop" t1, .int 1 t2]
  | .set x => [.str "set" t1, .str x t2, .int 0 t3]
  | .jump t => [.str "jump" t1, .int t t2]
  | .unless t => [.str "unless" t1, .int t t2, .int 0 t3]
  | .left nm t => [.str nm t1, .int t t2, .int 0 t3]
  | .truth nm => [.str "truth" t1, .str nm t2, .int 0 t3]
/-- what the law's rows are: at height hg (of the stack), at the place pl, with the end en -/
def Rw.ok (hg : Nat) (pl en : Int) : Rw → Prop
  | .const i => 0 ≤ i ∧ i < 5
  | .var x => (x = "a" ∨ x = "b") ∧ 3 ≤ hg
  | .pick i => 0 ≤ i ∧ i < hg ∧ 3 ≤ hg
  | .drop => 3 ≤ hg
  | .set x => (x = "a" ∨ x = "b") ∧ 3 ≤ hg
  | .jump t => pl + 1 ≤ t ∧ t ≤ en ∧ 3 ≤ hg
  | .unless t => pl + 1 ≤ t ∧ t ≤ en ∧ 3 ≤ hg
  | .left nm t => (nm = "and" ∨ nm = "or") ∧ pl + 1 ≤ t ∧ t ≤ en ∧ 3 ≤ hg
  | .truth nm => (nm = "&&" ∨ nm = "||") ∧ 3 ≤ hg
def RowIn (R : Led) (w : Addr) (r : Rw) : Prop := ∃ t1 t2 t3 n, (w, tupOf (r.tup t1 t2 t3) n) ∈ R
section
variable {c : Cx} {A : Around} {E : Value → Heap → Prop} {h : Heap} {value slice : Expr}
theorem St.meltX {ns : List Str} {L : Addr} {vs : List (Option Value)} {p : Addr × Obj} {X R Z : Led} (S : St c ns L vs (p :: X) R Z h) : ∃ R', p ∈ R' ∧ Le c R R' ∧ St c ns L vs X R' Z h := ⟨_, .head _, Le.cons _, S.melt⟩
theorem Br.join {α : Type} {b : Bool} {t1 t2 : Sem α} {K : α → Heap → Prop} (Pv : α → Prop) (h1 : b = true → W c A t1 (fun v h' => Pv v ∧ h' = h) E h) (h2 : b = false → W c A t2 (fun v h' => Pv v ∧ h' = h) E h) (k : ∀ v, Pv v → K v h) : Br b (W c A t1 K E h) (W c A t2 K E h) :=
  ⟨fun e => (h1 e).mono (fun v _ ⟨p, e⟩ => e ▸ k v p) fun _ _ x => x, fun e => (h2 e).mono (fun v _ ⟨p, e⟩ => e ▸ k v p) fun _ _ x => x⟩
theorem r_ab0 {t u : Tok} {Q : Value → Heap → Prop}
    (hs : subscripted slice false (.str "ab" t) (.int 0 u) = operate [.str "ab" t, .int 0 u] (getItem (.str "ab" t) (.int 0 u))) (q : ∀ t, Q (.str "a" t) h) : W c A (subscriptTail value slice (.str "ab" t) (.int 0 u)) Q E h :=
  r_chr (k := 97) (by decide) (by decide +kernel) hs q
theorem r_ab1 {t u : Tok} {Q : Value → Heap → Prop}
    (hs : subscripted slice false (.str "ab" t) (.int 1 u) = operate [.str "ab" t, .int 1 u] (getItem (.str "ab" t) (.int 1 u))) (q : ∀ t, Q (.str "b" t) h) : W c A (subscriptTail value slice (.str "ab" t) (.int 1 u)) Q E h :=
  r_chr (k := 98) (by decide) (by decide +kernel) hs q
end
end
noncomputable section
section
variable {α : Type} {c : Cx} {A : Around} {E : Value → Heap → Prop} {h h' : Heap} {ns gs os : List Str} {L f : Addr} {vs : List (Option Value)} {X X' R Z : Led} {env : Env} {I : Addr} {o o' : Obj}

theorem St.ext (S : St c ns L vs ((I, o) :: X) R Z h) (e : Heap.ExtBut I h h') : St c ns L vs X R Z h' := by
  have hI := S.nw (I, o) (.head _)
  have nd := List.nodup_cons.mp (show (I :: keys (all3 X R Z)).Nodup from S.nd)
  obtain ⟨m, F, l⟩ := S.fr
  refine ⟨⟨m, ⟨?_, fun b o' q => e b o' (fun k => ?_) (F.keep b o' q), F.above⟩, l⟩, fun p hp => ?_, nd.2⟩
  · obtain ⟨o', es, ep, ho, r⟩ := F.ns
    exact ⟨o', es, ep, e L o' (Ne.symm hI.2.1) ho, r⟩
  · rw [k, hI.2.2] at q; cases q
  · have z := S.nw p (.tail _ hp)
    exact ⟨e _ _ (fun k => nd.1 (k ▸ List.mem_map_of_mem hp)) z.1, z.2⟩
theorem St.turn (S : St c ns L vs ((I, o) :: X) R Z h) (e : Heap.SameBut I h h') (ho : h'.get? I = some o') : St c ns L vs ((I, o') :: X) R Z h' := by
  have hI := S.nw (I, o) (.head _)
  have nd := List.nodup_cons.mp (show (I :: keys (all3 X R Z)).Nodup from S.nd)
  have S2 := S.ext e.extBut
  refine ⟨S2.fr, fun p hp => ?_, S.nd⟩
  rcases List.mem_cons.mp hp with rfl | hp
  · exact ⟨ho, hI.2⟩
  · exact S2.nw p hp

/-! ### iterators -/
abbrev rngO (x left : Int) : Obj := { cls := .type "range_iterator", data := .fields #[rawInt x, rawInt left, rawInt 1] }
theorem n_rng {x left : Int} {Q : Option Value → Heap → Prop} (S : St c ns L vs ((I, rngO x left) :: X) R Z h) (hl : 0 < left) (q : ∀ t h', St c ns L vs ((I, rngO (x + 1) (left - 1)) :: X) R Z h' → Q (some (.int x t)) h') : W c A (pyNext (.ref I)) Q E h := fun tk =>
  wpAny_pyNext_range_item (s := c.st h tk) (S.nw (I, rngO x left) (.head _)).1 hl fun h' hi hs => up_of (q _ h' (S.turn hs hi))
theorem n_rngE {x left : Int} {Q : Option Value → Heap → Prop} (hh : A.handled = none) (S : St c ns L vs ((I, rngO x left) :: X) R Z h) (hl : left ≤ 0) (q : ∀ h', St c ns L vs X R Z h' → Q none h') : W c A (pyNext (.ref I)) Q E h := fun tk =>
  wpAny_pyNext_range_end (s := c.st h tk) hh (S.nw (I, rngO x left) (.head _)).1 hl fun h' hs => up_of (q h' (S.ext hs))
def LIt (o : Obj) (D : Addr) (i : Nat) : Prop := o.cls = .type "list_iterator" ∧ o.data = .fields #[.ref D, .int i 0]
theorem n_lst {D : Addr} {l : List Value} {n i : Nat} {v : Value} {Q : Option Value → Heap → Prop} (S : St c ns L vs ((I, o) :: X) R Z h) (ho : LIt o D i) (hD : (D, listOf l.toArray n) ∈ all3 X R Z) (hx : l[i]? = some v)
    (q : ∀ o' h', LIt o' D (i + 1) → St c ns L vs ((I, o') :: X) R Z h' → Q (some v) h') : W c A (pyNext (.ref I)) Q E h := fun tk =>
  wpAny_pyNext_list_item (s := c.st h tk) (i := i) (items := l.toArray) ⟨o, (S.nw (I, o) (.head _)).1, ho.1, ho.2⟩ ⟨_, (S.nw _ (.tail _ hD)).1, rfl, _, rfl⟩ (by simpa using hx) fun h' ⟨o', a, b, d⟩ hs => up_of (q o' h' ⟨b, d⟩ (S.turn hs a))
theorem n_lstE {D : Addr} {l : List Value} {n i : Nat} {Q : Option Value → Heap → Prop} (hh : A.handled = none) (S : St c ns L vs ((I, o) :: X) R Z h) (ho : LIt o D i) (hD : (D, listOf l.toArray n) ∈ all3 X R Z) (hx : l[i]? = none)
    (q : ∀ h', St c ns L vs X R Z h' → Q none h') : W c A (pyNext (.ref I)) Q E h := fun tk =>
  wpAny_pyNext_list_end (s := c.st h tk) (i := i) (items := l.toArray) hh ⟨o, (S.nw (I, o) (.head _)).1, ho.1, ho.2⟩ ⟨_, (S.nw _ (.tail _ hD)).1, rfl, _, rfl⟩ (by simpa using hx) fun h' hs => up_of (q h' (S.ext hs))
theorem i_lst {D : Addr} {l : List Value} {n : Nat} {Q : Value → Heap → Prop} (S : St c ns L vs X R Z h) (hD : (D, listOf l.toArray n) ∈ all3 X R Z) (q : ∀ I o h', LIt o D 0 → St c ns L vs ((I, o) :: X) R Z h' → Q (.ref I) h') : W c A (pyIter (.ref D)) Q E h := fun tk =>
  wpAny_pyIter_list (s := c.st h tk) (items := l.toArray) ⟨_, (S.nw _ hD).1, rfl, _, rfl⟩ (up_of (q _ _ _ ⟨rfl, rfl⟩ (S.push rfl)))
/-- a dict's keys: the dict's object with its epoch -/
def KIt (c : Cx) (o d : Obj) (D : Addr) (kvs : List (Str × Value)) (i : Nat) : Prop := ∃ (es : Array DictEntry) (ep : Nat), o.cls = .type "dict_keyiterator" ∧ o.data = .fields #[.ref D, .int i 0, .int kvs.length 0, .int ep 0] ∧ d.ExactDict ∧ d.data = .dict es ep ∧ KeysOf (strKind c.prog c.w) es ∧ Pairs (strKind c.prog c.w) es.toList kvs ∧ (kvs.map (·.1)).Nodup
theorem i_key {D : Addr} {d : Obj} {kvs : List (Str × Value)} {Q : Value → Heap → Prop} (hmods : (c.b.get? sysModules).isSome = true) (S : St c ns L vs X R Z h) (hD : (D, d) ∈ all3 X R Z) (hd : d.IsDictOf (strKind c.prog c.w) kvs) (q : ∀ I o h', KIt c o d D kvs 0 → St c ns L vs ((I, o) :: X) R Z h' → Q (.ref I) h') :
    W c A (pyIter (.ref D)) Q E h := fun tk => by
  obtain ⟨es, ep, r⟩ := hd
  exact wpAny_pyIter_dict (knd := strKind c.prog c.w) (s := c.st h tk) (kvs := kvs) (not_mods hmods S hD) ⟨d, es, (S.nw _ hD).1, r⟩ (up_of (q _ _ _ ⟨es, ep, rfl, rfl, r⟩ (S.push rfl)))
theorem n_key {D : Addr} {d : Obj} {kvs : List (Str × Value)} {i : Nat} {k : Str} {v : Value} {Q : Option Value → Heap → Prop} (S : St c ns L vs ((I, o) :: X) R Z h) (ho : KIt c o d D kvs i) (hD : (D, d) ∈ all3 X R Z) (hx : kvs[i]? = some (k, v))
    (q : ∀ o' t h', KIt c o' d D kvs (i + 1) → St c ns L vs ((I, o') :: X) R Z h' → Q (some (.str k t)) h') : W c A (pyNext (.ref I)) Q E h := fun tk => by
  obtain ⟨es, ep, a, b, r⟩ := ho
  refine wpAny_pyNext_dict_item (knd := strKind c.prog c.w) (s := c.st h tk) (i := i) (kvs := kvs) ⟨o, (S.nw (I, o) (.head _)).1, a, b⟩ ⟨d, es, (S.nw _ (.tail _ hD)).1, r⟩ hx fun key h' hk ⟨o', a', b', d'⟩ hs => ?_
  obtain ⟨t, rfl⟩ := Value.isStrOf_shape (show Value.isStrOf k key = true from hk)
  exact up_of (q o' t h' ⟨es, ep, b', d', r⟩ (S.turn hs a'))
theorem n_keyE {D : Addr} {d : Obj} {kvs : List (Str × Value)} {i : Nat} {Q : Option Value → Heap → Prop} (hh : A.handled = none) (S : St c ns L vs ((I, o) :: X) R Z h) (ho : KIt c o d D kvs i) (hD : (D, d) ∈ all3 X R Z) (hx : kvs[i]? = none)
    (q : ∀ h', St c ns L vs X R Z h' → Q none h') : W c A (pyNext (.ref I)) Q E h := fun tk => by
  obtain ⟨es, ep, a, b, r⟩ := ho
  exact wpAny_pyNext_dict_end (knd := strKind c.prog c.w) (s := c.st h tk) (i := i) (kvs := kvs) hh ⟨o, (S.nw (I, o) (.head _)).1, a, b⟩ ⟨d, es, (S.nw _ (.tail _ hD)).1, r⟩ hx fun h' hs => up_of (q h' (S.ext hs))

/-! ### for -/
def forK (Q : Flow → Heap → Prop) (P : Heap → Prop) (f : Flow) (h : Heap) : Prop := match f with
  | .next => P h
  | .cont => P h
  | .brk => Q .next h
  | .ret v => Q (.ret v) h
theorem fk_next {Q : Flow → Heap → Prop} {P : Heap → Prop} (p : P h) : forK Q P .next h := p
theorem fk_brk {Q : Flow → Heap → Prop} {P : Heap → Prop} (p : Q .next h) : forK Q P .brk h := p
theorem fk_ret {v : Value} {Q : Flow → Heap → Prop} {P : Heap → Prop} (p : Q (.ret v) h) : forK Q P (.ret v) h := p
def turnK (c : Cx) (A : Around) (env : Env) (x : Str) (body : List Stmt) (Q : Flow → Heap → Prop) (P : Heap → Prop) (r : Option Value) (h : Heap) : Prop := match r with
  | none => Q .next h
  | some v => W c A (storeName env x v) (fun _ h => W c A (execs body env) (forK Q P) (fun _ _ => False) h) (fun _ _ => False) h
theorem tk_none {x : Str} {body : List Stmt} {Q : Flow → Heap → Prop} {P : Heap → Prop} (q : Q .next h) : turnK c A env x body Q P none h := q
theorem tk_some {x : Str} {body : List Stmt} {Q : Flow → Heap → Prop} {P : Heap → Prop} {v : Value} (q : W c A (storeName env x v) (fun _ h => W c A (execs body env) (forK Q P) (fun _ _ => False) h) (fun _ _ => False) h) : turnK c A env x body Q P (some v) h := q
theorem w_for {x : Str} {px pos : Pos} {iter : Expr} {body : List Stmt} {Q : Flow → Heap → Prop}
    (q : W c A (eval iter env) (fun xv h => W c A (pyIter xv) (fun it h => ∃ (Inv : Nat → Heap → Prop) (n : Nat), Inv n h ∧ ∀ n h, Inv n h → W c A (pyNext it) (turnK c A env x body Q (fun h => ∃ m, m < n ∧ Inv m h)) (fun _ _ => False) h) E h) E h)
    (hs : ∀ x, foldedSetIterable iter env x = pure x) : W c A (exec (.For (.Name x px) iter body [] pos) env) Q E h := fun tk => by
  refine wpAny_For (wpAny_mono (q tk) (fun xv s ⟨h1, t1, e1, q1⟩ => e1 ▸ wpAny_mono (q1 t1) (fun it s ⟨h2, t2, e2, q2⟩ => ?_) id_) id_) hs
  obtain ⟨Inv, n, h0, turn⟩ := q2
  refine codeAny_forLoop (fun n s => ∃ h t, s = c.st h t ∧ Inv n h) (fun n s hI => ?_) n ⟨h2, t2, e2, h0⟩
  obtain ⟨h3, t3, rfl, hI⟩ := hI
  refine wpAny_mono (turn n h3 hI t3) (fun r s x => ?_) (fun _ _ ⟨_, _, _, x⟩ => x.elim)
  obtain ⟨h4, t4, rfl, x⟩ := x
  cases r with
  | none => exact wpAny_execs_nil ⟨_, _, rfl, x⟩
  | some v =>
    refine wpAny_assign_Name (wpAny_mono (x t4) (fun _ s x => ?_) (fun _ _ ⟨_, _, _, x⟩ => x.elim))
    obtain ⟨h5, t5, rfl, x⟩ := x
    refine wpAny_mono (x t5) (fun f s x => ?_) (fun _ _ ⟨_, _, _, x⟩ => x.elim)
    obtain ⟨h6, t6, rfl, x⟩ := x
    cases f with
    | next => obtain ⟨m, hm, x⟩ := x; exact ⟨m, hm, _, _, rfl, x⟩
    | cont => obtain ⟨m, hm, x⟩ := x; exact ⟨m, hm, _, _, rfl, x⟩
    | brk => exact ⟨_, _, rfl, x⟩
    | ret v => exact ⟨_, _, rfl, x⟩
/-- turn by turn -/
noncomputable def Fl (c : Cx) (A : Around) (env : Env) (x : Str) (body : List Stmt) (Q : Flow → Heap → Prop) (it : Value) : Nat → Heap → Prop
  | 0, _ => False
  | k + 1, h => W c A (pyNext it) (turnK c A env x body Q (Fl c A env x body Q it k)) (fun _ _ => False) h
theorem fl_go {x : Str} {body : List Stmt} {Q : Flow → Heap → Prop} {it : Value} {k : Nat} (q : W c A (pyNext it) (turnK c A env x body Q (Fl c A env x body Q it k)) (fun _ _ => False) h) : Fl c A env x body Q it (k + 1) h := q
theorem w_forU (k : Nat) {x : Str} {px pos : Pos} {iter : Expr} {body : List Stmt} {Q : Flow → Heap → Prop}
    (q : W c A (eval iter env) (fun xv h => W c A (pyIter xv) (fun it h => Fl c A env x body Q it k h) E h) E h)
    (hs : ∀ x, foldedSetIterable iter env x = pure x) : W c A (exec (.For (.Name x px) iter body [] pos) env) Q E h := by
  refine w_for (q.mono (fun xv h q => q.mono (fun it h q => ⟨fun n h => Fl c A env x body Q it n h, k, q, fun n h hI => ?_⟩) fun _ _ e => e) fun _ _ e => e) hs
  cases n with
  | zero => exact hI.elim
  | succ n =>
    refine W.mono hI (fun r h y => ?_) fun _ _ e => e
    cases r with
    | none => exact y
    | some v => exact W.mono y (fun _ h y => W.mono y (fun f h y => by
        cases f with
        | next => exact ⟨n, Nat.lt_succ_self _, y⟩
        | cont => exact ⟨n, Nat.lt_succ_self _, y⟩
        | brk => exact y
        | ret _ => exact y) fun _ _ e => e) fun _ _ e => e
end
end
noncomputable section
inductive All2 {α β : Type} (P : α → β → Prop) : List α → List β → Prop
  | nil : All2 P [] []
  | cons {a b l r} : P a b → All2 P l r → All2 P (a :: l) (b :: r)
theorem All2.imp {α β : Type} {P Q : α → β → Prop} (h : ∀ a b, P a b → Q a b) : ∀ {l : List α} {r : List β}, All2 P l r → All2 Q l r
  | _, _, .nil => .nil
  | _, _, .cons a r => .cons (h _ _ a) (r.imp h)
theorem All2.len {α β : Type} {P : α → β → Prop} : ∀ {l : List α} {r : List β}, All2 P l r → l.length = r.length
  | _, _, .nil => rfl
  | _, _, .cons _ r => congrArg (· + 1) r.len
theorem All2.snoc {α β : Type} {P : α → β → Prop} {a : α} {b : β} (h : P a b) : ∀ {l : List α} {r : List β}, All2 P l r → All2 P (l ++ [a]) (r ++ [b])
  | _, _, .nil => .cons h .nil
  | _, _, .cons x r => .cons x (r.snoc h)
theorem All2.at {α β : Type} {P : α → β → Prop} : ∀ {l : List α} {r : List β} {i : Nat} {a : α}, All2 P l r → l[i]? = some a → ∃ b, r[i]? = some b ∧ P a b
  | _, _, 0, _, .cons x _, e => ⟨_, rfl, Option.some.inj e ▸ x⟩
  | _, _, i + 1, _, .cons _ r, e => r.at (i := i) e
theorem All2.unsnoc {α β : Type} {P : α → β → Prop} {l : List α} {r : List β} {b : β} (x : All2 P l (r ++ [b])) : ∃ l' a, l = l' ++ [a] ∧ All2 P l' r ∧ P a b := by
  induction r generalizing l with
  | nil => cases x with
    | cons a q => cases q; exact ⟨[], _, rfl, .nil, a⟩
  | cons c r ih => cases x with
    | cons a q => obtain ⟨l', z, rfl, h1, h2⟩ := ih q; exact ⟨_ :: l', z, rfl, .cons a h1, h2⟩
section
variable {α : Type} {c : Cx} {A : Around} {E : Value → Heap → Prop} {h h' : Heap} {ns ns' gs os : List Str} {L f C : Addr} {vs vs' : List (Option Value)} {X X' R Z : Led} {env : Env} {I : Addr} {o o' : Obj}
/-- a new frame over the old one -/
theorem St.enter (S : St c ns L vs X R Z h) {h₁ : Heap} {m' : Str → Option Value} (hns : h₁.Ns h.objs.size m') (hk : ∀ b o, h.get? b = some o → h₁.get? b = some o) (l' : Loc m' ns' vs') : ∃ oL, Frm c ns L vs oL ∧ St c ns' h.objs.size vs' X R ((L, oL) :: Z) h₁ := by
  obtain ⟨m, F, l⟩ := S.fr
  obtain ⟨oL, es, ep, hoL, hdL, hkL, hfL⟩ := F.ns
  have fresh : ∀ b o, h.get? b = some o → b ≠ h.objs.size := fun b o e => Nat.ne_of_lt (Heap.lt_size e)
  have ndp : ((keys ((L, oL) :: all3 X R Z))).Nodup := List.nodup_cons.mpr ⟨fun hm => by
      obtain ⟨p, hp, e⟩ := List.mem_map.mp hm
      exact (S.nw p hp).2.1 e, S.nd⟩
  have pm : (all3 X R ((L, oL) :: Z)).Perm ((L, oL) :: all3 X R Z) := by
      show (X ++ (R ++ (L, oL) :: Z)).Perm ((L, oL) :: (X ++ (R ++ Z)))
      rw [← List.append_assoc, ← List.append_assoc]
      exact List.perm_middle
  refine ⟨oL, ⟨⟨m, es, ep, hdL, hkL, hfL, l⟩, F.above⟩, ⟨⟨_, ⟨hns, fun b o e => hk b o (F.keep b o e), ?_⟩, l'⟩, fun p hp => ?_, (pm.map (·.1)).nodup_iff.mpr ndp⟩⟩
  · have := F.above
    have := Heap.lt_size hoL
    exact Nat.le_of_lt (Nat.lt_of_le_of_lt ‹_› this)
  · rcases List.mem_cons.mp (pm.mem_iff.mp hp) with rfl | hp
    · refine ⟨hk _ _ hoL, fresh _ _ hoL, ?_⟩
      cases q : c.b.get? L with
      | none => rfl
      | some o => exact absurd (Heap.lt_size q) (Nat.not_lt.mpr F.above)
    · have z := S.nw p hp
      exact ⟨hk _ _ z.1, fresh _ _ z.1, z.2.2⟩
/-- the inner frame let go -/
theorem St.exit {oL : Obj} (F : Frm c ns L vs oL) (S : St c ns' C vs' X R ((L, oL) :: Z) h) (e : Heap.SameBut C h h') : St c ns L vs X R Z h' := by
  have S1 := F.leave S
  have hC : ∀ p ∈ all3 X R ((L, oL) :: Z), p.1 ≠ C := fun p hp => (S.nw p hp).2.1
  have hL : L ≠ C := hC (L, oL) (in3Z (.head _))
  obtain ⟨m0, F0, _⟩ := S.fr
  obtain ⟨m, F1, l⟩ := S1.fr
  refine ⟨⟨m, ⟨F1.ns.sameBut e hL, fun b o' q => ?_, F1.above⟩, l⟩, fun p hp => ?_, S1.nd⟩
  · have h1 := F1.keep b o' q
    have : b ≠ C := fun k => absurd (Heap.lt_size q) (Nat.not_lt.mpr (k ▸ F0.above))
    exact (e.2 b this).trans h1
  · have z := S1.nw p hp
    have hp' : p.1 ≠ C := hC p (by
      rcases List.mem_append.mp hp with q | q
      · exact List.mem_append_left _ q
      · rcases List.mem_append.mp q with q | q
        · exact in3R q
        · exact in3Z (.tail _ q))
    exact ⟨(e.2 _ hp').trans z.1, z.2⟩

end
end
noncomputable section
section
variable {prog : Program} {w : World} {A : Around} {E : Value → Shared → Prop} {h : Heap} {g : Array GenState} {d : Drawn} {t : Nat} {os : OsState}
variable {nm q : Str} {C N : Addr} {bs bm bmB : List Value} {hdct : Bool} {sn : List Str} {sub : List Value} {ab : Bool} {col : Option Bool} {dd : Option Addr} {k0 k1 k2 k3 k5 : Option Value} {B newId initId : String}

abbrev excO (C t : Addr) : Obj := { cls := .ref C, data := .fields #[.ref t, .none, .none, .none, .bool false, .none] }
theorem exc_call_init (F : ExcBaseFacts B newId initId bmB) (T : OwnTail h bmB bm) {mN : Str → Option Value} {rest : List Value} {Q : Value → Shared → Prop} {fI : Addr}
    (hC : h.get? C = some (excClassObj nm q C N bs bm hdct sn sub ab col dd k0 k1 k2 k3 k5 newId)) (hn : h.Ns N mN) (hni : mN "__init__" = some (.ref fI))
    (hb : ∀ self, Looks (model prog w) h (bindSpecial (.ref fI) self) (.ref fI, [self])) (hrest : rest.length ≤ sizeLine)
    (hq : codeAny (model prog w) (A.under (.builtin "type.__call__" ⟨.ref C :: rest, []⟩)) (.call (.ref fI) ⟨.ref (h.objs.size + 1) :: rest, []⟩)
      (fun r s' => match r with | .ok (.ret v) => v = .none ∧ Q (.ref (h.objs.size + 1)) s' | .ok _ => False | .error x => E x s') ⟨(h.push { cls := .type "tuple", data := .seq rest.toArray }).push (excO C h.objs.size), g, d, t, os⟩) :
    wpAny (model prog w) A (call (.ref C) rest) Q E ⟨h, g, d, t, os⟩ := by
  have f1 := tc_lookup
  have f2 := tc_bind (.ref C)
  have hT : (⟨h, g, d, t, os⟩ : Shared).TypeIs (.ref C) "type" := ⟨_, hC, rfl⟩
  refine wpAny_call (codeAny_of_tree ?_)
  show wpAny _ _ (callAny (.ref C) _) _ _ _
  repeat (any_goals (first | assumption | with_reducible refine wpAny_loadPart_at hC ?_ | wp_step))
  refine ⟨rfl, ?_⟩
  refine codeAny_call_builtin_at (Code.quiet_builtin _ (by decide +kernel)) entry_typeCall (wpAny_check_type_call_sub hC ?_)
  repeat (first | with_reducible refine wpAny_loadPart_at hC ?_ | with_reducible refine wpAny_madeBy_exc hC ?_ | wp_step)
  refine codeAny_call_builtin_code (Code.quiet_builtin _ F.quiet) (wpAny_check_new_subT F T hC ?_)
  refine codeAny_exc_new_subT F T hC ?_ hrest
  show wpAny _ _ _ _ _ _
  have hC₁ := Heap.get?_push_of_some { cls := .ref C, data := .fields #[.ref h.objs.size, .none, .none, .none, .bool false, .none] } (Heap.get?_push_of_some { cls := .type "tuple", data := .seq rest.toArray } hC)
  have hk : ∀ b o, h.get? b = some o → ((h.push { cls := .type "tuple", data := .seq rest.toArray }).push { cls := .ref C, data := .fields #[.ref h.objs.size, .none, .none, .none, .bool false, .none] }).get? b = some o := fun b o e => Heap.get?_push_of_some _ (Heap.get?_push_of_some _ e)
  have hn₁ := hn.keeps hk
  have hget : ((h.push { cls := .type "tuple", data := .seq rest.toArray }).push { cls := .ref C, data := .fields #[.ref h.objs.size, .none, .none, .none, .bool false, .none] }).get? (h.objs.size + 1) = some { cls := .ref C, data := .fields #[.ref h.objs.size, .none, .none, .none, .bool false, .none] } := by heap_get
  have hcC : (Value.ref C :: bm).contains (.ref C) = true := by simp
  have T₁ := T.keeps hk
  unfold isInstance
  repeat (first | with_reducible refine wpAny_loadPart_at hget ?_ | (with_reducible refine wpAny_isSubtype_exc hC₁ ?_; rw [hcC]) | wp_step)
  refine wpAny_isSubtype_exc hC₁ ?_
  rw [hcC]
  repeat (first | with_reducible refine wpAny_loadPart_at hget ?_ | wp_step)
  show wpAny _ _ (typeLookup (.ref C) _) _ _ _
  refine wpAny_typeLookup_tail hC₁ hn₁ T₁ F.mroIs F.init.lookup ?_
  rw [hni]
  dsimp only
  refine wpAny_holding (wpAny_bind (((hb (.ref (h.objs.size + 1))).keeps hk).at ?_))
  dsimp only
  refine wpAny_bind (wpAny_call (codeAny_mono hq fun r s' z => ?_))
  rcases r with e | (v | _ | _ | _)
  · exact z
  · exact z.elim
  · exact z.elim
  · exact z.elim
  · obtain ⟨rfl, z⟩ := z
    exact wpAny_pure (wpAny_pure z)
end
end
noncomputable section
open PySem PySem.W PySem.Calls PyProof.Rows Builtin Builtin.ObjectAttr
theorem rl_exc (self : Value) : refuseLoop self "__setattr__" [.type "Exception", .type "BaseException", .type "object"] = pure () := by kernel_rfl
/-- what is asked of the exception's class -/
structure ExcC (K : Frag) (C Co : Addr) : Prop where
  cls : ∃ cd, clsIn K C = some cd ∧ cd.hasDict = true ∧ cd.mro = [.ref C, .ref Co, .type "Exception", .type "BaseException", .type "object"]
  set : findIn K (.ref C) "__setattr__" = some (some (.builtin "object.__setattr__"))
  taker : takerIn K C "message" = some none
abbrev excD (C t D : Addr) : Obj := { cls := .ref C, dict := some D, data := .fields #[.ref t, .none, .none, .none, .bool false, .none] }
section
variable {c : Cx} {A : Around} {E : Value → Heap → Prop} {h : Heap} {ns gs os : List Str} {L f : Addr} {vs : List (Option Value)} {X X' R Z : Led} {env : Env}
theorem w_setExc {x C Co t : Addr} {v : Value} {Q : Unit → Heap → Prop} (B : Base c) (k : ExcC c.K C Co) (S : St c ns L vs ((x, excO C t) :: X) R Z h)
    (q : ∀ D dO h', St c ns L vs ((x, excD C t D) :: (D, dO) :: X) R Z h' → Q () h') : W c A (setAttr (.ref x) "message" v) Q E h := fun tk => by
  have hx := (S.nw (x, excO C t) (.head _)).1
  have K' := S.kin B
  obtain ⟨cd, hc, hd, hm⟩ := k.cls
  have I : InstAt h x (excO C t) C none := ⟨hx, rfl, rfl, trivial⟩
  refine set_plain (s := c.st h tk) K' I k.set ?_
  have SF := PySem.F.store_object
  have mro : Looks c.M h (mroOf (.ref C)) cd.mro := (looks_clsIn K' hc).andThen .now
  have sub : Looks c.M h (isInstance (.ref x) (.type "object")) true := I.type.andThen (looks_mroIn K' (by unfold mroIn; rw [hc, Option.bind_some, hm, if_neg (by exact Bool.false_ne_true)]; rfl))
  refine codeAny_call_builtin SF.slot.plain SF.entry (@check_slot c.M _ _ (c.st h (tk + 1)) "object.__setattr__" "object" "__setattr__" (.ref x) [.str "message" tk, v] [] _ SF.kind SF.split sub (SF.args (.ref x) (.str "message" tk) v) ?_)
  obtain ⟨attr, ha, hr⟩ := Option.bind_eq_some_iff.mp k.taker
  have L3 : Looks c.M h (storeTaker? attr) none := by
    cases attr with
    | none => cases hr; exact .now
    | some a =>
      obtain ⟨b, hb, e⟩ := Option.map_eq_some_iff.mp hr
      refine (looks_takesIn K' hb).andThen ?_
      cases b
      · exact .now
      · cases e
  rw [osa_eq, refuse_eq]
  refine wpAny_bind (wpAny_bind (I.type.here (s := c.st h (tk + 1)) (wpAny_bind (mro.here (s := c.st h (tk + 1)) ?_))))
  rw [hm, refuseLoop_ref, refuseLoop_ref, rl_exc]
  refine wpAny_pure (wpAny_bind (I.type.here (s := c.st h (tk + 1)) (wpAny_bind ((looks_findIn K' ha).here (s := c.st h (tk + 1)) (wpAny_bind (L3.here (s := c.st h (tk + 1)) ?_))))))
  dsimp only
  unfold storeInOwnDict ownStreamTells ownDictForStores instanceDict
  refine wpAny_bind (wpAny_pure ?_)
  rw [if_neg (show ¬ ((Value.ref C == Value.type "module") = true) from Bool.false_ne_true)]
  refine wpAny_bind ?_
  dsimp only
  refine wpAny_bind (wpAny_loadPart hx ?_)
  dsimp only
  refine wpAny_bind ((looks_clsIn K' hc).here (s := c.st h (tk + 1)) ?_)
  rw [hd]
  simp only [Bool.not_true, Bool.false_eq_true, if_false]
  rw [if_neg (show ¬ ((false || !typeHasDict (Value.ref C)) = true) from Bool.false_ne_true)]
  refine wpAny_bind (wpAny_alloc ?_)
  have S1 := S.push (o := emptyDict) rfl
  have S2 := S1.perm (X' := (x, excO C t) :: (h.objs.size, emptyDict) :: X) (R' := R) (Z' := Z) (List.Perm.swap _ _ _)
  refine wpAny_bind (wpAny_update (S2.nw (x, excO C t) (.head _)).1 ?_)
  have g1 := Heap.get?_update_self (fun o => { cls := o.cls, dict := some h.objs.size, data := o.data, slots := o.slots }) (S2.nw (x, excO C t) (.head _)).1 rfl
  have S3 := S2.turn (Heap.SameBut.update ..) g1
  refine wpAny_pure (a := some h.objs.size) ?_
  dsimp only
  have gD := (S3.nw (h.objs.size, emptyDict) (.tail _ (.head _))).1
  have S4 := S3.perm (X' := (h.objs.size, emptyDict) :: (x, excD C t h.objs.size) :: X) (R' := R) (Z' := Z) (List.Perm.swap _ _ _)
  unfold storeInDict newKeyGuard nsSet
  refine wpAny_bind (wpAny_pure ?_)
  refine wpAny_bind (wpAny_bind (wpAny_bind (wpAny_askSetting (wpAny_pure (wpAny_bind (wpAny_mkText (wpAny_bind (wpAny_loadPart gD ?_))))))))
  dsimp only
  rw [if_neg (by rw [aRefKeyMayBeTheName_at]; simp)]
  refine wpAny_updatePart gD ?_
  have pn : ∀ hh kk, Obj.putName "message" hh kk v emptyDict = dictOf (putL "message" hh kk v []) (putN "message" [] 0) := fun hh kk => putName_dict (es := []) (n := 0) ..
  have g2 : ∀ hh kk, (((h.push emptyDict).update x (fun o => { cls := o.cls, dict := some h.objs.size, data := o.data, slots := o.slots })).update h.objs.size (Obj.putName "message" hh kk v)).get? h.objs.size = some (dictOf (putL "message" hh kk v []) (putN "message" [] 0)) := fun hh kk => by
    rw [← pn]; exact Heap.get?_update_self _ gD (by rw [pn]; rfl)
  refine wpAny_bind (wpAny_lookBehind (g2 _ _) (by exact pastItsLine_dict (by rw [List.size_toArray, sizeLine_eq]; simp [putL])) ?_)
  refine wpAny_pure (up_of (q _ _ _ (St.perm (S4.turn (Heap.SameBut.update ..) (g2 _ _)) (List.Perm.swap _ _ _))))
end
end
noncomputable section
abbrev bmE : List Value := [.type "Exception", .type "BaseException", .type "object"]
/-- the class Refusal -/
structure RefC (c : Cx) : Prop where
  g : c.mg "Refusal" = some (.ref c.cf)
  keep : keepIn c.K (.ref c.cf) = true
  exc : ∃ Co, ExcC c.K c.cf Co
  obj : ∃ nm q N bs bm hdct sn sub ab col dd k0 k1 k2 k3 k5 mN fI, c.b.get? c.cf = some (excClassObj nm q c.cf N bs bm hdct sn sub ab col dd k0 k1 k2 k3 k5 "Exception.__new__") ∧ OwnTail c.b bmE bm ∧ c.b.Ns N mN ∧ mN "__init__" = some (.ref fI) ∧
    FnAt c fI "Refusal.__init__" (mth 3 0) [] ∧ isFn c.K (.ref fI) = true
section
variable {c : Cx} {A : Around} {E : Value → Heap → Prop} {h : Heap} {ns gs os : List Str} {L f : Addr} {vs : List (Option Value)} {X X' R Z : Led} {env : Env}
theorem w_excall {v : Value} {Q : Value → Heap → Prop} (B : Base c) (RC : RefC c) (S : St c ns L vs X R Z h) (hA : Rm 3 A)
    (q : ∀ e t D dO h', St c ns L vs ((e, excD c.cf t D) :: (D, dO) :: (t, tupOf [v] 0) :: X) R Z h' → Q (.ref e) h') : W c A (call (.ref c.cf) [v]) Q E h := fun tk => by
  obtain ⟨nm, qn, N, bs, bm, hdct, sn, sub, ab, col, dd, k0, k1, k2, k3, k5, mN, fI, hC, T, hn, hni, hF, hf⟩ := RC.obj
  obtain ⟨Co, xc⟩ := RC.exc
  have K' := S.kin B
  have S1 := S.push (o := tupOf [v] 0) rfl
  have S2 := S1.push (o := excO c.cf h.objs.size) rfl
  rw [Heap.size_push] at S2
  have hA' : Rm 2 (A.under (.builtin "type.__call__" ⟨[.ref c.cf, v], []⟩)) := hA.under
  refine exc_call_init (A := A) PySem.F.excBase_Exception (T.keeps S.keep) (S.keep _ _ hC) (hn.keeps S.keep) hni (fun self => bind_fn K' self (beq_iff_eq.mp hf)) (by rw [sizeLine_eq]; simp) ?_
  have z := cw_enter (os := []) (Q := fun r h' => match r with | .ok (.ret w) => w = .none ∧ Q (.ref (h.objs.size + 1)) h' | _ => False) B S2 hF hA'.lt sc_Refusal_init rfl rfl (bnd_Refusal_init (.ref (h.objs.size + 1)) v) (fun L' h' cdv oL F' S' => by
    have sc' := sc_Refusal_init
    simp only [List.map_cons, List.map_nil, List.cons_append, List.nil_append] at S' sc'
    refine (w_body (E := fun _ _ => False) (by with_unfolding_all rfl) (w_cons (w_asgA (w_ld S' sc' (.tail .head) (w_ld S' sc' .head (w_setExc B xc S' fun D dO h'' S'' => nk_next (w_nil ⟨rfl, q _ _ _ _ _ (F'.leave S'')⟩)))) rfl))).mono (fun _ _ x => x) fun _ _ x => x.elim)
  refine codeAny_mono (z tk) fun r s' ⟨h', t', e, z⟩ => ?_
  subst e
  rcases r with e | (w | _ | _ | _)
  · exact z.elim
  · exact z.elim
  · exact z.elim
  · exact z.elim
  · exact ⟨z.1, up_of z.2⟩
end
section
variable {M : Model} {A : Around} {E : Value → Shared → Prop} {env : Env}
variable {nm q : Str} {C N : Addr} {bs bm : List Value} {hdct : Bool} {sn : List Str} {sub : List Value} {ab : Bool} {col : Option Bool} {dd : Option Addr} {k0 k1 k2 k3 k5 : Option Value} {newId : String}
theorem raise_made {s : Shared} {x : Sem Value} {Q : Flow → Shared → Prop} (hbase : bm.contains (.type "BaseException") = true) (hh : A.handled = none)
    (h : wpAny M A x (fun v s₁ => ∃ e t D, v = .ref e ∧ s₁.heap.get? C = some (excClassObj nm q C N bs bm hdct sn sub ab col dd k0 k1 k2 k3 k5 newId) ∧
      s₁.heap.get? e = some { cls := .ref C, dict := some D, data := .fields #[.ref t, .none, .none, .none, .bool false, .none] } ∧ E (.ref e) s₁) E s) :
    wpAny M A (raiseStmt env (some x) none) Q E s := by
  have hcB : (Value.ref C :: bm).contains (.type "BaseException") = true := by rw [List.contains_cons, hbase, Bool.or_true]
  unfold raiseStmt
  refine wpAny_bind (wpAny_mono h (fun v s₁ h₁ => ?_) fun _ _ x => x)
  obtain ⟨e, t, D, rfl, hC, he, hE⟩ := h₁
  obtain ⟨hp, g, d, tk, os⟩ := s₁
  repeat (first | with_reducible refine wpAny_loadPart_at he ?_ | with_reducible refine wpAny_loadPart_at hC ?_ | (with_reducible refine wpAny_isSubtype_exc hC ?_; rw [hcB]) | wp_step)
  exact wpAny_raiseNew_none hh hE
end
section
variable {c : Cx} {A : Around} {E : Value → Heap → Prop} {h : Heap} {ns gs os : List Str} {L f : Addr} {vs : List (Option Value)} {X X' R Z : Led} {name : Str} {scope : Scope} {cd : Value}
theorem w_raise {np cpos pos kp : Pos} {k : Nat} {msg : Str} {Q : Flow → Heap → Prop} (B : Base c) (RC : RefC c) (hh : A.handled = none) (S : St c ns L vs X R Z h) (hA : Rm 3 A) (sc : Sc scope ns gs) (hx : ("Refusal" : Str) ∈ gs)
    (q : ∀ e t D dO tO h', St c ns L vs ((e, excD c.cf t D) :: (D, dO) :: (t, tO) :: X) R Z h' → E (.ref e) h') : W c A (exec (.Raise (some (.Call (.Name "Refusal" np) [.Constant (.str msg) k kp] [] cpos)) none pos) (envOf name scope L f cd)) Q E h := fun tk => by
  obtain ⟨nm, qn, N, bs, bm, hdct, sn, sub, ab, col, dd, k0, k1, k2, k3, k5, mN, fI, hC, T, _⟩ := RC.obj
  rw [arm_exec_Raise]
  refine wpAny_bind (wpAny_standAt (raise_made (C := c.cf) (nm := nm) (q := qn) (N := N) (bs := bs) (bm := bm) (hdct := hdct) (sn := sn) (sub := sub) (ab := ab) (col := col) (dd := dd) (k0 := k0) (k1 := k1) (k2 := k2) (k3 := k3) (k5 := k5) (newId := "Exception.__new__") (T.hasType (by decide)) hh ?_))
  have ev : W c A (eval (.Call (.Name "Refusal" np) [.Constant (.str msg) k kp] [] cpos) (envOf name scope L f cd)) (fun v h' => ∃ e t D dO tO, v = .ref e ∧ St c ns L vs ((e, excD c.cf t D) :: (D, dO) :: (t, tO) :: X) R Z h') E h :=
    w_kl B S sc hx RC.g RC.keep rfl rfl (w_args (w_str fun _ => w_args0 ⟨S.kin B, w_excall B RC S hA fun e t D dO h' S' => ⟨e, t, D, dO, _, rfl, S'⟩⟩) rfl)
  refine wpAny_bind (wpAny_mono (ev tk) (fun v s ⟨h', t', e, k⟩ => wpAny_bind (wpAny_standAt (wpAny_pure ?_))) id_)
  subst e
  obtain ⟨e, t, D, dO, tO, rfl, S'⟩ := k
  exact ⟨e, t, D, rfl, S'.keep _ _ hC, (S'.nw (e, excD c.cf t D) (.head _)).1, up_of (q _ _ _ _ _ _ S')⟩
end
end
noncomputable section
/-- the stack of frames over the handler's frame L (locals ns, vs; ledger Z behind it) -/
inductive Stk (c : Cx) (ns : List Str) (L : Addr) (vs : List (Option Value)) (Z : Led) : List Env → Addr → Led → Prop
  | two {env env1 : Env} {L' : Addr} {o : Obj} : env.frame = some L' → env.scope.kind = .function → env1.frame = some L → env1.scope.kind = .function → Frm c ns L vs o → Stk c ns L vs Z [env, env1] L' ((L, o) :: Z)
  | more {env : Env} {l : List Env} {L' L'' : Addr} {o : Obj} {ns' : List Str} {vs' : List (Option Value)} {Z' : Led} : env.frame = some L' → env.scope.kind = .function → Frm c ns' L'' vs' o → Stk c ns L vs Z l L'' Z' → Stk c ns L vs Z (env :: l) L' ((L'', o) :: Z')
theorem ne_module {k : ScopeKind} (e : k = .function) : k ≠ .module := by rw [e]; decide
theorem Frm.dict {c : Cx} {ns : List Str} {L : Addr} {vs : List (Option Value)} {o : Obj} (F : Frm c ns L vs o) : ∀ vs, o.data ≠ .fields vs := by
  obtain ⟨m, es, ep, e, _⟩ := F.ex
  intro vs q; rw [e] at q; cases q
theorem Stk.facts {c : Cx} {ns : List Str} {L : Addr} {vs : List (Option Value)} {Z : Led} {l : List Env} {L' : Addr} {Z' : Led} (s : Stk c ns L vs Z l L' Z') :
    ∃ Y : Led, Z' = Y ++ Z ∧ l.filterMap (·.frame) = L' :: keys Y ∧ (∃ o, (L, o) ∈ Y ∧ Frm c ns L vs o) ∧ (∀ p ∈ Y, c.b.objs.size ≤ p.1) ∧
      ∀ h B : Heap, (∃ o, h.get? L' = some o ∧ ∀ vs, o.data ≠ .fields vs) → B.get? L' = none → (∀ p ∈ Y, h.get? p.1 = some p.2 ∧ B.get? p.1 = none) → h.FunFrames B l := by
  induction s with
  | @two env env1 L' o h1 h2 h3 h4 F =>
    refine ⟨[(L, o)], rfl, by simp [h1, h3], ⟨o, .head _, F⟩, fun p hp => by rw [List.mem_singleton.mp hp]; exact F.above, fun h B ⟨o', a, b⟩ d k => ?_⟩
    have z := k (L, o) (.head _)
    exact ⟨ne_module h2, ⟨L', o', h1, d, a, b⟩, ne_module h4, ⟨L, o, h3, z.2, z.1, F.dict⟩, trivial⟩
  | @more env l L' L'' o ns' vs' Z' h1 h2 F s ih =>
    obtain ⟨Y, rfl, e, ⟨o1, m1, F1⟩, hab, k⟩ := ih
    refine ⟨(L'', o) :: Y, rfl, by simp [h1, e], ⟨o1, .tail _ m1, F1⟩, fun p hp => ?_, fun h B ⟨o', a, b⟩ d k' => ?_⟩
    · rcases List.mem_cons.mp hp with rfl | hp
      · exact F.above
      · exact hab p hp
    · have z := k' (L'', o) (.head _)
      exact ⟨ne_module h2, ⟨L', o', h1, d, a, b⟩, k h B ⟨o, z.1, F.dict⟩ z.2 fun p hp => k' p (.tail _ hp)⟩

/-- an exception of the class Refusal in flight -/
structure Fly (c : Cx) (l : List Env) (e : Addr) (X R Z : Led) (ns : List Str) (L : Addr) (vs : List (Option Value)) (h : Heap) : Prop where
  ex : ∃ B a0, Heap.FlyingW B l e (.ref c.cf) a0 h ∧ (∀ b o, c.b.get? b = some o → B.get? b = some o) ∧ (∀ p ∈ all3 X R Z, B.get? p.1 = some p.2 ∧ p.1 ≠ L ∧ c.b.get? p.1 = none)
  nd : (keys (all3 X R Z)).Nodup
  above : c.b.objs.size ≤ L
  loc : ∃ m, h.Ns L m ∧ Loc m ns vs
section
variable {c : Cx} {A : Around} {h h' : Heap} {ns ns' : List Str} {L L' : Addr} {vs vs' : List (Option Value)} {X R Z Z' : Led} {env : Env} {l : List Env} {e : Addr} {E : Value → Heap → Prop}
theorem Fly.st (F : Fly c l e X R Z ns L vs h) : St c ns L vs X R Z h := by
  obtain ⟨B, a0, ⟨s1, _⟩, k1, k2⟩ := F.ex
  obtain ⟨m, hn, hl⟩ := F.loc
  exact ⟨⟨m, ⟨hn, fun b o q => s1 b o (k1 b o q), F.above⟩, hl⟩, fun p hp => ⟨s1 _ _ (k2 p hp).1, (k2 p hp).2⟩, F.nd⟩
theorem fly_first {t D : Addr} {dO tO : Obj} {Q : Unit → Heap → Prop} (hfr : A.frames = some (env :: l)) (sk : Stk c ns L vs Z (env :: l) L' Z') (hf : env.frame = some L') (S : St c ns' L' vs' ((e, excD c.cf t D) :: (D, dO) :: (t, tO) :: X) R Z' h)
    (q : ∀ h', Fly c l e X R Z ns L vs h' → Q () h') : W c A (leaving env (.ref e)) Q E h := fun tk => by
  obtain ⟨Y, rfl, fm, ⟨o1, m1, F1⟩, hab, ff⟩ := sk.facts
  obtain ⟨B, hB⟩ : ∃ B, B = hideAll h (e :: L' :: keys Y) := ⟨_, rfl⟩
  have he := S.nw (e, excD c.cf t D) (.head _)
  have nde := List.nodup_cons.mp (show (e :: keys (all3 ((D, dO) :: (t, tO) :: X) R (Y ++ Z))).Nodup from S.nd)
  have inY : ∀ p ∈ Y, p ∈ all3 ((e, excD c.cf t D) :: (D, dO) :: (t, tO) :: X) R (Y ++ Z) := fun p hp => in3Z (List.mem_append_left _ hp)
  have hY : ∀ p ∈ Y, h.get? p.1 = some p.2 ∧ B.get? p.1 = none := fun p hp => ⟨(S.nw p (inY p hp)).1, hB ▸ hideAll_none _ (.tail _ (.tail _ (List.mem_map_of_mem hp)))⟩
  obtain ⟨mL, FL, _⟩ := S.fr
  obtain ⟨oL', esL, epL, hoL', hdL', _⟩ := FL.ns
  have hfun : h.FunFrames B (env :: l) := ff h B ⟨oL', hoL', fun vs q => by rw [hdL'] at q; cases q⟩ (hB ▸ hideAll_none _ (.tail _ (.head _))) hY
  have st : Heap.StaysIn B h := fun b o q => of_hideAll _ (hB ▸ q)
  have kc : ∀ b o, c.b.get? b = some o → B.get? b = some o := fun b o qb => by
    rw [hB]
    refine hideAll_get _ (S.keep b o qb) fun hm => ?_
    rcases List.mem_cons.mp hm with rfl | hm
    · have q2 : c.b.get? b = none := he.2.2
      rw [q2] at qb; cases qb
    · rcases List.mem_cons.mp hm with rfl | hm
      · exact absurd (Heap.lt_size qb) (Nat.not_lt.mpr FL.above)
      · obtain ⟨p, hp, rfl⟩ := List.mem_map.mp hm
        exact absurd (Heap.lt_size qb) (Nat.not_lt.mpr (hab p hp))
  -- the keys of what is kept
  have pm : (all3 ((e, excD c.cf t D) :: (D, dO) :: (t, tO) :: X) R (Y ++ Z)).Perm ((e, excD c.cf t D) :: (D, dO) :: (t, tO) :: (Y ++ all3 X R Z)) := by
    refine .cons _ (.cons _ (.cons _ ?_))
    show (X ++ (R ++ (Y ++ Z))).Perm (Y ++ (X ++ (R ++ Z)))
    have e1 : X ++ (R ++ (Y ++ Z)) = (X ++ R) ++ Y ++ Z := by simp only [List.append_assoc]
    have e2 : Y ++ (X ++ (R ++ Z)) = Y ++ (X ++ R) ++ Z := by simp only [List.append_assoc]
    rw [e1, e2]
    exact List.Perm.append_right _ List.perm_append_comm
  have nd2 := (pm.map (·.1)).nodup_iff.mp S.nd
  have nd3 : (keys Y ++ keys (all3 X R Z)).Nodup := by
    have := (List.nodup_cons.mp (List.nodup_cons.mp (List.nodup_cons.mp (show (e :: D :: t :: (Y ++ all3 X R Z).map (·.1)).Nodup from nd2)).2).2).2
    rwa [List.map_append] at this
  have hs : ∀ p ∈ all3 X R Z, p ∈ all3 ((e, excD c.cf t D) :: (D, dO) :: (t, tO) :: X) R (Y ++ Z) := fun p hp => pm.mem_iff.mpr (.tail _ (.tail _ (.tail _ (List.mem_append_right _ hp))))
  have kp : ∀ p ∈ all3 X R Z, B.get? p.1 = some p.2 ∧ p.1 ≠ L ∧ c.b.get? p.1 = none := fun p hp => by
    have z := S.nw p (hs p hp)
    have notY : p.1 ∉ keys Y := fun hm => (List.nodup_append.mp nd3).2.2 _ hm _ (List.mem_map_of_mem hp) rfl
    refine ⟨?_, fun q => notY (q ▸ List.mem_map_of_mem (f := (·.1)) m1), z.2.2⟩
    rw [hB]
    refine hideAll_get _ z.1 fun hm => ?_
    rcases List.mem_cons.mp hm with q | hm
    · refine nde.1 (q ▸ ?_)
      have := hs p hp
      rcases List.mem_cons.mp this with r | r
      · exfalso
        have h1 : e ∈ keys (all3 X R Z) := by rw [← q]; exact List.mem_map_of_mem hp
        have := (List.nodup_cons.mp (show (e :: D :: t :: (Y ++ all3 X R Z).map (·.1)).Nodup from nd2)).1
        exact this (.tail _ (.tail _ (by rw [List.map_append]; exact List.mem_append_right _ h1)))
      · exact List.mem_map_of_mem (f := (·.1)) r
    · rcases List.mem_cons.mp hm with q | hm
      · exact z.2.1 q
      · exact notY hm
  have nsL : ∃ m, h.Ns L m ∧ Loc m ns vs := by
    obtain ⟨m, es, ep, e1, e2, e3, lc⟩ := F1.ex
    exact ⟨m, ⟨o1, es, ep, (hY _ m1).1, e1, e2, e3⟩, lc⟩
  refine wpAny_leaving_firstW (s := c.st h tk) (oe := excD c.cf t D) (a0 := .ref t) hfr hfun hf he.1 st (hB ▸ hideAll_none _ (.head _)) rfl rfl rfl fun h' ⟨k1, ⟨_, _, k2⟩, k3, k4⟩ => up_of (q h' ⟨⟨B, .ref t, ⟨k1, hB ▸ hideAll_none _ (.head _), k2, k3⟩, kc, kp⟩, (List.nodup_append.mp nd3).2.1, F1.above, ?_⟩)
  obtain ⟨m, hn, lc⟩ := nsL
  exact ⟨m, Heap.UpToSlots.ns k4 hn, lc⟩
theorem fly_next {Q : Unit → Heap → Prop} (hfr : A.frames = some (env :: l)) (hf : env.frame = some L') (F : Fly c (env :: l) e X R Z ns L vs h) (q : ∀ h', Fly c l e X R Z ns L vs h' → Q () h') : W c A (leaving env (.ref e)) Q E h := fun tk => by
  obtain ⟨B, a0, fl, k1, k2⟩ := F.ex
  obtain ⟨m, hn, lc⟩ := F.loc
  exact wpAny_leaves_onW (s := c.st h tk) hfr hf fl fun h' x1 x2 => up_of (q h' ⟨⟨B, a0, x1, k1, k2⟩, F.nd, F.above, m, x2.ns hn, lc⟩)
end
end
noncomputable section
section
variable {c : Cx} {A : Around} {E : Value → Heap → Prop} {h : Heap} {gs : List Str} {L f : Addr} {name : Str} {scope : Scope} {cd : Value}
/-- what the handler finds -/
def HnK (c : Cx) (A : Around) (gs : List Str) (scope : Scope) (env : Env) (L : Addr) (suite : List Stmt) (Q : Flow → Heap → Prop) (e : Value) (h : Heap) : Prop :=
  ∃ a X R Z ns vs, e = .ref a ∧ Sc scope ns gs ∧ Fly c [env] a X R Z ns L vs h ∧ ∀ h', St c ns L vs X R Z h' → W c (A.mark (some e)) (execs suite env) Q (fun _ _ => False) h'
theorem hnk {a : Addr} {X R Z : Led} {ns : List Str} {vs : List (Option Value)} {env : Env} {suite : List Stmt} {Q : Flow → Heap → Prop} (sc : Sc scope ns gs) (F : Fly c [env] a X R Z ns L vs h)
    (k : ∀ h', St c ns L vs X R Z h' → W c (A.mark (some (.ref a))) (execs suite env) Q (fun _ _ => False) h') : HnK c A gs scope env L suite Q (.ref a) h := ⟨a, X, R, Z, ns, vs, rfl, sc, F, k⟩
theorem w_try {body : List Stmt} {np hpos pos : Pos} {b₀ : Stmt} {suite : List Stmt} {Q : Flow → Heap → Prop} (B : Base c) (RC : RefC c) (hfr : A.frames = some [envOf name scope L f cd]) (hx : ("Refusal" : Str) ∈ gs)
    (q : W c A (execs body (envOf name scope L f cd)) Q (HnK c A gs scope (envOf name scope L f cd) L (b₀ :: suite) Q) h) :
    W c A (exec (.Try body [.ExceptHandler (some (.Name "Refusal" np)) none (b₀ :: suite) hpos] [] [] pos) (envOf name scope L f cd)) Q E h := fun tk => by
  refine wpAny_Try_except (wpAny_mono (q tk) (fun f s ⟨h', t', e, q⟩ => ?_) (fun e s ⟨h', t', es, q⟩ => ?_))
  · subst e
    cases f
    · exact wpAny_execs_nil (up_of q)
    all_goals exact up_of q
  · subst es
    obtain ⟨a, X, R, Z, ns, vs, rfl, sc, F, k⟩ := q
    obtain ⟨BB, a0, fl, k1, k2⟩ := F.ex
    obtain ⟨m, hn, lc⟩ := F.loc
    obtain ⟨nm, qn, N, bs, bm, hdct, sn, sub, ab, col, dd, q0, q1, q2, q3, q5, mN, fI, hC, T, _⟩ := RC.obj
    refine wpAny_looks_onW (s := c.st h' t') hfr rfl fl fun h₄ hheld₄ hsm₄ => ?_
    refine wpAny_landsW (s := c.st h₄ t') hheld₄ fun h₅ hfl₅ hsm₅ => ?_
    have S₅ : St c ns L vs X R Z h₅ := (Fly.mk ⟨BB, a0, hfl₅, k1, k2⟩ F.nd F.above ⟨m, (hsm₅.ns (hsm₄.ns hn)), lc⟩ : Fly c [envOf name scope L f cd] a X R Z ns L vs h₅).st
    obtain ⟨ob, hob, hobc⟩ := hfl₅.there
    refine wpAny_handleBy_cons (codeAny_handlers_test ?_) (by intro q; cases q)
    refine wpAny_mono (w_gl (A := A.mark (some (.ref a))) (E := fun _ _ => False) (Q := fun v h => v = .ref c.cf ∧ h = h₅) B S₅ sc hx RC.g ⟨rfl, rfl⟩ t') (fun v s ⟨h6, t6, e6, k6⟩ => ?_) (fun _ _ ⟨_, _, _, x⟩ => x.elim)
    subst e6
    obtain ⟨rfl, rfl⟩ := k6
    refine wpAny_excMatches_sub_self (S₅.keep _ _ hC) hob hobc (T.hasType (by decide)) (codeAny_handlers_suite ?_)
    refine lands_againW (s := c.st h6 t6) hfl₅ fun h₆ hfl₆ hsm₆ => ?_
    have S₆ : St c ns L vs X R Z h₆ := (Fly.mk ⟨BB, a0, hfl₆, k1, k2⟩ F.nd F.above ⟨m, (hsm₆.ns (hsm₅.ns (hsm₄.ns hn))), lc⟩ : Fly c [envOf name scope L f cd] a X R Z ns L vs h₆).st
    exact wpAny_mono (k h₆ S₆ t6) (fun f s x => x) (fun _ _ ⟨_, _, _, x⟩ => x.elim)
end
end
noncomputable section
def itD : Option Int → PyData
  | none => .none
  | some i => .int i
def vaD (a : Va) : PyData := .tuple [.str a.kd, .list [itD a.it]]
theorem It.reads {h : Heap} {v : Value} {o : Option Int} (x : It v o) : Reads h v (itD o) [] := by
  cases o with
  | none => cases x; exact .none
  | some i => obtain ⟨t, rfl⟩ := x; exact .int i t
theorem vaD_eqv (a : Va) : PyData.eqv (vaD a) (vaD a) = true := by
  obtain ⟨kd, it⟩ := a
  cases it <;> simp [vaD, itD, PyData.eqv, PyData.eqvAll]
theorem vaD_lay (a : Va) (ok : a.ok) : (vaD a).canLay0 = true := by
  obtain ⟨kd, it⟩ := a
  rcases ok with e | e
  · have e : kd = "logical" := e
    subst e
    cases it <;> simp [vaD, itD, PyData.canLay0, PyData.canLayAll0] <;> decide +kernel
  · have e : kd = "integer" := e
    subst e
    cases it <;> simp [vaD, itD, PyData.canLay0, PyData.canLayAll0] <;> decide +kernel
theorem vaD_deep (a : Va) : (vaD a).depth ≤ 2 := by
  obtain ⟨kd, it⟩ := a
  cases it <;> simp [vaD, itD, PyData.depth, PyData.depthAll]
theorem vaDs_eqv : ∀ as : List Va, PyData.eqvAll (as.map vaD) (as.map vaD) = true
  | [] => by simp [PyData.eqvAll]
  | a :: as => by rw [List.map_cons, PyData.eqvAll, vaD_eqv, vaDs_eqv as]; rfl
theorem vaDs_lay : ∀ as : List Va, (∀ a ∈ as, a.ok) → PyData.canLayAll0 (as.map vaD) = true
  | [], _ => by simp [PyData.canLayAll0]
  | a :: as, h => by rw [List.map_cons, PyData.canLayAll0, vaD_lay a (h a (.head _)), vaDs_lay as fun b hb => h b (.tail _ hb)]; rfl
theorem vaDs_deep : ∀ as : List Va, PyData.depthAll (as.map vaD) ≤ 2
  | [] => by simp [PyData.depthAll]
  | a :: as => by rw [List.map_cons, PyData.depthAll]; exact Nat.max_le.mpr ⟨vaD_deep a, vaDs_deep as⟩
theorem TupIn.ok {R : Led} {v : Value} {a : Va} (x : TupIn R v a) : a.ok := let ⟨_, _, _, _, _, _, _, _, _, _, o⟩ := x; o
theorem All2.oks {R : Led} : ∀ {ts : List Value} {as : List Va}, All2 (TupIn R) ts as → ∀ a ∈ as, a.ok
  | _, _, .cons x r, a, h => by
    rcases List.mem_cons.mp h with rfl | h
    · exact x.ok
    · exact r.oks a h
section
variable {c : Cx} {A : Around} {E : Value → Heap → Prop} {h : Heap} {ns : List Str} {L : Addr} {vs : List (Option Value)} {X R Z : Led} {value slice : Expr}
theorem TupIn.reads {v : Value} {a : Va} (S : St c ns L vs X R Z h) (x : TupIn R v a) : ∃ bs, Reads h v (vaD a) bs := by
  obtain ⟨x, il, n1, n2, t1, iv, rfl, h1, h2, hi, _⟩ := x
  exact ⟨_, rd_tup S (in3R h1) (.cons (.str _ _) (.cons (rd_list S (in3R h2) (.cons hi.reads .nil)) .nil))⟩
theorem All2.reads (S : St c ns L vs X R Z h) : ∀ {ts : List Value} {as : List Va}, All2 (TupIn R) ts as → ∃ bs, ReadsAll h ts (as.map vaD) bs
  | _, _, .nil => ⟨_, .nil⟩
  | _, _, .cons x r => by
    obtain ⟨b1, r1⟩ := x.reads S
    obtain ⟨b2, r2⟩ := r.reads S
    exact ⟨_, .cons r1 r2⟩
/-- two lists of tuples that stand for the same -/
theorem r_neTs {D D' : Addr} {l l' : List Value} {n n' m : Nat} {as : List Va} {Q : Value → Heap → Prop} (hA : Rm m A) (S : St c ns L vs X R Z h) (hm : (D, listOf l.toArray n) ∈ all3 X R Z) (hm' : (D', listOf l'.toArray n') ∈ all3 X R Z) (h1 : All2 (TupIn R) l as) (h2 : All2 (TupIn R) l' as)
    (q : Q (.bool false) h) : W c A (compareOp .NotEq (.ref D) (.ref D')) Q E h := by
  obtain ⟨_, r1⟩ := h1.reads S
  obtain ⟨_, r2⟩ := h2.reads S
  have hl : (PyData.list (as.map vaD)).canLay0 = true := by unfold PyData.canLay0; exact vaDs_lay as h1.oks
  refine r_neD hA (rd_list S hm r1) (rd_list S hm' r2) hl hl (by unfold PyData.depth; have := vaDs_deep as; omega) ?_
  have : PyData.eqv (.list (as.map vaD)) (.list (as.map vaD)) = true := by unfold PyData.eqv; exact vaDs_eqv as
  rw [this]; exact q
theorem r_neT {v w : Value} {m : Nat} {a : Va} {Q : Value → Heap → Prop} (hA : Rm m A) (S : St c ns L vs X R Z h) (h1 : TupIn R v a) (h2 : TupIn R w a) (q : Q (.bool false) h) : W c A (compareOp .NotEq v w) Q E h := by
  obtain ⟨_, r1⟩ := h1.reads S
  obtain ⟨_, r2⟩ := h2.reads S
  refine r_neD hA r1 r2 (vaD_lay a h1.ok) (vaD_lay a h1.ok) (by have := vaD_deep a; omega) ?_
  rw [vaD_eqv]; exact q
theorem r_last2 {D : Addr} {p : List Value} {v w : Value} {n : Nat} {u : Tok} {Q : Value → Heap → Prop} (S : St c ns L vs X R Z h) (hm : (D, listOf ((p ++ [v]) ++ [w]).toArray n) ∈ all3 X R Z)
    (hs : subscripted slice false (.ref D) (.int (-2) u) = operate [.ref D, .int (-2) u] (getItem (.ref D) (.int (-2) u))) (q : Q v h) : W c A (subscriptTail value slice (.ref D) (.int (-2) u)) Q E h :=
  r_lstN (j := p.length) (x := v) S hm (by decide) (by decide) (by unfold seqIndex?; simp; omega) (by simp) hs q
theorem St.swap2 {P Q T : Led} (S : St c ns L vs (P ++ (Q ++ T)) R Z h) : St c ns L vs (Q ++ (P ++ T)) R Z h := S.perm (by
  show ((Q ++ (P ++ T)) ++ (R ++ Z)).Perm ((P ++ (Q ++ T)) ++ (R ++ Z))
  refine List.Perm.append_right _ ?_
  rw [← List.append_assoc, ← List.append_assoc]
  exact List.Perm.append_right _ List.perm_append_comm)
theorem w_gEva {name : Str} {scope : Scope} {f : Addr} {cd : Value} {gs : List Str} {pos : Pos} {Q : Value → Heap → Prop} (P : Pk c) (S : St c ns L vs X R Z h) (sc : Sc scope ns gs) (hx : ("Evaluator" : Str) ∈ gs) (q : Q (.ref c.ci) h) : W c A (eval (.Name "Evaluator" pos) (envOf name scope L f cd)) Q E h := w_gl P.B S sc hx P.gev q
theorem w_rng {name : Str} {scope : Scope} {f : Addr} {cd : Value} {gs : List Str} {xp pos : Pos} {e : Expr} {rest : List Expr} {Q : Value → Heap → Prop} (P : Pk c) (S : St c ns L vs X R Z h) (sc : Sc scope ns gs) (hx : ("range" : Str) ∈ gs)
    (he : starEach (e :: rest) (envOf name scope L f cd) = (false, eval e (envOf name scope L f cd)) :: starEach rest (envOf name scope L f cd)) (hp : (backTo pos (starEach rest (envOf name scope L f cd))).any (·.1) = false)
    (q : W c A (spliced (backTo pos (starEach (e :: rest) (envOf name scope L f cd)))) (fun us h => W c A (call (.type "range") us) Q E h) E h) :
    W c A (eval (.Call (.Name "range" xp) (e :: rest) [] pos) (envOf name scope L f cd)) Q E h := w_ty P.B S sc hx P.nrange bb_range (by decide) he hp q
abbrev rangeO (n : Int) (t1 t t2 : Tok) : Obj := { cls := .type "range", data := .fields #[.int 0 t1, .int n t, .int 1 t2] }
theorem r_range {n : Int} {t : Tok} {Q : Value → Heap → Prop} (S : St c ns L vs X R Z h) (q : ∀ r t1 t2 h', St c ns L vs ((r, rangeO n t1 t t2) :: X) R Z h' → Q (.ref r) h') : W c A (call (.type "range") [.int n t]) Q E h := fun tk =>
  PySem.call_range_1 (s := c.st h tk) (up_of (q _ _ _ _ (S.push rfl)))
theorem i_rng {r : Addr} {n : Int} {t1 t t2 : Tok} {Q : Value → Heap → Prop} (h0 : 0 ≤ n) (hn : n < 1000) (S : St c ns L vs X R Z h) (hm : (r, rangeO n t1 t t2) ∈ all3 X R Z) (q : ∀ I h', St c ns L vs ((I, rngO 0 n) :: X) R Z h' → Q (.ref I) h') : W c A (pyIter (.ref r)) Q E h := fun tk => by
  have e : Builtin.Range.rangeSize 0 n 1 = n := by
    unfold Builtin.Range.rangeSize
    rw [if_pos (by omega)]
    split <;> omega
  refine wpAny_pyIter_range (s := c.st h tk) (S.nw _ hm).1 (by
    have f : ∀ i : Int, 0 ≤ i → i < 2000 → Builtin.Range.rangeFitsLong i = true := fun i a b => by unfold Builtin.Range.rangeFitsLong; simp; omega
    unfold Builtin.Range.small; rw [e, f 0 (by omega) (by omega), f n h0 (by omega), f 1 (by omega) (by omega), if_pos (by omega : (1 : Int) > 0), f (n + (1 - 1)) (by omega) (by omega)]; simp) (up_of (q _ _ ?_))
  rw [e]; exact S.push rfl
end
end
noncomputable section
def forBody : Stmt → List Stmt
  | .For _ _ b _ _ => b
  | _ => []
def loopBody : List Stmt := forBody (((bodyOf (stm 117))[11]?).getD (.Pass ⟨0,0,0,0⟩))
structure Lw where
  scr : Value
  co : Value
  so : Addr
  sl : Addr
  vl : Addr
  nm : Addr
  tst : Addr
  en : Int
  te : Tok
  vls : List Value
  nvl : Nat
abbrev lvs (w : Lw) (m : Mc) (nameV : Option Value) (plV : Value) (us rowV refV : Option Value) : List (Option Value) :=
  [some w.scr, some (.ref w.so), some (.ref m.I), some (.ref w.vl), some w.co, some (.ref m.r), some (.ref w.nm), nameV, some (.ref w.tst), some (.int w.en w.te), some plV, us, rowV, refV]
abbrev lns : List Str := ["script", "source", "interp", "values", "code", "run", "names", "name", "stack", "end", "place", "_", "row", "refused"]
abbrev lgs : List Str := ["list", "sum", "Evaluator", "Vector", "Code", "Run", "_law_take", "range", "_law_row", "len", "perform", "Refusal", "_law_done", "_law_plain"]
theorem sc_law' : Sc (scopeOf (stm 117)) lns lgs := sc_law
abbrev TX (w : Lw) (tk : List Value) (ntk : Nat) (nmO : Obj) (Y : Led) : Led := (w.tst, listOf tk.toArray ntk) :: (w.nm, nmO) :: (w.vl, listOf w.vls.toArray w.nvl) :: Y
/-- the two machines stand at the same -/
structure Same (c : Cx) (w : Lw) (m : Mc) (R : Led) (sk tk : List Value) (as : List Va) (frO nmO : Obj) (na nb : Va) (cas : List Va) : Prop where
  s1 : All2 (VecIn c R) sk as
  s2 : All2 (TupIn R) tk as
  f : ∃ va vb, frO.IsDictOf (PySem.strKind c.prog c.w) [(("a" : Str), va), ("b", vb)] ∧ VecIn c R va na ∧ VecIn c R vb nb
  n : ∃ ta tb, nmO.IsDictOf (PySem.strKind c.prog c.w) [(("a" : Str), ta), ("b", tb)] ∧ TupIn R ta na ∧ TupIn R tb nb
  k : All2 (VecIn c R) m.consts cas
  v : All2 (VecIn c R) w.vls cas
  lk : m.lkO.IsDictOf (PySem.strKind c.prog c.w) []
  cl : cas.length = 5
theorem Same.le {c : Cx} {w : Lw} {m : Mc} {R R' : Led} {sk tk : List Value} {as : List Va} {frO nmO : Obj} {na nb : Va} {cas : List Va} (x : Same c w m R sk tk as frO nmO na nb cas) (l : Le c R R') : Same c w m R' sk tk as frO nmO na nb cas :=
  ⟨x.s1.imp l.v, x.s2.imp l.t, let ⟨va, vb, h1, h2, h3⟩ := x.f; ⟨va, vb, h1, l.v _ _ h2, l.v _ _ h3⟩, let ⟨va, vb, h1, h2, h3⟩ := x.n; ⟨va, vb, h1, l.t _ _ h2, l.t _ _ h3⟩, x.k.imp l.v, x.v.imp l.v, x.lk, x.cl⟩
end
noncomputable section
section
variable {c : Cx} {A : Around} {E : Value → Heap → Prop} {h : Heap} {ns gs os : List Str} {L f : Addr} {vs : List (Option Value)} {X X' R Z : Led} {env : Env} {scope : Scope} {name : Str} {cd : Value} {value slice : Expr}
/-- script[:k] -/
theorem r_cut {l sl : Addr} {us : List Value} {k : Nat} {t : Tok} {Q : Value → Heap → Prop} (S : St c ns L vs X R Z h) (hsl : (sl, sliceO .none (.int k t) .none) ∈ all3 X R Z) (hl : h.IsList l us.toArray) (hz : us.length ≤ 1000)
    (hs : subscripted slice false (.ref l) (.ref sl) = operate [.ref sl, .ref l] (getItem (.ref l) (.ref sl))) (ht : ∀ r, letTemporaryGo value (.ref l) r = pure ())
    (q : ∀ D h', St c ns L vs ((D, listOf (us.take k).toArray 0) :: X) R Z h' → Q (.ref D) h') : W c A (subscriptTail value slice (.ref l) (.ref sl)) Q E h := fun tk => by
  refine subscriptTail_ops (s := c.st h tk) hl.typeIs list_getitem_lookup (wpAny_getItem_list_slice (s := c.st h tk) hl ⟨_, (S.nw _ hsl).1, rfl, rfl⟩ .none (.int _ _) .none (by simp) ?_ (by rw [List.size_toArray, sizeLine_eq]; omega)) hs ht
  rw [slicePick_upto']
  exact up_of (q _ _ (S.push rfl))
theorem r_sum {D : Addr} {us : List Value} {n : Nat} {ms : List Int} {Q : Value → Heap → Prop} (hh : A.handled = none) (S : St c ns L vs X R Z h) (hm : (D, listOf us.toArray n) ∈ all3 X R Z) (hi : IntsAre us ms) (q : ∀ t h', St c ns L vs X R Z h' → Q (.int ms.sum t) h') :
    W c A (call (.builtin "sum") [.ref D]) Q E h := fun tk => by
  obtain ⟨m, F, l⟩ := S.fr
  exact sumK (s := c.st h tk) hh F S.nw ⟨_, (S.nw _ hm).1, rfl, _, rfl⟩ hi fun h' tk t' F' N' => up_of (q t' h' ⟨⟨m, F', l⟩, N', S.nd⟩)
theorem w_sum {xp pos : Pos} {e : Expr} {rest : List Expr} {Q : Value → Heap → Prop} (P : Pk c) (S : St c ns L vs X R Z h) (sc : Sc scope ns gs) (hx : ("sum" : Str) ∈ gs)
    (he : starEach (e :: rest) (envOf name scope L f cd) = (false, eval e (envOf name scope L f cd)) :: starEach rest (envOf name scope L f cd)) (hp : (backTo pos (starEach rest (envOf name scope L f cd))).any (·.1) = false)
    (q : W c A (spliced (backTo pos (starEach (e :: rest) (envOf name scope L f cd)))) (fun us h => W c A (call (.builtin "sum") us) Q E h) E h) :
    W c A (eval (.Call (.Name "sum" xp) (e :: rest) [] pos) (envOf name scope L f cd)) Q E h := w_bn P.B S sc hx P.nsum bb_sum (by decide) he hp q
theorem emptyIs (c : Cx) : emptyDict.IsDictOf (PySem.strKind c.prog c.w) [] := by
  obtain ⟨o, ho, hd⟩ := Heap.dictOf_iff.mp (Heap.DictOf.new (knd := PySem.strKind c.prog c.w) c.b)
  rw [Heap.get?_push_size _ rfl] at ho
  have e := Option.some.inj ho
  subst e
  exact hd
/-- {} -/
theorem w_dict0 {pos : Pos} {Q : Value → Heap → Prop} (S : St c ns L vs X R Z h) (q : ∀ d h', St c ns L vs ((d, emptyDict) :: X) R Z h' → Q (.ref d) h') : W c A (eval (.Dict [] [] pos) env) Q E h := fun _ =>
  wpAny_Dict_empty (up_of (q _ _ (S.push rfl)))
/-- a dict of two texts: its pairs, then the dict -/
def DsK (c : Cx) (d : Addr) (k1 k2 : Str) (Q : Value → Heap → Prop) (v1 v2 : Value) (h : Heap) : Prop := ∃ ns L vs X R Z g, St c ns L vs X R Z h ∧ Hole d emptyDict X g ∧ ∀ o h', o.IsDictOf (PySem.strKind c.prog c.w) [(k1, v1), (k2, v2)] → St c ns L vs (g o) R Z h' → Q (.ref d) h'
theorem dsk {d : Addr} {k1 k2 : Str} {Q : Value → Heap → Prop} {v1 v2 : Value} {g : Obj → Led} (S : St c ns L vs X R Z h) (hc : Hole d emptyDict X g) (q : ∀ o h', o.IsDictOf (PySem.strKind c.prog c.w) [(k1, v1), (k2, v2)] → St c ns L vs (g o) R Z h' → Q (.ref d) h') : DsK c d k1 k2 Q v1 v2 h :=
  ⟨ns, L, vs, X, R, Z, g, S, hc, q⟩
theorem w_dict2 {x1 x2 : Str} {n1 n2 : Nat} {p1 p2 pos : Pos} {e1 e2 : Expr} {Q : Value → Heap → Prop} (hne : x1 ≠ x2) (S : St c ns L vs X R Z h)
    (q : ∀ d h', St c ns L vs ((d, emptyDict) :: X) R Z h' → W c A (eval e1 env) (fun v1 h => W c A (eval e2 env) (fun v2 h => DsK c d x1 x2 Q v1 v2 h) E h) E h') :
    W c A (eval (.Dict [some (.Constant (.str x1) n1 p1), some (.Constant (.str x2) n2 p2)] [e1, e2] pos) env) Q E h := fun tk => by
  refine wpAny_Dict_walk (knd := PySem.strKind c.prog c.w) rfl rfl (List.cons_ne_nil _ _) (Nat.le_of_ble_eq_true rfl) ?_
  have S0 := S.push (o := emptyDict) rfl
  refine pairTrees_cons_walk (Calls.Constant_str (wpAny_mono (q _ _ S0 (tk + 1)) (fun v1 s ⟨h1, t1, ee1, k1⟩ => ?_) id_))
  subst ee1
  refine pairTrees_cons_walk (Calls.Constant_str (wpAny_mono (k1 (t1 + 1)) (fun v2 s ⟨h2, t2, ee2, k2⟩ => ?_) id_))
  subst ee2
  obtain ⟨ns', L', vs', X', R', Z', g, S', hc, k⟩ := k2
  have hd := S'.nw _ (List.mem_append_left _ (hc.chg emptyDict).from)
  refine pairTrees_nil_walk ⟨[(x1, v1), (x2, v2)], ⟨strKind_is _ _ _ _, rfl, strKind_is _ _ _ _, rfl, trivial⟩, Heap.dictOf_iff.mpr ⟨_, hd.1, emptyIs c⟩, fun h3 hd3 hs3 => ?_⟩
  obtain ⟨o, ho, hoD⟩ := Heap.dictOf_iff.mp hd3
  have hm : merged [] [(x1, v1), (x2, v2)] = [(x1, v1), (x2, v2)] := by simp [merged, stored, hne]
  rw [hm] at hoD
  obtain ⟨m, F, l⟩ := S'.fr
  have hX := hc.chg o
  refine up_of (k o h3 hoD (S'.set hX (F.change hs3 hd.2.1 hd.2.2) l ?_))
  obtain ⟨pre, post, a1, a2, b1, b2⟩ := (hX.upd S'.nd (t := R' ++ Z')).split
  have hN : News c.b L' h2 (pre ++ (h.objs.size, emptyDict) :: post) := fun p hp => S'.nw p (by show p ∈ X' ++ (R' ++ Z'); rw [a1]; exact hp)
  intro p hp
  exact news_set hN b1 b2 hs3 ho p (by rw [← a2]; exact hp)
end
end
noncomputable section
section
variable {c : Cx} {A : Around} {E : Value → Heap → Prop} {h : Heap} {ns gs os : List Str} {L f : Addr} {vs : List (Option Value)} {X X' R Z : Led} {env : Env} {scope : Scope} {name : Str} {cd : Value} {value slice : Expr}
theorem Cls.sub {K : Frag} {C : Addr} {fs fs' : List Str} (k : Cls K C fs) (hs : ∀ x ∈ fs', x ∈ fs) (nd : fs'.Nodup) (hl : fs'.length ≤ 1000) : Cls K C fs' := ⟨fun x hx => k.fld x (hs x hx), nd, hl⟩
theorem w_augA {o value : Expr} {attr : Str} {tpos pos : Pos} {op : Operator} {Q : Flow → Heap → Prop}
    (q : W c A (eval o env) (fun ov h => W c A (getAttr ov attr true) (fun old h => W c A (eval value env) (fun v h => W c A (inplaceOp op old v) (fun new h => W c A (setAttr ov attr new) (fun _ => Q .next) E h) E h) E h) E h) E h) :
    W c A (exec (.AugAssign (.Attribute o attr tpos) op value pos) env) Q E h := fun tk =>
  wpAny_AugAssign_AttributeAny (wpAny_mono (q tk) (fun _ _ ⟨_, t, e, q⟩ => e ▸ wpAny_mono (q t) (fun _ _ ⟨_, t, e, q⟩ => e ▸ wpAny_mono (q t) (fun _ _ ⟨_, t, e, q⟩ => e ▸ wpAny_mono (q t) (fun _ _ ⟨_, t, e, q⟩ => e ▸ q t) id_) id_) id_) id_)
theorem r_iadd {a b : Int} {t u : Tok} {Q : Value → Heap → Prop} (q : ∀ t, Q (.int (a + b) t) h) : W c A (inplaceOp .Add (.int a t) (.int b u)) Q E h := fun tk =>
  PyProof.Rows.iadd_int (s := c.st h tk) (up_of (q _))
theorem w_kCls {x : Str} {C : Addr} {xp pos : Pos} {Q : Value → Heap → Prop} (B : Base c) (S : St c ns L vs X R Z h) (sc : Sc scope ns gs) (hx : x ∈ gs) (hg : c.mg x = some (.ref C)) (hk : keepIn c.K (.ref C) = true)
    (q : W c A (call (.ref C) []) Q E h) : W c A (eval (.Call (.Name x xp) [] [] pos) (envOf name scope L f cd)) Q E h := w_call (w_gl B S sc hx hg (cwith0 (S.kin B) hk q))
theorem w_kEnv {xp pos : Pos} {e : Expr} {rest : List Expr} {Q : Value → Heap → Prop} (P : Pk c) (S : St c ns L vs X R Z h) (sc : Sc scope ns gs) (hx : ("Environment" : Str) ∈ gs)
    (he : starEach (e :: rest) (envOf name scope L f cd) = (false, eval e (envOf name scope L f cd)) :: starEach rest (envOf name scope L f cd)) (hp : (backTo pos (starEach rest (envOf name scope L f cd))).any (·.1) = false)
    (q : W c A (spliced (backTo pos (starEach (e :: rest) (envOf name scope L f cd)))) (fun us h => c.K.In h ∧ W c A (call (.ref c.ce) us) Q E h) E h) :
    W c A (eval (.Call (.Name "Environment" xp) (e :: rest) [] pos) (envOf name scope L f cd)) Q E h := w_kl P.B S sc hx P.gen P.kEnv he hp q
theorem w_kCod {xp pos : Pos} {e : Expr} {rest : List Expr} {Q : Value → Heap → Prop} (P : Pk c) (S : St c ns L vs X R Z h) (sc : Sc scope ns gs) (hx : ("Code" : Str) ∈ gs)
    (he : starEach (e :: rest) (envOf name scope L f cd) = (false, eval e (envOf name scope L f cd)) :: starEach rest (envOf name scope L f cd)) (hp : (backTo pos (starEach rest (envOf name scope L f cd))).any (·.1) = false)
    (q : W c A (spliced (backTo pos (starEach (e :: rest) (envOf name scope L f cd)))) (fun us h => c.K.In h ∧ W c A (call (.ref c.cc) us) Q E h) E h) :
    W c A (eval (.Call (.Name "Code" xp) (e :: rest) [] pos) (envOf name scope L f cd)) Q E h := w_kl P.B S sc hx P.gco P.kCod he hp q
theorem w_kRun {xp pos : Pos} {e : Expr} {rest : List Expr} {Q : Value → Heap → Prop} (P : Pk c) (S : St c ns L vs X R Z h) (sc : Sc scope ns gs) (hx : ("Run" : Str) ∈ gs)
    (he : starEach (e :: rest) (envOf name scope L f cd) = (false, eval e (envOf name scope L f cd)) :: starEach rest (envOf name scope L f cd)) (hp : (backTo pos (starEach rest (envOf name scope L f cd))).any (·.1) = false)
    (q : W c A (spliced (backTo pos (starEach (e :: rest) (envOf name scope L f cd)))) (fun us h => c.K.In h ∧ W c A (call (.ref c.cr) us) Q E h) E h) :
    W c A (eval (.Call (.Name "Run" xp) (e :: rest) [] pos) (envOf name scope L f cd)) Q E h := w_kl P.B S sc hx P.grn P.kRun he hp q
end
end
noncomputable section
theorem AllInt.of {vs : List Value} {ns : List Int} (x : IntsAre vs ns) : AllInt vs := by
  induction x with
  | nil => intro v hv; cases hv
  | cons _ _ _ ih =>
    intro v hv
    rcases List.mem_cons.mp hv with rfl | hv
    · exact ⟨_, _, rfl⟩
    · exact ih v hv
inductive Sel (a : Addr) (o : Obj) : Led → Led → Prop
  | head {X} : Sel a o ((a, o) :: X) X
  | tail {q X X'} : Sel a o X X' → Sel a o (q :: X) (q :: X')
theorem Sel.perm {a : Addr} {o : Obj} {X X' : Led} (s : Sel a o X X') : ((a, o) :: X').Perm X := by
  induction s with
  | head => exact .refl _
  | tail _ ih => exact (List.Perm.swap _ _ _).trans (.cons _ ih)
theorem St.sel {c : Cx} {h : Heap} {ns : List Str} {L : Addr} {vs : List (Option Value)} {X X' R Z : Led} (a : Addr) {o : Obj} (S : St c ns L vs X R Z h) (s : Sel a o X X') : St c ns L vs ((a, o) :: X') R Z h := S.perm (by
  show (((a, o) :: X') ++ (R ++ Z)).Perm (X ++ (R ++ Z))
  exact List.Perm.append_right _ s.perm)
theorem St.same {c : Cx} {h : Heap} {ns : List Str} {L : Addr} {vs : List (Option Value)} {X R Z : Led} (S : St c ns L vs X R Z h) : St c ns L vs X R Z h := S
theorem r_cut40 {c : Cx} {A : Around} {E : Value → Heap → Prop} {h : Heap} {ns : List Str} {L : Addr} {vs : List (Option Value)} {X R Z : Led} {value slice : Expr} {l sl : Addr} {us : List Value} {t : Tok} {Q : Value → Heap → Prop} (S : St c ns L vs X R Z h) (hsl : (sl, sliceO .none (.int 40 t) .none) ∈ all3 X R Z) (hl : h.IsList l us.toArray) (hz : us.length ≤ 1000)
    (hs : subscripted slice false (.ref l) (.ref sl) = operate [.ref sl, .ref l] (getItem (.ref l) (.ref sl))) (ht : ∀ r, letTemporaryGo value (.ref l) r = pure ())
    (q : ∀ D h', St c ns L vs ((D, listOf (us.take 40).toArray 0) :: X) R Z h' → Q (.ref D) h') : W c A (subscriptTail value slice (.ref l) (.ref sl)) Q E h := r_cut (k := 40) S hsl hl hz hs ht q
end
-- positions; facts by name
local macro_rules | `(tactic| ktf_call "pos") => `(tactic| repeat (first | with_reducible exact At.head | with_reducible apply At.tail | with_reducible exact Put.head | with_reducible apply Put.tail | with_reducible exact Has.head | with_reducible apply Has.tail | with_reducible exact Chg.head | with_reducible apply Chg.tail | with_reducible exact List.mem_cons_self | with_reducible apply List.mem_cons_of_mem))
local macro_rules | `(tactic| ktf_call "asm") => `(tactic| first | with_reducible assumption | assumption)
-- an object of the ledger, in X or in the soup
local macro_rules | `(tactic| ktf_call "has") => `(tactic| first | (apply Has.in3; ktf_call "pos"; done) | (apply in3R; assumption) | (apply Has.in3; repeat (first | assumption | with_reducible apply Has.tail)))
local macro_rules | `(tactic| ktf_call "ctl") => `(tactic| first
  | with_reducible refine w_cons ?_
  | with_reducible refine nk_next ?_
  | with_reducible refine nk_ret ?_
  | with_reducible refine nk_brk ?_
  | with_reducible refine w_nil ?_
  | with_reducible refine w_if ?_
  | with_reducible refine w_while1 ?_
  | with_reducible refine w_del ?_
  | with_reducible refine w_brk ?_
  | with_reducible refine w_pass ?_
  | with_reducible refine rk_ret ?_
  | with_reducible refine w_ret ?_
  | with_reducible refine w_ret0 ?_
  | ((with_reducible refine w_expr ?_ ?_ ?_); rotate_left 1; exact rfl; exact rfl)
  | ((with_reducible refine w_asg ?_ ?_); rotate_left 1; exact rfl)
  | ((with_reducible refine w_asgA ?_ ?_); rotate_left 1; exact rfl)
  | ((with_reducible refine w_asgS ?_ ?_); rotate_left 1; exact rfl)
  | with_reducible refine Br.t ?_
  | with_reducible refine Br.f ?_)
local macro_rules | `(tactic| ktf_call "tst") => `(tactic| first
  | ((with_reducible refine w_tcmp ?_ ?_); rotate_left 1; exact rfl)
  | with_reducible refine w_tor ?_
  | with_reducible refine w_tor0 ?_
  | with_reducible refine w_tand ?_
  | with_reducible refine w_tand0 ?_
  | with_reducible refine w_tnot ?_
  | with_reducible refine w_tb ?_
  | with_reducible refine w_tnone ?_
  | with_reducible refine w_ti ?_
  | ((with_reducible refine w_tplain ?_ ?_); rotate_left 1; exact rfl))
local macro_rules | `(tactic| ktf_call "exp") => `(tactic| first
  | ((with_reducible refine' w_ld ?S ?sc ?a ?_); (case S => ktf_call "asm"); (case sc => ktf_call "asm"); (case a => ktf_call "pos"))
  | ((with_reducible refine w_int ?_); intro _)
  | ((with_reducible refine w_str ?_); intro _)
  | with_reducible refine w_none ?_
  | with_reducible refine w_bool ?_
  | with_reducible refine w_attrN ?_
  | with_reducible refine w_attrA ?_
  | with_reducible refine w_attrS ?_
  | with_reducible refine w_attrM ?_
  | with_reducible refine w_sub ?_
  | ((with_reducible refine w_cmp ?_ ?_); rotate_left 1; exact rfl)
  | with_reducible refine w_bin ?_
  | with_reducible refine w_una ?_
  | with_reducible refine w_not ?_
  | with_reducible refine w_ifexp ?_
  | with_reducible refine w_and ?_
  | with_reducible refine w_or ?_
  | with_reducible refine w_b1 ?_
  | with_reducible refine w_sliceL ?_
  | with_reducible refine w_sliceU ?_
  | with_reducible refine w_tuple ?_
  | with_reducible refine w_list ?_
  | with_reducible refine w_args0 ?_
  | ((with_reducible refine w_args ?_ ?_); rotate_left 1; exact rfl))
local macro_rules | `(tactic| ktf_call "cmp") => `(tactic| first
  | with_reducible refine r_eqII ?_
  | with_reducible refine r_eqSS ?_
  | with_reducible refine r_isNN ?_
  | with_reducible refine r_isIN ?_
  | with_reducible refine r_isRN ?_
  | with_reducible refine r_isSN ?_
  | with_reducible refine r_inRN ?_
  | with_reducible refine r_inNN ?_
  | with_reducible refine r_inIN ?_
  | with_reducible refine r_eqNI ?_
  | with_reducible refine r_eqIN ?_
  | with_reducible refine r_eqIS ?_
  | with_reducible refine r_eqNS ?_
  | with_reducible refine r_neII ?_
  | with_reducible refine r_neNI ?_
  | with_reducible refine r_neSS ?_
  | with_reducible refine r_ltII ?_
  | with_reducible refine r_gtII ?_
  | with_reducible refine r_geII ?_
  | ((with_reducible refine r_add ?_); intro _)
  | ((with_reducible refine r_sub ?_); intro _)
  | ((with_reducible refine r_neg ?_); intro _))
-- attributes of what is known
local macro_rules | `(tactic| ktf_call "get") => `(tactic|
  ((with_reducible refine' w_get ?B ?S ?x ?d ?C ?a ?hh ?_); (case B => ktf_call "asm"); (case S => ktf_call "asm"); (case x => ktf_call "has"); (case d => ktf_call "has"); (case C => ktf_call "asm"); (case a => ktf_call "pos"); (case hh => first | rfl | ktf_call "asm")))
local macro_rules | `(tactic| ktf_call "st") => `(tactic|
  ((with_reducible refine' w_st ?S ?sc ?p ?_); (case S => ktf_call "asm"); (case sc => ktf_call "asm"); (case p => ktf_call "pos"); intro _ _))
-- texts that are written out
local macro_rules | `(tactic| ktf_call "lit") => `(tactic| first
  | (refine Br.ff (beq_false_of_ne (by assumption)) ?_)
  | (refine Br.ff (by with_reducible assumption) ?_)
  | (refine Br.tt (by with_reducible assumption) ?_)
  | (refine Br.ff (by decide +kernel) ?_)
  | (refine Br.tt (by decide +kernel) ?_)
  | (refine Br.ff (by rfl) ?_)
  | (refine Br.tt (by rfl) ?_))
local macro_rules | `(tactic| ktf_call "go") => `(tactic| repeat (first | ktf_call "exp" | ktf_call "cmp" | ktf_call "tst" | ktf_call "ctl" | ktf_call "get" | ktf_call "st"))
local macro_rules | `(tactic| ktf_call "gol") => `(tactic| repeat (first | ktf_call "exp" | ktf_call "cmp" | ktf_call "tst" | ktf_call "ctl" | ktf_call "get" | ktf_call "st" | ktf_call "lit"))
-- into a def
local macro_rules | `(tactic| ktn_call $sc:term $bnd:term) => `(tactic| ((refine' w_enter ?B ?S ?F ?A $sc rfl rfl $bnd ?_); (case B => ktf_call "asm"); (case S => ktf_call "asm"); (case F => ktf_call "asm"); (case A => ktf_call "asm"); intro L' h' cdv oL F' hA' S'; have sc' := $sc; simp only [List.map_cons, List.map_nil, List.cons_append, List.nil_append] at S' sc'; (refine' w_body ?e ?_); (case e => with_unfolding_all rfl)))
-- back to the caller
local macro_rules | `(tactic| ktf_call "lv") => `(tactic| ((refine' Frm.leave ?F ?S); (case S => ktf_call "asm"); (case F => ktf_call "asm")))
-- a call by name
local macro_rules | `(tactic| ktf_call "call") => `(tactic| ((with_reducible refine' w_fn ?B ?S ?sc ?x ?G ?h1 ?h2 ?_); (case B => ktf_call "asm"); (case S => ktf_call "asm"); (case sc => ktf_call "asm"); (case G => ktf_call "asm"); (case x => ktf_call "pos"); (case h1 => exact rfl); (case h2 => exact rfl); intro _ _))
local macro_rules | `(tactic| ktf_call "in") => `(tactic| ((with_reducible refine And.intro ?x ?_); (case x => (refine' St.kin ?B ?S; (case S => ktf_call "asm"); (case B => ktf_call "asm")))))
-- calls of built-ins and classes by name
local macro_rules | `(tactic| ktf_call "bn") => `(tactic| first
  | ((with_reducible refine' w_kEnv ?P ?S ?sc ?x ?h1 ?h2 ?_); (case P => ktf_call "asm"); (case S => ktf_call "asm"); (case sc => ktf_call "asm"); (case x => ktf_call "pos"); (case h1 => exact rfl); (case h2 => exact rfl))
  | ((with_reducible refine' w_kCod ?P ?S ?sc ?x ?h1 ?h2 ?_); (case P => ktf_call "asm"); (case S => ktf_call "asm"); (case sc => ktf_call "asm"); (case x => ktf_call "pos"); (case h1 => exact rfl); (case h2 => exact rfl))
  | ((with_reducible refine' w_kRun ?P ?S ?sc ?x ?h1 ?h2 ?_); (case P => ktf_call "asm"); (case S => ktf_call "asm"); (case sc => ktf_call "asm"); (case x => ktf_call "pos"); (case h1 => exact rfl); (case h2 => exact rfl))
  | ((with_reducible refine' w_sum ?P ?S ?sc ?x ?h1 ?h2 ?_); (case P => ktf_call "asm"); (case S => ktf_call "asm"); (case sc => ktf_call "asm"); (case x => ktf_call "pos"); (case h1 => exact rfl); (case h2 => exact rfl))
  | ((with_reducible refine' w_lst ?P ?S ?sc ?x ?h1 ?h2 ?_); (case P => ktf_call "asm"); (case S => ktf_call "asm"); (case sc => ktf_call "asm"); (case x => ktf_call "pos"); (case h1 => exact rfl); (case h2 => exact rfl))
  | ((with_reducible refine' w_len ?P ?S ?sc ?x ?h1 ?h2 ?_); (case P => ktf_call "asm"); (case S => ktf_call "asm"); (case sc => ktf_call "asm"); (case x => ktf_call "pos"); (case h1 => exact rfl); (case h2 => exact rfl))
  | ((with_reducible refine' w_isi ?P ?S ?sc ?x ?h1 ?h2 ?_); (case P => ktf_call "asm"); (case S => ktf_call "asm"); (case sc => ktf_call "asm"); (case x => ktf_call "pos"); (case h1 => exact rfl); (case h2 => exact rfl))
  | ((with_reducible refine' w_gVec ?P ?S ?sc ?x ?_); (case P => ktf_call "asm"); (case S => ktf_call "asm"); (case sc => ktf_call "asm"); (case x => ktf_call "pos"))
  | ((with_reducible refine' w_kVec ?P ?S ?sc ?x ?h1 ?h2 ?_); (case P => ktf_call "asm"); (case S => ktf_call "asm"); (case sc => ktf_call "asm"); (case x => ktf_call "pos"); (case h1 => exact rfl); (case h2 => exact rfl)))
-- values of the heap
local macro_rules | `(tactic| ktf_call "new") => `(tactic| first
  | ((with_reducible refine' w_dict0 ?S ?_); (case S => ktf_call "asm"); intro _ _ _)
  | with_reducible refine w_augA ?_
  | ((with_reducible refine r_iadd ?_); intro _)
  | ((with_reducible refine' r_newL ?S ?z ?_); (case z => exact Nat.le_of_ble_eq_true rfl); (case S => ktf_call "asm"); intro _ _ _)
  | ((with_reducible refine' r_newT ?S ?z ?_); (case z => exact Nat.le_of_ble_eq_true rfl); (case S => ktf_call "asm"); intro _ _ _))
-- a field that is new
local macro_rules | `(tactic| ktf_call "fnew") => `(tactic| ((with_reducible refine' w_new ?B ?S ?x ?d ?k ?p ?n ?l ?_); (case B => ktf_call "asm"); (case S => ktf_call "asm"); (case x => ktf_call "has"); (case d => repeat (first | with_reducible exact Hole.head | with_reducible apply Hole.tail)); (case k => ktf_call "asm"); (case p => repeat (first | with_reducible exact Sn.nil | with_reducible apply Sn.cons)); (case n => decide); (case l => decide); intro h1 tk1 n1 S1))
local macro_rules | `(tactic| ktf_call "gon") => `(tactic| repeat (first | ktf_call "exp" | ktf_call "ctl" | ktf_call "new" | ktf_call "fnew"))
-- calls of the values' own functions
local macro_rules | `(tactic| ktf_call "cal") => `(tactic| first
  | ((with_reducible refine' r_copy ?S ?m ?z ?_); (case S => ktf_call "asm"); (case m => ktf_call "has"); (case z => first | exact Nat.le_of_ble_eq_true rfl | ktf_call "asm"); intro _ _ _ _)
  | ((with_reducible refine' r_lenL ?S ?m ?z ?_); (case S => ktf_call "asm"); (case m => ktf_call "has"); (case z => first | exact Nat.le_of_ble_eq_true rfl | ktf_call "asm"); intro _)
  | ((with_reducible refine' r_lenS ?z ?_); (case z => first | exact Nat.le_of_ble_eq_true rfl | ktf_call "asm"); intro _)
  | ((with_reducible refine' r_isi ?B ?S ?x ?i ?_); (case B => ktf_call "asm"); (case S => ktf_call "asm"); (case x => ktf_call "has"); (case i => ktf_call "asm"))
  | ((with_reducible refine' r_truL ?S ?m ?z ?_); (case S => ktf_call "asm"); (case m => ktf_call "has"); (case z => first | exact Nat.le_of_ble_eq_true rfl | ktf_call "asm")))
-- an item of a list or a tuple, at a place written out
local macro_rules | `(tactic| ktf_call "itm") => `(tactic| first
  | ((with_reducible refine' r_ab0 ?s ?_); (case s => exact rfl); intro _)
  | ((with_reducible refine' r_ab1 ?s ?_); (case s => exact rfl); intro _)
  | ((with_reducible refine' r_lst ?S ?m ?l ?i ?x ?s ?_); (case S => ktf_call "asm"); (case m => ktf_call "has"); (case l => first | decide | ktf_call "asm"); (case i => first | decide | ktf_call "asm"); (case x => first | ktf_call "asm" | exact rfl); (case s => exact rfl))
  | ((with_reducible refine' r_last2 ?S ?m ?s ?_); (case S => ktf_call "asm"); (case m => ktf_call "has"); (case s => exact rfl))
  | ((with_reducible refine' r_last ?S ?m ?s ?_); (case S => ktf_call "asm"); (case m => ktf_call "has"); (case s => exact rfl))
  | ((with_reducible refine' r_pick ?S ?m ?l ?i ?z ?x ?s ?_); (case S => ktf_call "asm"); (case m => ktf_call "has"); (case l => ktf_call "asm"); (case i => ktf_call "asm"); (case z => ktf_call "asm"); (case x => ktf_call "asm"); (case s => exact rfl))
  | ((with_reducible refine' r_tup0 ?S ?m ?s ?_); (case S => ktf_call "asm"); (case m => ktf_call "has"); (case s => exact rfl))
  | ((with_reducible refine' r_tup ?S ?m ?l ?i ?j ?x ?s ?_); (case S => ktf_call "asm"); (case m => ktf_call "has"); (case l => decide); (case i => decide); (case j => exact rfl); (case x => exact rfl); (case s => exact rfl)))
-- what a value reads as
local macro_rules | `(tactic| ktf_call "rds") => `(tactic| repeat (first | with_reducible exact Reads.str _ _ | with_reducible exact Reads.int _ _ | with_reducible exact Reads.none | with_reducible exact ReadsAll.nil | with_reducible apply ReadsAll.cons | with_reducible assumption | ((with_reducible refine' rd_tup ?S ?m ?r); (case S => ktf_call "asm"); (case m => ktf_call "has"); (case r => ktf_call "rds")) | ((with_reducible refine' rd_list ?S ?m ?r); (case S => ktf_call "asm"); (case m => ktf_call "has"); (case r => ktf_call "rds"))))
local macro_rules | `(tactic| ktf_call "inn") => `(tactic| first
  | ((with_reducible refine' r_ninT ?A ?r ?x ?h1 ?h2 ?h3 ?_); (case A => ktf_call "asm"); (case r => ktf_call "rds"); (case x => ktf_call "rds"); (case h1 => kernel_rfl); (case h2 => kernel_rfl); (case h3 => decide))
  | ((with_reducible refine' r_inT ?A ?r ?x ?h1 ?h2 ?h3 ?_); (case A => ktf_call "asm"); (case r => ktf_call "rds"); (case x => ktf_call "rds"); (case h1 => kernel_rfl); (case h2 => kernel_rfl); (case h3 => decide))
  | ((with_reducible refine' r_ninL ?A ?r ?x ?h1 ?h2 ?h3 ?_); (case A => ktf_call "asm"); (case r => ktf_call "rds"); (case x => ktf_call "rds"); (case h1 => kernel_rfl); (case h2 => kernel_rfl); (case h3 => decide))
  | ((with_reducible refine' r_inL ?A ?r ?x ?h1 ?h2 ?h3 ?_); (case A => ktf_call "asm"); (case r => ktf_call "rds"); (case x => ktf_call "rds"); (case h1 => kernel_rfl); (case h2 => kernel_rfl); (case h3 => decide)))
-- methods
local macro_rules | `(tactic| ktf_call "met") => `(tactic| first
  | ((with_reducible refine' r_gmIdx ?S ?m ?_); (case S => ktf_call "asm"); (case m => ktf_call "has"))
  | ((with_reducible refine' w_meth ?he ?_); (case he => exact rfl))
  | ((with_reducible refine' r_gmL ?S ?m PySem.F.slot_list_append PySem.F.type_list_append ?_); (case S => ktf_call "asm"); (case m => ktf_call "has"))
  | ((with_reducible refine' r_gmL ?S ?m PySem.F.slot_list_pop PySem.F.type_list_pop ?_); (case S => ktf_call "asm"); (case m => ktf_call "has"))
  | ((with_reducible refine' r_gmD ?S ?m ?d PySem.F.slot_dict_get PySem.F.type_dict_get ?_); (case S => ktf_call "asm"); (case m => ktf_call "has"); (case d => ktf_call "asm"))
  | ((with_reducible refine' w_gm ?B ?S ?x ?d ?M ?n ?_); (case B => ktf_call "asm"); (case S => ktf_call "asm"); (case x => ktf_call "has"); (case d => ktf_call "has"); (case M => ktf_call "asm"); (case n => decide); intro g1 F1; have K1 := F1.keep.1)
  | ((with_reducible refine' cwmA ?h1 ?h2 ?_); (case h1 => exact rfl); (case h2 => exact rfl))
  | with_reducible refine cwmB ?_
  | ((with_reducible refine' cwfA ?B ?k ?h1 ?h2 ?_); (case B => ktf_call "asm"); (case k => ktf_call "asm"); (case h1 => exact rfl); (case h2 => exact rfl))
  | ((with_reducible refine' cwith0 ?X ?k ?_); (case k => ktf_call "asm"); (case X => (refine' St.kin ?B ?S; (case S => ktf_call "asm"); (case B => ktf_call "asm"))))
  | ((with_reducible refine' r_append ?S ?c ?z ?_); (case S => ktf_call "asm"); (case c => ktf_call "pos"); (case z => first | exact Nat.le_of_ble_eq_true rfl | ktf_call "asm"); intro _ _)
  | ((with_reducible refine' r_pop ?S ?c ?z ?_); (case S => ktf_call "asm"); (case c => ktf_call "pos"); (case z => first | exact Nat.le_of_ble_eq_true rfl | ktf_call "asm"); intro _ _)
  | ((with_reducible refine' r_getD0 ?M ?S ?m ?d ?_); (case M => ktf_call "asm"); (case S => ktf_call "asm"); (case m => ktf_call "has"); (case d => ktf_call "asm"))
  | ((with_reducible refine' r_getD1 ?M ?S ?m ?d ?l ?_); (case M => ktf_call "asm"); (case S => ktf_call "asm"); (case m => ktf_call "has"); (case d => ktf_call "asm"); (case l => ktf_call "asm"))
  | ((with_reducible refine' r_setD ?S ?c ?d ?z ?_); (case S => ktf_call "asm"); (case c => first | ((repeat (first | with_reducible exact Hole.head | with_reducible apply Hole.tail)); done) | ktf_call "asm"); (case d => ktf_call "asm"); (case z => ktf_call "asm"); intro h1 o1 D1 S1)
  | ((with_reducible refine' w_set ?B ?S ?x ?d ?C ?p ?_); (case B => ktf_call "asm"); (case S => ktf_call "asm"); (case x => ktf_call "has"); (case d => ktf_call "pos"); (case C => ktf_call "asm"); (case p => ktf_call "pos"); intro _ _))
-- numbers
local macro_rules | `(tactic| ktf_call "num") => `(tactic| first
  | ((with_reducible refine' r_itemD ?S ?m ?d ?l ?s ?_); (case S => ktf_call "asm"); (case m => ktf_call "has"); (case d => ktf_call "asm"); (case l => ktf_call "asm"); (case s => exact rfl))
  | ((with_reducible refine' r_index ?A ?S ?m ?j ?h1 ?h2 ?h3 ?_); (case A => ktf_call "asm"); (case S => ktf_call "asm"); (case m => ktf_call "has"); (case j => first | exact .inl ⟨rfl, rfl⟩ | exact .inr ⟨rfl, by decide +kernel, rfl⟩); (case h1 => kernel_rfl); (case h2 => kernel_rfl); (case h3 => kernel_rfl); intro _)
  | ((with_reducible refine' r_modI ?b ?_); (case b => first | decide | ktf_call "asm" | omega); intro _)
  | ((with_reducible refine' r_divI ?b ?s ?_); (case b => first | decide | ktf_call "asm" | omega); (case s => first | decide | ktf_call "asm" | omega); intro _)
  | ((with_reducible refine' r_mulI ?b ?_); (case b => decide +kernel); intro _)
  | ((with_reducible refine' r_set1 ?S ?c ?_); (case S => ktf_call "asm"); (case c => ktf_call "pos"); intro _ _)
  | ((with_reducible refine' r_set2 ?S ?c ?_); (case S => ktf_call "asm"); (case c => ktf_call "pos"); intro _ _)
  | ((with_reducible refine' r_neNil ?A ?S ?m ?m2 ?i ?_); (case A => ktf_call "asm"); (case S => ktf_call "asm"); (case m => ktf_call "has"); (case m2 => ktf_call "has"); (case i => ktf_call "asm"))
  | ((with_reducible refine' r_pop0 ?S ?c ?z ?_); (case S => ktf_call "asm"); (case c => ktf_call "pos"); (case z => ktf_call "asm"); intro _ _))
local macro_rules | `(tactic| ktf_call "run") => `(tactic| repeat (first | ktf_call "exp" | ktf_call "cmp" | ktf_call "tst" | ktf_call "ctl" | ktf_call "get" | ktf_call "st" | ktf_call "lit" | ktf_call "bn" | ktf_call "call" | ktf_call "new" | ktf_call "in" | ktf_call "cal" | ktf_call "itm" | ktf_call "inn" | ktf_call "num" | ktf_call "met"))
local macro_rules | `(tactic| ktf_call "lv1") => `(tactic| (apply St.drop; ktf_call "lv"))
local macro_rules | `(tactic| ktf_call "lv2") => `(tactic| (apply St.drop; apply St.drop; ktf_call "lv"))
local macro_rules | `(tactic| ktf_call "lv3") => `(tactic| (apply St.drop; apply St.drop; apply St.drop; ktf_call "lv"))
local macro_rules | `(tactic| ktf_call "rm") => `(tactic| first | (exact Rm.less (k := 0) (by assumption)) | (exact Rm.less (by assumption)))
-- a comprehension of _law_plain
local macro_rules | `(tactic| ktf_call "gog") => `(tactic| repeat (first | ktf_call "exp" | ktf_call "ctl" | ktf_call "new" | ktf_call "get" | ktf_call "fnew"))
local macro_rules | `(tactic| ktf_call "goe") => `(tactic| repeat (first | ktf_call "exp" | ktf_call "ctl" | ktf_call "st" | ktf_call "bn" | ktf_call "new" | ktf_call "get" | ktf_call "in" | ktf_call "met" | ktf_call "fnew"))
local macro_rules | `(tactic| ktf_call "sel") => `(tactic| repeat (first | with_reducible exact Sel.head | with_reducible apply Sel.tail))
local macro_rules | `(tactic| ktf_call "rnn") => `(tactic| repeat (first | ktf_call "exp" | ktf_call "cmp" | ktf_call "tst" | ktf_call "ctl" | ktf_call "get" | ktf_call "st" | ktf_call "lit" | ktf_call "bn" | ktf_call "call" | ktf_call "in" | ktf_call "itm" | ktf_call "num" | ktf_call "met"))

noncomputable section
section
variable {c : Cx} {A : Around} {E : Value → Heap → Prop} {h : Heap} {ns : List Str} {L f : Addr} {vs : List (Option Value)} {X R Z : Led} {Q : Value → Heap → Prop}

theorem c_and {x y : Option Int} {u v : Value} (B : Base c) (S : St c ns L vs X R Z h) (hF : FnAt c f "and_items" (stm 11) []) (hA : Rm 1 A) (hx : It u x) (hy : It v y)
    (k : ∀ w h', It w (andO x y) → St c ns L vs X R Z h' → Q w h') : W c A (call (.ref f) [u, v]) Q E h := by
  ktn_call sc_and_items (bnd_and_items _ _)
  rcases x with _ | i
  · cases hx
    rcases y with _ | j
    · cases hy
      ktf_call "gol"
      exact k _ _ rfl (by ktf_call "lv")
    · obtain ⟨t, rfl⟩ := hy
      by_cases e : j = 0
      · subst e
        ktf_call "gol"
        exact k _ _ ⟨_, rfl⟩ (by ktf_call "lv")
      · ktf_call "gol"
        exact k _ _ (by simp [andO, It, e, retV]) (by ktf_call "lv")
  · obtain ⟨t, rfl⟩ := hx
    by_cases e : i = 0
    · subst e
      ktf_call "gol"
      exact k _ _ (by simp [andO, It, retV]) (by ktf_call "lv")
    · rcases y with _ | j
      · cases hy
        ktf_call "gol"
        exact k _ _ (by simp [andO, It, e, retV]) (by ktf_call "lv")
      · obtain ⟨t, rfl⟩ := hy
        by_cases e' : j = 0
        · subst e'
          ktf_call "gol"
          exact k _ _ (by simp [andO, It, retV]) (by ktf_call "lv")
        · ktf_call "gol"
          exact k _ _ (by simp [andO, It, e, e', retV]) (by ktf_call "lv")
theorem c_or {x y : Option Int} {u v : Value} (B : Base c) (S : St c ns L vs X R Z h) (hF : FnAt c f "or_items" (stm 12) []) (hA : Rm 1 A) (hx : It u x) (hy : It v y)
    (k : ∀ w h', It w (orO x y) → St c ns L vs X R Z h' → Q w h') : W c A (call (.ref f) [u, v]) Q E h := by
  ktn_call sc_or_items (bnd_or_items _ _)
  rcases x with _ | i
  · cases hx
    rcases y with _ | j
    · cases hy
      ktf_call "gol"
      exact k _ _ rfl (by ktf_call "lv")
    · obtain ⟨t, rfl⟩ := hy
      by_cases e : j = 1
      · subst e
        ktf_call "gol"
        exact k _ _ ⟨_, rfl⟩ (by ktf_call "lv")
      · ktf_call "gol"
        exact k _ _ (by simp [orO, It, e, retV]) (by ktf_call "lv")
  · obtain ⟨t, rfl⟩ := hx
    by_cases e : i = 1
    · subst e
      ktf_call "gol"
      exact k _ _ (by simp [orO, It, retV]) (by ktf_call "lv")
    · rcases y with _ | j
      · cases hy
        ktf_call "gol"
        exact k _ _ (by simp [orO, It, e, retV]) (by ktf_call "lv")
      · obtain ⟨t, rfl⟩ := hy
        by_cases e' : j = 1
        · subst e'
          ktf_call "gol"
          exact k _ _ (by simp [orO, It, retV]) (by ktf_call "lv")
        · ktf_call "gol"
          exact k _ _ (by simp [orO, It, e, e', retV]) (by ktf_call "lv")
theorem c_truth_item {x : Option Int} {kd : Str} {tk : Tok} {v : Value} (B : Base c) (S : St c ns L vs X R Z h) (hF : FnAt c f "truth_item" (stm 13) []) (hA : Rm 1 A) (hk : kd = "logical" ∨ kd = "integer") (hx : It v x)
    (k : ∀ w h', It w (truO x) → St c ns L vs X R Z h' → Q w h') : W c A (call (.ref f) [.str kd tk, v]) Q E h := by
  ktn_call sc_truth_item (bnd_truth_item _ _)
  have hd : kd ≠ "double" := by rcases hk with rfl | rfl <;> decide +kernel
  rcases x with _ | i
  · cases hx
    ktf_call "gol"
    exact k _ _ rfl (by ktf_call "lv")
  · obtain ⟨t, rfl⟩ := hx
    by_cases e : i = 0
    · subst e
      ktf_call "gol"
      exact k _ _ (by simp [truO, It, retV]) (by ktf_call "lv")
    · ktf_call "gol"
      have e' : (i != 0) = true := by simpa using e
      rw [e']
      ktf_call "gol"
      exact k _ _ (by simp [truO, It, e, retV]) (by ktf_call "lv")
end
end
noncomputable section
section
variable {c : Cx} {A : Around} {E : Value → Heap → Prop} {h : Heap} {ns : List Str} {L f : Addr} {vs : List (Option Value)} {X R Z : Led} {Q : Value → Heap → Prop}

/-- Vector(kind, items) -/
theorem c_vec {n : Nat} {u v : Value} (P : Pk c) (S : St c ns L vs X R Z h) (hA : Rm (n + 2) A)
    (k : ∀ x dx tk n1 h', St c ns L vs ((x, instObj c.cv dx) :: (dx, fld c tk vf [u, v, .none, .bool false, .bool false] n1) :: X) R Z h' → Q (.ref x) h') : W c A (call (.ref c.cv) [u, v]) Q E h := by
  have B := P.B
  refine w_cls (os := []) B S P.mkVec hA sc_Vector_init rfl rfl (fun _ => bnd_Vector_init3 _ _ _ _) fun x dx L' h' cdv oL f A' F' hA' S' => ?_
  have sc' := sc_Vector_init
  simp only [List.map_cons, List.map_nil, List.cons_append, List.nil_append] at S' sc'
  refine w_body (by with_unfolding_all rfl) ?_
  have k1 := P.vecF.fld "kind" (by decide)
  have k2 := P.vecF.fld "items" (by decide)
  have k3 := P.vecF.fld "attrs" (by decide)
  have k4 := P.vecF.fld "shared" (by decide)
  have k5 := P.vecF.fld "loose" (by decide)
  ktf_call "gon"
  exact ⟨rfl, k _ _ _ _ _ (by ktf_call "lv")⟩

theorem VecIn.made {x dx il : Addr} {tk : Nat → Tok} {n1 n2 : Nat} {t1 : Tok} {iv : Value} {a : Va} (S : St c ns L vs ((x, instObj c.cv dx) :: (dx, fld c tk vf [.str a.kd t1, .ref il, .none, .bool false, .bool false] n1) :: (il, listOf [iv].toArray n2) :: X) R Z h) (hi : It iv a.it) (ok : a.ok) :
    ∃ R', Le c R R' ∧ VecIn c R' (.ref x) a ∧ St c ns L vs X R' Z h :=
  ⟨_, ((Le.cons _).trans (Le.cons _)).trans (Le.cons _), ⟨x, dx, il, tk, n1, n2, t1, false, false, iv, rfl, .tail _ (.tail _ (.head _)), .tail _ (.head _), .head _, hi, ok⟩, S.melt.melt.melt⟩

theorem c_flag {o : Option Int} {u : Value} (P : Pk c) (S : St c ns L vs X R Z h) (hF : FnAt c f "flag" (stm 26) []) (hA : Rm 3 A) (hx : It u o)
    (k : ∀ v R' h', Le c R R' → VecIn c R' v ⟨"logical", truO o⟩ → St c ns L vs X R' Z h' → Q v h') : W c A (call (.ref f) [u]) Q E h := by
  have B := P.B
  ktn_call sc_flag (bnd_flag _)
  rcases o with _ | i
  · cases hx
    ktf_call "run"
    refine c_vec (n := 0) P (by ktf_call "asm") (by ktf_call "asm") fun x dx tk n1 h' S' => ?_
    ktf_call "ctl"
    obtain ⟨R', l, v, S'⟩ := VecIn.made (a := ⟨"logical", none⟩) S' rfl (.inl rfl)
    exact k _ _ _ l v (by ktf_call "lv")
  · obtain ⟨t, rfl⟩ := hx
    by_cases e : i = 0
    · subst e
      ktf_call "run"
      refine c_vec (n := 0) P (by ktf_call "asm") (by ktf_call "asm") fun x dx tk n1 h' S' => ?_
      ktf_call "ctl"
      obtain ⟨R', l, v, S'⟩ := VecIn.made (a := ⟨"logical", some 0⟩) S' ⟨_, rfl⟩ (.inl rfl)
      exact k _ _ _ l v (by ktf_call "lv")
    · have e' : (i != 0) = true := by simpa using e
      ktf_call "run"
      refine c_vec (n := 0) P (by ktf_call "asm") (by ktf_call "asm") fun x dx tk n1 h' S' => ?_
      ktf_call "ctl"
      obtain ⟨R', l, v, S'⟩ := VecIn.made (a := ⟨"logical", some 1⟩) S' ⟨_, rfl⟩ (.inl rfl)
      exact k _ _ _ l (by simpa [truO, e, retV] using v) (by ktf_call "lv")

theorem c_scalar_truth {a : Va} {v u1 u2 : Value} (P : Pk c) (S : St c ns L vs X R Z h) (hF : FnAt c f "scalar_truth" (stm 15) []) (hA : Rm 2 A) (hv : VecIn c R v a)
    (k : ∀ w h', It w (truO a.it) → St c ns L vs X R Z h' → Q w h') : W c A (call (.ref f) [v, u1, u2]) Q E h := by
  have B := P.B
  have C1 := P.vecF
  have G1 := P.truth_item
  obtain ⟨kd, it⟩ := a
  obtain ⟨x, dx, il, tk, n1, n2, t1, sh, lo, iv, rfl, h1, h2, h3, h5, h4⟩ := hv
  dsimp only at h2 h5 k
  replace h4 : kd = "logical" ∨ kd = "integer" := h4
  ktn_call sc_scalar_truth (bnd_scalar_truth _ _ _)
  rcases h4 with rfl | rfl
  · ktf_call "run"
    refine c_truth_item B (by ktf_call "asm") (by ktf_call "asm") (by ktf_call "asm") (.inl rfl) h5 fun w h' hw S' => ?_
    ktf_call "run"
    exact k _ _ hw (by ktf_call "lv1")
  · ktf_call "run"
    refine c_truth_item B (by ktf_call "asm") (by ktf_call "asm") (by ktf_call "asm") (.inr rfl) h5 fun w h' hw S' => ?_
    ktf_call "run"
    exact k _ _ hw (by ktf_call "lv1")

theorem c_length {a : Va} {v : Value} (P : Pk c) (S : St c ns L vs X R Z h) (hF : FnAt c f "length" (stm 28) []) (hA : Rm 1 A) (hv : VecIn c R v a)
    (k : ∀ t h', St c ns L vs X R Z h' → Q (.int 1 t) h') : W c A (call (.ref f) [v]) Q E h := by
  have B := P.B
  have C1 := P.vecF
  have C2 := P.vecIs
  obtain ⟨kd, it⟩ := a
  obtain ⟨x, dx, il, tk, n1, n2, t1, sh, lo, iv, rfl, h1, h2, h3, h5, h4⟩ := hv
  dsimp only at h2
  replace h4 : kd = "logical" ∨ kd = "integer" := h4
  have e1 : kd ≠ "NULL" := by rcases h4 with rfl | rfl <;> decide
  ktn_call sc_length (bnd_length _)
  ktf_call "run"
  exact k _ _ (by ktf_call "lv")

theorem c_is_atomic {a : Va} {v : Value} (P : Pk c) (S : St c ns L vs X R Z h) (hF : FnAt c f "is_atomic" (stm 29) []) (hA : Rm 1 A) (hv : VecIn c R v a)
    (k : ∀ h', St c ns L vs X R Z h' → Q (.bool true) h') : W c A (call (.ref f) [v]) Q E h := by
  have B := P.B
  have C1 := P.vecF
  obtain ⟨kd, it⟩ := a
  obtain ⟨x, dx, il, tk, n1, n2, t1, sh, lo, iv, rfl, h1, h2, h3, h5, h4⟩ := hv
  dsimp only at h2
  replace h4 : kd = "logical" ∨ kd = "integer" := h4
  ktn_call sc_is_atomic (bnd_is_atomic _)
  rcases h4 with rfl | rfl
  · ktf_call "run"
    have e : ∀ b : Bool, b = true → Q (.bool b) = Q (.bool true) := fun b e => by rw [e]
    rw [show retV (Flow.ret (Value.bool _)) = .bool true from congrArg Value.bool (by decide +kernel)]
    exact k _ (by ktf_call "lv1")
  · ktf_call "run"
    rw [show retV (Flow.ret (Value.bool _)) = .bool true from congrArg Value.bool (by decide +kernel)]
    exact k _ (by ktf_call "lv1")

theorem c_to_logical {a : Va} {v : Value} {t : Tok} (B : Base c) (S : St c ns L vs X R Z h) (hF : FnAt c f "to_logical" (stm 34) []) (hA : Rm 1 A) (hk : a.kd = "logical" ∨ a.kd = "integer") (hv : It v a.it)
    (k : ∀ w h', It w (truO a.it) → St c ns L vs X R Z h' → Q w h') : W c A (call (.ref f) [.str a.kd t, v]) Q E h := by
  ktn_call sc_to_logical (bnd_to_logical _ _)
  have e1 : a.kd ≠ "character" := by rcases hk with e | e <;> rw [e] <;> decide
  have e2 : a.kd ≠ "double" := by rcases hk with e | e <;> rw [e] <;> decide
  obtain ⟨kd, it⟩ := a
  dsimp only at *
  rcases it with _ | i
  · cases hv
    ktf_call "run"
    exact k _ _ rfl (by ktf_call "lv")
  · obtain ⟨t, rfl⟩ := hv
    by_cases e : i = 0
    · subst e
      ktf_call "run"
      exact k _ _ (by simp [truO, It, retV]) (by ktf_call "lv")
    · have e' : (i == 0) = false := by simpa using e
      ktf_call "run"
      exact k _ _ (by simp [truO, It, e, retV]) (by ktf_call "lv")

theorem c_share {a : Va} {v : Value} (P : Pk c) (S : St c ns L vs X R Z h) (hF : FnAt c f "share" (stm 31) []) (hA : Rm 1 A) (hv : VecIn c R v a)
    (k : ∀ R' h', Le c R R' → St c ns L vs X R' Z h' → Q v h') : W c A (call (.ref f) [v]) Q E h := by
  have B := P.B
  have C1 := P.vecF
  have C2 := P.vecIs
  obtain ⟨kd, it⟩ := a
  obtain ⟨x, dx, il, tk, n1, n2, t1, sh, lo, iv, rfl, h1, h2, h3, h5, h4⟩ := hv
  ktn_call sc_share (bnd_share _)
  ktf_call "run"
  refine w_shr P (by ktf_call "asm") h1 h2 fun h' R' l S' => ?_
  ktf_call "run"
  exact k _ _ l (by ktf_call "lv")
end
end
noncomputable section
section
variable {c : Cx} {A : Around} {E : Value → Heap → Prop} {h : Heap} {ns : List Str} {L f : Addr} {vs : List (Option Value)} {X R Z : Led} {Q : Value → Heap → Prop}

theorem c_condition {kd : Str} {i : Int} {v : Value} (P : Pk c) (S : St c ns L vs X R Z h) (hF : FnAt c f "condition" (stm 35) []) (hA : Rm 2 A) (hv : VecIn c R v ⟨kd, some i⟩)
    (k : ∀ h', St c ns L vs X R Z h' → Q (.bool (i != 0)) h') : W c A (call (.ref f) [v]) Q E h := by
  have B := P.B
  have C1 := P.vecF
  have hv' := hv
  have G1 := P.length
  have G2 := P.is_atomic
  have G3 := P.to_logical
  obtain ⟨x, dx, il, tk, n1, n2, t1, sh, lo, iv, rfl, h1, h2, h3, h5, h4⟩ := hv
  dsimp only at h2
  replace h4 : kd = "logical" ∨ kd = "integer" := h4
  ktn_call sc_condition (bnd_condition _)
  ktf_call "run"
  refine c_length P (by ktf_call "asm") (by ktf_call "asm") (by ktf_call "asm") hv' fun t h' S' => ?_
  ktf_call "run"
  refine c_is_atomic P (by ktf_call "asm") (by ktf_call "asm") (by ktf_call "asm") hv' fun h' S' => ?_
  ktf_call "run"
  refine c_to_logical (a := ⟨kd, some i⟩) B (by ktf_call "asm") (by ktf_call "asm") (by ktf_call "asm") h4 h5 fun w h' hw S' => ?_
  obtain ⟨t, rfl⟩ := hw
  by_cases e : i = 0
  · subst e
    ktf_call "run"
    exact k _ (by ktf_call "lv")
  · rw [if_neg e]
    ktf_call "run"
    have e' : (i != 0) = true := by simpa using e
    rw [e'] at k
    exact k _ (by ktf_call "lv")

theorem c_dots {x : Str} {t : Tok} (P : Pk c) (S : St c ns L vs X R Z h) (hF : FnAt c f "is_dots_place" (stm 72) []) (hA : Rm 1 A) (hx : x = "a" ∨ x = "b")
    (k : ∀ h', St c ns L vs X R Z h' → Q (.bool false) h') : W c A (call (.ref f) [.str x t]) Q E h := by
  have B := P.B
  ktn_call sc_is_dots_place (bnd_is_dots_place _)
  rcases hx with rfl | rfl
  · ktf_call "run"
    exact k _ (by ktf_call "lv")
  · ktf_call "run"
    exact k _ (by ktf_call "lv")
end
section
variable {c : Cx} {A : Around} {E : Value → Heap → Prop} {h : Heap} {ns : List Str} {L f : Addr} {vs : List (Option Value)} {X R Z : Led} {Q : Value → Heap → Prop}
variable {G dG fr lk I dI : Addr} {tg ti : Nat → Tok} {ng ni : Nat} {e1 e2 e3 e4 : Value} {us : List Value} {frO lkO : Obj} {kvs : List (Str × Value)}

theorem c_lookup {x : Str} {t : Tok} {v : Addr} (P : Pk c) (S : St c ns L vs X R Z h) (hF : FnAt c f "lookup" (stm 59) []) (hA : Rm 1 A)
    (hG : Has G (instObj c.ce dG) X) (hdG : Has dG (fld c tg ef [e1, e2, e3, e4, .ref fr, .bool false, .ref lk] ng) X) (hfr : Has fr frO X) (hD : frO.IsDictOf (strKind c.prog c.w) kvs) (hv : valueAt kvs x = some (.ref v))
    (k : ∀ h', St c ns L vs X R Z h' → Q (.ref v) h') : W c A (call (.ref f) [.ref G, .str x t]) Q E h := by
  have B := P.B
  have C1 := P.envF
  have M := P.mods
  ktn_call sc_lookup (bnd_lookup _ _)
  ktf_call "run"
  exact k _ (by ktf_call "lv")

theorem c_define {x : Str} {t : Tok} {v : Value} {g : Obj → Led} (P : Pk c) (S : St c ns L vs X R Z h) (hF : FnAt c f "define" (stm 62) []) (hA : Rm 1 A)
    (hG : Has G (instObj c.ce dG) X) (hdG : Has dG (fld c tg ef [e1, e2, e3, e4, .ref fr, .bool false, .ref lk] ng) X) (hfr : Hole fr frO X g) (hD : frO.IsDictOf (strKind c.prog c.w) kvs) (hz : kvs.length ≤ 1000)
    (hl : Has lk lkO X) (hDl : lkO.IsDictOf (strKind c.prog c.w) [])
    (k : ∀ h' o', o'.IsDictOf (strKind c.prog c.w) (stored kvs x v) → St c ns L vs (g o') R Z h' → Q .none h') : W c A (call (.ref f) [.ref G, .str x t, v]) Q E h := by
  have B := P.B
  have C1 := P.envF
  have M := P.mods
  ktn_call sc_define (bnd_define _ _ _)
  ktf_call "run"
  exact k _ _ (by ktf_call "asm") (by ktf_call "lv")

theorem c_variable {x : Str} {t : Tok} {a : Va} {v : Value} (P : Pk c) (S : St c ns L vs X R Z h) (hF : FnAt c f "Evaluator.variable" (mth 109 8) []) (hA : Rm 2 A) (hx : x = "a" ∨ x = "b")
    (hG : Has G (instObj c.ce dG) X) (hdG : Has dG (fld c tg ef [e1, e2, e3, e4, .ref fr, .bool false, .ref lk] ng) X) (hfr : Has fr frO X) (hD : frO.IsDictOf (strKind c.prog c.w) kvs) (hv : valueAt kvs x = some v) (hV : VecIn c R v a)
    (k : ∀ R' h', Le c R R' → St c ns L vs X R' Z h' → Q v h') : W c A (call (.ref f) [.ref I, .str x t, .ref G]) Q E h := by
  have B := P.B
  have C1 := P.envF
  have C2 := P.vecF
  have G1 := P.is_dots_place
  have G2 := P.lookup
  have G3 := P.share
  have hV' := hV
  obtain ⟨kd, it⟩ := a
  obtain ⟨y, dx, il, tk, n1, n2, t1, sh, lo, iv, rfl, h1, h2, h3, h5, h4⟩ := hV
  dsimp only at h2
  replace h4 : kd = "logical" ∨ kd = "integer" := h4
  have e1 : kd ≠ "promise" := by rcases h4 with rfl | rfl <;> decide
  have e2 : kd ≠ "missing" := by rcases h4 with rfl | rfl <;> decide
  have e3 : kd ≠ "dots" := by rcases h4 with rfl | rfl <;> decide
  ktn_call sc_Evaluator_variable (bnd_Evaluator_variable _ _ _)
  ktf_call "run"
  refine c_dots P (by ktf_call "asm") (by ktf_call "asm") (by ktf_call "asm") hx fun h' S' => ?_
  ktf_call "run"
  refine c_lookup P (by ktf_call "asm") (by ktf_call "asm") (by ktf_call "asm") hG hdG hfr hD hv fun h' S' => ?_
  ktf_call "run"
  refine c_share P (by ktf_call "asm") (by ktf_call "asm") (by ktf_call "asm") hV' fun R' h' l S' => ?_
  ktf_call "run"
  exact k _ _ l (by ktf_call "lv")
end
end
noncomputable section
section
variable {c : Cx} {A : Around} {E : Value → Heap → Prop} {h : Heap} {ns : List Str} {L f : Addr} {vs : List (Option Value)} {Y R Z : Led} {Q : Value → Heap → Prop}
variable {m : Mc} {vis pl : Value} {sk : List Value} {nsk nrw : Nat} {frO : Obj} {kvs : List (Str × Value)} {rw : Addr} {t1 t2 t3 : Tok}

theorem c_push_const {i : Int} {v : Value} (P : Pk c) (S : St c ns L vs (MX c m vis pl sk nsk frO Y) R Z h) (hF : FnAt c f "perform_push" (stm 100) []) (hA : Rm 3 A)
    (hr : (rw, tupOf [.str "const" t1, .int i t2] nrw) ∈ R) (h0 : 0 ≤ i) (hi : i < 2 ^ 63) (hv : m.consts[i.toNat]? = some v) (hz : sk.length ≤ 1000)
    (k : ∀ vis' nsk' h', St c ns L vs (MX c m vis' pl (sk ++ [v]) nsk' frO Y) R Z h' → Q (.bool true) h') : W c A (call (.ref f) [.ref m.I, .ref m.r, .ref rw]) Q E h := by
  have B := P.B
  have C1 := P.runF
  have C2 := P.evaF
  ktn_call sc_perform_push (bnd_perform_push _ _ _)
  ktf_call "run"
  exact k _ _ _ (by ktf_call "lv")

theorem c_push_pick {i : Int} {v : Value} (P : Pk c) (S : St c ns L vs (MX c m vis pl sk nsk frO Y) R Z h) (hF : FnAt c f "perform_push" (stm 100) []) (hA : Rm 3 A)
    (hr : (rw, tupOf [.str "pick" t1, .int i t2] nrw) ∈ R) (h0 : 0 ≤ i) (hi : i < sk.length) (hz : sk.length ≤ 1000) (hv : sk[sk.length - 1 - i.toNat]? = some v)
    (k : ∀ vis' nsk' h', St c ns L vs (MX c m vis' pl (sk ++ [v]) nsk' frO Y) R Z h' → Q (.bool true) h') : W c A (call (.ref f) [.ref m.I, .ref m.r, .ref rw]) Q E h := by
  have B := P.B
  have C1 := P.runF
  have C2 := P.evaF
  ktn_call sc_perform_push (bnd_perform_push _ _ _)
  ktf_call "run"
  exact k _ _ _ (by ktf_call "lv")

theorem c_push_var {x : Str} {a : Va} {v : Value} (P : Pk c) (S : St c ns L vs (MX c m vis pl sk nsk frO Y) R Z h) (hF : FnAt c f "perform_push" (stm 100) []) (hA : Rm 3 A)
    (hr : (rw, tupOf [.str "var" t1, .str x t2] nrw) ∈ R) (hx : x = "a" ∨ x = "b") (hz : sk.length ≤ 1000) (hD : frO.IsDictOf (strKind c.prog c.w) kvs) (hv : valueAt kvs x = some v) (hV : VecIn c R v a)
    (k : ∀ vis' nsk' h' R', Le c R R' → St c ns L vs (MX c m vis' pl (sk ++ [v]) nsk' frO Y) R' Z h' → Q (.bool true) h') : W c A (call (.ref f) [.ref m.I, .ref m.r, .ref rw]) Q E h := by
  have B := P.B
  have C1 := P.runF
  have C2 := P.evaF
  have M1 := P.mvariable
  ktn_call sc_perform_push (bnd_perform_push _ _ _)
  ktf_call "run"
  refine c_variable P (by ktf_call "asm") (by ktf_call "asm") (by ktf_call "asm") hx (by ktf_call "pos") (by ktf_call "pos") (by ktf_call "pos") hD hv hV fun R' h' l S' => ?_
  ktf_call "run"
  exact k _ _ _ _ l (by ktf_call "lv")

theorem c_pushF {x : Str} {l : List Value} (B : Base c) (S : St c ns L vs (MX c m vis pl sk nsk frO Y) R Z h) (hF : FnAt c f "perform_push" (stm 100) []) (hA : Rm 1 A)
    (hr : (rw, tupOf (.str x t1 :: l) nrw) ∈ R) (n1 : x ≠ "const") (n2 : x ≠ "var") (n3 : x ≠ "arg") (n4 : x ≠ "force") (n5 : x ≠ "call") (n6 : x ≠ "closure") (n7 : x ≠ "pick")
    (k : ∀ h', St c ns L vs (MX c m vis pl sk nsk frO Y) R Z h' → Q (.bool false) h') : W c A (call (.ref f) [.ref m.I, .ref m.r, .ref rw]) Q E h := by
  ktn_call sc_perform_push (bnd_perform_push _ _ _)
  ktf_call "run"
  exact k _ (by ktf_call "lv")
end
section
variable {c : Cx} {A : Around} {E : Value → Heap → Prop} {h : Heap} {ns : List Str} {L f : Addr} {vs : List (Option Value)} {Y R Z : Led} {Q : Value → Heap → Prop}
variable {m : Mc} {vis pl : Value} {sk : List Value} {nsk nrw : Nat} {frO : Obj} {kvs : List (Str × Value)} {rw : Addr} {t1 t2 t3 : Tok}

theorem c_jump {u : Tok} {i j : Int} (P : Pk c) (S : St c ns L vs (MX c m vis (.int j t2) sk nsk frO Y) R Z h) (hF : FnAt c f "jump" (stm 99) []) (hA : Rm 1 A) (hj : decide (i < j) = false)
    (k : ∀ h', St c ns L vs (MX c m vis (.int i u) sk nsk frO Y) R Z h' → Q .none h') : W c A (call (.ref f) [.ref m.I, .ref m.r, .int i u]) Q E h := by
  have B := P.B
  have C1 := P.runF
  ktn_call sc_jump (bnd_jump _ _ _)
  ktf_call "run"
  exact k _ (by ktf_call "lv")

theorem c_left {nm : Str} {s i : Int} {a : Va} {v : Value} {p : List Value} (P : Pk c) (S : St c ns L vs (MX c m vis pl (p ++ [v]) nsk frO Y) R Z h) (hF : FnAt c f "logic_left" (stm 96) []) (hA : Rm 4 A)
    (hr : (rw, tupOf [.str nm t1, .int i t2, .int 0 t3] nrw) ∈ R) (hn : nm = "and" ∧ s = 0 ∨ nm = "or" ∧ s = 1) (hz : p.length ≤ 1000) (hV : VecIn c R v a)
    (k : ∀ vis' nsk' h' R' v' pl', (truO a.it = some s ∧ pl' = .int i t2 ∨ truO a.it ≠ some s ∧ pl' = pl) → Le c R R' → VecIn c R' v' ⟨"logical", truO a.it⟩ → St c ns L vs (MX c m vis' pl' (p ++ [v']) nsk' frO Y) R' Z h' → Q .none h') :
    W c A (call (.ref f) [.ref m.I, .ref m.r, .ref rw]) Q E h := by
  have B := P.B
  have C1 := P.runF
  have C2 := P.evaF
  have G1 := P.scalar_truth
  have G2 := P.flag
  ktn_call sc_logic_left (bnd_logic_left _ _ _)
  rcases hn with ⟨rfl, rfl⟩ | ⟨rfl, rfl⟩
  · ktf_call "run"
    refine c_scalar_truth P (by ktf_call "asm") (by ktf_call "asm") (by ktf_call "rm") hV fun w h' hw S' => ?_
    ktf_call "run"
    refine c_flag P (by ktf_call "asm") (by ktf_call "asm") (by ktf_call "rm") hw fun v' R' h' l hv S' => ?_
    rw [truO_truO] at hv
    have hr' := l.tup hr
    obtain ⟨o, ho⟩ : ∃ o, o = truO a.it := ⟨_, rfl⟩
    rw [← ho] at hw hv k
    clear ho
    rcases o with _ | i
    · cases hw
      ktf_call "run"
      exact k _ _ _ _ _ _ (.inr ⟨by simp, rfl⟩) l hv (by ktf_call "lv")
    · obtain ⟨t, rfl⟩ := hw
      ktf_call "run"
      by_cases e : i = 0
      · subst e
        ktf_call "run"
        exact k _ _ _ _ _ _ (.inl ⟨by simp, rfl⟩) l hv (by ktf_call "lv")
      · ktf_call "run"
        exact k _ _ _ _ _ _ (.inr ⟨by simpa using e, rfl⟩) l hv (by ktf_call "lv")
  · ktf_call "run"
    refine c_scalar_truth P (by ktf_call "asm") (by ktf_call "asm") (by ktf_call "rm") hV fun w h' hw S' => ?_
    ktf_call "run"
    refine c_flag P (by ktf_call "asm") (by ktf_call "asm") (by ktf_call "rm") hw fun v' R' h' l hv S' => ?_
    rw [truO_truO] at hv
    have hr' := l.tup hr
    obtain ⟨o, ho⟩ : ∃ o, o = truO a.it := ⟨_, rfl⟩
    rw [← ho] at hw hv k
    clear ho
    rcases o with _ | i
    · cases hw
      ktf_call "run"
      exact k _ _ _ _ _ _ (.inr ⟨by simp, rfl⟩) l hv (by ktf_call "lv")
    · obtain ⟨t, rfl⟩ := hw
      ktf_call "run"
      by_cases e : i = 1
      · subst e
        ktf_call "run"
        exact k _ _ _ _ _ _ (.inl ⟨by simp, rfl⟩) l hv (by ktf_call "lv")
      · ktf_call "run"
        exact k _ _ _ _ _ _ (.inr ⟨by simpa using e, rfl⟩) l hv (by ktf_call "lv")

theorem c_right {nm : Str} {a b : Va} {u v : Value} {p : List Value} (P : Pk c) (S : St c ns L vs (MX c m vis pl ((p ++ [u]) ++ [v]) nsk frO Y) R Z h) (hF : FnAt c f "logic_right" (stm 97) []) (hA : Rm 4 A)
    (hr : (rw, tupOf [.str "truth" t1, .str nm t2, .int 0 t3] nrw) ∈ R) (hn : nm = "&&" ∨ nm = "||") (hz : p.length ≤ 900) (hU : VecIn c R u a) (hV : VecIn c R v b)
    (k : ∀ vis' nsk' h' R' v', Le c R R' → VecIn c R' v' ⟨"logical", if nm = "&&" then andO a.it (truO b.it) else orO a.it (truO b.it)⟩ → St c ns L vs (MX c m vis' pl (p ++ [v']) nsk' frO Y) R' Z h' → Q .none h') :
    W c A (call (.ref f) [.ref m.I, .ref m.r, .ref rw]) Q E h := by
  have B := P.B
  have C1 := P.runF
  have C2 := P.evaF
  have C3 := P.vecF
  have G1 := P.scalar_truth
  have G2 := P.flag
  have G3 := P.and_items
  have G4 := P.or_items
  have z1 : (p ++ [u]).length ≤ 1000 := by simp; omega
  have z2 : p.length ≤ 1000 := by omega
  obtain ⟨x, dx, il, tk, n1, n2, tt, sh, lo, iv, rfl, h1, h2, h3, h5, h4⟩ := hU
  ktn_call sc_logic_right (bnd_logic_right _ _ _)
  ktf_call "run"
  refine c_scalar_truth P (by ktf_call "asm") (by ktf_call "asm") (by ktf_call "rm") hV fun w h' hw S' => ?_
  ktf_call "run"
  rcases hn with rfl | rfl
  · ktf_call "run"
    refine c_and B (by ktf_call "asm") (by ktf_call "asm") (by ktf_call "rm") h5 hw fun w' h' hw' S' => ?_
    ktf_call "run"
    refine c_flag P (by ktf_call "asm") (by ktf_call "asm") (by ktf_call "rm") hw' fun v' R' h' l hv S' => ?_
    ktf_call "run"
    rw [truO_and] at hv
    exact k _ _ _ _ _ l (by simpa using hv) (by ktf_call "lv")
  · ktf_call "run"
    refine c_or B (by ktf_call "asm") (by ktf_call "asm") (by ktf_call "rm") h5 hw fun w' h' hw' S' => ?_
    ktf_call "run"
    refine c_flag P (by ktf_call "asm") (by ktf_call "asm") (by ktf_call "rm") hw' fun v' R' h' l hv S' => ?_
    ktf_call "run"
    rw [truO_or] at hv
    exact k _ _ _ _ _ l hv (by ktf_call "lv")
end
end
noncomputable section
section
variable {c : Cx} {A : Around} {E : Value → Heap → Prop} {h : Heap} {ns : List Str} {L f : Addr} {vs : List (Option Value)} {Y R Z : Led} {Q : Value → Heap → Prop}
variable {m : Mc} {vis pl : Value} {sk : List Value} {nsk nrw : Nat} {frO : Obj} {kvs : List (Str × Value)} {rw : Addr} {t1 t2 t3 : Tok}

theorem c_pj_jump {i j : Int} {u : Tok} (P : Pk c) (S : St c ns L vs (MX c m vis (.int j u) sk nsk frO Y) R Z h) (hF : FnAt c f "perform_jump" (stm 101) []) (hA : Rm 3 A)
    (hr : (rw, tupOf [.str "jump" t1, .int i t2] nrw) ∈ R) (hj : j ≤ i)
    (k : ∀ vis' h', St c ns L vs (MX c m vis' (.int i t2) sk nsk frO Y) R Z h' → Q (.bool true) h') : W c A (call (.ref f) [.ref m.I, .ref m.r, .ref rw]) Q E h := by
  have B := P.B
  have C1 := P.runF
  have C2 := P.evaF
  have G1 := P.jump
  ktn_call sc_perform_jump (bnd_perform_jump _ _ _)
  ktf_call "run"
  refine c_jump P (by ktf_call "asm") (by ktf_call "asm") (by ktf_call "rm") (decide_eq_false (by omega)) fun h' S' => ?_
  ktf_call "run"
  exact k _ _ (by ktf_call "lv")

theorem c_pj_unless {i b : Int} {kd : Str} {v : Value} {p : List Value} (P : Pk c) (S : St c ns L vs (MX c m vis pl (p ++ [v]) nsk frO Y) R Z h) (hF : FnAt c f "perform_jump" (stm 101) []) (hA : Rm 5 A)
    (hr : (rw, tupOf [.str "unless" t1, .int i t2, .int 0 t3] nrw) ∈ R) (hz : p.length ≤ 1000) (hV : VecIn c R v ⟨kd, some b⟩)
    (k : ∀ vis' nsk' h', St c ns L vs (MX c m vis' (if b = 0 then .int i t2 else pl) p nsk' frO Y) R Z h' → Q (.bool true) h') : W c A (call (.ref f) [.ref m.I, .ref m.r, .ref rw]) Q E h := by
  have B := P.B
  have C1 := P.runF
  have C2 := P.evaF
  have G1 := P.condition
  ktn_call sc_perform_jump (bnd_perform_jump _ _ _)
  ktf_call "run"
  refine c_condition P (by ktf_call "asm") (by ktf_call "asm") (by ktf_call "rm") hV fun h' S' => ?_
  by_cases e : b = 0
  · subst e
    ktf_call "run"
    exact k _ _ _ (by ktf_call "lv")
  · have e' : (!(b != 0)) = false := by simpa using e
    ktf_call "run"
    rw [if_neg e] at k
    exact k _ _ _ (by ktf_call "lv")

theorem c_pj_left {nm : Str} {s i : Int} {a : Va} {v : Value} {p : List Value} (P : Pk c) (S : St c ns L vs (MX c m vis pl (p ++ [v]) nsk frO Y) R Z h) (hF : FnAt c f "perform_jump" (stm 101) []) (hA : Rm 5 A)
    (hr : (rw, tupOf [.str nm t1, .int i t2, .int 0 t3] nrw) ∈ R) (hn : nm = "and" ∧ s = 0 ∨ nm = "or" ∧ s = 1) (hz : p.length ≤ 1000) (hV : VecIn c R v a)
    (k : ∀ vis' nsk' h' R' v' pl', (truO a.it = some s ∧ pl' = .int i t2 ∨ truO a.it ≠ some s ∧ pl' = pl) → Le c R R' → VecIn c R' v' ⟨"logical", truO a.it⟩ → St c ns L vs (MX c m vis' pl' (p ++ [v']) nsk' frO Y) R' Z h' → Q (.bool true) h') :
    W c A (call (.ref f) [.ref m.I, .ref m.r, .ref rw]) Q E h := by
  have B := P.B
  have G1 := P.logic_left
  ktn_call sc_perform_jump (bnd_perform_jump _ _ _)
  have hn' := hn
  rcases hn with ⟨rfl, rfl⟩ | ⟨rfl, rfl⟩
  · ktf_call "run"
    refine c_left P (by ktf_call "asm") (by ktf_call "asm") (by ktf_call "rm") hr hn' hz hV fun vis' nsk' h' R' v' pl' hp l hv S' => ?_
    ktf_call "run"
    exact k _ _ _ _ _ _ hp l hv (by ktf_call "lv")
  · ktf_call "run"
    refine c_left P (by ktf_call "asm") (by ktf_call "asm") (by ktf_call "rm") hr hn' hz hV fun vis' nsk' h' R' v' pl' hp l hv S' => ?_
    ktf_call "run"
    exact k _ _ _ _ _ _ hp l hv (by ktf_call "lv")

theorem c_pj_truth {nm : Str} {a b : Va} {u v : Value} {p : List Value} (P : Pk c) (S : St c ns L vs (MX c m vis pl ((p ++ [u]) ++ [v]) nsk frO Y) R Z h) (hF : FnAt c f "perform_jump" (stm 101) []) (hA : Rm 5 A)
    (hr : (rw, tupOf [.str "truth" t1, .str nm t2, .int 0 t3] nrw) ∈ R) (hn : nm = "&&" ∨ nm = "||") (hz : p.length ≤ 900) (hU : VecIn c R u a) (hV : VecIn c R v b)
    (k : ∀ vis' nsk' h' R' v', Le c R R' → VecIn c R' v' ⟨"logical", if nm = "&&" then andO a.it (truO b.it) else orO a.it (truO b.it)⟩ → St c ns L vs (MX c m vis' pl (p ++ [v']) nsk' frO Y) R' Z h' → Q (.bool true) h') :
    W c A (call (.ref f) [.ref m.I, .ref m.r, .ref rw]) Q E h := by
  have B := P.B
  have G1 := P.logic_right
  ktn_call sc_perform_jump (bnd_perform_jump _ _ _)
  ktf_call "run"
  refine c_right P (by ktf_call "asm") (by ktf_call "asm") (by ktf_call "rm") hr hn hz hU hV fun vis' nsk' h' R' v' l hv S' => ?_
  ktf_call "run"
  exact k _ _ _ _ _ l hv (by ktf_call "lv")

theorem c_jumpF {x : Str} {l : List Value} (B : Base c) (S : St c ns L vs (MX c m vis pl sk nsk frO Y) R Z h) (hF : FnAt c f "perform_jump" (stm 101) []) (hA : Rm 1 A)
    (hr : (rw, tupOf (.str x t1 :: l) nrw) ∈ R) (n1 : x ≠ "guard") (n2 : x ≠ "jump") (n3 : x ≠ "unless") (n4 : x ≠ "and") (n5 : x ≠ "or") (n6 : x ≠ "truth") (n7 : x ≠ "return")
    (k : ∀ h', St c ns L vs (MX c m vis pl sk nsk frO Y) R Z h' → Q (.bool false) h') : W c A (call (.ref f) [.ref m.I, .ref m.r, .ref rw]) Q E h := by
  ktn_call sc_perform_jump (bnd_perform_jump _ _ _)
  ktf_call "run"
  exact k _ (by ktf_call "lv")

theorem c_loopF {x : Str} {l : List Value} (B : Base c) (S : St c ns L vs (MX c m vis pl sk nsk frO Y) R Z h) (hF : FnAt c f "perform_loop" (stm 102) []) (hA : Rm 1 A)
    (hr : (rw, tupOf (.str x t1 :: l) nrw) ∈ R) (n1 : x ≠ "step") (n2 : x ≠ "for") (n3 : x ≠ "loop") (n4 : x ≠ "endfor") (n5 : x ≠ "endloop")
    (k : ∀ h', St c ns L vs (MX c m vis pl sk nsk frO Y) R Z h' → Q (.bool false) h') : W c A (call (.ref f) [.ref m.I, .ref m.r, .ref rw]) Q E h := by
  ktn_call sc_perform_loop (bnd_perform_loop _ _ _)
  ktf_call "run"
  exact k _ (by ktf_call "lv")

theorem c_set {x : Str} {a : Va} {v : Value} {p : List Value} (P : Pk c) (S : St c ns L vs (MX c m vis pl (p ++ [v]) nsk frO Y) R Z h) (hF : FnAt c f "perform_assign" (stm 103) []) (hA : Rm 3 A)
    (hr : (rw, tupOf [.str "set" t1, .str x t2, .int 0 t3] nrw) ∈ R) (hD : frO.IsDictOf (strKind c.prog c.w) kvs) (hk : kvs.length ≤ 1000) (hl : m.lkO.IsDictOf (strKind c.prog c.w) []) (hV : VecIn c R v a)
    (k : ∀ h' R' frO', Le c R R' → frO'.IsDictOf (strKind c.prog c.w) (stored kvs x v) → St c ns L vs (MX c m vis pl (p ++ [v]) nsk frO' Y) R' Z h' → Q (.bool true) h') : W c A (call (.ref f) [.ref m.I, .ref m.r, .ref rw]) Q E h := by
  have B := P.B
  have C1 := P.runF
  have G1 := P.define
  have G2 := P.share
  ktn_call sc_perform_assign (bnd_perform_assign _ _ _)
  ktf_call "run"
  refine c_share P (by ktf_call "asm") (by ktf_call "asm") (by ktf_call "rm") hV fun R' h' l S' => ?_
  ktf_call "run"
  refine c_define (g := fun o' => MX c m vis pl (p ++ [v]) nsk o' Y) P (by ktf_call "asm") (by ktf_call "asm") (by ktf_call "rm") (by ktf_call "pos") (by ktf_call "pos") (by repeat (first | with_reducible exact Hole.head | with_reducible apply Hole.tail)) hD hk (by ktf_call "pos") hl fun h' o' hD' S' => ?_
  ktf_call "run"
  exact k _ _ _ l hD' (by ktf_call "lv")
end
end
noncomputable section
section
variable {c : Cx} {A : Around} {E : Value → Heap → Prop} {h : Heap} {ns : List Str} {L f : Addr} {vs : List (Option Value)} {Y R Z : Led} {Q : Value → Heap → Prop}
variable {m : Mc} {vis pl : Value} {sk : List Value} {nsk nrw : Nat} {frO : Obj} {kvs : List (Str × Value)} {rw : Addr} {t1 t2 t3 : Tok}

theorem p_drop {v : Value} {p : List Value} (P : Pk c) (S : St c ns L vs (MX c m vis pl (p ++ [v]) nsk frO Y) R Z h) (hF : FnAt c f "perform" (stm 104) []) (hA : Rm 6 A)
    (hr : (rw, tupOf [.str "drop" t1, .int 1 t2] nrw) ∈ R) (hz : p.length ≤ 900)
    (k : ∀ vis' nsk' h', St c ns L vs (MX c m vis' pl p nsk' frO Y) R Z h' → Q .none h') : W c A (call (.ref f) [.ref m.I, .ref m.r, .ref rw]) Q E h := by
  have B := P.B
  have C1 := P.runF
  have z1 : (p ++ [v]).length ≤ 1000 := by simp; omega
  have z2 : p.length ≤ 1000 := by omega
  ktn_call sc_perform (bnd_perform _ _ _)
  ktf_call "run"
  rw [show ((p ++ [v]).length : Int) - 1 = p.length by simp]
  refine slk (by ktf_call "asm") fun sl h' S' => ?_
  refine r_delS S' (by ktf_call "pos") (by ktf_call "has") z2 fun h' S' => ?_
  ktf_call "run"
  exact k _ _ _ (by ktf_call "lv1")

theorem p_const {i : Int} {v : Value} (P : Pk c) (S : St c ns L vs (MX c m vis pl sk nsk frO Y) R Z h) (hF : FnAt c f "perform" (stm 104) []) (hA : Rm 6 A)
    (hr : (rw, tupOf [.str "const" t1, .int i t2] nrw) ∈ R) (h0 : 0 ≤ i) (hi : i < 2 ^ 63) (hv : m.consts[i.toNat]? = some v) (hz : sk.length ≤ 1000)
    (k : ∀ vis' nsk' h', St c ns L vs (MX c m vis' pl (sk ++ [v]) nsk' frO Y) R Z h' → Q .none h') : W c A (call (.ref f) [.ref m.I, .ref m.r, .ref rw]) Q E h := by
  have B := P.B
  have G1 := P.perform_push
  ktn_call sc_perform (bnd_perform _ _ _)
  ktf_call "run"
  refine c_push_const P (by ktf_call "asm") (by ktf_call "asm") (by ktf_call "rm") hr h0 hi hv hz fun vis' nsk' h' S' => ?_
  ktf_call "run"
  exact k _ _ _ (by ktf_call "lv")

theorem p_pick {i : Int} {v : Value} (P : Pk c) (S : St c ns L vs (MX c m vis pl sk nsk frO Y) R Z h) (hF : FnAt c f "perform" (stm 104) []) (hA : Rm 6 A)
    (hr : (rw, tupOf [.str "pick" t1, .int i t2] nrw) ∈ R) (h0 : 0 ≤ i) (hi : i < sk.length) (hz : sk.length ≤ 1000) (hv : sk[sk.length - 1 - i.toNat]? = some v)
    (k : ∀ vis' nsk' h', St c ns L vs (MX c m vis' pl (sk ++ [v]) nsk' frO Y) R Z h' → Q .none h') : W c A (call (.ref f) [.ref m.I, .ref m.r, .ref rw]) Q E h := by
  have B := P.B
  have G1 := P.perform_push
  ktn_call sc_perform (bnd_perform _ _ _)
  ktf_call "run"
  refine c_push_pick P (by ktf_call "asm") (by ktf_call "asm") (by ktf_call "rm") hr h0 hi hz hv fun vis' nsk' h' S' => ?_
  ktf_call "run"
  exact k _ _ _ (by ktf_call "lv")

theorem p_var {x : Str} {a : Va} {v : Value} (P : Pk c) (S : St c ns L vs (MX c m vis pl sk nsk frO Y) R Z h) (hF : FnAt c f "perform" (stm 104) []) (hA : Rm 6 A)
    (hr : (rw, tupOf [.str "var" t1, .str x t2] nrw) ∈ R) (hx : x = "a" ∨ x = "b") (hz : sk.length ≤ 1000) (hD : frO.IsDictOf (strKind c.prog c.w) kvs) (hv : valueAt kvs x = some v) (hV : VecIn c R v a)
    (k : ∀ vis' nsk' h' R', Le c R R' → St c ns L vs (MX c m vis' pl (sk ++ [v]) nsk' frO Y) R' Z h' → Q .none h') : W c A (call (.ref f) [.ref m.I, .ref m.r, .ref rw]) Q E h := by
  have B := P.B
  have G1 := P.perform_push
  ktn_call sc_perform (bnd_perform _ _ _)
  ktf_call "run"
  refine c_push_var P (by ktf_call "asm") (by ktf_call "asm") (by ktf_call "rm") hr hx hz hD hv hV fun vis' nsk' h' R' l S' => ?_
  ktf_call "run"
  exact k _ _ _ _ l (by ktf_call "lv")

theorem p_jump {i j : Int} {u : Tok} (P : Pk c) (S : St c ns L vs (MX c m vis (.int j u) sk nsk frO Y) R Z h) (hF : FnAt c f "perform" (stm 104) []) (hA : Rm 6 A)
    (hr : (rw, tupOf [.str "jump" t1, .int i t2] nrw) ∈ R) (hj : j ≤ i)
    (k : ∀ vis' h', St c ns L vs (MX c m vis' (.int i t2) sk nsk frO Y) R Z h' → Q .none h') : W c A (call (.ref f) [.ref m.I, .ref m.r, .ref rw]) Q E h := by
  have B := P.B
  have G1 := P.perform_push
  have G2 := P.perform_jump
  ktn_call sc_perform (bnd_perform _ _ _)
  ktf_call "run"
  refine c_pushF B (by ktf_call "asm") (by ktf_call "asm") (by ktf_call "rm") hr (by decide) (by decide) (by decide) (by decide) (by decide) (by decide) (by decide) fun h' S' => ?_
  ktf_call "run"
  refine c_pj_jump P (by ktf_call "asm") (by ktf_call "asm") (by ktf_call "rm") hr hj fun vis' h' S' => ?_
  ktf_call "run"
  exact k _ _ (by ktf_call "lv")

theorem p_unless {i b : Int} {kd : Str} {v : Value} {p : List Value} (P : Pk c) (S : St c ns L vs (MX c m vis pl (p ++ [v]) nsk frO Y) R Z h) (hF : FnAt c f "perform" (stm 104) []) (hA : Rm 6 A)
    (hr : (rw, tupOf [.str "unless" t1, .int i t2, .int 0 t3] nrw) ∈ R) (hz : p.length ≤ 1000) (hV : VecIn c R v ⟨kd, some b⟩)
    (k : ∀ vis' nsk' h', St c ns L vs (MX c m vis' (if b = 0 then .int i t2 else pl) p nsk' frO Y) R Z h' → Q .none h') : W c A (call (.ref f) [.ref m.I, .ref m.r, .ref rw]) Q E h := by
  have B := P.B
  have G1 := P.perform_push
  have G2 := P.perform_jump
  ktn_call sc_perform (bnd_perform _ _ _)
  ktf_call "run"
  refine c_pushF B (by ktf_call "asm") (by ktf_call "asm") (by ktf_call "rm") hr (by decide) (by decide) (by decide) (by decide) (by decide) (by decide) (by decide) fun h' S' => ?_
  ktf_call "run"
  refine c_pj_unless P (by ktf_call "asm") (by ktf_call "asm") (by ktf_call "rm") hr hz hV fun vis' nsk' h' S' => ?_
  ktf_call "run"
  exact k _ _ _ (by ktf_call "lv")

theorem p_left {nm : Str} {s i : Int} {a : Va} {v : Value} {p : List Value} (P : Pk c) (S : St c ns L vs (MX c m vis pl (p ++ [v]) nsk frO Y) R Z h) (hF : FnAt c f "perform" (stm 104) []) (hA : Rm 6 A)
    (hr : (rw, tupOf [.str nm t1, .int i t2, .int 0 t3] nrw) ∈ R) (hn : nm = "and" ∧ s = 0 ∨ nm = "or" ∧ s = 1) (hz : p.length ≤ 1000) (hV : VecIn c R v a)
    (k : ∀ vis' nsk' h' R' v' pl', (truO a.it = some s ∧ pl' = .int i t2 ∨ truO a.it ≠ some s ∧ pl' = pl) → Le c R R' → VecIn c R' v' ⟨"logical", truO a.it⟩ → St c ns L vs (MX c m vis' pl' (p ++ [v']) nsk' frO Y) R' Z h' → Q .none h') :
    W c A (call (.ref f) [.ref m.I, .ref m.r, .ref rw]) Q E h := by
  have B := P.B
  have G1 := P.perform_push
  have G2 := P.perform_jump
  have n1 : nm ≠ "op" := by rcases hn with ⟨rfl, _⟩ | ⟨rfl, _⟩ <;> decide
  have n2 : nm ≠ "drop" := by rcases hn with ⟨rfl, _⟩ | ⟨rfl, _⟩ <;> decide
  have n3 : nm ≠ "visible" := by rcases hn with ⟨rfl, _⟩ | ⟨rfl, _⟩ <;> decide
  have n4 : nm ≠ "invisible" := by rcases hn with ⟨rfl, _⟩ | ⟨rfl, _⟩ <;> decide
  ktn_call sc_perform (bnd_perform _ _ _)
  ktf_call "run"
  refine c_pushF B (by ktf_call "asm") (by ktf_call "asm") (by ktf_call "rm") hr ?_ ?_ ?_ ?_ ?_ ?_ ?_ fun h' S' => ?_
  iterate 7 (rcases hn with ⟨rfl, _⟩ | ⟨rfl, _⟩ <;> decide)
  ktf_call "run"
  refine c_pj_left P (by ktf_call "asm") (by ktf_call "asm") (by ktf_call "rm") hr hn hz hV fun vis' nsk' h' R' v' pl' hp l hv S' => ?_
  ktf_call "run"
  exact k _ _ _ _ _ _ hp l hv (by ktf_call "lv")

theorem p_truth {nm : Str} {a b : Va} {u v : Value} {p : List Value} (P : Pk c) (S : St c ns L vs (MX c m vis pl ((p ++ [u]) ++ [v]) nsk frO Y) R Z h) (hF : FnAt c f "perform" (stm 104) []) (hA : Rm 6 A)
    (hr : (rw, tupOf [.str "truth" t1, .str nm t2, .int 0 t3] nrw) ∈ R) (hn : nm = "&&" ∨ nm = "||") (hz : p.length ≤ 900) (hU : VecIn c R u a) (hV : VecIn c R v b)
    (k : ∀ vis' nsk' h' R' v', Le c R R' → VecIn c R' v' ⟨"logical", if nm = "&&" then andO a.it (truO b.it) else orO a.it (truO b.it)⟩ → St c ns L vs (MX c m vis' pl (p ++ [v']) nsk' frO Y) R' Z h' → Q .none h') :
    W c A (call (.ref f) [.ref m.I, .ref m.r, .ref rw]) Q E h := by
  have B := P.B
  have G1 := P.perform_push
  have G2 := P.perform_jump
  ktn_call sc_perform (bnd_perform _ _ _)
  ktf_call "run"
  refine c_pushF B (by ktf_call "asm") (by ktf_call "asm") (by ktf_call "rm") hr (by decide) (by decide) (by decide) (by decide) (by decide) (by decide) (by decide) fun h' S' => ?_
  ktf_call "run"
  refine c_pj_truth P (by ktf_call "asm") (by ktf_call "asm") (by ktf_call "rm") hr hn hz hU hV fun vis' nsk' h' R' v' l hv S' => ?_
  ktf_call "run"
  exact k _ _ _ _ _ l hv (by ktf_call "lv")

theorem p_set {x : Str} {a : Va} {v : Value} {p : List Value} (P : Pk c) (S : St c ns L vs (MX c m vis pl (p ++ [v]) nsk frO Y) R Z h) (hF : FnAt c f "perform" (stm 104) []) (hA : Rm 6 A)
    (hr : (rw, tupOf [.str "set" t1, .str x t2, .int 0 t3] nrw) ∈ R) (hD : frO.IsDictOf (strKind c.prog c.w) kvs) (hk : kvs.length ≤ 1000) (hl : m.lkO.IsDictOf (strKind c.prog c.w) []) (hV : VecIn c R v a)
    (k : ∀ h' R' frO', Le c R R' → frO'.IsDictOf (strKind c.prog c.w) (stored kvs x v) → St c ns L vs (MX c m vis pl (p ++ [v]) nsk frO' Y) R' Z h' → Q .none h') : W c A (call (.ref f) [.ref m.I, .ref m.r, .ref rw]) Q E h := by
  have B := P.B
  have G1 := P.perform_push
  have G2 := P.perform_jump
  have G3 := P.perform_loop
  have G4 := P.perform_assign
  ktn_call sc_perform (bnd_perform _ _ _)
  ktf_call "run"
  refine c_pushF B (by ktf_call "asm") (by ktf_call "asm") (by ktf_call "rm") hr (by decide) (by decide) (by decide) (by decide) (by decide) (by decide) (by decide) fun h' S' => ?_
  ktf_call "run"
  refine c_jumpF B (by ktf_call "asm") (by ktf_call "asm") (by ktf_call "rm") hr (by decide) (by decide) (by decide) (by decide) (by decide) (by decide) (by decide) fun h' S' => ?_
  ktf_call "run"
  refine c_loopF B (by ktf_call "asm") (by ktf_call "asm") (by ktf_call "rm") hr (by decide) (by decide) (by decide) (by decide) (by decide) fun h' S' => ?_
  ktf_call "run"
  refine c_set P (by ktf_call "asm") (by ktf_call "asm") (by ktf_call "rm") hr hD hk hl hV fun h' R' frO' l hD' S' => ?_
  ktf_call "run"
  exact k _ _ _ l hD' (by ktf_call "lv")
end
end
noncomputable section
section
variable {c : Cx} {A : Around} {E : Value → Heap → Prop} {h : Heap} {ns : List Str} {L f : Addr} {vs : List (Option Value)} {Y R Z : Led} {Q : Value → Heap → Prop}
abbrev SrcX (so sl : Addr) (its : List Value) (a b : Int) (ta tb : Tok) (n1 n2 : Nat) (Y : Led) : Led := (so, listOf [.ref sl, .int a ta, .int b tb].toArray n1) :: (sl, listOf its.toArray n2) :: Y

theorem c_take {so sl : Addr} {its : List Value} {a b most : Int} {ta tb tm : Tok} {n1 n2 : Nat} (P : Pk c) (S : St c ns L vs (SrcX so sl its a b ta tb n1 n2 Y) R Z h) (hF : FnAt c f "_law_take" (stm 111) []) (hA : Rm 1 A)
    (ha : 0 ≤ a) (hb : 0 ≤ b ∧ b < 2147483563) (hm : 0 < most) (hm' : most < 1000) (hi : AllInt its) (hz : its.length ≤ 100)
    (k : ∀ i t a' ta' b' tb' its' n1' n2' h', 0 ≤ i → i < most → 0 ≤ a' → 0 ≤ b' ∧ b' < 2147483563 → AllInt its' → its'.length ≤ 100 → St c ns L vs (SrcX so sl its' a' b' ta' tb' n1' n2' Y) R Z h' → Q (.int i t) h') :
    W c A (call (.ref f) [.ref so, .int most tm]) Q E h := by
  have B := P.B
  ktn_call sc_law_take (bnd_law_take _ _)
  by_cases e : a = 0
  · subst e
    have hb2 : 0 ≤ b * 40014 % 2147483563 ∧ b * 40014 % 2147483563 < 2147483563 := ⟨Int.emod_nonneg _ (by decide), Int.emod_lt_of_pos _ (by decide)⟩
    ktf_call "run"
    rcases its with _ | ⟨y, l⟩
    · have hq0 : 0 ≤ b * 40014 % 2147483563 / 11 := Int.ediv_nonneg hb2.1 (by decide)
      have hq := decide_eq_true hq0
      ktf_call "run"
      exact k _ _ _ _ _ _ _ _ _ _ (Int.emod_nonneg _ (by omega)) (Int.emod_lt_of_pos _ hm) (Int.ediv_nonneg (b := most) hq0 (by omega)) hb2 hi hz (by ktf_call "lv1")
    · obtain ⟨j, tj, rfl⟩ := hi _ (.head _)
      have hz2 : l.length ≤ 900 := by simp only [List.length_cons] at hz; omega
      have hz3 : l.length ≤ 100 := by simp only [List.length_cons] at hz; omega
      have hi' : AllInt l := fun v hv => hi v (.tail _ hv)
      by_cases hj : 0 ≤ j
      · have hq := decide_eq_true hj
        ktf_call "run"
        exact k _ _ _ _ _ _ _ _ _ _ (Int.emod_nonneg _ (by omega)) (Int.emod_lt_of_pos _ hm) (Int.ediv_nonneg (b := most) hj (by omega)) hb2 hi' hz3 (by ktf_call "lv1")
      · have hq := decide_eq_false hj
        ktf_call "run"
        exact k _ _ _ _ _ _ _ _ _ _ (Int.emod_nonneg _ (by omega)) (Int.emod_lt_of_pos _ hm) (Int.ediv_nonneg (a := -j) (b := most) (by omega) (by omega)) hb2 hi' hz3 (by ktf_call "lv1")
  · have e' : (a == 0) = false := by simpa using e
    ktf_call "run"
    exact k _ _ _ _ _ _ _ _ _ _ (Int.emod_nonneg _ (by omega)) (Int.emod_lt_of_pos _ hm) (Int.ediv_nonneg (b := most) ha (by omega)) hb hi hz (by ktf_call "lv")
end
end
noncomputable section
section
variable {c : Cx} {A : Around} {E : Value → Heap → Prop} {h : Heap} {ns : List Str} {L f : Addr} {vs : List (Option Value)} {X Y R Z : Led} {Q : Value → Heap → Prop}

theorem TupIn.made {x il : Addr} {n1 n2 : Nat} {t1 : Tok} {iv : Value} {a : Va} (S : St c ns L vs ((x, tupOf [.str a.kd t1, .ref il] n1) :: (il, listOf [iv].toArray n2) :: X) R Z h) (hi : It iv a.it) (ok : a.ok) :
    ∃ R', Le c R R' ∧ TupIn R' (.ref x) a ∧ St c ns L vs X R' Z h :=
  ⟨_, (Le.cons _).trans (Le.cons _), ⟨x, il, n1, n2, t1, iv, rfl, .tail _ (.head _), .head _, hi, ok⟩, S.melt.melt⟩

theorem c_plain {a : Va} {v : Value} (P : Pk c) (S : St c ns L vs X R Z h) (hF : FnAt c f "_law_plain" (stm 112) []) (hA : Rm 1 A) (hv : VecIn c R v a)
    (k : ∀ w R' h', Le c R R' → TupIn R' w a → St c ns L vs X R' Z h' → Q w h') : W c A (call (.ref f) [v]) Q E h := by
  have B := P.B
  have C1 := P.vecF
  obtain ⟨kd, it⟩ := a
  obtain ⟨x, dx, il, tk, n1, n2, t1, sh, lo, iv, rfl, h1, h2, h3, h5, h4⟩ := hv
  dsimp only at h2
  ktn_call sc_law_plain (bnd_law_plain _)
  ktf_call "run"
  obtain ⟨R', l, w, S'⟩ := TupIn.made (a := ⟨kd, it⟩) (by ktf_call "asm") h5 h4
  exact k _ _ _ l w (by ktf_call "lv")

theorem c_truth {a : Va} {v : Value} (P : Pk c) (S : St c ns L vs X R Z h) (hF : FnAt c f "_law_truth" (stm 114) []) (hA : Rm 1 A) (hv : TupIn R v a)
    (k : ∀ w h', It w (truO a.it) → St c ns L vs X R Z h' → Q w h') : W c A (call (.ref f) [v]) Q E h := by
  have B := P.B
  obtain ⟨kd, it⟩ := a
  obtain ⟨x, il, n1, n2, t1, iv, rfl, h1, h2, h5, h4⟩ := hv
  dsimp only at h1 h5 k
  replace h4 : kd = "logical" ∨ kd = "integer" := h4
  ktn_call sc_law_truth (bnd_law_truth _)
  rcases it with _ | i
  · cases h5
    rcases h4 with rfl | rfl
    · ktf_call "run"
      exact k _ _ rfl (by ktf_call "lv1")
    · ktf_call "run"
      exact k _ _ rfl (by ktf_call "lv1")
  · obtain ⟨t, rfl⟩ := h5
    by_cases e : i = 0
    · subst e
      rcases h4 with rfl | rfl
      · ktf_call "run"
        exact k _ _ ⟨_, rfl⟩ (by ktf_call "lv1")
      · ktf_call "run"
        exact k _ _ ⟨_, rfl⟩ (by ktf_call "lv1")
    · have e' : (i != 0) = true := by simpa using e
      rcases h4 with rfl | rfl
      · ktf_call "run"
        exact k _ _ (by simp [truO, It, e, retV]) (by ktf_call "lv1")
      · ktf_call "run"
        exact k _ _ (by simp [truO, It, e, retV]) (by ktf_call "lv1")
end
section
variable {c : Cx} {A : Around} {E : Value → Heap → Prop} {h : Heap} {ns : List Str} {L f : Addr} {vs : List (Option Value)} {X Y R Z : Led} {Q : Value → Heap → Prop}
theorem c_joined {nm : Str} {tn : Tok} {x y : Option Int} {u v : Value} (B : Base c) (S : St c ns L vs X R Z h) (hF : FnAt c f "_law_joined" (stm 115) []) (hA : Rm 1 A) (hn : nm = "&&" ∨ nm = "||") (hx : It u x) (hy : It v y)
    (k : ∀ w h', It w (if nm = "&&" then andO x y else orO x y) → St c ns L vs X R Z h' → Q w h') : W c A (call (.ref f) [.str nm tn, u, v]) Q E h := by
  ktn_call sc_law_joined (bnd_law_joined _ _ _)
  rcases hn with rfl | rfl
  · rw [if_pos rfl] at k
    rcases x with _ | i
    · cases hx
      rcases y with _ | j
      · cases hy
        ktf_call "run"
        exact k _ _ rfl (by ktf_call "lv2")
      · obtain ⟨t, rfl⟩ := hy
        ktf_call "run"
        rw [any2]; simp only [eqv_ni, eqv_ii, Bool.false_or]
        by_cases e : j = 0
        · subst e
          ktf_call "run"
          exact k _ _ ⟨_, rfl⟩ (by ktf_call "lv1")
        · have e' : (j == 0) = false := by simpa using e
          ktf_call "run"
          exact k _ _ (by simp [andO, e, It, retV]) (by ktf_call "lv2")
    · obtain ⟨t, rfl⟩ := hx
      rcases y with _ | j
      · cases hy
        ktf_call "run"
        rw [any2]; simp only [eqv_ni, eqv_ii, Bool.or_false]
        by_cases e : i = 0
        · subst e
          ktf_call "run"
          exact k _ _ (by simp [andO, It, retV]) (by ktf_call "lv1")
        · have e' : (i == 0) = false := by simpa using e
          ktf_call "run"
          exact k _ _ (by simp [andO, e, It, retV]) (by ktf_call "lv2")
      · obtain ⟨t', rfl⟩ := hy
        ktf_call "run"
        rw [any2]; simp only [eqv_ii]
        by_cases e : i = 0
        · subst e
          rw [show (((0 : Int) == 0) || (j == 0)) = true by simp]
          ktf_call "run"
          exact k _ _ (by simp [andO, It, retV]) (by ktf_call "lv1")
        · by_cases e2 : j = 0
          · subst e2
            rw [show ((i == 0) || ((0 : Int) == 0)) = true by simp]
            ktf_call "run"
            exact k _ _ (by simp [andO, It, retV]) (by ktf_call "lv1")
          · rw [show ((i == 0) || (j == 0)) = false by simp [e, e2]]
            ktf_call "run"
            exact k _ _ (by simp [andO, e, e2, It, retV]) (by ktf_call "lv2")
  · rw [if_neg (by decide)] at k
    rcases x with _ | i
    · cases hx
      rcases y with _ | j
      · cases hy
        ktf_call "run"
        exact k _ _ rfl (by ktf_call "lv2")
      · obtain ⟨t, rfl⟩ := hy
        ktf_call "run"
        rw [any2]; simp only [eqv_ni, eqv_ii, Bool.false_or]
        by_cases e : j = 1
        · subst e
          ktf_call "run"
          exact k _ _ ⟨_, rfl⟩ (by ktf_call "lv1")
        · have e' : (j == 1) = false := by simpa using e
          ktf_call "run"
          exact k _ _ (by simp [orO, e, It, retV]) (by ktf_call "lv2")
    · obtain ⟨t, rfl⟩ := hx
      rcases y with _ | j
      · cases hy
        ktf_call "run"
        rw [any2]; simp only [eqv_ni, eqv_ii, Bool.or_false]
        by_cases e : i = 1
        · subst e
          ktf_call "run"
          exact k _ _ (by simp [orO, It, retV]) (by ktf_call "lv1")
        · have e' : (i == 1) = false := by simpa using e
          ktf_call "run"
          exact k _ _ (by simp [orO, e, It, retV]) (by ktf_call "lv2")
      · obtain ⟨t', rfl⟩ := hy
        ktf_call "run"
        rw [any2]; simp only [eqv_ii]
        by_cases e : i = 1
        · subst e
          rw [show (((1 : Int) == 1) || (j == 1)) = true by simp]
          ktf_call "run"
          exact k _ _ (by simp [orO, It, retV]) (by ktf_call "lv1")
        · by_cases e2 : j = 1
          · subst e2
            rw [show ((i == 1) || ((1 : Int) == 1)) = true by simp]
            ktf_call "run"
            exact k _ _ (by simp [orO, It, retV]) (by ktf_call "lv1")
          · rw [show ((i == 1) || (j == 1)) = false by simp [e, e2]]
            ktf_call "run"
            exact k _ _ (by simp [orO, e, e2, It, retV]) (by ktf_call "lv2")
end
end
noncomputable section
section
variable {α : Type} {c : Cx} {A : Around} {E : Value → Heap → Prop} {h h' : Heap} {ns ns' gs os : List Str} {L f C : Addr} {vs vs' : List (Option Value)} {X X' R Z : Led} {env : Env} {I : Addr} {o o' : Obj}
/-- what a comprehension of _law_plain is about -/
def LcK (c : Cx) (L : Addr) (Q : Value → Heap → Prop) (x : Value) (h : Heap) : Prop := ∃ ns vs X R Z D its n as, x = .ref D ∧ St c ns L vs X R Z h ∧ Has D (listOf its.toArray n) X ∧ its.length ≤ 100 ∧ All2 (VecIn c R) its as ∧
  ∀ T ts n' R' h', Le c R R' → All2 (TupIn R') ts as → St c ns L vs ((T, listOf ts.toArray n') :: X) R' Z h' → Q (.ref T) h'
theorem lck {D : Addr} {its : List Value} {n : Nat} {as : List Va} {Q : Value → Heap → Prop} (S : St c ns L vs X R Z h) (hD : Has D (listOf its.toArray n) X) (hz : its.length ≤ 100) (ha : All2 (VecIn c R) its as)
    (q : ∀ T ts n' R' h', Le c R R' → All2 (TupIn R') ts as → St c ns L vs ((T, listOf ts.toArray n') :: X) R' Z h' → Q (.ref T) h') : LcK c L Q (.ref D) h := ⟨ns, vs, X, R, Z, D, its, n, as, rfl, S, hD, hz, ha, q⟩

theorem w_plains {name : Str} {scope sc2 : Scope} {cd : Value} {iter : Expr} {p1 p2 p3 p4 pos : Pos} {Q : Value → Heap → Prop} (P : Pk c) (hh : A.handled = none) (hA : Rm 1 A) (sc : Sc sc2 ["v"] ["_law_plain"]) (hfree : ∀ x ∈ sc2.names, x.2 ≠ .free)
    (hnames : ∀ x ∈ sc2.names, x.2 = .local → sc2.names.lookup x.1 = some .local) (hs : ∀ x, foldedSetIterable iter (envOf name scope L f cd) x = pure x)
    (q : W c A (eval iter (envOf name scope L f cd)) (LcK c L Q) E h) :
    W c A (eval (.ListComp (.Call (.Name "_law_plain" p1) [.Name "v" p2] [] p3) [⟨.Name "v" p4, iter, [], 0⟩] sc2 pos) (envOf name scope L f cd)) Q E h := fun tk => by
  refine wpAny_ListComp hfree sc.k hnames (wpAny_mono (q tk) (fun x s ⟨h1, t1, e1, k⟩ => ?_) id_) hs
  subst e1
  obtain ⟨ns, vs, X, R, Z, D, its, n, as, rfl, S, hD, hz, ha, k⟩ := k
  refine wpAny_mono (i_lst (E := E) (Q := fun it h => ∃ I o, it = .ref I ∧ LIt o D 0 ∧ St c ns L vs ((I, o) :: X) R Z h) S hD.in3 (fun I o h' a b => ⟨I, o, rfl, a, b⟩) t1) (fun it s ⟨h2, t2, e2, k2⟩ => ?_) id_
  subst e2
  obtain ⟨I, o, rfl, ho, S2⟩ := k2
  refine wpAny_mono (r_newL (E := E) (us := []) (Q := fun acc h => ∃ T, acc = .ref T ∧ St c ns L vs ((T, listOf ([] : List Value).toArray 0) :: (I, o) :: X) R Z h) S2 (by decide) (fun T h' a => ⟨T, rfl, a⟩) t2) (fun acc s ⟨h3, t3, e3, k3⟩ => ?_) id_
  subst e3
  obtain ⟨T, rfl, S3⟩ := k3
  refine wpAny_newFunctionEnv (binds := []) sc.cell (by intro y hy; cases hy) (fun h4 hns hsb => ?_) sc.k
  have hk4 : ∀ b o, h3.get? b = some o → h4.get? b = some o := fun b o e => hsb.extBut b o (Nat.ne_of_lt (Heap.lt_size e)) (Heap.get?_push_of_some _ e)
  obtain ⟨oL, FL, S4⟩ := S3.enter (ns' := ["v"]) (vs' := [none]) hns hk4 (.cons rfl .nil)
  obtain ⟨C, hC⟩ : ∃ C, C = (c.st h3 t3).heap.objs.size := ⟨_, rfl⟩
  rw [← hC] at hns ⊢
  replace S4 : St c ["v"] C [none] ((T, listOf ([] : List Value).toArray 0) :: (I, o) :: X) R ((L, oL) :: Z) h4 := hC ▸ S4
  obtain ⟨cenv, hce⟩ : ∃ cenv : Env, cenv = { scope := sc2, locals := C, globals := mainGlobals, cells := [], qual := (envOf name scope L f cd).qual, func := none, code := cd, frame := some L, builtins := builtinsNs } := ⟨_, rfl⟩
  have S5 := S4.perm (X' := (I, o) :: (T, listOf ([] : List Value).toArray 0) :: X) (R' := R) (Z' := (L, oL) :: Z) (by exact List.Perm.swap _ _ _)
  show codeAny _ _ (.compStart _ 0 (.ref I) (.ref T) { scope := sc2, locals := C, globals := mainGlobals, cells := [], qual := (envOf name scope L f cd).qual, func := none, code := cd, frame := some L, builtins := builtinsNs }) _ (c.st h4 t3)
  rw [← hce]
  have hCe : cenv.locals = C := by rw [hce]
  obtain ⟨g, hg, hgF⟩ := P.plain
  have loop : ∀ t, codeAny c.M A (.compLoop (.ListComp (.Call (.Name "_law_plain" p1) [.Name "v" p2] [] p3) [⟨.Name "v" p4, iter, [], 0⟩] sc2 pos) 0 (.ref I) (.ref T) cenv) (fun r s' => ∃ m, s'.heap.Ns C m ∧ ∀ h', Heap.SameBut C s'.heap h' →
      match r with | .ok _ => up c Q (.ref T) { s' with heap := h' } | .error x => wpAny c.M A (passOn "comprehension.variables-let-go" x cenv) (up c Q) (up c E) { s' with heap := h' }) (c.st h4 t) := by
    intro t
    refine codeAny_compLoop_list (fun n s => ∃ h t ts R' i o' vv k, s = c.st h t ∧ i + n = its.length ∧ LIt o' D i ∧ Le c R R' ∧ All2 (TupIn R') ts (as.take i) ∧ St c ["v"] C [vv] ((I, o') :: (T, listOf ts.toArray k) :: X) R' ((L, oL) :: Z) h) ?_ its.length
      ⟨h4, t, [], R, 0, o, none, 0, rfl, Nat.zero_add _, ho, .refl, .nil, S5⟩
    rintro n s ⟨h, t, ts, R', i, o', vv, k', rfl, hi, ho', le, hts, S⟩
    have hD' : (D, listOf its.toArray _) ∈ all3 ((T, listOf ts.toArray k') :: X) R' ((L, oL) :: Z) := (Has.tail hD).in3
    cases hv : its[i]? with
    | none =>
      have hil : its.length ≤ i := List.getElem?_eq_none_iff.mp hv
      refine wpAny_mono (n_lstE (Q := fun r h' => r = none ∧ St c ["v"] C [vv] ((T, listOf ts.toArray k') :: X) R' ((L, oL) :: Z) h') (E := fun _ _ => False) hh S ho' hD' hv (fun h' a => ⟨rfl, a⟩) t) (fun r s ⟨h5, t5, e5, k5⟩ => ?_) (fun _ _ ⟨_, _, _, x⟩ => x.elim)
      subst e5
      obtain ⟨rfl, S6⟩ := k5
      obtain ⟨m6, F6, _⟩ := S6.fr
      refine ⟨m6, F6.ns, fun h' hs => up_of (k _ _ _ _ _ le ?_ (S6.exit FL hs))⟩
      have : as.take i = as := List.take_of_length_le (by rw [← ha.len]; exact hil)
      rw [this] at hts; exact hts
    | some v =>
      obtain ⟨a, hav, hva⟩ := ha.at hv
      refine wpAny_mono (n_lst (Q := fun r h' => ∃ o'', r = some v ∧ LIt o'' D (i + 1) ∧ St c ["v"] C [vv] ((I, o'') :: (T, listOf ts.toArray k') :: X) R' ((L, oL) :: Z) h') (E := fun _ _ => False) S ho' hD' hv (fun o'' h' a b => ⟨o'', rfl, a, b⟩) t) (fun r s ⟨h5, t5, e5, k5⟩ => ?_) (fun _ _ ⟨_, _, _, x⟩ => x.elim)
      subst e5
      obtain ⟨o'', rfl, ho'', S6⟩ := k5
      obtain ⟨m6, F6, l6⟩ := S6.fr
      refine wpAny_assign_Name (wpAny_storeName_local (m := m6) (by rw [hce]; exact sc.loc "v" (.head _)) (by rw [hCe]; exact F6.ns) (fun h' hn hs => ?_) (by rw [hce]; show (sc2.kind == .class || (sc2.kind == .module && C != mainGlobals)) = false; rw [sc.k]; rfl))
      rw [hCe] at hn hs
      have S7 : St c ["v"] C [some v] ((I, o'') :: (T, listOf ts.toArray k') :: X) R' ((L, oL) :: Z) h' := ⟨⟨_, F6.set hn hs, l6.put (by decide) .head⟩, S6.nw.set hs, S6.nd⟩
      have nm : ∀ {pos : Pos} {Q : Value → Heap → Prop} {E : Value → Heap → Prop}, Q v h' → W c A (eval (.Name "v" pos) cenv) Q E h' := fun q tk => by
        obtain ⟨m, F, l⟩ := S7.fr
        exact wpAny_Name (wpAny_loadName_local (by rw [hce]; exact sc.k) (by rw [hce]; exact sc.loc "v" (.head _)) (by rw [hCe]; exact F.ns) (l.at .head) (up_of q)) (by decide)
      have el : W c A (eval (.Call (.Name "_law_plain" p1) [.Name "v" p2] [] p3) cenv) (fun w h'' => ∃ R'', Le c R' R'' ∧ TupIn R'' w a ∧ St c ["v"] C [some v] ((I, o'') :: (T, listOf ts.toArray k') :: X) R'' ((L, oL) :: Z) h'') (fun _ _ => False) h' := by
        refine w_call (fun tk => ?_)
        obtain ⟨m, F, l⟩ := S7.fr
        refine Name_function_global (by rw [hce]; exact sc.k) (by rw [hce]; exact sc.gl _ (.head _)) (loadGlobal_global (env := cenv) (by rw [hce]; exact P.B.g.keeps F.keep) hg (up_of ?_)) (by decide)
        refine cwith P.B hgF.keep.1 rfl rfl (w_args (nm (w_args0 ⟨S7.kin P.B, ?_⟩)) rfl)
        exact c_plain P S7 hgF hA (le.v _ _ hva) fun w R'' h'' l2 hw S8 => ⟨R'', l2, hw, S8⟩
      refine wpAny_mono (el _) (fun w s ⟨h6, t6, e6, k6⟩ => ?_) (fun _ _ ⟨_, _, _, x⟩ => x.elim)
      subst e6
      obtain ⟨R'', l2, hw, S8⟩ := k6
      have hlen : ts.length ≤ 1000 := by
        have h1 := hts.len
        have h2 : (as.take i).length ≤ as.length := by rw [List.length_take]; exact Nat.min_le_right _ _
        have := ha.len
        omega
      refine wpAny_mono (r_append (E := fun _ _ => False) (Q := fun _ h => St c ["v"] C [some v] ((I, o'') :: (T, listOf (ts ++ [w]).toArray (k' + 1)) :: X) R'' ((L, oL) :: Z) h) S8 (.tail .head) hlen (fun h' a => a) t6) (fun _ s ⟨h7, t7, e7, S9⟩ => ?_) (fun _ _ ⟨_, _, _, x⟩ => x.elim)
      subst e7
      refine ⟨n - 1, ?_, h7, t7, ts ++ [w], R'', i + 1, o'', _, _, rfl, ?_, ho'', le.trans l2, ?_, S9⟩
      · have := (List.getElem?_eq_some_iff.mp hv).1; omega
      · have := (List.getElem?_eq_some_iff.mp hv).1; omega
      · have : as.take (i + 1) = as.take i ++ [a] := by rw [List.take_add_one, hav]; rfl
        rw [this]
        exact (hts.imp (fun v a x => l2.t v a x)).snoc hw
  subst hce
  exact codeAny_compStart_list (loop _) (wpAny_pyIter_listiter (l := D) (i := 0) ⟨o, (S5.nw (I, o) (.head _)).1, ho.1, ho.2⟩ (loop _))
end
end
local macro_rules | `(tactic| ktf_call "lc") => `(tactic| ((refine' w_plains ?P ?hh ?A ?sc ?f ?n ?s ?_); (case P => ktf_call "asm"); (case hh => ktf_call "asm"); (case A => ktf_call "rm"); (case sc => refine ⟨?_, ?_, ?_, ?_, ?_, ?_, ?_, ?_⟩ <;> decide +kernel); (case f => decide +kernel); (case n => decide +kernel); (case s => intro _; rfl)))
noncomputable section
section
variable {c : Cx} {A : Around} {E : Value → Heap → Prop} {h : Heap} {ns : List Str} {L f : Addr} {vs : List (Option Value)} {X Y R Z : Led} {Q : Value → Heap → Prop}
theorem c_row {so sl : Addr} {its : List Value} {a b pl en : Int} {hg : Nat} {ta tb t1 t2 t3 : Tok} {n1 n2 : Nat} (P : Pk c) (S : St c ns L vs (SrcX so sl its a b ta tb n1 n2 Y) R Z h) (hF : FnAt c f "_law_row" (stm 113) []) (hA : Rm 2 A)
    (ha : 0 ≤ a) (hb : 0 ≤ b ∧ b < 2147483563) (hi : AllInt its) (hz : its.length ≤ 100) (hg' : hg ≤ 100) (hp : pl < en)
    (k : ∀ w r a' ta' b' tb' its' n1' n2' h' R', r.ok hg pl en → RowIn R' w r → Le c R R' → 0 ≤ a' → 0 ≤ b' ∧ b' < 2147483563 → AllInt its' → its'.length ≤ 100 → St c ns L vs (SrcX so sl its' a' b' ta' tb' n1' n2' Y) R' Z h' → Q (.ref w) h') :
    W c A (call (.ref f) [.ref so, .int hg t1, .int pl t2, .int en t3]) Q E h := by
  have B := P.B
  have G1 := P.take
  ktn_call sc_law_row (bnd_law_row _ _ _ _)
  ktf_call "run"
  refine c_take P (by ktf_call "asm") (by ktf_call "asm") (by ktf_call "rm") ha hb (by decide) (by decide) hi hz fun i1 t a ta b tb its n1 n2 h' l1 u1 ha hb hi hz S' => ?_
  ktf_call "run"
  refine c_take P (by ktf_call "asm") (by ktf_call "asm") (by ktf_call "rm") ha hb (by decide) (by decide) hi hz fun i2 t a ta b tb its n1 n2 h' l2 u2 ha hb hi hz S' => ?_
  ktf_call "run"
  refine Br.join (fun v => ∃ tg tt, v = .int tg tt ∧ pl + 1 ≤ tg ∧ tg ≤ en) (fun e => ?_) (fun e => ?_) ?_
  · have e := of_decide_eq_true e
    ktf_call "run"
    exact ⟨⟨_, _, rfl, by omega, by omega⟩, rfl⟩
  · ktf_call "run"
    exact ⟨⟨_, _, rfl, by omega, by omega⟩, rfl⟩
  rintro _ ⟨tg, tt, rfl, g1, g2⟩
  ktf_call "run"
  by_cases e3 : (hg : Int) < 3
  · have e4 := decide_eq_true e3
    ktf_call "run"
    refine c_take P (by ktf_call "asm") (by ktf_call "asm") (by ktf_call "rm") ha hb (by decide) (by decide) hi hz fun i3 t a ta b tb its n1 n2 h' l3 u3 ha hb hi hz S' => ?_
    ktf_call "run"
    exact k _ (.const i3) _ _ _ _ _ _ _ _ _ ⟨l3, u3⟩ ⟨_, _, 0, _, .head _⟩ (Le.cons _) ha hb hi hz (by apply St.melt; ktf_call "lv")
  have e4 := decide_eq_false e3
  have g3 : 3 ≤ hg := by omega
  have g4 : (hg : Int) < 1000 := by omega
  ktf_call "run"
  have cs : i1 = 0 ∨ i1 = 1 ∨ i1 = 2 ∨ i1 = 3 ∨ i1 = 4 ∨ i1 = 5 ∨ i1 = 6 ∨ i1 = 7 ∨ i1 = 8 := by omega
  rcases cs with rfl | rfl | rfl | rfl | rfl | rfl | rfl | rfl | rfl
  · ktf_call "run"
    refine c_take P (by ktf_call "asm") (by ktf_call "asm") (by ktf_call "rm") ha hb (by decide) (by decide) hi hz fun i3 t a ta b tb its n1 n2 h' l3 u3 ha hb hi hz S' => ?_
    ktf_call "run"
    exact k _ (.const i3) _ _ _ _ _ _ _ _ _ ⟨l3, u3⟩ ⟨_, _, 0, _, .head _⟩ (Le.cons _) ha hb hi hz (by apply St.melt; ktf_call "lv")
  · ktf_call "run"
    refine c_take P (by ktf_call "asm") (by ktf_call "asm") (by ktf_call "rm") ha hb (by decide) (by decide) hi hz fun i3 t a ta b tb its n1 n2 h' l3 u3 ha hb hi hz S' => ?_
    ktf_call "run"
    rcases (by omega : i3 = 0 ∨ i3 = 1) with rfl | rfl
    · ktf_call "run"
      exact k _ (.var "a") _ _ _ _ _ _ _ _ _ ⟨.inl rfl, g3⟩ ⟨_, _, 0, _, .head _⟩ (Le.cons _) ha hb hi hz (by apply St.melt; ktf_call "lv")
    · ktf_call "run"
      exact k _ (.var "b") _ _ _ _ _ _ _ _ _ ⟨.inr rfl, g3⟩ ⟨_, _, 0, _, .head _⟩ (Le.cons _) ha hb hi hz (by apply St.melt; ktf_call "lv")
  · ktf_call "run"
    refine c_take P (by ktf_call "asm") (by ktf_call "asm") (by ktf_call "rm") ha hb (by omega) g4 hi hz fun i3 t a ta b tb its n1 n2 h' l3 u3 ha hb hi hz S' => ?_
    ktf_call "run"
    exact k _ (.pick i3) _ _ _ _ _ _ _ _ _ ⟨l3, u3, g3⟩ ⟨_, _, 0, _, .head _⟩ (Le.cons _) ha hb hi hz (by apply St.melt; ktf_call "lv")
  · ktf_call "run"
    exact k _ .drop _ _ _ _ _ _ _ _ _ g3 ⟨_, _, 0, _, .head _⟩ (Le.cons _) ha hb hi hz (by apply St.melt; ktf_call "lv")
  · ktf_call "run"
    refine c_take P (by ktf_call "asm") (by ktf_call "asm") (by ktf_call "rm") ha hb (by decide) (by decide) hi hz fun i3 t a ta b tb its n1 n2 h' l3 u3 ha hb hi hz S' => ?_
    ktf_call "run"
    rcases (by omega : i3 = 0 ∨ i3 = 1) with rfl | rfl
    · ktf_call "run"
      exact k _ (.set "a") _ _ _ _ _ _ _ _ _ ⟨.inl rfl, g3⟩ ⟨_, _, _, _, .head _⟩ (Le.cons _) ha hb hi hz (by apply St.melt; ktf_call "lv")
    · ktf_call "run"
      exact k _ (.set "b") _ _ _ _ _ _ _ _ _ ⟨.inr rfl, g3⟩ ⟨_, _, _, _, .head _⟩ (Le.cons _) ha hb hi hz (by apply St.melt; ktf_call "lv")
  · ktf_call "run"
    exact k _ (.jump tg) _ _ _ _ _ _ _ _ _ ⟨g1, g2, g3⟩ ⟨_, _, 0, _, .head _⟩ (Le.cons _) ha hb hi hz (by apply St.melt; ktf_call "lv")
  · ktf_call "run"
    exact k _ (.unless tg) _ _ _ _ _ _ _ _ _ ⟨g1, g2, g3⟩ ⟨_, _, _, _, .head _⟩ (Le.cons _) ha hb hi hz (by apply St.melt; ktf_call "lv")
  · ktf_call "run"
    obtain ⟨R1, hm, le1, S2⟩ := St.meltX (by ktf_call "asm")
    refine c_take P (by ktf_call "asm") (by ktf_call "asm") (by ktf_call "rm") ha hb (by decide) (by decide) hi hz fun i3 t a ta b tb its n1 n2 h' l3 u3 ha hb hi hz S' => ?_
    ktf_call "run"
    rcases (by omega : i3 = 0 ∨ i3 = 1) with rfl | rfl
    · ktf_call "run"
      exact k _ (.left "and" tg) _ _ _ _ _ _ _ _ _ ⟨.inl rfl, g1, g2, g3⟩ ⟨_, _, _, _, .head _⟩ (le1.trans (Le.cons _)) ha hb hi hz (by apply St.melt; ktf_call "lv")
    · ktf_call "run"
      exact k _ (.left "or" tg) _ _ _ _ _ _ _ _ _ ⟨.inr rfl, g1, g2, g3⟩ ⟨_, _, _, _, .head _⟩ (le1.trans (Le.cons _)) ha hb hi hz (by apply St.melt; ktf_call "lv")
  · ktf_call "run"
    obtain ⟨R1, hm, le1, S2⟩ := St.meltX (by ktf_call "asm")
    refine c_take P (by ktf_call "asm") (by ktf_call "asm") (by ktf_call "rm") ha hb (by decide) (by decide) hi hz fun i3 t a ta b tb its n1 n2 h' l3 u3 ha hb hi hz S' => ?_
    ktf_call "run"
    rcases (by omega : i3 = 0 ∨ i3 = 1) with rfl | rfl
    · ktf_call "run"
      exact k _ (.truth "&&") _ _ _ _ _ _ _ _ _ ⟨.inl rfl, g3⟩ ⟨_, _, _, _, .head _⟩ (le1.trans (Le.cons _)) ha hb hi hz (by apply St.melt; ktf_call "lv")
    · ktf_call "run"
      exact k _ (.truth "||") _ _ _ _ _ _ _ _ _ ⟨.inr rfl, g3⟩ ⟨_, _, _, _, .head _⟩ (le1.trans (Le.cons _)) ha hb hi hz (by apply St.melt; ktf_call "lv")
end
end
noncomputable section
section
variable {c : Cx} {A : Around} {E : Value → Heap → Prop} {h : Heap} {ns : List Str} {L f : Addr} {vs : List (Option Value)} {X Y R Z : Led} {Q : Value → Heap → Prop}
variable {tst nm cst rw : Addr} {tk csl : List Value} {n nc nrw : Nat} {nmO : Obj} {kvs : List (Str × Value)} {pl : Int} {tp t1 t2 t3 : Tok}
abbrev DX (tst nm cst : Addr) (tk csl : List Value) (n nc : Nat) (nmO : Obj) (Y : Led) : Led := (tst, listOf tk.toArray n) :: (nm, nmO) :: (cst, listOf csl.toArray nc) :: Y

theorem d_const {i : Int} {v : Value} (B : Base c) (S : St c ns L vs (DX tst nm cst tk csl n nc nmO Y) R Z h) (hF : FnAt c f "_law_done" (stm 116) []) (hA : Rm 2 A) (hr : RowIn R rw (.const i)) (hz : tk.length ≤ 1000)
    (h0 : 0 ≤ i) (hi : i < 2 ^ 63) (hv : csl[i.toNat]? = some v)
    (k : ∀ n' t h', St c ns L vs (DX tst nm cst (tk ++ [v]) csl n' nc nmO Y) R Z h' → Q (.int (pl + 1) t) h') : W c A (call (.ref f) [.ref rw, .ref cst, .ref tst, .ref nm, .int pl tp]) Q E h := by
  obtain ⟨t1, t2, t3, nr, hr⟩ := hr
  dsimp only [Rw.tup] at hr
  ktn_call sc_law_done (bnd_law_done _ _ _ _ _)
  ktf_call "run"
  exact k _ _ _ (by ktf_call "lv")

theorem d_var {x : Str} {v : Value} (B : Base c) (S : St c ns L vs (DX tst nm cst tk csl n nc nmO Y) R Z h) (hF : FnAt c f "_law_done" (stm 116) []) (hA : Rm 2 A) (hr : RowIn R rw (.var x)) (hz : tk.length ≤ 1000)
    (hD : nmO.IsDictOf (strKind c.prog c.w) kvs) (hv : valueAt kvs x = some v)
    (k : ∀ n' t h', St c ns L vs (DX tst nm cst (tk ++ [v]) csl n' nc nmO Y) R Z h' → Q (.int (pl + 1) t) h') : W c A (call (.ref f) [.ref rw, .ref cst, .ref tst, .ref nm, .int pl tp]) Q E h := by
  obtain ⟨t1, t2, t3, nr, hr⟩ := hr
  dsimp only [Rw.tup] at hr
  ktn_call sc_law_done (bnd_law_done _ _ _ _ _)
  ktf_call "run"
  exact k _ _ _ (by ktf_call "lv")

theorem d_pick {i : Int} {v : Value} (P : Pk c) (S : St c ns L vs (DX tst nm cst tk csl n nc nmO Y) R Z h) (hF : FnAt c f "_law_done" (stm 116) []) (hA : Rm 2 A) (hr : RowIn R rw (.pick i)) (hz : tk.length ≤ 1000)
    (h0 : 0 ≤ i) (hi : i < tk.length) (hv : tk[tk.length - 1 - i.toNat]? = some v)
    (k : ∀ n' t h', St c ns L vs (DX tst nm cst (tk ++ [v]) csl n' nc nmO Y) R Z h' → Q (.int (pl + 1) t) h') : W c A (call (.ref f) [.ref rw, .ref cst, .ref tst, .ref nm, .int pl tp]) Q E h := by
  have B := P.B
  obtain ⟨t1, t2, t3, nr, hr⟩ := hr
  dsimp only [Rw.tup] at hr
  have g0 : 0 ≤ (tk.length : Int) - 1 - i := by omega
  have g1 : (tk.length : Int) - 1 - i < 2 ^ 63 := by omega
  have g2 : tk[((tk.length : Int) - 1 - i).toNat]? = some v := by rw [← hv]; congr 1; omega
  ktn_call sc_law_done (bnd_law_done _ _ _ _ _)
  ktf_call "run"
  exact k _ _ _ (by ktf_call "lv")

theorem d_drop {v : Value} (B : Base c) (S : St c ns L vs (DX tst nm cst (tk ++ [v]) csl n nc nmO Y) R Z h) (hF : FnAt c f "_law_done" (stm 116) []) (hA : Rm 2 A) (hr : RowIn R rw .drop) (hz : tk.length ≤ 1000)
    (k : ∀ n' t h', St c ns L vs (DX tst nm cst tk csl n' nc nmO Y) R Z h' → Q (.int (pl + 1) t) h') : W c A (call (.ref f) [.ref rw, .ref cst, .ref tst, .ref nm, .int pl tp]) Q E h := by
  obtain ⟨t1, t2, t3, nr, hr⟩ := hr
  dsimp only [Rw.tup] at hr
  ktn_call sc_law_done (bnd_law_done _ _ _ _ _)
  ktf_call "run"
  exact k _ _ _ (by ktf_call "lv")

theorem d_set {x : Str} {v : Value} (B : Base c) (S : St c ns L vs (DX tst nm cst (tk ++ [v]) csl n nc nmO Y) R Z h) (hF : FnAt c f "_law_done" (stm 116) []) (hA : Rm 2 A) (hr : RowIn R rw (.set x))
    (hD : nmO.IsDictOf (strKind c.prog c.w) kvs) (hk : kvs.length ≤ 1000)
    (k : ∀ nmO' t h', nmO'.IsDictOf (strKind c.prog c.w) (stored kvs x v) → St c ns L vs (DX tst nm cst (tk ++ [v]) csl n nc nmO' Y) R Z h' → Q (.int (pl + 1) t) h') : W c A (call (.ref f) [.ref rw, .ref cst, .ref tst, .ref nm, .int pl tp]) Q E h := by
  obtain ⟨t1, t2, t3, nr, hr⟩ := hr
  dsimp only [Rw.tup] at hr
  ktn_call sc_law_done (bnd_law_done _ _ _ _ _)
  ktf_call "run"
  exact k _ _ _ (by ktf_call "asm") (by ktf_call "lv")

theorem d_jump {i : Int} (B : Base c) (S : St c ns L vs (DX tst nm cst tk csl n nc nmO Y) R Z h) (hF : FnAt c f "_law_done" (stm 116) []) (hA : Rm 2 A) (hr : RowIn R rw (.jump i))
    (k : ∀ t h', St c ns L vs (DX tst nm cst tk csl n nc nmO Y) R Z h' → Q (.int i t) h') : W c A (call (.ref f) [.ref rw, .ref cst, .ref tst, .ref nm, .int pl tp]) Q E h := by
  obtain ⟨t1, t2, t3, nr, hr⟩ := hr
  dsimp only [Rw.tup] at hr
  ktn_call sc_law_done (bnd_law_done _ _ _ _ _)
  ktf_call "run"
  exact k _ _ (by ktf_call "lv")

theorem d_unless {i : Int} {a : Va} {v : Value} (P : Pk c) (S : St c ns L vs (DX tst nm cst (tk ++ [v]) csl n nc nmO Y) R Z h) (hF : FnAt c f "_law_done" (stm 116) []) (hA : Rm 2 A) (hr : RowIn R rw (.unless i)) (hz : tk.length ≤ 1000) (hv : TupIn R v a)
    (k : ∀ n' t h', St c ns L vs (DX tst nm cst tk csl n' nc nmO Y) R Z h' → Q (.int (match a.it with | none => -1 | some b => if b = 0 then i else pl + 1) t) h') : W c A (call (.ref f) [.ref rw, .ref cst, .ref tst, .ref nm, .int pl tp]) Q E h := by
  have B := P.B
  have G1 := P.truth
  obtain ⟨t1, t2, t3, nr, hr⟩ := hr
  dsimp only [Rw.tup] at hr
  ktn_call sc_law_done (bnd_law_done _ _ _ _ _)
  ktf_call "run"
  refine c_truth P (by ktf_call "asm") (by ktf_call "asm") (by ktf_call "rm") hv fun w h' hw S' => ?_
  obtain ⟨kd, it⟩ := a
  dsimp only at k hw
  rcases it with _ | b
  · cases hw
    ktf_call "run"
    exact k _ _ _ (by ktf_call "lv")
  · obtain ⟨t, rfl⟩ := hw
    dsimp only at k
    by_cases e : b = 0
    · subst e
      ktf_call "run"
      exact k _ _ _ (by ktf_call "lv")
    · rw [if_neg e] at k ⊢
      ktf_call "run"
      exact k _ _ _ (by ktf_call "lv")
end
end
noncomputable section
section
variable {c : Cx} {A : Around} {E : Value → Heap → Prop} {h : Heap} {ns : List Str} {L f : Addr} {vs : List (Option Value)} {X Y R Z : Led} {Q : Value → Heap → Prop}
variable {tst nm cst rw : Addr} {tk csl : List Value} {n nc nrw : Nat} {nmO : Obj} {kvs : List (Str × Value)} {pl : Int} {tp t1 t2 t3 : Tok}

theorem d_left {x : Str} {s i : Int} {a : Va} {v : Value} (P : Pk c) (S : St c ns L vs (DX tst nm cst (tk ++ [v]) csl n nc nmO Y) R Z h) (hF : FnAt c f "_law_done" (stm 116) []) (hA : Rm 2 A) (hr : RowIn R rw (.left x i)) (hz : tk.length ≤ 1000)
    (hn : x = "and" ∧ s = 0 ∨ x = "or" ∧ s = 1) (hv : TupIn R v a)
    (k : ∀ n' t h' R' v', Le c R R' → TupIn R' v' ⟨"logical", truO a.it⟩ → St c ns L vs (DX tst nm cst (tk ++ [v']) csl n' nc nmO Y) R' Z h' → Q (.int (if truO a.it = some s then i else pl + 1) t) h') : W c A (call (.ref f) [.ref rw, .ref cst, .ref tst, .ref nm, .int pl tp]) Q E h := by
  have B := P.B
  have G1 := P.truth
  obtain ⟨t1, t2, t3, nr, hr⟩ := hr
  dsimp only [Rw.tup] at hr
  ktn_call sc_law_done (bnd_law_done _ _ _ _ _)
  rcases hn with ⟨rfl, rfl⟩ | ⟨rfl, rfl⟩
  · ktf_call "run"
    refine c_truth P (by ktf_call "asm") (by ktf_call "asm") (by ktf_call "rm") hv fun w h' hw S' => ?_
    obtain ⟨o, ho⟩ : ∃ o, o = truO a.it := ⟨_, rfl⟩
    rw [← ho] at hw k
    clear ho
    rcases o with _ | b
    · cases hw
      ktf_call "run"
      obtain ⟨R1, l1, w1, S1⟩ := TupIn.made (a := ⟨"logical", none⟩) (St.drop (by ktf_call "asm")) rfl (.inl rfl)
      exact k _ _ _ _ _ l1 w1 (by apply Frm.leave; ktf_call "asm"; exact S1.drop)
    · obtain ⟨t, rfl⟩ := hw
      ktf_call "run"
      by_cases e : b = 0
      · subst e
        ktf_call "run"
        obtain ⟨R1, l1, w1, S1⟩ := TupIn.made (a := ⟨"logical", some 0⟩) (St.drop (by ktf_call "asm")) ⟨_, rfl⟩ (.inl rfl)
        exact k _ _ _ _ _ l1 w1 (by apply Frm.leave; ktf_call "asm"; exact S1.drop)
      · rw [if_neg (fun q => e (Option.some.inj q))] at k
        ktf_call "run"
        obtain ⟨R1, l1, w1, S1⟩ := TupIn.made (a := ⟨"logical", some b⟩) (St.drop (by ktf_call "asm")) ⟨_, rfl⟩ (.inl rfl)
        exact k _ _ _ _ _ l1 w1 (by apply Frm.leave; ktf_call "asm"; exact S1.drop)
  · ktf_call "run"
    refine c_truth P (by ktf_call "asm") (by ktf_call "asm") (by ktf_call "rm") hv fun w h' hw S' => ?_
    obtain ⟨o, ho⟩ : ∃ o, o = truO a.it := ⟨_, rfl⟩
    rw [← ho] at hw k
    clear ho
    rcases o with _ | b
    · cases hw
      ktf_call "run"
      obtain ⟨R1, l1, w1, S1⟩ := TupIn.made (a := ⟨"logical", none⟩) (St.drop (by ktf_call "asm")) rfl (.inl rfl)
      exact k _ _ _ _ _ l1 w1 (by apply Frm.leave; ktf_call "asm"; exact S1.drop)
    · obtain ⟨t, rfl⟩ := hw
      ktf_call "run"
      by_cases e : b = 1
      · subst e
        ktf_call "run"
        obtain ⟨R1, l1, w1, S1⟩ := TupIn.made (a := ⟨"logical", some 1⟩) (St.drop (by ktf_call "asm")) ⟨_, rfl⟩ (.inl rfl)
        exact k _ _ _ _ _ l1 w1 (by apply Frm.leave; ktf_call "asm"; exact S1.drop)
      · rw [if_neg (fun q => e (Option.some.inj q))] at k
        ktf_call "run"
        obtain ⟨R1, l1, w1, S1⟩ := TupIn.made (a := ⟨"logical", some b⟩) (St.drop (by ktf_call "asm")) ⟨_, rfl⟩ (.inl rfl)
        exact k _ _ _ _ _ l1 w1 (by apply Frm.leave; ktf_call "asm"; exact S1.drop)

theorem d_truth {x : Str} {a b : Va} {u v : Value} (P : Pk c) (S : St c ns L vs (DX tst nm cst ((tk ++ [u]) ++ [v]) csl n nc nmO Y) R Z h) (hF : FnAt c f "_law_done" (stm 116) []) (hA : Rm 2 A) (hr : RowIn R rw (.truth x)) (hz : tk.length ≤ 900)
    (hn : x = "&&" ∨ x = "||") (hU : TupIn R u a) (hV : TupIn R v b)
    (k : ∀ n' t h' R' v', Le c R R' → TupIn R' v' ⟨"logical", if x = "&&" then andO a.it (truO b.it) else orO a.it (truO b.it)⟩ → St c ns L vs (DX tst nm cst (tk ++ [v']) csl n' nc nmO Y) R' Z h' → Q (.int (pl + 1) t) h') : W c A (call (.ref f) [.ref rw, .ref cst, .ref tst, .ref nm, .int pl tp]) Q E h := by
  have B := P.B
  have G1 := P.truth
  have G2 := P.joined
  have z1 : (tk ++ [u]).length ≤ 1000 := by simp; omega
  have z2 : tk.length ≤ 1000 := by omega
  obtain ⟨t1, t2, t3, nr, hr⟩ := hr
  dsimp only [Rw.tup] at hr
  obtain ⟨y, il, n1, n2, ty, iv, rfl, h1, h2, h5, h4⟩ := hU
  ktn_call sc_law_done (bnd_law_done _ _ _ _ _)
  ktf_call "run"
  refine c_truth P (by ktf_call "asm") (by ktf_call "asm") (by ktf_call "rm") hV fun w h' hw S' => ?_
  obtain ⟨o, ho⟩ : ∃ o, o = truO b.it := ⟨_, rfl⟩
  rw [← ho] at hw k
  clear ho
  rcases o with _ | j
  · cases hw
    ktf_call "run"
    refine c_joined (y := none) B (by ktf_call "asm") (by ktf_call "asm") (by ktf_call "rm") hn h5 rfl fun w' h' hw' S' => ?_
    ktf_call "run"
    obtain ⟨R1, l1, w1, S1⟩ := TupIn.made (a := ⟨"logical", if x = "&&" then andO a.it none else orO a.it none⟩) (by ktf_call "asm") hw' (.inl rfl)
    exact k _ _ _ _ _ l1 w1 (by apply Frm.leave; ktf_call "asm"; exact S1.drop)
  · obtain ⟨t, rfl⟩ := hw
    ktf_call "run"
    refine c_joined (y := some j) B (by ktf_call "asm") (by ktf_call "asm") (by ktf_call "rm") hn h5 ⟨_, rfl⟩ fun w' h' hw' S' => ?_
    ktf_call "run"
    obtain ⟨R1, l1, w1, S1⟩ := TupIn.made (a := ⟨"logical", if x = "&&" then andO a.it (some j) else orO a.it (some j)⟩) (by ktf_call "asm") hw' (.inl rfl)
    exact k _ _ _ _ _ l1 w1 (by apply Frm.leave; ktf_call "asm"; exact S1.drop)
end
end
noncomputable section
section
variable {c : Cx} {A : Around} {E : Value → Heap → Prop} {h : Heap} {ns ns1 : List Str} {L L1 f : Addr} {vs vs1 : List (Option Value)} {X Y R Z Z1 : Led} {Q : Value → Heap → Prop} {env : Env} {l : List Env}
theorem fd {env' : Env} (hfr : A.frames = some l) : (A.deeper env').frames = some (env' :: l) := by
  show A.frames.map (env' :: ·) = _
  rw [hfr]; rfl
theorem c_conditionR {kd : Str} {v : Value} (P : Pk c) (RC : RefC c) (S : St c ns L vs X R Z h) (hF : FnAt c f "condition" (stm 35) []) (hA : Rm 5 A) (hv : VecIn c R v ⟨kd, none⟩)
    (hfr : A.frames = some (env :: l)) (hh : A.handled = none) (hsk : Stk c ns1 L1 vs1 Z1 (env :: l) L Z) (k : ∀ e h', Fly c (env :: l) e X R Z1 ns1 L1 vs1 h' → E (.ref e) h') : W c A (call (.ref f) [v]) Q E h := by
  have B := P.B
  have C1 := P.vecF
  have hv' := hv
  have G1 := P.length
  have G2 := P.is_atomic
  have G3 := P.to_logical
  obtain ⟨x, dx, il, tk, n1, n2, t1, sh, lo, iv, rfl, h1, h2, h3, h5, h4⟩ := hv
  dsimp only at h2
  replace h4 : kd = "logical" ∨ kd = "integer" := h4
  refine w_of_cw (cw_enter B S hF hA.lt sc_condition rfl rfl (bnd_condition _) fun L' h' cdv oL F' S' => ?_)
  have sc' := sc_condition
  have hA' : Rm 4 (A.deeper (envOf "condition" (scopeOf (stm 35)) L' f cdv)) := Rm.deeper hA
  have hfr' := fd (env' := envOf "condition" (scopeOf (stm 35)) L' f cdv) hfr
  have hsk' : Stk c ns1 L1 vs1 Z1 (envOf "condition" (scopeOf (stm 35)) L' f cdv :: env :: l) L' ((L, oL) :: Z) := .more rfl sc'.k F' hsk
  simp only [List.map_cons, List.map_nil, List.cons_append, List.nil_append] at S' sc'
  refine w_body (by with_unfolding_all rfl) ?_
  ktf_call "run"
  refine c_length P (by ktf_call "asm") (by ktf_call "asm") (by ktf_call "rm") hv' fun t h' S' => ?_
  ktf_call "run"
  refine c_is_atomic P (by ktf_call "asm") (by ktf_call "asm") (by ktf_call "rm") hv' fun h' S' => ?_
  ktf_call "run"
  refine c_to_logical (a := ⟨kd, none⟩) B (by ktf_call "asm") (by ktf_call "asm") (by ktf_call "rm") h4 h5 fun w h' hw S' => ?_
  cases hw
  rcases h4 with rfl | rfl
  · ktf_call "run"
    refine w_raise B RC hh (by ktf_call "asm") (by ktf_call "rm") sc' (by ktf_call "pos") fun e t D dO tO h' S' => ?_
    exact fly_first hfr' hsk' rfl S' fun h' F => k e h' F
  · ktf_call "run"
    refine w_raise B RC hh (by ktf_call "asm") (by ktf_call "rm") sc' (by ktf_call "pos") fun e t D dO tO h' S' => ?_
    exact fly_first hfr' hsk' rfl S' fun h' F => k e h' F

variable {m : Mc} {vis pl : Value} {nsk nrw : Nat} {frO : Obj} {kvs : List (Str × Value)} {rw : Addr} {t1 t2 t3 : Tok}
theorem c_pj_unlessR {i : Int} {kd : Str} {v : Value} {p : List Value} (P : Pk c) (RC : RefC c) (S : St c ns L vs (MX c m vis pl (p ++ [v]) nsk frO Y) R Z h) (hF : FnAt c f "perform_jump" (stm 101) []) (hA : Rm 6 A)
    (hr : (rw, tupOf [.str "unless" t1, .int i t2, .int 0 t3] nrw) ∈ R) (hz : p.length ≤ 1000) (hV : VecIn c R v ⟨kd, none⟩)
    (hfr : A.frames = some (env :: l)) (hh : A.handled = none) (hsk : Stk c ns1 L1 vs1 Z1 (env :: l) L Z)
    (k : ∀ e vis' nsk' h', Fly c (env :: l) e (MX c m vis' pl p nsk' frO Y) R Z1 ns1 L1 vs1 h' → E (.ref e) h') : W c A (call (.ref f) [.ref m.I, .ref m.r, .ref rw]) Q E h := by
  have B := P.B
  have C1 := P.runF
  have C2 := P.evaF
  have G1 := P.condition
  refine w_of_cw (cw_enter B S hF hA.lt sc_perform_jump rfl rfl (bnd_perform_jump _ _ _) fun L' h' cdv oL F' S' => ?_)
  have sc' := sc_perform_jump
  have hA' : Rm 5 (A.deeper (envOf "perform_jump" (scopeOf (stm 101)) L' f cdv)) := Rm.deeper hA
  have hfr' := fd (env' := envOf "perform_jump" (scopeOf (stm 101)) L' f cdv) hfr
  have hsk' : Stk c ns1 L1 vs1 Z1 (envOf "perform_jump" (scopeOf (stm 101)) L' f cdv :: env :: l) L' ((L, oL) :: Z) := .more rfl sc'.k F' hsk
  simp only [List.map_cons, List.map_nil, List.cons_append, List.nil_append] at S' sc'
  refine w_body (by with_unfolding_all rfl) ?_
  ktf_call "run"
  refine c_conditionR P RC (by ktf_call "asm") (by ktf_call "asm") (by ktf_call "rm") hV hfr' hh hsk' fun e h' F => ?_
  exact fly_next hfr' rfl F fun h' F => k e _ _ h' F

theorem p_unlessR {i : Int} {kd : Str} {v : Value} {p : List Value} (P : Pk c) (RC : RefC c) (S : St c ns L vs (MX c m vis pl (p ++ [v]) nsk frO Y) R Z h) (hF : FnAt c f "perform" (stm 104) []) (hA : Rm 7 A)
    (hr : (rw, tupOf [.str "unless" t1, .int i t2, .int 0 t3] nrw) ∈ R) (hz : p.length ≤ 1000) (hV : VecIn c R v ⟨kd, none⟩)
    (hfr : A.frames = some [env]) (hh : A.handled = none) (he : env.frame = some L) (hek : env.scope.kind = .function)
    (k : ∀ e vis' nsk' h', Fly c [env] e (MX c m vis' pl p nsk' frO Y) R Z ns L vs h' → E (.ref e) h') : W c A (call (.ref f) [.ref m.I, .ref m.r, .ref rw]) Q E h := by
  have B := P.B
  have G1 := P.perform_push
  have G2 := P.perform_jump
  refine w_of_cw (cw_enter B S hF hA.lt sc_perform rfl rfl (bnd_perform _ _ _) fun L' h' cdv oL F' S' => ?_)
  have sc' := sc_perform
  have hA' : Rm 6 (A.deeper (envOf "perform" (scopeOf (stm 104)) L' f cdv)) := Rm.deeper hA
  have hfr' := fd (env' := envOf "perform" (scopeOf (stm 104)) L' f cdv) hfr
  have hsk' : Stk c ns L vs Z [envOf "perform" (scopeOf (stm 104)) L' f cdv, env] L' ((L, oL) :: Z) := .two rfl sc'.k he hek F'
  simp only [List.map_cons, List.map_nil, List.cons_append, List.nil_append] at S' sc'
  refine w_body (by with_unfolding_all rfl) ?_
  ktf_call "run"
  refine c_pushF B (by ktf_call "asm") (by ktf_call "asm") (by ktf_call "rm") hr (by decide) (by decide) (by decide) (by decide) (by decide) (by decide) (by decide) fun h' S' => ?_
  ktf_call "run"
  refine c_pj_unlessR P RC (by ktf_call "asm") (by ktf_call "asm") (by ktf_call "rm") hr hz hV hfr' hh hsk' fun e vis' nsk' h' F => ?_
  exact fly_next hfr' rfl F fun h' F => k e _ _ h' F
end
end
noncomputable section
section
variable {c : Cx} {A : Around} {h : Heap} {L f : Addr} {Y R Z : Led} {Q : Value → Heap → Prop} {cd : Value}
variable {w : Lw} {m : Mc} {vis : Value} {sk tk : List Value} {as cas : List Va} {nsk ntk : Nat} {frO nmO : Obj} {na nb : Va} {pl : Int} {t1 t2 : Tok} {nameV us rowV : Option Value}
theorem t4 (P : Pk c) (hh : A.handled = none) (hA : Rm 8 A) (S : St c lns L (lvs w m nameV (.int pl t2) us rowV (some (.bool false))) (MX c m vis (.int pl t1) sk nsk frO (TX w tk ntk nmO Y)) R Z h)
    (sm : Same c w m R sk tk as frO nmO na nb cas) (hz : sk.length ≤ 100) (hp : 0 ≤ pl) {Q : Flow → Heap → Prop}
    (k : ∀ nameV' R' h', Le c R R' → St c lns L (lvs w m nameV' (.int pl t2) us rowV (some (.bool false))) (MX c m vis (.int pl t1) sk nsk frO (TX w tk ntk nmO Y)) R' Z h' → Q .next h') :
    W c A (execs (loopBody.drop 7) (envOf "law" (scopeOf (stm 117)) L f cd)) Q (fun _ _ => False) h := by
  have B := P.B
  have sc' := sc_law'
  have C1 := P.runF
  have C2 := P.evaF
  have C3 := P.envF
  have M := P.mods
  have G1 := P.plain
  have z1 : sk.length ≤ 1000 := by omega
  have p1 : decide (pl < 0) = false := decide_eq_false (by omega)
  have p2 : (pl != pl) = false := by simp
  refine w_body (by with_unfolding_all rfl) ?_
  ktf_call "run"
  ktf_call "lc"
  ktf_call "run"
  refine lck (by ktf_call "asm") (by ktf_call "pos") hz sm.s1 fun T ts n' R' h' l1 hts S' => ?_
  have sm := sm.le l1
  ktf_call "run"
  refine r_neTs hA (by ktf_call "asm") (by ktf_call "has") (by ktf_call "has") hts sm.s2 ?_
  ktf_call "run"
  have S5 := St.drop (by ktf_call "asm")
  obtain ⟨va, vb, hf, hva, hvb⟩ := sm.f
  obtain ⟨ta, tb, hn, hta, htb⟩ := sm.n
  have e1 : valueAt [(("a" : Str), va), ("b", vb)] "a" = some va := by simp [valueAt]
  have e2 : valueAt [(("a" : Str), va), ("b", vb)] "b" = some vb := by simp [valueAt, show ¬ (("a" : Str) = "b") by decide]
  have e3 : valueAt [(("a" : Str), ta), ("b", tb)] "a" = some ta := by simp [valueAt]
  have e4 : valueAt [(("a" : Str), ta), ("b", tb)] "b" = some tb := by simp [valueAt, show ¬ (("a" : Str) = "b") by decide]
  refine w_forU 3 ?_ (fun _ => rfl)
  ktf_call "run"
  refine i_key M (by ktf_call "asm") (by ktf_call "has") hn fun I o h' ho S' => ?_
  refine fl_go (n_key S' ho (by ktf_call "has") rfl fun o t h' ho S' => tk_some ?_)
  ktf_call "run"
  refine c_plain P (by ktf_call "asm") (by ktf_call "asm") (by ktf_call "rm") hva fun w1 R1 h' l2 hw S' => ?_
  ktf_call "run"
  refine r_neT hA (by ktf_call "asm") hw (l2.t _ _ hta) ?_
  ktf_call "run"
  refine fk_next (fl_go (n_key (by ktf_call "asm") ho (by ktf_call "has") rfl fun o t h' ho S' => tk_some ?_))
  ktf_call "run"
  refine c_plain P (by ktf_call "asm") (by ktf_call "asm") (by ktf_call "rm") (l2.v _ _ hvb) fun w1 R1 h' l3 hw S' => ?_
  ktf_call "run"
  refine r_neT hA (by ktf_call "asm") hw (l3.t _ _ (l2.t _ _ htb)) ?_
  ktf_call "run"
  refine fk_next (fl_go (n_keyE hh (by ktf_call "asm") ho (by ktf_call "has") rfl fun h' S' => tk_none ?_))
  ktf_call "run"
  exact k _ _ _ ((l1.trans l2).trans l3) S'
end
end
noncomputable section
section
variable {c : Cx} {A : Around} {E : Value → Heap → Prop} {h : Heap} {ns : List Str} {L : Addr} {vs : List (Option Value)} {X Y R Z : Led} {env : Env}
theorem w_bodyR {body body' : List Stmt} {Q : Flow → Heap → Prop} (e : body' = body) (q : W c A (execs body env) Q E h) : W c A (execs body' env) Q E h := e ▸ q
variable {w : Lw} {m : Mc} {vis pl : Value} {sk tk csl : List Value} {nsk ntk nc : Nat} {frO nmO : Obj} {T : Addr}
theorem St.toD (S : St c ns L vs ((T, listOf csl.toArray nc) :: MX c m vis pl sk nsk frO (TX w tk ntk nmO Y)) R Z h) : St c ns L vs (DX w.tst w.nm T tk csl ntk nc nmO (MX c m vis pl sk nsk frO ((w.vl, listOf w.vls.toArray w.nvl) :: Y))) R Z h :=
  St.swap2 (P := (T, listOf csl.toArray nc) :: MX c m vis pl sk nsk frO []) (Q := [(w.tst, listOf tk.toArray ntk), (w.nm, nmO)]) (T := (w.vl, listOf w.vls.toArray w.nvl) :: Y) S
theorem St.ofD (S : St c ns L vs (DX w.tst w.nm T tk csl ntk nc nmO (MX c m vis pl sk nsk frO ((w.vl, listOf w.vls.toArray w.nvl) :: Y))) R Z h) : St c ns L vs (MX c m vis pl sk nsk frO (TX w tk ntk nmO Y)) R Z h :=
  St.drop (p := (T, listOf csl.toArray nc)) (St.swap2 (P := [(w.tst, listOf tk.toArray ntk), (w.nm, nmO)]) (Q := (T, listOf csl.toArray nc) :: MX c m vis pl sk nsk frO []) (T := (w.vl, listOf w.vls.toArray w.nvl) :: Y) S)
end
theorem RowIn.le {c : Cx} {R R' : Led} {rw : Addr} {r : Rw} (x : RowIn R rw r) (l : Le c R R') : RowIn R' rw r := let ⟨t1, t2, t3, n, h⟩ := x; ⟨t1, t2, t3, n, l.tup h⟩
theorem All2.last {α β : Type} {P : α → β → Prop} {l : List α} {r : List β} {a : α} {b : β} (x : All2 P (l ++ [a]) (r ++ [b])) : All2 P l r ∧ P a b := by
  obtain ⟨l', a', e, h1, h2⟩ := x.unsnoc
  have := List.append_inj' e rfl
  obtain ⟨rfl, e2⟩ := this
  injection e2 with e2
  subst e2
  exact ⟨h1, h2⟩
theorem vAt_a {v w : Value} : valueAt [(("a" : Str), v), ("b", w)] "a" = some v := by simp [valueAt]
theorem vAt_b {v w : Value} : valueAt [(("a" : Str), v), ("b", w)] "b" = some w := by simp [valueAt, show ¬ (("a" : Str) = "b") by decide]
theorem st_a {v w x : Value} : stored [(("a" : Str), v), ("b", w)] "a" x = [(("a" : Str), x), ("b", w)] := by simp [stored, show ¬ (("b" : Str) = "a") by decide]
theorem st_b {v w x : Value} : stored [(("a" : Str), v), ("b", w)] "b" x = [(("a" : Str), v), ("b", x)] := by simp [stored, show ¬ (("a" : Str) = "b") by decide]
theorem Same.at {c : Cx} {w : Lw} {m : Mc} {R : Led} {sk tk : List Value} {as : List Va} {frO nmO : Obj} {na nb : Va} {cas : List Va} (x : Same c w m R sk tk as frO nmO na nb cas) {k : Str} (hk : k = "a" ∨ k = "b") :
    ∃ kvs v kvs' u a, frO.IsDictOf (PySem.strKind c.prog c.w) kvs ∧ kvs.length ≤ 1000 ∧ valueAt kvs k = some v ∧ VecIn c R v a ∧ nmO.IsDictOf (PySem.strKind c.prog c.w) kvs' ∧ kvs'.length ≤ 1000 ∧ valueAt kvs' k = some u ∧ TupIn R u a := by
  obtain ⟨va, vb, f1, f2, f3⟩ := x.f
  obtain ⟨ta, tb, n1, n2, n3⟩ := x.n
  rcases hk with rfl | rfl
  · exact ⟨_, va, _, ta, na, f1, by simp, vAt_a, f2, n1, by simp, vAt_a, n2⟩
  · exact ⟨_, vb, _, tb, nb, f1, by simp, vAt_b, f3, n1, by simp, vAt_b, n3⟩
/-- the names' dicts as they stand -/
theorem Same.dicts {c : Cx} {w : Lw} {m : Mc} {R : Led} {sk tk : List Value} {as : List Va} {frO nmO : Obj} {na nb : Va} {cas : List Va} (x : Same c w m R sk tk as frO nmO na nb cas) {k : Str} (hk : k = "a" ∨ k = "b") {v u : Value} {a : Va} (hv : VecIn c R v a) (hu : TupIn R u a) :
    ∃ kvs kvs', frO.IsDictOf (PySem.strKind c.prog c.w) kvs ∧ kvs.length ≤ 1000 ∧ nmO.IsDictOf (PySem.strKind c.prog c.w) kvs' ∧ kvs'.length ≤ 1000 ∧
      ∃ na' nb', ∀ frO' nmO' R', Le c R R' → frO'.IsDictOf (PySem.strKind c.prog c.w) (stored kvs k v) → nmO'.IsDictOf (PySem.strKind c.prog c.w) (stored kvs' k u) → Same c w m R' sk tk as frO' nmO' na' nb' cas := by
  obtain ⟨va, vb, f1, f2, f3⟩ := x.f
  obtain ⟨ta, tb, n1, n2, n3⟩ := x.n
  rcases hk with rfl | rfl
  · refine ⟨_, _, f1, by simp, n1, by simp, a, nb, fun frO' nmO' R' l h1 h2 => ?_⟩
    have y := x.le l
    rw [st_a] at h1 h2
    exact ⟨y.s1, y.s2, ⟨_, _, h1, l.v _ _ hv, l.v _ _ f3⟩, ⟨_, _, h2, l.t _ _ hu, l.t _ _ n3⟩, y.k, y.v, y.lk, y.cl⟩
  · refine ⟨_, _, f1, by simp, n1, by simp, na, a, fun frO' nmO' R' l h1 h2 => ?_⟩
    have y := x.le l
    rw [st_b] at h1 h2
    exact ⟨y.s1, y.s2, ⟨_, _, h1, l.v _ _ f2, l.v _ _ hv⟩, ⟨_, _, h2, l.t _ _ n2, l.t _ _ hu⟩, y.k, y.v, y.lk, y.cl⟩
/-- what a turn leaves -/
def TurnK (c : Cx) (w : Lw) (m : Mc) (L : Addr) (Y Z : Led) (cas : List Va) (hg : Nat) (Q : Flow → Heap → Prop) : Prop :=
  (∀ nameV us rowV pl' t1 t2 vis' sk' tk' as' nsk' ntk' frO' nmO' na' nb' R' h', Same c w m R' sk' tk' as' frO' nmO' na' nb' cas → sk'.length ≤ hg + 1 → 0 ≤ pl' →
    St c lns L (lvs w m nameV (.int pl' t2) us rowV (some (.bool false))) (MX c m vis' (.int pl' t1) sk' nsk' frO' (TX w tk' ntk' nmO' Y)) R' Z h' → Q .next h') ∧
  ∀ ns vs X R h', St c ns L vs X R Z h' → Q (.ret (.bool true)) h'
end
noncomputable section
section
variable {c : Cx} {A : Around} {h : Heap} {L f : Addr} {Y R Z : Led} {cd : Value} {Q : Flow → Heap → Prop}
variable {w : Lw} {m : Mc} {vis pl0 : Value} {sk tk : List Value} {as cas : List Va} {nsk ntk : Nat} {frO nmO : Obj} {na nb : Va} {pl : Int} {tp : Tok} {nameV us refV : Option Value} {rw : Addr}

theorem u_const {i : Int} (P : Pk c) (RC : RefC c) (hh : A.handled = none) (hfr : A.frames = some [envOf "law" (scopeOf (stm 117)) L f cd]) (hA : Rm 8 A) (S : St c lns L (lvs w m nameV (.int pl tp) us (some (.ref rw)) refV) (MX c m vis pl0 sk nsk frO (TX w tk ntk nmO Y)) R Z h)
    (sm : Same c w m R sk tk as frO nmO na nb cas) (hz : (sk).length ≤ 90) (hp : 0 ≤ pl) (hr : RowIn R rw (.const i)) (h0 : 0 ≤ i) (h5 : i < 5) (K : TurnK c w m L Y Z cas (sk).length Q) :
    W c A (execs (loopBody.drop 3) (envOf "law" (scopeOf (stm 117)) L f cd)) Q (fun _ _ => False) h := by
  have B := P.B
  have sc' := sc_law'
  have C1 := P.runF
  have C2 := P.evaF
  have G1 := P.perform
  have G2 := P.done
  have hr' := hr
  obtain ⟨t1, t2, t3, nr, hr⟩ := hr
  dsimp only [Rw.tup] at hr
  have cl1 := sm.k.len
  have cl2 := sm.cl
  have cl3 := sm.v.len
  have cl4 := sm.s1.len
  have cl5 := sm.s2.len
  obtain ⟨v, hv⟩ : ∃ v, m.consts[i.toNat]? = some v := ⟨_, List.getElem?_eq_getElem (by omega)⟩
  obtain ⟨a, ha, hva⟩ := sm.k.at hv
  refine w_body (by with_unfolding_all rfl) ?_
  ktf_call "run"
  refine w_try (gs := lgs) B RC hfr (by ktf_call "pos") ?_
  ktf_call "run"
  refine p_const P (by ktf_call "asm") (by ktf_call "asm") (by ktf_call "rm") hr h0 (by omega) hv (by omega) fun vis' nsk' h' S' => ?_
  ktf_call "run"
  ktf_call "lc"
  ktf_call "run"
  refine lck (by ktf_call "asm") (by ktf_call "pos") (by omega) sm.v fun T ts n' R2 h' l2 hts S' => ?_
  ktf_call "run"
  obtain ⟨u, hu⟩ : ∃ u, ts[i.toNat]? = some u := ⟨_, List.getElem?_eq_getElem (by have := hts.len; omega)⟩
  obtain ⟨b, hb, hub⟩ := hts.at hu
  obtain rfl : b = a := Option.some.inj (hb.symm.trans ha)
  have sm2 : Same c w m R2 (sk ++ [v]) (tk ++ [u]) (as ++ [b]) frO nmO na nb cas := let s := sm.le l2; ⟨s.s1.snoc (l2.v _ _ hva), s.s2.snoc hub, s.f, s.n, s.k, s.v, s.lk, s.cl⟩
  refine d_const B (St.toD (by ktf_call "asm")) (by ktf_call "asm") (by ktf_call "rm") (hr'.le l2) (by omega) h0 (by omega) hu fun n' t h' S' => ?_
  have S2 := St.ofD S'
  refine w_st S2 sc' (by ktf_call "pos") fun h' S' => nk_next ?_
  refine w_bodyR (body := loopBody.drop 7) (by with_unfolding_all rfl) (t4 P hh hA S' sm2 (by simp only [List.length_append, List.length_cons, List.length_nil] at *; omega) (by omega) fun nameV' R3 h' l9 S' => ?_)
  exact K.1 _ _ _ _ _ _ _ _ _ _ _ _ _ _ _ _ _ _ (sm2.le l9) (by simp only [List.length_append, List.length_cons, List.length_nil] at *; omega) (by omega) S'

theorem u_var {x : Str} (P : Pk c) (RC : RefC c) (hh : A.handled = none) (hfr : A.frames = some [envOf "law" (scopeOf (stm 117)) L f cd]) (hA : Rm 8 A) (S : St c lns L (lvs w m nameV (.int pl tp) us (some (.ref rw)) refV) (MX c m vis pl0 sk nsk frO (TX w tk ntk nmO Y)) R Z h)
    (sm : Same c w m R sk tk as frO nmO na nb cas) (hz : (sk).length ≤ 90) (hp : 0 ≤ pl) (hr : RowIn R rw (.var x)) (hx : x = "a" ∨ x = "b") (K : TurnK c w m L Y Z cas (sk).length Q) :
    W c A (execs (loopBody.drop 3) (envOf "law" (scopeOf (stm 117)) L f cd)) Q (fun _ _ => False) h := by
  have B := P.B
  have sc' := sc_law'
  have C1 := P.runF
  have C2 := P.evaF
  have G1 := P.perform
  have G2 := P.done
  have hr' := hr
  obtain ⟨t1, t2, t3, nr, hr⟩ := hr
  dsimp only [Rw.tup] at hr
  have cl1 := sm.k.len
  have cl2 := sm.cl
  have cl3 := sm.v.len
  have cl4 := sm.s1.len
  have cl5 := sm.s2.len
  obtain ⟨kvs, v, kvs', u, a, d1, d2, d3, d4, d5, d6, d7, d8⟩ := sm.at hx
  refine w_body (by with_unfolding_all rfl) ?_
  ktf_call "run"
  refine w_try (gs := lgs) B RC hfr (by ktf_call "pos") ?_
  ktf_call "run"
  refine p_var P (by ktf_call "asm") (by ktf_call "asm") (by ktf_call "rm") hr hx (by omega) d1 d3 d4 fun vis' nsk' h' R1 l1 S' => ?_
  ktf_call "run"
  ktf_call "lc"
  ktf_call "run"
  refine lck (by ktf_call "asm") (by ktf_call "pos") (by omega) (sm.le l1).v fun T ts n' R2 h' l2 hts S' => ?_
  ktf_call "run"
  have sm2 : Same c w m R2 (sk ++ [v]) (tk ++ [u]) (as ++ [a]) frO nmO na nb cas := let s := sm.le (l1.trans l2); ⟨s.s1.snoc ((l1.trans l2).v _ _ d4), s.s2.snoc ((l1.trans l2).t _ _ d8), s.f, s.n, s.k, s.v, s.lk, s.cl⟩
  refine d_var B (St.toD (by ktf_call "asm")) (by ktf_call "asm") (by ktf_call "rm") (hr'.le (l1.trans l2)) (by omega) d5 d7 fun n' t h' S' => ?_
  have S2 := St.ofD S'
  refine w_st S2 sc' (by ktf_call "pos") fun h' S' => nk_next ?_
  refine w_bodyR (body := loopBody.drop 7) (by with_unfolding_all rfl) (t4 P hh hA S' sm2 (by simp only [List.length_append, List.length_cons, List.length_nil] at *; omega) (by omega) fun nameV' R3 h' l9 S' => ?_)
  exact K.1 _ _ _ _ _ _ _ _ _ _ _ _ _ _ _ _ _ _ (sm2.le l9) (by simp only [List.length_append, List.length_cons, List.length_nil] at *; omega) (by omega) S'

theorem u_pick {i : Int} (P : Pk c) (RC : RefC c) (hh : A.handled = none) (hfr : A.frames = some [envOf "law" (scopeOf (stm 117)) L f cd]) (hA : Rm 8 A) (S : St c lns L (lvs w m nameV (.int pl tp) us (some (.ref rw)) refV) (MX c m vis pl0 sk nsk frO (TX w tk ntk nmO Y)) R Z h)
    (sm : Same c w m R sk tk as frO nmO na nb cas) (hz : (sk).length ≤ 90) (hp : 0 ≤ pl) (hr : RowIn R rw (.pick i)) (h0 : 0 ≤ i) (h5 : i < sk.length) (K : TurnK c w m L Y Z cas (sk).length Q) :
    W c A (execs (loopBody.drop 3) (envOf "law" (scopeOf (stm 117)) L f cd)) Q (fun _ _ => False) h := by
  have B := P.B
  have sc' := sc_law'
  have C1 := P.runF
  have C2 := P.evaF
  have G1 := P.perform
  have G2 := P.done
  have hr' := hr
  obtain ⟨t1, t2, t3, nr, hr⟩ := hr
  dsimp only [Rw.tup] at hr
  have cl1 := sm.k.len
  have cl2 := sm.cl
  have cl3 := sm.v.len
  have cl4 := sm.s1.len
  have cl5 := sm.s2.len
  obtain ⟨v, hv⟩ : ∃ v, sk[sk.length - 1 - i.toNat]? = some v := ⟨_, List.getElem?_eq_getElem (by omega)⟩
  obtain ⟨a, ha, hva⟩ := sm.s1.at hv
  obtain ⟨u, hu⟩ : ∃ u, tk[tk.length - 1 - i.toNat]? = some u := ⟨_, List.getElem?_eq_getElem (by omega)⟩
  obtain ⟨b, hb, hub⟩ := sm.s2.at hu
  obtain rfl : b = a := Option.some.inj (hb.symm.trans (by rw [show tk.length - 1 - i.toNat = sk.length - 1 - i.toNat by omega]; exact ha))
  refine w_body (by with_unfolding_all rfl) ?_
  ktf_call "run"
  refine w_try (gs := lgs) B RC hfr (by ktf_call "pos") ?_
  ktf_call "run"
  refine p_pick P (by ktf_call "asm") (by ktf_call "asm") (by ktf_call "rm") hr h0 h5 (by omega) hv fun vis' nsk' h' S' => ?_
  ktf_call "run"
  ktf_call "lc"
  ktf_call "run"
  refine lck (by ktf_call "asm") (by ktf_call "pos") (by omega) sm.v fun T ts n' R2 h' l2 hts S' => ?_
  ktf_call "run"
  have sm2 : Same c w m R2 (sk ++ [v]) (tk ++ [u]) (as ++ [b]) frO nmO na nb cas := let s := sm.le l2; ⟨s.s1.snoc (l2.v _ _ hva), s.s2.snoc (l2.t _ _ hub), s.f, s.n, s.k, s.v, s.lk, s.cl⟩
  refine d_pick P (St.toD (by ktf_call "asm")) (by ktf_call "asm") (by ktf_call "rm") (hr'.le l2) (by omega) h0 (by omega) hu fun n' t h' S' => ?_
  have S2 := St.ofD S'
  refine w_st S2 sc' (by ktf_call "pos") fun h' S' => nk_next ?_
  refine w_bodyR (body := loopBody.drop 7) (by with_unfolding_all rfl) (t4 P hh hA S' sm2 (by simp only [List.length_append, List.length_cons, List.length_nil] at *; omega) (by omega) fun nameV' R3 h' l9 S' => ?_)
  exact K.1 _ _ _ _ _ _ _ _ _ _ _ _ _ _ _ _ _ _ (sm2.le l9) (by simp only [List.length_append, List.length_cons, List.length_nil] at *; omega) (by omega) S'

theorem u_drop {p q : List Value} {v u : Value} {a : Va} (P : Pk c) (RC : RefC c) (hh : A.handled = none) (hfr : A.frames = some [envOf "law" (scopeOf (stm 117)) L f cd]) (hA : Rm 8 A) (S : St c lns L (lvs w m nameV (.int pl tp) us (some (.ref rw)) refV) (MX c m vis pl0 (p ++ [v]) nsk frO (TX w (q ++ [u]) ntk nmO Y)) R Z h)
    (sm : Same c w m R (p ++ [v]) (q ++ [u]) (as ++ [a]) frO nmO na nb cas) (hz : ((p ++ [v])).length ≤ 90) (hp : 0 ≤ pl) (hr : RowIn R rw .drop) (K : TurnK c w m L Y Z cas ((p ++ [v])).length Q) :
    W c A (execs (loopBody.drop 3) (envOf "law" (scopeOf (stm 117)) L f cd)) Q (fun _ _ => False) h := by
  have B := P.B
  have sc' := sc_law'
  have C1 := P.runF
  have C2 := P.evaF
  have G1 := P.perform
  have G2 := P.done
  have hr' := hr
  obtain ⟨t1, t2, t3, nr, hr⟩ := hr
  dsimp only [Rw.tup] at hr
  have cl1 := sm.k.len
  have cl2 := sm.cl
  have cl3 := sm.v.len
  have cl4 := sm.s1.len
  have cl5 := sm.s2.len
  have cl6 : (p ++ [v]).length = p.length + 1 := by simp
  have cl7 : (q ++ [u]).length = q.length + 1 := by simp
  have cl8 : (as ++ [a]).length = as.length + 1 := by simp
  obtain ⟨s1, hva⟩ := sm.s1.last
  obtain ⟨s2, hua⟩ := sm.s2.last
  refine w_body (by with_unfolding_all rfl) ?_
  ktf_call "run"
  refine w_try (gs := lgs) B RC hfr (by ktf_call "pos") ?_
  ktf_call "run"
  refine p_drop P (by ktf_call "asm") (by ktf_call "asm") (by ktf_call "rm") hr (by omega) fun vis' nsk' h' S' => ?_
  ktf_call "run"
  ktf_call "lc"
  ktf_call "run"
  refine lck (by ktf_call "asm") (by ktf_call "pos") (by omega) sm.v fun T ts n' R2 h' l2 hts S' => ?_
  ktf_call "run"
  have sm2 : Same c w m R2 p q as frO nmO na nb cas := let s := sm.le l2; ⟨s1.imp l2.v, s2.imp l2.t, s.f, s.n, s.k, s.v, s.lk, s.cl⟩
  refine d_drop B (St.toD (by ktf_call "asm")) (by ktf_call "asm") (by ktf_call "rm") (hr'.le l2) (by omega) fun n' t h' S' => ?_
  have S2 := St.ofD S'
  refine w_st S2 sc' (by ktf_call "pos") fun h' S' => nk_next ?_
  refine w_bodyR (body := loopBody.drop 7) (by with_unfolding_all rfl) (t4 P hh hA S' sm2 (by simp only [List.length_append, List.length_cons, List.length_nil] at *; omega) (by omega) fun nameV' R3 h' l9 S' => ?_)
  exact K.1 _ _ _ _ _ _ _ _ _ _ _ _ _ _ _ _ _ _ (sm2.le l9) (by simp only [List.length_append, List.length_cons, List.length_nil] at *; omega) (by omega) S'

theorem u_set {p q : List Value} {v u : Value} {a : Va} {x : Str} (P : Pk c) (RC : RefC c) (hh : A.handled = none) (hfr : A.frames = some [envOf "law" (scopeOf (stm 117)) L f cd]) (hA : Rm 8 A) (S : St c lns L (lvs w m nameV (.int pl tp) us (some (.ref rw)) refV) (MX c m vis pl0 (p ++ [v]) nsk frO (TX w (q ++ [u]) ntk nmO Y)) R Z h)
    (sm : Same c w m R (p ++ [v]) (q ++ [u]) (as ++ [a]) frO nmO na nb cas) (hz : ((p ++ [v])).length ≤ 90) (hp : 0 ≤ pl) (hr : RowIn R rw (.set x)) (hx : x = "a" ∨ x = "b") (K : TurnK c w m L Y Z cas ((p ++ [v])).length Q) :
    W c A (execs (loopBody.drop 3) (envOf "law" (scopeOf (stm 117)) L f cd)) Q (fun _ _ => False) h := by
  have B := P.B
  have sc' := sc_law'
  have C1 := P.runF
  have C2 := P.evaF
  have G1 := P.perform
  have G2 := P.done
  have hr' := hr
  obtain ⟨t1, t2, t3, nr, hr⟩ := hr
  dsimp only [Rw.tup] at hr
  have cl1 := sm.k.len
  have cl2 := sm.cl
  have cl3 := sm.v.len
  have cl4 := sm.s1.len
  have cl5 := sm.s2.len
  have cl6 : (p ++ [v]).length = p.length + 1 := by simp
  have cl7 : (q ++ [u]).length = q.length + 1 := by simp
  have cl8 : (as ++ [a]).length = as.length + 1 := by simp
  obtain ⟨s1, hva⟩ := sm.s1.last
  obtain ⟨s2, hua⟩ := sm.s2.last
  obtain ⟨kvs, kvs', d1, d2, d3, d4, na', nb', dd⟩ := sm.dicts hx hva hua
  refine w_body (by with_unfolding_all rfl) ?_
  ktf_call "run"
  refine w_try (gs := lgs) B RC hfr (by ktf_call "pos") ?_
  ktf_call "run"
  refine p_set P (by ktf_call "asm") (by ktf_call "asm") (by ktf_call "rm") hr d1 d2 sm.lk hva fun h' R1 frO' l1 d5 S' => ?_
  ktf_call "run"
  ktf_call "lc"
  ktf_call "run"
  refine lck (by ktf_call "asm") (by ktf_call "pos") (by omega) (sm.le l1).v fun T ts n' R2 h' l2 hts S' => ?_
  ktf_call "run"
  refine d_set B (St.toD (by ktf_call "asm")) (by ktf_call "asm") (by ktf_call "rm") (hr'.le (l1.trans l2)) d3 d4 fun nmO' t h' d6 S' => ?_
  have sm2 := dd frO' nmO' R2 (l1.trans l2) d5 d6
  have S2 := St.ofD S'
  refine w_st S2 sc' (by ktf_call "pos") fun h' S' => nk_next ?_
  refine w_bodyR (body := loopBody.drop 7) (by with_unfolding_all rfl) (t4 P hh hA S' sm2 (by simp only [List.length_append, List.length_cons, List.length_nil] at *; omega) (by omega) fun nameV' R3 h' l9 S' => ?_)
  exact K.1 _ _ _ _ _ _ _ _ _ _ _ _ _ _ _ _ _ _ (sm2.le l9) (by simp only [List.length_append, List.length_cons, List.length_nil] at *; omega) (by omega) S'

theorem u_jump {i : Int} (P : Pk c) (RC : RefC c) (hh : A.handled = none) (hfr : A.frames = some [envOf "law" (scopeOf (stm 117)) L f cd]) (hA : Rm 8 A) (S : St c lns L (lvs w m nameV (.int pl tp) us (some (.ref rw)) refV) (MX c m vis pl0 sk nsk frO (TX w tk ntk nmO Y)) R Z h)
    (sm : Same c w m R sk tk as frO nmO na nb cas) (hz : (sk).length ≤ 90) (hp : 0 ≤ pl) (hr : RowIn R rw (.jump i)) (hj : pl + 1 ≤ i) (K : TurnK c w m L Y Z cas (sk).length Q) :
    W c A (execs (loopBody.drop 3) (envOf "law" (scopeOf (stm 117)) L f cd)) Q (fun _ _ => False) h := by
  have B := P.B
  have sc' := sc_law'
  have C1 := P.runF
  have C2 := P.evaF
  have G1 := P.perform
  have G2 := P.done
  have hr' := hr
  obtain ⟨t1, t2, t3, nr, hr⟩ := hr
  dsimp only [Rw.tup] at hr
  have cl1 := sm.k.len
  have cl2 := sm.cl
  have cl3 := sm.v.len
  have cl4 := sm.s1.len
  have cl5 := sm.s2.len
  refine w_body (by with_unfolding_all rfl) ?_
  ktf_call "run"
  refine w_try (gs := lgs) B RC hfr (by ktf_call "pos") ?_
  ktf_call "run"
  refine p_jump P (by ktf_call "asm") (by ktf_call "asm") (by ktf_call "rm") hr hj fun vis' h' S' => ?_
  ktf_call "run"
  ktf_call "lc"
  ktf_call "run"
  refine lck (by ktf_call "asm") (by ktf_call "pos") (by omega) sm.v fun T ts n' R2 h' l2 hts S' => ?_
  ktf_call "run"
  have sm2 := sm.le l2
  refine d_jump B (St.toD (by ktf_call "asm")) (by ktf_call "asm") (by ktf_call "rm") (hr'.le l2) fun t h' S' => ?_
  have S2 := St.ofD S'
  refine w_st S2 sc' (by ktf_call "pos") fun h' S' => nk_next ?_
  refine w_bodyR (body := loopBody.drop 7) (by with_unfolding_all rfl) (t4 P hh hA S' sm2 (by omega) (by omega) fun nameV' R3 h' l9 S' => ?_)
  exact K.1 _ _ _ _ _ _ _ _ _ _ _ _ _ _ _ _ _ _ (sm2.le l9) (by omega) (by omega) S'

theorem u_truth {p q : List Value} {v u : Value} {a : Va} {x : Str} {v1 u1 : Value} {a1 : Va} (P : Pk c) (RC : RefC c) (hh : A.handled = none) (hfr : A.frames = some [envOf "law" (scopeOf (stm 117)) L f cd]) (hA : Rm 8 A) (S : St c lns L (lvs w m nameV (.int pl tp) us (some (.ref rw)) refV) (MX c m vis pl0 ((p ++ [v1]) ++ [v]) nsk frO (TX w ((q ++ [u1]) ++ [u]) ntk nmO Y)) R Z h)
    (sm : Same c w m R ((p ++ [v1]) ++ [v]) ((q ++ [u1]) ++ [u]) ((as ++ [a1]) ++ [a]) frO nmO na nb cas) (hz : (((p ++ [v1]) ++ [v])).length ≤ 90) (hp : 0 ≤ pl) (hr : RowIn R rw (.truth x)) (hn : x = "&&" ∨ x = "||") (K : TurnK c w m L Y Z cas (((p ++ [v1]) ++ [v])).length Q) :
    W c A (execs (loopBody.drop 3) (envOf "law" (scopeOf (stm 117)) L f cd)) Q (fun _ _ => False) h := by
  have B := P.B
  have sc' := sc_law'
  have C1 := P.runF
  have C2 := P.evaF
  have G1 := P.perform
  have G2 := P.done
  have hr' := hr
  obtain ⟨t1, t2, t3, nr, hr⟩ := hr
  dsimp only [Rw.tup] at hr
  have cl1 := sm.k.len
  have cl2 := sm.cl
  have cl3 := sm.v.len
  have cl4 := sm.s1.len
  have cl5 := sm.s2.len
  have cl6 : ((p ++ [v1]) ++ [v]).length = p.length + 2 := by simp
  have cl7 : ((q ++ [u1]) ++ [u]).length = q.length + 2 := by simp
  obtain ⟨s1, hva⟩ := sm.s1.last
  obtain ⟨s2, hua⟩ := sm.s2.last
  obtain ⟨s3, hva1⟩ := s1.last
  obtain ⟨s4, hua1⟩ := s2.last
  refine w_body (by with_unfolding_all rfl) ?_
  ktf_call "run"
  refine w_try (gs := lgs) B RC hfr (by ktf_call "pos") ?_
  ktf_call "run"
  refine p_truth P (by ktf_call "asm") (by ktf_call "asm") (by ktf_call "rm") hr hn (by omega) hva1 hva fun vis' nsk' h' R1 v' l1 hv' S' => ?_
  ktf_call "run"
  ktf_call "lc"
  ktf_call "run"
  refine lck (by ktf_call "asm") (by ktf_call "pos") (by omega) (sm.le l1).v fun T ts n' R2 h' l2 hts S' => ?_
  ktf_call "run"
  refine d_truth P (St.toD (by ktf_call "asm")) (by ktf_call "asm") (by ktf_call "rm") (hr'.le (l1.trans l2)) (by omega) hn ((l1.trans l2).t _ _ hua1) ((l1.trans l2).t _ _ hua) fun n' t h' R3 u' l3 hu' S' => ?_
  have sm2 : Same c w m R3 (p ++ [v']) (q ++ [u']) (as ++ [_]) frO nmO na nb cas := let s := sm.le ((l1.trans l2).trans l3); ⟨(s3.imp ((l1.trans l2).trans l3).v).snoc ((l2.trans l3).v _ _ hv'), (s4.imp ((l1.trans l2).trans l3).t).snoc hu', s.f, s.n, s.k, s.v, s.lk, s.cl⟩
  have S2 := St.ofD S'
  refine w_st S2 sc' (by ktf_call "pos") fun h' S' => nk_next ?_
  refine w_bodyR (body := loopBody.drop 7) (by with_unfolding_all rfl) (t4 P hh hA S' sm2 (by simp only [List.length_append, List.length_cons, List.length_nil] at *; omega) (by omega) fun nameV' R3 h' l9 S' => ?_)
  exact K.1 _ _ _ _ _ _ _ _ _ _ _ _ _ _ _ _ _ _ (sm2.le l9) (by simp only [List.length_append, List.length_cons, List.length_nil] at *; omega) (by omega) S'

end
end
noncomputable section
section
variable {c : Cx} {A : Around} {h : Heap} {L f : Addr} {Y R Z : Led} {cd : Value} {Q : Flow → Heap → Prop}
variable {w : Lw} {m : Mc} {vis pl0 : Value} {sk tk : List Value} {as cas : List Va} {nsk ntk : Nat} {frO nmO : Obj} {na nb : Va} {pl : Int} {tp : Tok} {nameV us refV : Option Value} {rw : Addr}

theorem u_unless {p q : List Value} {v u : Value} {i b : Int} {kd : Str} (P : Pk c) (RC : RefC c) (hh : A.handled = none) (hfr : A.frames = some [envOf "law" (scopeOf (stm 117)) L f cd]) (hA : Rm 8 A) (S : St c lns L (lvs w m nameV (.int pl tp) us (some (.ref rw)) refV) (MX c m vis pl0 (p ++ [v]) nsk frO (TX w (q ++ [u]) ntk nmO Y)) R Z h)
    (sm : Same c w m R (p ++ [v]) (q ++ [u]) (as ++ [⟨kd, some b⟩]) frO nmO na nb cas) (hz : ((p ++ [v])).length ≤ 90) (hp : 0 ≤ pl) (hr : RowIn R rw (.unless i)) (hj : pl + 1 ≤ i) (K : TurnK c w m L Y Z cas ((p ++ [v])).length Q) :
    W c A (execs (loopBody.drop 3) (envOf "law" (scopeOf (stm 117)) L f cd)) Q (fun _ _ => False) h := by
  have B := P.B
  have sc' := sc_law'
  have C1 := P.runF
  have C2 := P.evaF
  have G1 := P.perform
  have G2 := P.done
  have hr' := hr
  obtain ⟨t1, t2, t3, nr, hr⟩ := hr
  dsimp only [Rw.tup] at hr
  have cl1 := sm.k.len
  have cl2 := sm.cl
  have cl3 := sm.v.len
  have cl4 := sm.s1.len
  have cl5 := sm.s2.len
  have cl6 : (p ++ [v]).length = p.length + 1 := by simp
  have cl7 : (q ++ [u]).length = q.length + 1 := by simp
  obtain ⟨s1, hva⟩ := sm.s1.last
  obtain ⟨s2, hua⟩ := sm.s2.last
  refine w_body (by with_unfolding_all rfl) ?_
  ktf_call "run"
  refine w_try (gs := lgs) B RC hfr (by ktf_call "pos") ?_
  ktf_call "run"
  refine p_unless P (by ktf_call "asm") (by ktf_call "asm") (by ktf_call "rm") hr (by omega) hva fun vis' nsk' h' S' => ?_
  ktf_call "run"
  ktf_call "lc"
  ktf_call "run"
  refine lck (by ktf_call "asm") (by ktf_call "pos") (by omega) sm.v fun T ts n' R2 h' l2 hts S' => ?_
  ktf_call "run"
  have sm2 : Same c w m R2 p q as frO nmO na nb cas := let s := sm.le l2; ⟨s1.imp l2.v, s2.imp l2.t, s.f, s.n, s.k, s.v, s.lk, s.cl⟩
  refine d_unless P (St.toD (by ktf_call "asm")) (by ktf_call "asm") (by ktf_call "rm") (hr'.le l2) (by omega) (l2.t _ _ hua) fun n' t h' S' => ?_
  dsimp only
  by_cases e : b = 0
  · simp only [if_pos e] at S' ⊢
    have S2 := St.ofD S'
    refine w_st S2 sc' (by ktf_call "pos") fun h' S' => nk_next ?_
    refine w_bodyR (body := loopBody.drop 7) (by with_unfolding_all rfl) (t4 P hh hA S' sm2 (by simp only [List.length_append, List.length_cons, List.length_nil] at *; omega) (by omega) fun nameV' R3 h' l9 S' => ?_)
    exact K.1 _ _ _ _ _ _ _ _ _ _ _ _ _ _ _ _ _ _ (sm2.le l9) (by simp only [List.length_append, List.length_cons, List.length_nil] at *; omega) (by omega) S'
  · simp only [if_neg e] at S' ⊢
    have S2 := St.ofD S'
    refine w_st S2 sc' (by ktf_call "pos") fun h' S' => nk_next ?_
    refine w_bodyR (body := loopBody.drop 7) (by with_unfolding_all rfl) (t4 P hh hA S' sm2 (by simp only [List.length_append, List.length_cons, List.length_nil] at *; omega) (by omega) fun nameV' R3 h' l9 S' => ?_)
    exact K.1 _ _ _ _ _ _ _ _ _ _ _ _ _ _ _ _ _ _ (sm2.le l9) (by simp only [List.length_append, List.length_cons, List.length_nil] at *; omega) (by omega) S'

theorem u_refuse {p q : List Value} {v u : Value} {i : Int} {kd : Str} (P : Pk c) (RC : RefC c) (hh : A.handled = none) (hfr : A.frames = some [envOf "law" (scopeOf (stm 117)) L f cd]) (hA : Rm 8 A) (S : St c lns L (lvs w m nameV (.int pl tp) us (some (.ref rw)) refV) (MX c m vis pl0 (p ++ [v]) nsk frO (TX w (q ++ [u]) ntk nmO Y)) R Z h)
    (sm : Same c w m R (p ++ [v]) (q ++ [u]) (as ++ [⟨kd, none⟩]) frO nmO na nb cas) (hz : ((p ++ [v])).length ≤ 90) (hp : 0 ≤ pl) (hr : RowIn R rw (.unless i)) (K : TurnK c w m L Y Z cas ((p ++ [v])).length Q) :
    W c A (execs (loopBody.drop 3) (envOf "law" (scopeOf (stm 117)) L f cd)) Q (fun _ _ => False) h := by
  have B := P.B
  have sc' := sc_law'
  have C1 := P.runF
  have C2 := P.evaF
  have G1 := P.perform
  have G2 := P.done
  have hr' := hr
  obtain ⟨t1, t2, t3, nr, hr⟩ := hr
  dsimp only [Rw.tup] at hr
  have cl1 := sm.k.len
  have cl2 := sm.cl
  have cl3 := sm.v.len
  have cl4 := sm.s1.len
  have cl5 := sm.s2.len
  have cl6 : (p ++ [v]).length = p.length + 1 := by simp
  have cl7 : (q ++ [u]).length = q.length + 1 := by simp
  obtain ⟨s1, hva⟩ := sm.s1.last
  obtain ⟨s2, hua⟩ := sm.s2.last
  refine w_body (by with_unfolding_all rfl) ?_
  ktf_call "run"
  refine w_try (gs := lgs) B RC hfr (by ktf_call "pos") ?_
  ktf_call "run"
  refine p_unlessR P RC (by ktf_call "asm") (by ktf_call "asm") (by ktf_call "rm") hr (by omega) hva hfr hh rfl sc'.k fun e vis' nsk' h' F => ?_
  refine hnk sc' F fun h' S' => ?_
  ktf_call "run"
  ktf_call "lc"
  ktf_call "run"
  refine lck (by ktf_call "asm") (by ktf_call "pos") (by omega) sm.v fun T ts n' R2 h' l2 hts S' => ?_
  ktf_call "run"
  have sm2 : Same c w m R2 p q as frO nmO na nb cas := let s := sm.le l2; ⟨s1.imp l2.v, s2.imp l2.t, s.f, s.n, s.k, s.v, s.lk, s.cl⟩
  refine d_unless P (St.toD (by ktf_call "asm")) (by ktf_call "asm") (by ktf_call "rm") (hr'.le l2) (by omega) (l2.t _ _ hua) fun n' t h' S' => ?_
  dsimp only
  ktf_call "run"
  exact K.2 _ _ _ _ _ (by ktf_call "asm")

theorem u_left {p q : List Value} {v u : Value} {i s : Int} {x : Str} {a : Va} (P : Pk c) (RC : RefC c) (hh : A.handled = none) (hfr : A.frames = some [envOf "law" (scopeOf (stm 117)) L f cd]) (hA : Rm 8 A) (S : St c lns L (lvs w m nameV (.int pl tp) us (some (.ref rw)) refV) (MX c m vis pl0 (p ++ [v]) nsk frO (TX w (q ++ [u]) ntk nmO Y)) R Z h)
    (sm : Same c w m R (p ++ [v]) (q ++ [u]) (as ++ [a]) frO nmO na nb cas) (hz : ((p ++ [v])).length ≤ 90) (hp : 0 ≤ pl) (hr : RowIn R rw (.left x i)) (hn : x = "and" ∧ s = 0 ∨ x = "or" ∧ s = 1) (hj : pl + 1 ≤ i) (K : TurnK c w m L Y Z cas ((p ++ [v])).length Q) :
    W c A (execs (loopBody.drop 3) (envOf "law" (scopeOf (stm 117)) L f cd)) Q (fun _ _ => False) h := by
  have B := P.B
  have sc' := sc_law'
  have C1 := P.runF
  have C2 := P.evaF
  have G1 := P.perform
  have G2 := P.done
  have hr' := hr
  obtain ⟨t1, t2, t3, nr, hr⟩ := hr
  dsimp only [Rw.tup] at hr
  have cl1 := sm.k.len
  have cl2 := sm.cl
  have cl3 := sm.v.len
  have cl4 := sm.s1.len
  have cl5 := sm.s2.len
  have cl6 : (p ++ [v]).length = p.length + 1 := by simp
  have cl7 : (q ++ [u]).length = q.length + 1 := by simp
  obtain ⟨s1, hva⟩ := sm.s1.last
  obtain ⟨s2, hua⟩ := sm.s2.last
  refine w_body (by with_unfolding_all rfl) ?_
  ktf_call "run"
  refine w_try (gs := lgs) B RC hfr (by ktf_call "pos") ?_
  ktf_call "run"
  refine p_left P (by ktf_call "asm") (by ktf_call "asm") (by ktf_call "rm") hr hn (by omega) hva fun vis' nsk' h' R1 v' pl' hpl l1 hv' S' => ?_
  ktf_call "run"
  ktf_call "lc"
  ktf_call "run"
  refine lck (by ktf_call "asm") (by ktf_call "pos") (by omega) (sm.le l1).v fun T ts n' R2 h' l2 hts S' => ?_
  ktf_call "run"
  refine d_left P (St.toD (by ktf_call "asm")) (by ktf_call "asm") (by ktf_call "rm") (hr'.le (l1.trans l2)) (by omega) hn ((l1.trans l2).t _ _ hua) fun n' t h' R3 u' l3 hu' S' => ?_
  have sm2 : Same c w m R3 (p ++ [v']) (q ++ [u']) (as ++ [_]) frO nmO na nb cas := let s := sm.le ((l1.trans l2).trans l3); ⟨(s1.imp ((l1.trans l2).trans l3).v).snoc ((l2.trans l3).v _ _ hv'), (s2.imp ((l1.trans l2).trans l3).t).snoc hu', s.f, s.n, s.k, s.v, s.lk, s.cl⟩
  rcases hpl with ⟨e, rfl⟩ | ⟨e, rfl⟩
  · simp only [if_pos e]
    have S2 := St.ofD S'
    refine w_st S2 sc' (by ktf_call "pos") fun h' S' => nk_next ?_
    refine w_bodyR (body := loopBody.drop 7) (by with_unfolding_all rfl) (t4 P hh hA S' sm2 (by simp only [List.length_append, List.length_cons, List.length_nil] at *; omega) (by omega) fun nameV' R3 h' l9 S' => ?_)
    exact K.1 _ _ _ _ _ _ _ _ _ _ _ _ _ _ _ _ _ _ (sm2.le l9) (by simp only [List.length_append, List.length_cons, List.length_nil] at *; omega) (by omega) S'
  · simp only [if_neg e]
    have S2 := St.ofD S'
    refine w_st S2 sc' (by ktf_call "pos") fun h' S' => nk_next ?_
    refine w_bodyR (body := loopBody.drop 7) (by with_unfolding_all rfl) (t4 P hh hA S' sm2 (by simp only [List.length_append, List.length_cons, List.length_nil] at *; omega) (by omega) fun nameV' R3 h' l9 S' => ?_)
    exact K.1 _ _ _ _ _ _ _ _ _ _ _ _ _ _ _ _ _ _ (sm2.le l9) (by simp only [List.length_append, List.length_cons, List.length_nil] at *; omega) (by omega) S'

end
end
noncomputable section
section
variable {c : Cx} {A : Around} {h : Heap} {L f : Addr} {Y R Z : Led} {cd : Value} {Q : Flow → Heap → Prop}
variable {w : Lw} {m : Mc} {vis pl0 : Value} {sk tk : List Value} {as cas : List Va} {nsk ntk : Nat} {frO nmO : Obj} {na nb : Va} {pl : Int} {tp : Tok} {nameV us refV rowV : Option Value} {rw : Addr}
theorem snoc_of {α : Type} {l : List α} (h : 1 ≤ l.length) : ∃ r a, l = r ++ [a] := by
  rcases List.eq_nil_or_concat l with rfl | ⟨r, a, rfl⟩
  · cases h
  · exact ⟨r, a, by simp⟩
/-- from the row on -/
theorem u_row (P : Pk c) (RC : RefC c) (hh : A.handled = none) (hfr : A.frames = some [envOf "law" (scopeOf (stm 117)) L f cd]) (hA : Rm 8 A) (S : St c lns L (lvs w m nameV (.int pl tp) us (some (.ref rw)) refV) (MX c m vis pl0 sk nsk frO (TX w tk ntk nmO Y)) R Z h)
    (sm : Same c w m R sk tk as frO nmO na nb cas) (hz : sk.length ≤ 90) (hp : 0 ≤ pl) {r : Rw} (hr : RowIn R rw r) (hok : r.ok tk.length pl w.en) (K : TurnK c w m L Y Z cas sk.length Q) :
    W c A (execs (loopBody.drop 3) (envOf "law" (scopeOf (stm 117)) L f cd)) Q (fun _ _ => False) h := by
  have e1 := sm.s1.len
  have e2 := sm.s2.len
  have pop : 1 ≤ tk.length → ∃ p q v u as0 a, sk = p ++ [v] ∧ tk = q ++ [u] ∧ as = as0 ++ [a] := fun h => by
    obtain ⟨as0, a, rfl⟩ := snoc_of (l := as) (by omega)
    obtain ⟨p, v, rfl, _⟩ := sm.s1.unsnoc
    obtain ⟨q, u, rfl, _⟩ := sm.s2.unsnoc
    exact ⟨p, q, v, u, as0, a, rfl, rfl, rfl⟩
  cases r with
  | const i => exact u_const P RC hh hfr hA S sm hz hp hr hok.1 hok.2 K
  | var x => exact u_var P RC hh hfr hA S sm hz hp hr hok.1 K
  | pick i => exact u_pick P RC hh hfr hA S sm hz hp hr hok.1 (by have := hok.2.1; omega) K
  | drop =>
    have h3 : 3 ≤ tk.length := hok
    obtain ⟨p, q, v, u, as0, a, rfl, rfl, rfl⟩ := pop (by omega)
    exact u_drop P RC hh hfr hA S sm hz hp hr K
  | set x =>
    have h3 := hok.2
    obtain ⟨p, q, v, u, as0, a, rfl, rfl, rfl⟩ := pop (by omega)
    exact u_set P RC hh hfr hA S sm hz hp hr hok.1 K
  | jump i => exact u_jump P RC hh hfr hA S sm hz hp hr hok.1 K
  | «unless» i =>
    have h3 := hok.2.2
    obtain ⟨p, q, v, u, as0, ⟨kd, it⟩, rfl, rfl, rfl⟩ := pop (by omega)
    cases it with
    | none => exact u_refuse P RC hh hfr hA S sm hz hp hr K
    | some b => exact u_unless P RC hh hfr hA S sm hz hp hr hok.1 K
  | left x i =>
    have h3 := hok.2.2.2
    obtain ⟨p, q, v, u, as0, a, rfl, rfl, rfl⟩ := pop (by omega)
    rcases hok.1 with e | e
    · exact u_left P RC hh hfr hA S sm hz hp hr (.inl ⟨e, rfl⟩) hok.2.1 K
    · exact u_left P RC hh hfr hA S sm hz hp hr (.inr ⟨e, rfl⟩) hok.2.1 K
  | truth x =>
    have h3 := hok.2
    obtain ⟨p, q, v, u, as0, a, rfl, rfl, rfl⟩ := pop (by omega)
    obtain ⟨s1, _⟩ := sm.s1.last
    obtain ⟨s2, _⟩ := sm.s2.last
    obtain ⟨as1, a1, rfl⟩ := snoc_of (l := as0) (by have := s2.len; simp only [List.length_append, List.length_cons, List.length_nil] at h3; omega)
    obtain ⟨p1, v1, rfl, _⟩ := s1.unsnoc
    obtain ⟨q1, u1, rfl, _⟩ := s2.unsnoc
    exact u_truth P RC hh hfr hA S sm hz hp hr hok.1 K

/-- the row of a test that joins what is no logical is set aside -/
theorem u_if (P : Pk c) (RC : RefC c) (hh : A.handled = none) (hfr : A.frames = some [envOf "law" (scopeOf (stm 117)) L f cd]) (hA : Rm 8 A) (S : St c lns L (lvs w m nameV (.int pl tp) us (some (.ref rw)) refV) (MX c m vis pl0 sk nsk frO (TX w tk ntk nmO Y)) R Z h)
    (sm : Same c w m R sk tk as frO nmO na nb cas) (hz : sk.length ≤ 90) (hp : 0 ≤ pl) {r : Rw} (hr : RowIn R rw r) (hok : r.ok tk.length pl w.en) (K : TurnK c w m L Y Z cas sk.length Q) :
    W c A (execs (loopBody.drop 2) (envOf "law" (scopeOf (stm 117)) L f cd)) Q (fun _ _ => False) h := by
  have B := P.B
  have sc' := sc_law'
  by_cases ht : ∃ x, r = .truth x
  · obtain ⟨x, rfl⟩ := ht
    have h3 := hok.2
    have e1 := sm.s1.len
    have e2 := sm.s2.len
    obtain ⟨as0, a, rfl⟩ := snoc_of (l := as) (by omega)
    obtain ⟨p, v, rfl, s1, _⟩ := sm.s1.unsnoc
    obtain ⟨q, u, rfl, s2, _⟩ := sm.s2.unsnoc
    obtain ⟨as1, a1, rfl⟩ := snoc_of (l := as0) (by have := s2.len; simp only [List.length_append, List.length_cons, List.length_nil] at h3; omega)
    obtain ⟨p1, v1, rfl, _⟩ := s1.unsnoc
    obtain ⟨q1, u1, rfl, s4, hu1⟩ := s2.unsnoc
    have hr' := hr
    obtain ⟨t1, t2, t3, nr, hr⟩ := hr
    dsimp only [Rw.tup] at hr
    obtain ⟨y, il, n1, n2, ty, iv, rfl, g1, g2, g5, g4⟩ := hu1
    refine w_body (by with_unfolding_all rfl) ?_
    refine w_cons ?_
    generalize hK : nextK c A _ _ Q _ = K'
    rcases g4 with e | e
    · rw [e] at g1
      ktf_call "run"
      rw [← hK]
      exact nk_next (w_bodyR (body := loopBody.drop 3) (by with_unfolding_all rfl) (u_row P RC hh hfr hA S sm hz hp hr' hok K))
    · rw [e] at g1
      ktf_call "run"
      rw [← hK]
      refine nk_next (w_bodyR (body := loopBody.drop 3) (by with_unfolding_all rfl) ?_)
      obtain ⟨R1, hm, l1, S2⟩ := St.meltX (by ktf_call "asm")
      exact u_row P RC hh hfr hA S2 (sm.le l1) hz hp (r := .const 1) ⟨_, _, 0, _, hm⟩ ⟨by decide, by decide⟩ K
  · have hr' := hr
    obtain ⟨t1, t2, t3, nr, hr⟩ := hr
    have hn : ∃ x l, r.tup t1 t2 t3 = .str x t1 :: l ∧ x ≠ "truth" := by
      cases r with
      | truth x => exact absurd ⟨x, rfl⟩ ht
      | left nm t => exact ⟨nm, _, rfl, by rcases hok.1 with rfl | rfl <;> decide⟩
      | _ => exact ⟨_, _, rfl, by decide⟩
    obtain ⟨x, l, e, hx⟩ := hn
    rw [e] at hr
    refine w_body (by with_unfolding_all rfl) ?_
    refine w_cons ?_
    generalize hK : nextK c A _ _ Q _ = K'
    ktf_call "run"
    rw [← hK]
    exact nk_next (w_bodyR (body := loopBody.drop 3) (by with_unfolding_all rfl) (u_row P RC hh hfr hA S sm hz hp hr' hok K))
end
end
noncomputable section
section
variable {c : Cx} {A : Around} {h : Heap} {L f : Addr} {Y R Z : Led} {cd : Value} {Q : Flow → Heap → Prop}
variable {w : Lw} {m : Mc} {vis pl0 : Value} {sk tk : List Value} {as cas : List Va} {nsk ntk : Nat} {frO nmO : Obj} {na nb : Va} {pl : Int} {tp : Tok} {nameV us refV rowV : Option Value} {rw : Addr}
variable {its : List Value} {a b : Int} {ta tb : Tok} {n1 n2 : Nat}
theorem u_turn (P : Pk c) (RC : RefC c) (hh : A.handled = none) (hfr : A.frames = some [envOf "law" (scopeOf (stm 117)) L f cd]) (hA : Rm 8 A)
    (S : St c lns L (lvs w m nameV (.int pl tp) us rowV refV) (MX c m vis pl0 sk nsk frO (TX w tk ntk nmO (SrcX w.so w.sl its a b ta tb n1 n2 Y))) R Z h)
    (sm : Same c w m R sk tk as frO nmO na nb cas) (hz : sk.length ≤ 90) (hp : 0 ≤ pl) (ha : 0 ≤ a) (hb : 0 ≤ b ∧ b < 2147483563) (hi : AllInt its) (hiz : its.length ≤ 100)
    (K : ∀ its' a' b' ta' tb' n1' n2', 0 ≤ a' → 0 ≤ b' ∧ b' < 2147483563 → AllInt its' → its'.length ≤ 100 → TurnK c w m L (SrcX w.so w.sl its' a' b' ta' tb' n1' n2' Y) Z cas sk.length Q)
    (Kb : ∀ ns vs X R h', St c ns L vs X R Z h' → Q .brk h') :
    W c A (execs loopBody (envOf "law" (scopeOf (stm 117)) L f cd)) Q (fun _ _ => False) h := by
  have B := P.B
  have sc' := sc_law'
  have G1 := P.row
  have e1 := sm.s1.len
  have e2 := sm.s2.len
  have z1 : tk.length ≤ 1000 := by omega
  refine w_body (by with_unfolding_all rfl) ?_
  by_cases hpe : w.en ≤ pl
  · have d1 := decide_eq_true hpe
    ktf_call "run"
    exact Kb _ _ _ _ _ (by ktf_call "asm")
  · have d1 := decide_eq_false hpe
    ktf_call "run"
    have S2 : St c lns L (lvs w m nameV (.int pl tp) us rowV refV) (SrcX w.so w.sl its a b ta tb n1 n2 (MX c m vis pl0 sk nsk frO (TX w tk ntk nmO Y))) R Z h :=
      St.swap2 (P := MX c m vis pl0 sk nsk frO (TX w tk ntk nmO [])) (Q := SrcX w.so w.sl its a b ta tb n1 n2 []) (T := Y) S
    refine c_row P S2 (by ktf_call "asm") (by ktf_call "rm") ha hb hi hiz (by omega) (by omega) fun rw r a' ta' b' tb' its' n1' n2' h' R' hok hr l1 ha' hb' hi' hiz' S3 => ?_
    have S4 : St c lns L (lvs w m nameV (.int pl tp) us rowV refV) (MX c m vis pl0 sk nsk frO (TX w tk ntk nmO (SrcX w.so w.sl its' a' b' ta' tb' n1' n2' Y))) R' Z h' :=
      St.swap2 (P := SrcX w.so w.sl its' a' b' ta' tb' n1' n2' []) (Q := MX c m vis pl0 sk nsk frO (TX w tk ntk nmO [])) (T := Y) S3
    refine w_st S4 sc' (by ktf_call "pos") fun h' S5 => nk_next ?_
    exact w_bodyR (body := loopBody.drop 2) (by with_unfolding_all rfl) (u_if P RC hh hfr hA S5 (sm.le l1) hz hp hr hok (K _ _ _ _ _ _ _ ha' hb' hi' hiz'))

/-- the loop -/
theorem u_loop {px p1 p2 p3 pos : Pos} {en : Int} (P : Pk c) (RC : RefC c) (hh : A.handled = none) (hfr : A.frames = some [envOf "law" (scopeOf (stm 117)) L f cd]) (hA : Rm 8 A) (hen : w.en = en) (he0 : 0 ≤ en) (he1 : en ≤ 20)
    (S : St c lns L (lvs w m nameV (.int pl tp) us rowV refV) (MX c m vis pl0 sk nsk frO (TX w tk ntk nmO (SrcX w.so w.sl its a b ta tb n1 n2 Y))) R Z h)
    (sm : Same c w m R sk tk as frO nmO na nb cas) (hz : sk.length = 0) (hp : 0 ≤ pl) (ha : 0 ≤ a) (hb : 0 ≤ b ∧ b < 2147483563) (hi : AllInt its) (hiz : its.length ≤ 100)
    (k : ∀ ns vs X R h', St c ns L vs X R Z h' → Q (.ret (.bool true)) h') (kn : ∀ ns vs X R h', St c ns L vs X R Z h' → Q .next h') :
    W c A (exec (.For (.Name "_" px) (.Call (.Name "range" p1) [.Name "end" p2] [] p3) loopBody [] pos) (envOf "law" (scopeOf (stm 117)) L f cd)) Q (fun _ _ => False) h := by
  have B := P.B
  have sc' := sc_law'
  refine w_for ?_ (fun _ => rfl)
  refine w_rng P S sc' (by ktf_call "pos") rfl rfl (w_args (w_ld S sc' (by ktf_call "pos") (w_args0 ?_)) rfl)
  refine r_range S fun r t1 t2 h' S1 => ?_
  refine i_rng (by omega) (by omega) S1 (.head _) fun I h' S2 => ?_
  have S3 := St.drop (St.perm (X' := (r, rangeO w.en t1 w.te t2) :: (I, rngO 0 w.en) :: MX c m vis pl0 sk nsk frO (TX w tk ntk nmO (SrcX w.so w.sl its a b ta tb n1 n2 Y))) (R' := R) (Z' := Z) S2 (List.Perm.swap _ _ _))
  refine ⟨fun n h => ∃ nameV us rowV refV pl tp vis pl0 sk tk as nsk ntk frO nmO na nb its a b ta tb n1 n2 R i, St c lns L (lvs w m nameV (.int pl tp) us rowV refV) ((I, rngO i (n : Int)) :: MX c m vis pl0 sk nsk frO (TX w tk ntk nmO (SrcX w.so w.sl its a b ta tb n1 n2 Y))) R Z h ∧
    Same c w m R sk tk as frO nmO na nb cas ∧ sk.length + n ≤ 20 ∧ 0 ≤ pl ∧ 0 ≤ a ∧ (0 ≤ b ∧ b < 2147483563) ∧ AllInt its ∧ its.length ≤ 100, w.en.toNat, ?_, ?_⟩
  · refine ⟨nameV, us, rowV, refV, pl, tp, vis, pl0, sk, tk, as, nsk, ntk, frO, nmO, na, nb, its, a, b, ta, tb, n1, n2, R, 0, ?_, sm, by omega, hp, ha, hb, hi, hiz⟩
    rw [show ((w.en.toNat : Nat) : Int) = w.en by omega]
    exact S3
  · rintro n h ⟨nameV, us, rowV, refV, pl, tp, vis, pl0, sk, tk, as, nsk, ntk, frO, nmO, na, nb, its, a, b, ta, tb, n1, n2, R, i, S, sm, hz, hp, ha, hb, hi, hiz⟩
    cases n with
    | zero => exact n_rngE hh S (by simp) fun h' S' => tk_none (kn _ _ _ _ _ S')
    | succ n =>
      refine n_rng S (by omega) fun t h' S' => tk_some ?_
      rw [show ((n + 1 : Nat) : Int) - 1 = (n : Int) by omega] at S'
      refine w_st S' sc' (by ktf_call "pos") fun h' S' => ?_
      have S4 : St c lns L (lvs w m nameV (.int pl tp) (some (.int i t)) rowV refV) (MX c m vis pl0 sk nsk frO (TX w tk ntk nmO (SrcX w.so w.sl its a b ta tb n1 n2 ((I, rngO (i + 1) n) :: Y)))) R Z h' :=
        St.swap2 (P := [(I, rngO (i + 1) n)]) (Q := MX c m vis pl0 sk nsk frO (TX w tk ntk nmO (SrcX w.so w.sl its a b ta tb n1 n2 []))) (T := Y) S'
      refine u_turn P RC hh hfr hA S4 sm (by omega) hp ha hb hi hiz (fun its' a' b' ta' tb' n1' n2' ha' hb' hi' hiz' => ⟨fun nameV us rowV pl' t1 t2 vis' sk' tk' as' nsk' ntk' frO' nmO' na' nb' R' h' sm' hz' hp' S5 => fk_next ⟨n, Nat.lt_succ_self _, ?_⟩, fun ns vs X R h' S5 => fk_ret (k _ _ _ _ _ S5)⟩)
        (fun ns vs X R h' S5 => fk_brk (kn _ _ _ _ _ S5))
      refine ⟨nameV, us, rowV, some (.bool false), pl', t2, vis', .int pl' t1, sk', tk', as', nsk', ntk', frO', nmO', na', nb', its', a', b', ta', tb', n1', n2', R', i + 1, ?_, sm', by omega, hp', ha', hb', hi', hiz'⟩
      exact St.swap2 (P := MX c m vis' (.int pl' t1) sk' nsk' frO' (TX w tk' ntk' nmO' (SrcX w.so w.sl its' a' b' ta' tb' n1' n2' []))) (Q := [(I, rngO (i + 1) n)]) (T := Y) S5
end
end
noncomputable section
section
variable {c : Cx} {A : Around} {E : Value → Heap → Prop} {h : Heap} {ns : List Str} {L f : Addr} {vs : List (Option Value)} {X R Z : Led} {Q : Value → Heap → Prop}
theorem c_env {n : Nat} {u v : Value} (P : Pk c) (S : St c ns L vs X R Z h) (hA : Rm (n + 2) A)
    (k : ∀ x dx tk n1 t1 fr lk h', St c ns L vs ((lk, emptyDict) :: (fr, emptyDict) :: (x, instObj c.ce dx) :: (dx, fld c tk ef [.str "environment" t1, u, v, .none, .ref fr, .bool false, .ref lk] n1) :: X) R Z h' → Q (.ref x) h') : W c A (call (.ref c.ce) [u, v]) Q E h := by
  have B := P.B
  refine w_cls (os := []) B S P.mkEnv hA sc_Environment_init rfl rfl (fun _ => bnd_Environment_init3 _ _ _ _) fun x dx L' h' cdv oL f A' F' hA' S' => ?_
  have sc' := sc_Environment_init
  simp only [List.map_cons, List.map_nil, List.cons_append, List.nil_append] at S' sc'
  refine w_body (by with_unfolding_all rfl) ?_
  have k1 := P.envF.fld "kind" (by decide)
  have k2 := P.envF.fld "number" (by decide)
  have k3 := P.envF.fld "parent" (by decide)
  have k4 := P.envF.fld "attrs" (by decide)
  have k5 := P.envF.fld "frame" (by decide)
  have k6 := P.envF.fld "locked" (by decide)
  have k7 := P.envF.fld "locks" (by decide)
  ktf_call "gon"
  exact ⟨rfl, k _ _ _ _ _ _ _ _ (by ktf_call "lv")⟩
theorem c_code {n : Nat} {u : Value} (P : Pk c) (S : St c ns L vs X R Z h) (hA : Rm (n + 2) A)
    (k : ∀ x dx tk n1 t1 r1 r2 h', St c ns L vs ((r2, listOf ([] : List Value).toArray 0) :: (r1, listOf ([] : List Value).toArray 0) :: (x, instObj c.cc dx) :: (dx, fld c tk cof [u, .ref r1, .ref r2, .int 0 t1] n1) :: X) R Z h' → Q (.ref x) h') : W c A (call (.ref c.cc) [u]) Q E h := by
  have B := P.B
  refine w_cls (os := []) B S P.mkCod hA sc_Code_init rfl rfl (fun _ => bnd_Code_init _ _) fun x dx L' h' cdv oL f A' F' hA' S' => ?_
  have sc' := sc_Code_init
  simp only [List.map_cons, List.map_nil, List.cons_append, List.nil_append] at S' sc'
  refine w_body (by with_unfolding_all rfl) ?_
  have k1 := P.codF.fld "expr" (by decide)
  have k2 := P.codF.fld "rows" (by decide)
  have k3 := P.codF.fld "consts" (by decide)
  have k4 := P.codF.fld "depth" (by decide)
  ktf_call "gon"
  exact ⟨rfl, k _ _ _ _ _ _ _ _ (by ktf_call "lv")⟩
theorem c_run {n : Nat} {co dc : Addr} {tkc : Nat → Tok} {nc : Nat} {ex rw cs dp u : Value} (P : Pk c) (S : St c ns L vs X R Z h) (hA : Rm (n + 2) A)
    (hco : Has co (instObj c.cc dc) X) (hdc : Has dc (fld c tkc cof [ex, rw, cs, dp] nc) X) (hrw : handedIn rw = true) (hcs : handedIn cs = true)
    (k : ∀ x dx tk n1 t1 sk lp h', St c ns L vs ((lp, listOf ([] : List Value).toArray 0) :: (sk, listOf ([] : List Value).toArray 0) :: (x, instObj c.cr dx) :: (dx, fld c tk rf [rw, cs, u, .int 0 t1, .ref sk, .ref lp] n1) :: X) R Z h' → Q (.ref x) h') : W c A (call (.ref c.cr) [.ref co, u]) Q E h := by
  have B := P.B
  refine w_cls (os := []) B S P.mkRun hA sc_Run_init rfl rfl (fun _ => bnd_Run_init _ _ _) fun x dx L' h' cdv oL f A' F' hA' S' => ?_
  have sc' := sc_Run_init
  simp only [List.map_cons, List.map_nil, List.cons_append, List.nil_append] at S' sc'
  refine w_body (by with_unfolding_all rfl) ?_
  have C1 := P.codF
  have k1 := P.runF.fld "rows" (by decide)
  have k2 := P.runF.fld "consts" (by decide)
  have k3 := P.runF.fld "env" (by decide)
  have k4 := P.runF.fld "place" (by decide)
  have k5 := P.runF.fld "stack" (by decide)
  have k6 := P.runF.fld "loops" (by decide)
  ktf_call "gog"
  exact ⟨rfl, k _ _ _ _ _ _ _ _ (by ktf_call "lv")⟩
end
end
noncomputable section
section
variable {c : Cx} {A : Around} {E : Value → Heap → Prop} {h : Heap} {ns : List Str} {L f : Addr} {vs : List (Option Value)} {X R Z : Led} {Q : Value → Heap → Prop}
theorem c_eva (P : Pk c) (S : St c ns L vs X R Z h) (hA : Rm 8 A)
    (k : ∀ x dx tk n1 e G dG tg ng g1 g2 g3 g4 fr lk h', St c ns L vs ((x, instObj c.ci dx) :: (dx, fld c tk evf (evs e G (.bool true)) n1) :: (lk, emptyDict) :: (fr, emptyDict) :: (G, instObj c.ce dG) :: (dG, fld c tg ef [g1, g2, g3, g4, .ref fr, .bool false, .ref lk] ng) :: X) R Z h' → Q (.ref x) h') :
    W c A (call (.ref c.ci) []) Q E h := by
  have B := P.B
  obtain ⟨t1, t2, mk⟩ := P.mkEva
  refine w_cls (os := []) (n := 6) B S mk hA sc_Evaluator_init rfl rfl (fun _ => bnd_Evaluator_init1 _ _ _) fun x dx L' h' cdv oL f A' F' hA' S' => ?_
  have sc' := sc_Evaluator_init
  simp only [List.map_cons, List.map_nil, List.cons_append, List.nil_append] at S' sc'
  have CE4 : Cls c.K c.ci ["limit", "most_frames", "steps", "next_number"] := P.evaF.sub (by decide) (by decide) (by decide)
  have CE5 : Cls c.K c.ci ["limit", "most_frames", "steps", "next_number", "base"] := P.evaF.sub (by decide) (by decide) (by decide)
  have M1 := P.mnewenv
  have k1 := P.evaF.fld "limit" (by decide)
  have k2 := P.evaF.fld "most_frames" (by decide)
  have k3 := P.evaF.fld "steps" (by decide)
  have k4 := P.evaF.fld "next_number" (by decide)
  have k5 := P.evaF.fld "base" (by decide)
  have k6 := P.evaF.fld "globals" (by decide)
  have k7 := P.evaF.fld "frames" (by decide)
  have k8 := P.evaF.fld "out" (by decide)
  have k9 := P.evaF.fld "warnings" (by decide)
  have k10 := P.evaF.fld "handlers" (by decide)
  have k11 := P.evaF.fld "restarts" (by decide)
  have k12 := P.evaF.fld "targets" (by decide)
  have k13 := P.evaF.fld "visible" (by decide)
  have k14 := P.evaF.fld "current" (by decide)
  have k15 := P.evaF.fld "dispatcher" (by decide)
  have k16 := P.evaF.fld "signaller" (by decide)
  have k17 := P.evaF.fld "warner" (by decide)
  have k18 := P.evaF.fld "deparser" (by decide)
  have k19 := P.evaF.fld "s4" (by decide)
  refine w_body (by with_unfolding_all rfl) ?_
  ktf_call "goe"
  ktn_call sc_Evaluator_new_env (bnd_Evaluator_new_env _ _)
  ktf_call "goe"
  refine c_env (n := 3) P (by ktf_call "asm") (by ktf_call "rm") fun y dy tky ny ty fry lky h' S' => ?_
  ktf_call "goe"
  have S8 := Frm.leave (by ktf_call "asm") (by ktf_call "asm")
  ktf_call "goe"
  ktn_call sc_Evaluator_new_env (bnd_Evaluator_new_env _ _)
  ktf_call "goe"
  refine c_env (n := 3) P (by ktf_call "asm") (by ktf_call "rm") fun G dG tg ng tG fr lk h' S' => ?_
  ktf_call "goe"
  have S9 := Frm.leave (by ktf_call "asm") (by ktf_call "asm")
  ktf_call "goe"
  have T1 := Frm.leave F' (by ktf_call "asm")
  have T2 := T1.drop.drop.drop.drop.drop
  have T3 := St.swap2 (P := [_, _, _, _, _, _, _, _]) (Q := [_, _]) (T := X) T2
  have T4 := St.swap2 (P := [_, _, _, _, _, _]) (Q := [_, _, _, _]) (T := X) T3
  exact ⟨rfl, k _ _ _ _ ⟨_, _, _, _, _, _, _, _, _, _, _, _, _, _, _, _, _⟩ _ _ _ _ _ _ _ _ _ _ _ T4.drop.drop.drop.drop⟩
end
end
noncomputable section
set_option maxHeartbeats 4000000
section
variable {c : Cx} {A : Around} {h : Heap} {L f : Addr} {cd : Value} {Q : Flow → Heap → Prop} {Y R : Led}
theorem law_tail {scr co : Value} {so sl vl nm tA tB : Addr} {m : Mc} {nsk nvl n1 n2 : Nat} {t0 ta tb : Tok} {its vls : List Value} {cas : List Va} {b : Int} {nmO : Obj} (P : Pk c) (RC : RefC c) (hh : A.handled = none) (hfr : A.frames = some [envOf "law" (scopeOf (stm 117)) L f cd]) (hA : Rm 12 A)
    (S : St c lns L [some scr, some (.ref so), some (.ref m.I), some (.ref vl), some co, some (.ref m.r), some (.ref nm), none, none, none, none, none, none, none] (MX c m (.bool true) (.int 0 t0) [] nsk emptyDict ((nm, nmO) :: (vl, listOf vls.toArray nvl) :: SrcX so sl its 0 b ta tb n1 n2 Y)) R [] h)
    (hn : nmO.IsDictOf (PySem.strKind c.prog c.w) [(("a" : Str), .ref tA), ("b", .ref tB)]) (hTA : TupIn R (.ref tA) ⟨"logical", some 1⟩) (hTB : TupIn R (.ref tB) ⟨"integer", some 5⟩) (hcon : All2 (VecIn c R) m.consts cas) (hvls : All2 (VecIn c R) vls cas) (hcl : cas.length = 5) (hlk : m.lkO = emptyDict)
    (hb : 0 ≤ b ∧ b < 2147483563) (hi : AllInt its) (hz : its.length ≤ 100)
    (k : ∀ ns vs X R h', St c ns L vs X R [] h' → Q (.ret (.bool true)) h') : W c A (execs ((bodyOf (stm 117)).drop 7) (envOf "law" (scopeOf (stm 117)) L f cd)) Q (fun _ _ => False) h := by
  have B := P.B
  have sc' := sc_law'
  have M := P.mods
  have C2 := P.evaF
  have C3 := P.envF
  have G1 := P.take
  have ea := @vAt_a (.ref tA) (.ref tB)
  have eb := @vAt_b (.ref tA) (.ref tB)
  have hTA' := hTA
  have hTB' := hTB
  obtain ⟨xa, ila, na1, na2, ta1, iva, ea', ga1, ga2, ga3, ga4⟩ := hTA
  cases ea'
  obtain ⟨xb, ilb, nb1, nb2, tb1, ivb, eb', gb1, gb2, gb3, gb4⟩ := hTB
  cases eb'
  dsimp only at ga1 ga3 gb1 gb3
  refine w_body (by with_unfolding_all rfl) ?_
  refine w_cons ?_
  refine w_forU 3 ?_ (fun _ => rfl)
  ktf_call "rnn"
  refine i_key M S (by ktf_call "has") hn fun It1 o h' ho S' => ?_
  refine fl_go (n_key S' ho (by ktf_call "has") rfl fun o t h' ho S' => tk_some ?_)
  ktf_call "rnn"
  refine r_copy (by ktf_call "asm") (by ktf_call "has") (Nat.le_of_ble_eq_true rfl) fun D1 n' h' S' => ?_
  ktf_call "rnn"
  refine c_vec (n := 4) P (by ktf_call "asm") (by ktf_call "rm") fun x6 dx6 tk6 nx6 h' S' => ?_
  obtain ⟨R1, l1, va, S'⟩ := VecIn.made (a := ⟨"logical", some 1⟩) S' ga3 ga4
  ktf_call "rnn"
  refine r_setD S' (by repeat (first | with_reducible exact Hole.head | with_reducible apply Hole.tail)) (emptyIs c) (by simp) fun h' o1 d1 S' => ?_
  have gb1' := l1.tup gb1
  have gb2' := l1.o _ gb2 (fun e => absurd (Value.type.inj e) (by decide))
  ktf_call "rnn"
  refine fk_next (fl_go (n_key S' ho (by ktf_call "has") rfl fun o t h' ho S' => tk_some ?_))
  ktf_call "rnn"
  refine r_copy (by ktf_call "asm") (by ktf_call "has") (Nat.le_of_ble_eq_true rfl) fun D2 n2' h' S' => ?_
  ktf_call "rnn"
  refine c_vec (n := 4) P (by ktf_call "asm") (by ktf_call "rm") fun x7 dx2 tk2 n12 h' S' => ?_
  obtain ⟨R2, l2, vb, S'⟩ := VecIn.made (a := ⟨"integer", some 5⟩) S' gb3 gb4
  ktf_call "rnn"
  refine r_setD S' (by repeat (first | with_reducible exact Hole.head | with_reducible apply Hole.tail)) (show o1.IsDictOf (PySem.strKind c.prog c.w) [(("a" : Str), .ref x6)] from d1) (by simp) fun h' o2 d2 S' => ?_
  have d2' : o2.IsDictOf (PySem.strKind c.prog c.w) [(("a" : Str), .ref x6), ("b", .ref x7)] := d2
  ktf_call "rnn"
  refine fk_next (fl_go (n_keyE hh S' ho (by ktf_call "has") rfl fun h' S' => tk_none (nk_next ?_)))
  ktf_call "rnn"
  refine r_newL S' (Nat.le_of_ble_eq_true rfl) fun tst h' S' => ?_
  ktf_call "rnn"
  have S1 := St.same (by ktf_call "asm")
  have S2 := St.swap2 (P := (tst, listOf ([] : List Value).toArray 0) :: MX c m (.bool true) (.int 0 t0) [] nsk o2 [(nm, nmO), (vl, listOf vls.toArray nvl)]) (Q := SrcX so sl its 0 b ta tb n1 n2 []) (T := Y) S1
  refine c_take (Y := (tst, listOf ([] : List Value).toArray 0) :: MX c m (.bool true) (.int 0 t0) [] nsk o2 ((nm, nmO) :: (vl, listOf vls.toArray nvl) :: Y)) P S2 (by ktf_call "asm") (by ktf_call "rm") (by omega) hb (by decide) (by decide) hi hz fun i ti a' ta' b' tb' its' n1' n2' h' i0 i1 ha' hb' hi' hz' S3 => ?_
  have S4 := St.swap2 (P := SrcX so sl its' a' b' ta' tb' n1' n2' []) (Q := (tst, listOf ([] : List Value).toArray 0) :: MX c m (.bool true) (.int 0 t0) [] nsk o2 [(nm, nmO), (vl, listOf vls.toArray nvl)]) (T := Y) S3
  have S5 := St.swap2 (P := [(tst, listOf ([] : List Value).toArray 0)]) (Q := MX c m (.bool true) (.int 0 t0) [] nsk o2 []) (T := (nm, nmO) :: (vl, listOf vls.toArray nvl) :: SrcX so sl its' a' b' ta' tb' n1' n2' Y) S4
  have l12 := l1.trans l2
  ktf_call "rnn"
  have S6 := St.same (by ktf_call "asm")
  refine u_loop (en := 3 + i) (w := ⟨scr, co, so, sl, vl, nm, tst, 3 + i, _, vls, nvl⟩) (m := m) (Y := Y) (tk := []) (sk := []) (as := []) (nb := ⟨"integer", some 5⟩) (na := ⟨"logical", some 1⟩) (cas := cas) P RC hh hfr (by ktf_call "rm") rfl (by omega) (by omega) S6 ⟨.nil, .nil, ⟨_, _, d2', l2.v _ _ va, vb⟩, ⟨_, _, hn, l12.t _ _ hTA', l12.t _ _ hTB'⟩, hcon.imp l12.v, hvls.imp l12.v, hlk ▸ emptyIs c, hcl⟩ rfl (by omega) ha' hb' hi' hz' ?_ ?_
  · intro ns vs X R h' S7
    exact nk_ret (k _ _ _ _ _ S7)
  · intro ns vs X R h' S7
    refine nk_next ?_
    ktf_call "rnn"
    exact k _ _ _ _ _ S7
end
end
noncomputable section
set_option maxHeartbeats 4000000
section
variable {c : Cx} {A : Around} {h : Heap} {L f : Addr} {cd : Value} {Q : Flow → Heap → Prop}
theorem law_body {scr : Addr} {us : List Value} {ms : List Int} (P : Pk c) (RC : RefC c) (hh : A.handled = none) (hfr : A.frames = some [envOf "law" (scopeOf (stm 117)) L f cd]) (hA : Rm 12 A)
    (S : St c lns L [some (.ref scr), none, none, none, none, none, none, none, none, none, none, none, none, none] [] [] [] h) (hl : c.b.IsList scr us.toArray) (hi : IntsAre us ms) (hz : us.length ≤ 100)
    (k : ∀ ns vs X R h', St c ns L vs X R [] h' → Q (.ret (.bool true)) h') : W c A (execs (bodyOf (stm 117)) (envOf "law" (scopeOf (stm 117)) L f cd)) Q (fun _ _ => False) h := by
  have B := P.B
  have sc' := sc_law'
  have M := P.mods
  have C1 := P.runF
  have C2 := P.evaF
  have C3 := P.envF
  have C4 := P.codF
  have G1 := P.take
  have hl' : ∀ {g : Heap}, (∀ b o, c.b.get? b = some o → g.get? b = some o) → g.IsList scr us.toArray := fun k => let ⟨o, a, b⟩ := hl; ⟨o, k _ _ a, b⟩
  have zt : (us.take 40).length ≤ 1000 := by rw [List.length_take]; omega
  have ht : IntsAre (us.take 40) (ms.take 40) := IntsAre.take hi 40
  refine w_body (by with_unfolding_all rfl) ?_
  ktf_call "goe"
  refine slk (by ktf_call "asm") fun sl1 h' S' => ?_
  refine r_cut40 S' (by ktf_call "has") (hl' S'.keep) (by omega) rfl (fun _ => rfl) fun D1 h' S' => ?_
  ktf_call "goe"
  refine r_copy S' (by ktf_call "has") zt fun sl n2 h' S' => ?_
  ktf_call "goe"
  refine slk (by ktf_call "asm") fun sl2 h' S' => ?_
  refine r_cut40 S' (by ktf_call "has") (hl' S'.keep) (by omega) rfl (fun _ => rfl) fun D2 h' S' => ?_
  ktf_call "goe"
  refine r_sum hh S' (by ktf_call "has") ht fun ts h' S' => ?_
  ktf_call "rnn"
  refine r_newL S' (Nat.le_of_ble_eq_true rfl) fun so h' S' => ?_
  ktf_call "rnn"
  refine w_kCls B (by ktf_call "asm") sc' (by ktf_call "pos") P.gev P.kEva ?_
  refine c_eva P (by ktf_call "asm") (by ktf_call "rm") fun I dI ti ni ev G dG tg ng g1 g2 g3 g4 fr lk h' S' => ?_
  ktf_call "rnn"
  refine r_newL (by ktf_call "asm") (Nat.le_of_ble_eq_true rfl) fun i0 h' S' => ?_
  ktf_call "rnn"
  refine c_vec (n := 4) P (by ktf_call "asm") (by ktf_call "rm") fun x0 dx tk n1 h' S' => ?_
  obtain ⟨R0, l0, v0, S'⟩ := VecIn.made (a := ⟨"integer", some 3⟩) S' ⟨_, rfl⟩ (.inr rfl)
  ktf_call "rnn"
  refine r_newL (by ktf_call "asm") (Nat.le_of_ble_eq_true rfl) fun i1 h' S' => ?_
  ktf_call "rnn"
  refine c_vec (n := 4) P (by ktf_call "asm") (by ktf_call "rm") fun x1 dx tk n1 h' S' => ?_
  obtain ⟨R1, l1, v1, S'⟩ := VecIn.made (a := ⟨"logical", some 1⟩) S' ⟨_, rfl⟩ (.inl rfl)
  ktf_call "rnn"
  refine r_newL (by ktf_call "asm") (Nat.le_of_ble_eq_true rfl) fun i2 h' S' => ?_
  ktf_call "rnn"
  refine c_vec (n := 4) P (by ktf_call "asm") (by ktf_call "rm") fun x2 dx tk n1 h' S' => ?_
  obtain ⟨R2, l2, v2, S'⟩ := VecIn.made (a := ⟨"logical", some 0⟩) S' ⟨_, rfl⟩ (.inl rfl)
  ktf_call "rnn"
  refine r_newL (by ktf_call "asm") (Nat.le_of_ble_eq_true rfl) fun i3 h' S' => ?_
  ktf_call "rnn"
  refine c_vec (n := 4) P (by ktf_call "asm") (by ktf_call "rm") fun x3 dx tk n1 h' S' => ?_
  obtain ⟨R3, l3, v3, S'⟩ := VecIn.made (a := ⟨"logical", none⟩) S' rfl (.inl rfl)
  ktf_call "rnn"
  refine r_newL (by ktf_call "asm") (Nat.le_of_ble_eq_true rfl) fun i4 h' S' => ?_
  ktf_call "rnn"
  refine c_vec (n := 4) P (by ktf_call "asm") (by ktf_call "rm") fun x4 dx tk n1 h' S' => ?_
  obtain ⟨R4, l4, v4, S'⟩ := VecIn.made (a := ⟨"integer", some 0⟩) S' ⟨_, rfl⟩ (.inr rfl)
  ktf_call "rnn"
  refine r_newL (by ktf_call "asm") (Nat.le_of_ble_eq_true rfl) fun vl h' S' => ?_
  ktf_call "rnn"
  refine r_newL (by ktf_call "asm") (Nat.le_of_ble_eq_true rfl) fun i5 h' S' => ?_
  ktf_call "rnn"
  refine c_vec (n := 4) P (by ktf_call "asm") (by ktf_call "rm") fun x5 dx tk n1 h' S' => ?_
  obtain ⟨R5, l5, v5, S'⟩ := VecIn.made (a := ⟨"integer", some 0⟩) S' ⟨_, rfl⟩ (.inr rfl)
  ktf_call "rnn"
  refine c_code (n := 4) P (by ktf_call "asm") (by ktf_call "rm") fun co dco tkc nco tco r1 r2 h' S' => ?_
  ktf_call "rnn"
  refine r_copy (by ktf_call "asm") (by ktf_call "has") (Nat.le_of_ble_eq_true rfl) fun cs ncs h' S' => ?_
  ktf_call "rnn"
  refine c_run (n := 4) P (by ktf_call "asm") (by ktf_call "rm") (by ktf_call "pos") (by ktf_call "pos") rfl rfl fun r dr tr nr tr1 sk lp h' S' => ?_
  ktf_call "rnn"
  with_reducible refine' w_dict2 ?dd ?dS ?_
  case dd => decide
  case dS => ktf_call "asm"
  intro nm h' S'
  ktf_call "rnn"
  refine r_newL (by ktf_call "asm") (Nat.le_of_ble_eq_true rfl) fun i6 h' S' => ?_
  ktf_call "rnn"
  refine r_newT (by ktf_call "asm") (Nat.le_of_ble_eq_true rfl) fun tA h' S' => ?_
  obtain ⟨R6, l6, v6, S'⟩ := TupIn.made (a := ⟨"logical", some 1⟩) S' ⟨_, rfl⟩ (.inl rfl)
  ktf_call "rnn"
  refine r_newL (by ktf_call "asm") (Nat.le_of_ble_eq_true rfl) fun i7 h' S' => ?_
  ktf_call "rnn"
  refine r_newT (by ktf_call "asm") (Nat.le_of_ble_eq_true rfl) fun tB h' S' => ?_
  obtain ⟨R7, l7, v7, S'⟩ := TupIn.made (a := ⟨"integer", some 5⟩) S' ⟨_, rfl⟩ (.inr rfl)
  refine dsk S' .head fun nmO h' hn S' => ?_
  refine w_st S' sc' (by ktf_call "pos") fun h' S' => nk_next ?_
  refine w_bodyR (body := (bodyOf (stm 117)).drop 7) (by with_unfolding_all rfl) ?_
  have e7 := l7
  have e6 := l6.trans e7
  have e5 := l5.trans e6
  have e4 := l4.trans e5
  have e3 := l3.trans e4
  have e2 := l2.trans e3
  have e1 := l1.trans e2
  have q0 := e1.v _ _ v0
  have q1 := e2.v _ _ v1
  have q2 := e3.v _ _ v2
  have q3 := e4.v _ _ v3
  have q4 := e5.v _ _ v4
  have S' := St.sel sl S' (by ktf_call "sel")
  have S' := St.sel so S' (by ktf_call "sel")
  have S' := St.sel vl S' (by ktf_call "sel")
  have S' := St.sel nm S' (by ktf_call "sel")
  have S' := St.sel lk S' (by ktf_call "sel")
  have S' := St.sel fr S' (by ktf_call "sel")
  have S' := St.sel dG S' (by ktf_call "sel")
  have S' := St.sel G S' (by ktf_call "sel")
  have S' := St.sel cs S' (by ktf_call "sel")
  have S' := St.sel dI S' (by ktf_call "sel")
  have S' := St.sel I S' (by ktf_call "sel")
  have S' := St.sel dr S' (by ktf_call "sel")
  have S' := St.sel r S' (by ktf_call "sel")
  have S' := St.sel sk S' (by ktf_call "sel")
  refine law_tail (m := ⟨r, dr, sk, I, dI, cs, G, dG, fr, lk, tr, ti, tg, nr, ni, ncs, ng, .ref r1, .ref lp, g1, g2, g3, g4, emptyDict, ev, [.ref x0, .ref x1, .ref x2, .ref x3, .ref x4]⟩) (vls := [.ref x0, .ref x1, .ref x2, .ref x3, .ref x4]) P RC hh hfr hA S' hn (e7.t _ _ v6) v7
    (.cons q0 (.cons q1 (.cons q2 (.cons q3 (.cons q4 .nil))))) (.cons q0 (.cons q1 (.cons q2 (.cons q3 (.cons q4 .nil))))) rfl rfl ⟨by omega, by omega⟩ ?_ ?_ k
  · exact AllInt.of ht
  · rw [List.length_take]; omega
end
end
noncomputable section
section
variable {c : Cx} {A : Around} {f : Addr}
/-- the law's own call, from the base -/
theorem c_law {scr : Addr} {us : List Value} {ms : List Int} {tk : Nat} (P : Pk c) (RC : RefC c) (hF : FnAt c f "law" (stm 117) []) (hfr : A.frames = some []) (hh : A.handled = none) (hA : Rm 13 A) (hl : c.b.IsList scr us.toArray) (hi : IntsAre us ms) (hz : us.length ≤ 100) :
    wpAny c.M A (call (.ref f) [.ref scr]) (fun v s' => v = .bool true ∧ ∃ h t, s' = c.st h t ∧ ∀ b o, c.b.get? b = some o → h.get? b = some o) (fun _ _ => False) (c.st c.b tk) := by
  obtain ⟨name, oc, od, osl, dV, kV, doc, pm, an, cdv, ct, h1, h2, h3⟩ := hF
  have B := P.B
  refine wpAny_call (codeAny_call_def (fd := fnOf name "law" (paramsOf (stm 117)) (bodyOf (stm 117)) (scopeOf (stm 117)) dV kV doc pm an cdv ct) (body := bodyOf (stm 117)) hA.lt (B.X _ _ h1) rfl B.nolimit (codeRec_of B.X h2) rfl
    (bnd_law (.ref scr) _ name "law" dV kV doc pm an cdv ct (h3.imp id fun ⟨ne, _⟩ => absurd rfl ne)) sc_law.cell (fun x hx => sc_law.loc _ (List.mem_append_left _ (List.of_mem_zip hx).1)) (fun h₁ hns hk => ?_) sc_law.co sc_law.gen sc_law.k)
  have S : St c lns c.b.objs.size [some (.ref scr), none, none, none, none, none, none, none, none, none, none, none, none, none] [] [] [] h₁ :=
    ⟨⟨_, ⟨hns, fun b o e => hk b o e, Nat.le_refl _⟩, loc_binds ["script"] [.ref scr] ["source", "interp", "values", "code", "run", "names", "name", "stack", "end", "place", "_", "row", "refused"] sc_law.nd rfl⟩, fun p hp => (nomatch hp), List.nodup_nil⟩
  have hA' : Rm 12 (A.deeper (envOf "law" (scopeOf (stm 117)) c.b.objs.size f cdv)) := Rm.deeper hA
  have z := law_body (A := A.deeper (envOf "law" (scopeOf (stm 117)) c.b.objs.size f cdv)) (cd := cdv) (f := f) (L := c.b.objs.size) (Q := fun fl h' => retV fl = .bool true ∧ ∀ b o, c.b.get? b = some o → h'.get? b = some o) P RC hh (fd hfr) hA' S hl hi hz (fun ns vs X R h' S' => ⟨rfl, S'.keep⟩)
  refine wpAny_mono (z _) (fun fl s' ⟨h', t', e, q1, q2⟩ => ?_) (fun e s' ⟨_, _, _, x⟩ => x.elim)
  subst e
  cases fl <;> exact ⟨q1, h', t', rfl, q2⟩
end
end
end Mine
namespace Mine.Hd
open PySem PySem.W PySem.Calls PyProof.Rows
noncomputable section
set_option maxHeartbeats 0
section
theorem fnAt_of {c : Cx} {f : Addr} {name qual : Str} {st : Stmt} {dflt : List Value} {dV pm cd : Value} (h : c.K.lookup f = some (xH name qual st dV pm cd)) (hc : codeIn c.K cd qual = true)
    (hd : (dflt = [] ∧ dV = .none) ∨ (dflt ≠ [] ∧ ∃ T o n, dV = .ref T ∧ c.K.lookup T = some o ∧ o.data = .seq dflt.toArray n)) : FnAt c f qual st dflt :=
  ⟨name, _, _, _, dV, .none, .none, pm, none, cd, .none, h, hc, hd⟩
noncomputable def fldB (K : Frag) (C : Addr) (x : Str) : Bool := plainGet K C x && hasDictIn K C && (match findIn K (.ref C) x with | some attr => noGet K attr | none => false) && decide (findIn K (.ref C) "__setattr__" = some (some (.builtin "object.__setattr__"))) && plainOver K C && decide (takerIn K C x = some none)
theorem fld_of {K : Frag} {C : Addr} {x : Str} (h : fldB K C x = true) : Fld K C x := by
  unfold fldB at h
  simp only [Bool.and_eq_true, decide_eq_true_eq] at h
  obtain ⟨⟨⟨⟨⟨a, b⟩, d⟩, e⟩, f⟩, g⟩ := h
  refine ⟨a, b, ?_, e, f, g⟩
  split at d
  · exact ⟨_, by assumption, d⟩
  · cases d
noncomputable def clsB (K : Frag) (C : Addr) (fs : List Str) : Bool := fs.all (fldB K C) && decide fs.Nodup && Nat.ble fs.length 1000
theorem cls_of {K : Frag} {C : Addr} {fs : List Str} (h : clsB K C fs = true) : Cls K C fs := by
  unfold clsB at h
  simp only [Bool.and_eq_true, List.all_eq_true, decide_eq_true_eq] at h
  exact ⟨fun x hx => fld_of (h.1.1 x hx), h.1.2, Nat.le_of_ble_eq_true h.2⟩
noncomputable def mtB (K : Frag) (C : Addr) (x : Str) (f : Addr) : Bool := decide (findIn K (.ref C) x = some (some (.ref f))) && isFn K (.ref f) && plainGet K C x
theorem mt_of {c : Cx} {C f : Addr} {x qual : Str} {st : Stmt} {dflt : List Value} (h : mtB c.K C x f = true) (F : FnAt c f qual st dflt) : Mt c C x qual st dflt := by
  unfold mtB at h
  simp only [Bool.and_eq_true, decide_eq_true_eq] at h
  exact ⟨⟨f, h.1.1, F, h.1.2⟩, h.2⟩
noncomputable def mkB (K : Frag) (C f : Addr) : Bool := makesIn K C && decide (findIn K (.ref C) "__init__" = some (some (.ref f))) && isFn K (.ref f)
theorem mk_of {c : Cx} {C f : Addr} {qual : Str} {st : Stmt} {dflt : List Value} (h : mkB c.K C f = true) (F : FnAt c f qual st dflt) : Mk c C qual st dflt := by
  unfold mkB at h
  simp only [Bool.and_eq_true, decide_eq_true_eq] at h
  exact ⟨h.1.1, f, h.1.2, F, h.2⟩
theorem fb_vecF (P : Params) : clsB (kK P) 210 vf = true := by kernel_rfl
theorem fb_envF (P : Params) : clsB (kK P) 297 ef = true := by kernel_rfl
theorem fb_runF (P : Params) : clsB (kK P) 817 rf = true := by kernel_rfl
theorem fb_codF (P : Params) : clsB (kK P) 927 cof = true := by kernel_rfl
theorem fb_evaF (P : Params) : clsB (kK P) 1158 evf = true := by kernel_rfl
theorem fb_mkVec (P : Params) : mkB (kK P) 210 200 = true := by kernel_rfl
theorem fb_mkEnv (P : Params) : mkB (kK P) 297 294 = true := by kernel_rfl
theorem fb_mkRun (P : Params) : mkB (kK P) 817 814 = true := by kernel_rfl
theorem fb_mkCod (P : Params) : mkB (kK P) 927 924 = true := by kernel_rfl
theorem fb_mkEva (P : Params) : mkB (kK P) 1158 967 = true := by kernel_rfl
theorem fb_mvar (P : Params) : mtB (kK P) 1158 "variable" 1025 = true := by kernel_rfl
theorem fb_mnew (P : Params) : mtB (kK P) 1158 "new_env" 974 = true := by kernel_rfl
end
/-- the context at the call -/
noncomputable abbrev cX (w : World) (s : Shared) (mg mb : Str → Option Value) : Cx := ⟨pw, w, s.gens, s.drawn, s.os, s.heap, kK w.params, mg, mb, 210, 297, 817, 1158, 927, 51⟩
section
variable {w : World} {s : Shared} {mg mb : Str → Option Value}
theorem at_and_items : FnAt (cX w s mg mb) 143 "and_items" (stm 11) [] := fnAt_of (f := 143) (name := n199) (dV := .none) (pm := .str n212 358) (cd := .ref 142) (by kernel_rfl) (by kernel_rfl) (.inl ⟨rfl, rfl⟩)
theorem at_or_items : FnAt (cX w s mg mb) 150 "or_items" (stm 12) [] := fnAt_of (f := 150) (name := n200) (dV := .none) (pm := .str n212 358) (cd := .ref 149) (by kernel_rfl) (by kernel_rfl) (.inl ⟨rfl, rfl⟩)
theorem at_truth_item : FnAt (cX w s mg mb) 157 "truth_item" (stm 13) [] := fnAt_of (f := 157) (name := n201) (dV := .none) (pm := .str n212 358) (cd := .ref 156) (by kernel_rfl) (by kernel_rfl) (.inl ⟨rfl, rfl⟩)
theorem at_scalar_truth : FnAt (cX w s mg mb) 164 "scalar_truth" (stm 15) [] := fnAt_of (f := 164) (name := n202) (dV := .none) (pm := .str n218 384) (cd := .ref 163) (by kernel_rfl) (by kernel_rfl) (.inl ⟨rfl, rfl⟩)
theorem at_flag : FnAt (cX w s mg mb) 357 "flag" (stm 26) [] := fnAt_of (f := 357) (name := n242) (dV := .none) (pm := .str n197 395) (cd := .ref 356) (by kernel_rfl) (by kernel_rfl) (.inl ⟨rfl, rfl⟩)
theorem at_length : FnAt (cX w s mg mb) 371 "length" (stm 28) [] := fnAt_of (f := 371) (name := n244) (dV := .none) (pm := .str n197 395) (cd := .ref 370) (by kernel_rfl) (by kernel_rfl) (.inl ⟨rfl, rfl⟩)
theorem at_is_atomic : FnAt (cX w s mg mb) 378 "is_atomic" (stm 29) [] := fnAt_of (f := 378) (name := n245) (dV := .none) (pm := .str n197 395) (cd := .ref 377) (by kernel_rfl) (by kernel_rfl) (.inl ⟨rfl, rfl⟩)
theorem at_share : FnAt (cX w s mg mb) 392 "share" (stm 31) [] := fnAt_of (f := 392) (name := n247) (dV := .none) (pm := .str n197 395) (cd := .ref 391) (by kernel_rfl) (by kernel_rfl) (.inl ⟨rfl, rfl⟩)
theorem at_to_logical : FnAt (cX w s mg mb) 406 "to_logical" (stm 34) [] := fnAt_of (f := 406) (name := n249) (dV := .none) (pm := .str n273 722) (cd := .ref 405) (by kernel_rfl) (by kernel_rfl) (.inl ⟨rfl, rfl⟩)
theorem at_condition : FnAt (cX w s mg mb) 413 "condition" (stm 35) [] := fnAt_of (f := 413) (name := n188) (dV := .none) (pm := .str n273 722) (cd := .ref 412) (by kernel_rfl) (by kernel_rfl) (.inl ⟨rfl, rfl⟩)
theorem at_lookup : FnAt (cX w s mg mb) 589 "lookup" (stm 59) [] := fnAt_of (f := 589) (name := n289) (dV := .none) (pm := .str n336 955) (cd := .ref 588) (by kernel_rfl) (by kernel_rfl) (.inl ⟨rfl, rfl⟩)
theorem at_define : FnAt (cX w s mg mb) 610 "define" (stm 62) [] := fnAt_of (f := 610) (name := n292) (dV := .none) (pm := .str n336 955) (cd := .ref 609) (by kernel_rfl) (by kernel_rfl) (.inl ⟨rfl, rfl⟩)
theorem at_is_dots_place : FnAt (cX w s mg mb) 672 "is_dots_place" (stm 72) [] := fnAt_of (f := 672) (name := n301) (dV := .none) (pm := .str n340 1019) (cd := .ref 671) (by kernel_rfl) (by kernel_rfl) (.inl ⟨rfl, rfl⟩)
theorem at_logic_left : FnAt (cX w s mg mb) 854 "logic_left" (stm 96) [] := fnAt_of (f := 854) (name := n369) (dV := .none) (pm := .str n282 1261) (cd := .ref 853) (by kernel_rfl) (by kernel_rfl) (.inl ⟨rfl, rfl⟩)
theorem at_logic_right : FnAt (cX w s mg mb) 861 "logic_right" (stm 97) [] := fnAt_of (f := 861) (name := n370) (dV := .none) (pm := .str n282 1261) (cd := .ref 860) (by kernel_rfl) (by kernel_rfl) (.inl ⟨rfl, rfl⟩)
theorem at_jump : FnAt (cX w s mg mb) 875 "jump" (stm 99) [] := fnAt_of (f := 875) (name := n372) (dV := .none) (pm := .str n282 1261) (cd := .ref 874) (by kernel_rfl) (by kernel_rfl) (.inl ⟨rfl, rfl⟩)
theorem at_perform_push : FnAt (cX w s mg mb) 882 "perform_push" (stm 100) [] := fnAt_of (f := 882) (name := n373) (dV := .none) (pm := .str n282 1261) (cd := .ref 881) (by kernel_rfl) (by kernel_rfl) (.inl ⟨rfl, rfl⟩)
theorem at_perform_jump : FnAt (cX w s mg mb) 889 "perform_jump" (stm 101) [] := fnAt_of (f := 889) (name := n374) (dV := .none) (pm := .str n282 1261) (cd := .ref 888) (by kernel_rfl) (by kernel_rfl) (.inl ⟨rfl, rfl⟩)
theorem at_perform_loop : FnAt (cX w s mg mb) 896 "perform_loop" (stm 102) [] := fnAt_of (f := 896) (name := n375) (dV := .none) (pm := .str n282 1261) (cd := .ref 895) (by kernel_rfl) (by kernel_rfl) (.inl ⟨rfl, rfl⟩)
theorem at_perform_assign : FnAt (cX w s mg mb) 903 "perform_assign" (stm 103) [] := fnAt_of (f := 903) (name := n376) (dV := .none) (pm := .str n282 1261) (cd := .ref 902) (by kernel_rfl) (by kernel_rfl) (.inl ⟨rfl, rfl⟩)
theorem at_perform : FnAt (cX w s mg mb) 910 "perform" (stm 104) [] := fnAt_of (f := 910) (name := n377) (dV := .none) (pm := .str n282 1261) (cd := .ref 909) (by kernel_rfl) (by kernel_rfl) (.inl ⟨rfl, rfl⟩)
theorem at_law_take : FnAt (cX w s mg mb) 1169 "_law_take" (stm 111) [] := fnAt_of (f := 1169) (name := n401) (dV := .none) (pm := .str n399 1864) (cd := .ref 1168) (by kernel_rfl) (by kernel_rfl) (.inl ⟨rfl, rfl⟩)
theorem at_law_plain : FnAt (cX w s mg mb) 1176 "_law_plain" (stm 112) [] := fnAt_of (f := 1176) (name := n402) (dV := .none) (pm := .str n399 1864) (cd := .ref 1175) (by kernel_rfl) (by kernel_rfl) (.inl ⟨rfl, rfl⟩)
theorem at_law_row : FnAt (cX w s mg mb) 1183 "_law_row" (stm 113) [] := fnAt_of (f := 1183) (name := n403) (dV := .none) (pm := .str n399 1864) (cd := .ref 1182) (by kernel_rfl) (by kernel_rfl) (.inl ⟨rfl, rfl⟩)
theorem at_law_truth : FnAt (cX w s mg mb) 1190 "_law_truth" (stm 114) [] := fnAt_of (f := 1190) (name := n404) (dV := .none) (pm := .str n399 1864) (cd := .ref 1189) (by kernel_rfl) (by kernel_rfl) (.inl ⟨rfl, rfl⟩)
theorem at_law_joined : FnAt (cX w s mg mb) 1197 "_law_joined" (stm 115) [] := fnAt_of (f := 1197) (name := n405) (dV := .none) (pm := .str n399 1864) (cd := .ref 1196) (by kernel_rfl) (by kernel_rfl) (.inl ⟨rfl, rfl⟩)
theorem at_law_done : FnAt (cX w s mg mb) 1204 "_law_done" (stm 116) [] := fnAt_of (f := 1204) (name := n406) (dV := .none) (pm := .str n399 1864) (cd := .ref 1203) (by kernel_rfl) (by kernel_rfl) (.inl ⟨rfl, rfl⟩)
theorem at_law : FnAt (cX w s mg mb) 1209 "law" (stm 117) [] := fnAt_of (f := 1209) (name := n407) (dV := .none) (pm := .str n399 1864) (cd := .ref 1208) (by kernel_rfl) (by kernel_rfl) (.inl ⟨rfl, rfl⟩)
theorem at_Vector_init : FnAt (cX w s mg mb) 200 "Vector.__init__" (mth 18 0) [.none] := fnAt_of (f := 200) (name := n183) (dV := .ref 193) (pm := .str n197 395) (cd := .ref 199) (by kernel_rfl) (by kernel_rfl) (.inr ⟨List.cons_ne_nil _ _, 193, xT [.none], 0, rfl, by kernel_rfl, rfl⟩)
theorem at_Environment_init : FnAt (cX w s mg mb) 294 "Environment.__init__" (mth 22 0) [.none] := fnAt_of (f := 294) (name := n183) (dV := .ref 287) (pm := .str n197 395) (cd := .ref 293) (by kernel_rfl) (by kernel_rfl) (.inr ⟨List.cons_ne_nil _ _, 287, xT [.none], 0, rfl, by kernel_rfl, rfl⟩)
theorem at_Run_init : FnAt (cX w s mg mb) 814 "Run.__init__" (mth 91 0) [] := fnAt_of (f := 814) (name := n183) (dV := .none) (pm := .str n282 1261) (cd := .ref 813) (by kernel_rfl) (by kernel_rfl) (.inl ⟨rfl, rfl⟩)
theorem at_Code_init : FnAt (cX w s mg mb) 924 "Code.__init__" (mth 106 0) [] := fnAt_of (f := 924) (name := n183) (dV := .none) (pm := .str n391 1460) (cd := .ref 923) (by kernel_rfl) (by kernel_rfl) (.inl ⟨rfl, rfl⟩)
theorem at_Evaluator_init : FnAt (cX w s mg mb) 967 "Evaluator.__init__" (mth 109 0) [.int 20000 1547, .int 40 1548] := fnAt_of (f := 967) (name := n183) (dV := .ref 960) (pm := .str n363 1494) (cd := .ref 966) (by kernel_rfl) (by kernel_rfl) (.inr ⟨List.cons_ne_nil _ _, 960, xT [.int 20000 1547, .int 40 1548], 0, rfl, by kernel_rfl, rfl⟩)
theorem at_Evaluator_new_env : FnAt (cX w s mg mb) 974 "Evaluator.new_env" (mth 109 1) [] := fnAt_of (f := 974) (name := n408) (dV := .none) (pm := .str n363 1494) (cd := .ref 973) (by kernel_rfl) (by kernel_rfl) (.inl ⟨rfl, rfl⟩)
theorem at_Evaluator_variable : FnAt (cX w s mg mb) 1025 "Evaluator.variable" (mth 109 8) [] := fnAt_of (f := 1025) (name := n413) (dV := .none) (pm := .str n363 1494) (cd := .ref 1024) (by kernel_rfl) (by kernel_rfl) (.inl ⟨rfl, rfl⟩)
theorem at_Refusal_init : FnAt (cX w s mg mb) 48 "Refusal.__init__" (mth 3 0) [] := fnAt_of (f := 48) (name := n183) (dV := .none) (pm := .str n169 194) (cd := .ref 47) (by kernel_rfl) (by kernel_rfl) (.inl ⟨rfl, rfl⟩)
end
end
noncomputable section
set_option maxHeartbeats 0
section
variable {w : World} {s : Shared} {mg mb : Str → Option Value}
theorem g_at (h : xtP globs mg) (i : Nat) (x : Str) (v : Option Value) (e : globs[i]? = some (gP x v)) : mg x = v := h _ (List.mem_of_getElem? e)
theorem base0 (hK : (kK w.params).In s.heap) (hg : s.heap.Ns mainGlobals mg) (hb : s.heap.Ns builtinsNs mb) (hn : s.heap.NoLimit) (hbi : ∀ x : Str, x ≠ "__name__" → mb x = bootBuiltins x) : Base (cX w s mg mb) := ⟨hK, hg, hb, hn, hbi⟩
theorem pk0 (B : Base (cX w s mg mb)) (hX : xtP globs mg) : Pk (cX w s mg mb) where
  B := B
  mods := by rw [show (cX w s mg mb).b.get? sysModules = _ from B.X 1 (xD [xE w.params n1 162 (.ref 4), xE w.params n160 163 (.ref 5)] 2) (by kernel_rfl)]; rfl
  and_items := ⟨143, g_at hX 0 "and_items" (some (.ref 143)) (by kernel_rfl), at_and_items⟩
  or_items := ⟨150, g_at hX 1 "or_items" (some (.ref 150)) (by kernel_rfl), at_or_items⟩
  truth_item := ⟨157, g_at hX 2 "truth_item" (some (.ref 157)) (by kernel_rfl), at_truth_item⟩
  scalar_truth := ⟨164, g_at hX 3 "scalar_truth" (some (.ref 164)) (by kernel_rfl), at_scalar_truth⟩
  flag := ⟨357, g_at hX 4 "flag" (some (.ref 357)) (by kernel_rfl), at_flag⟩
  length := ⟨371, g_at hX 5 "length" (some (.ref 371)) (by kernel_rfl), at_length⟩
  is_atomic := ⟨378, g_at hX 6 "is_atomic" (some (.ref 378)) (by kernel_rfl), at_is_atomic⟩
  share := ⟨392, g_at hX 7 "share" (some (.ref 392)) (by kernel_rfl), at_share⟩
  to_logical := ⟨406, g_at hX 8 "to_logical" (some (.ref 406)) (by kernel_rfl), at_to_logical⟩
  condition := ⟨413, g_at hX 9 "condition" (some (.ref 413)) (by kernel_rfl), at_condition⟩
  lookup := ⟨589, g_at hX 10 "lookup" (some (.ref 589)) (by kernel_rfl), at_lookup⟩
  define := ⟨610, g_at hX 11 "define" (some (.ref 610)) (by kernel_rfl), at_define⟩
  is_dots_place := ⟨672, g_at hX 12 "is_dots_place" (some (.ref 672)) (by kernel_rfl), at_is_dots_place⟩
  logic_left := ⟨854, g_at hX 13 "logic_left" (some (.ref 854)) (by kernel_rfl), at_logic_left⟩
  logic_right := ⟨861, g_at hX 14 "logic_right" (some (.ref 861)) (by kernel_rfl), at_logic_right⟩
  jump := ⟨875, g_at hX 15 "jump" (some (.ref 875)) (by kernel_rfl), at_jump⟩
  perform_push := ⟨882, g_at hX 16 "perform_push" (some (.ref 882)) (by kernel_rfl), at_perform_push⟩
  perform_jump := ⟨889, g_at hX 17 "perform_jump" (some (.ref 889)) (by kernel_rfl), at_perform_jump⟩
  perform_loop := ⟨896, g_at hX 18 "perform_loop" (some (.ref 896)) (by kernel_rfl), at_perform_loop⟩
  perform_assign := ⟨903, g_at hX 19 "perform_assign" (some (.ref 903)) (by kernel_rfl), at_perform_assign⟩
  perform := ⟨910, g_at hX 20 "perform" (some (.ref 910)) (by kernel_rfl), at_perform⟩
  take := ⟨1169, g_at hX 21 "_law_take" (some (.ref 1169)) (by kernel_rfl), at_law_take⟩
  plain := ⟨1176, g_at hX 22 "_law_plain" (some (.ref 1176)) (by kernel_rfl), at_law_plain⟩
  row := ⟨1183, g_at hX 23 "_law_row" (some (.ref 1183)) (by kernel_rfl), at_law_row⟩
  truth := ⟨1190, g_at hX 24 "_law_truth" (some (.ref 1190)) (by kernel_rfl), at_law_truth⟩
  joined := ⟨1197, g_at hX 25 "_law_joined" (some (.ref 1197)) (by kernel_rfl), at_law_joined⟩
  done := ⟨1204, g_at hX 26 "_law_done" (some (.ref 1204)) (by kernel_rfl), at_law_done⟩
  gv := g_at hX 28 "Vector" (some (.ref 210)) (by kernel_rfl)
  vecF := cls_of (fb_vecF w.params)
  envF := cls_of (fb_envF w.params)
  runF := cls_of (fb_runF w.params)
  codF := cls_of (fb_codF w.params)
  evaF := cls_of (fb_evaF w.params)
  mvariable := mt_of (fb_mvar w.params) at_Evaluator_variable
  mkVec := mk_of (fb_mkVec w.params) at_Vector_init
  mkEnv := mk_of (fb_mkEnv w.params) at_Environment_init
  mkRun := mk_of (fb_mkRun w.params) at_Run_init
  mkCod := mk_of (fb_mkCod w.params) at_Code_init
  mkEva := ⟨_, _, mk_of (fb_mkEva w.params) at_Evaluator_init⟩
  gen := g_at hX 29 "Environment" (some (.ref 297)) (by kernel_rfl)
  grn := g_at hX 30 "Run" (some (.ref 817)) (by kernel_rfl)
  gco := g_at hX 31 "Code" (some (.ref 927)) (by kernel_rfl)
  gev := g_at hX 32 "Evaluator" (some (.ref 1158)) (by kernel_rfl)
  kVec := by kernel_rfl
  kEnv := by kernel_rfl
  kRun := by kernel_rfl
  kCod := by kernel_rfl
  kEva := by kernel_rfl
  mnewenv := mt_of (fb_mnew w.params) at_Evaluator_new_env
  vecIs := by kernel_rfl
  nlen := g_at hX 34 "len" (none) (by kernel_rfl)
  nisi := g_at hX 35 "isinstance" (none) (by kernel_rfl)
  nlist := g_at hX 36 "list" (none) (by kernel_rfl)
  nsum := g_at hX 37 "sum" (none) (by kernel_rfl)
  nrange := g_at hX 38 "range" (none) (by kernel_rfl)
def isKs : Value → Bool
  | .str _ _ => true
  | _ => false
theorem isKs_of {v : Value} (h : isKs v = true) : ∃ n t, v = .str n t := by cases v <;> first | exact ⟨_, _, rfl⟩ | cases h
noncomputable def strKs (l : List DictEntry) : Bool := l.all fun e => isKs e.key
theorem strKs_of {l : List DictEntry} (h : strKs l = true) (e : DictEntry) (he : e ∈ l) : ∃ n t, e.key = .str n t := isKs_of (List.all_eq_true.mp h e he)
theorem ns_of {K : Frag} {h : Heap} {N : Addr} {es : List DictEntry} {n : Nat} (X : K.In h) (e : K.lookup N = some (xD es n)) (hs : strKs es = true) : h.Ns N (nsFind ⟨es⟩) :=
  ⟨_, _, _, X _ _ e, rfl, fun x hx => strKs_of hs x (Array.mem_def.mp hx), fun _ => rfl⟩
theorem ref0 (B : Base (cX w s mg mb)) (hX : xtP globs mg) : RefC (cX w s mg mb) where
  g := g_at hX 33 "Refusal" (some (.ref 51)) (by kernel_rfl)
  keep := by kernel_rfl
  exc := ⟨31, ⟨⟨n172, [.ref 31], [.ref 51, .ref 31, .type "Exception", .type "BaseException", .type "object"], 50, n172, true, [], [], false, none, false⟩, by kernel_rfl, rfl, rfl⟩, by kernel_rfl, by kernel_rfl⟩
  obj := ⟨n172, n172, 50, [.ref 31], [.ref 31, .type "Exception", .type "BaseException", .type "object"], true, [], [], false, none, none, some (.ref 35), none, some (.str n172 216), some (.str n172 224), some (.bool true), nsFind ⟨[xE w.params n178 223 (.str n169 194), xE w.params n180 227 (.int 7 226), xE w.params n183 235 (.ref 48), xE w.params n181 237 (.ref 49), xE w.params n2 238 (.none)]⟩, 48,
    B.X 51 _ (by kernel_rfl), .own (A := 31) (c0 := .type "type") (dd := none) (cd := ⟨n171, [.type "Exception"], [.ref 31, .type "Exception", .type "BaseException", .type "object"], 30, n171, true, [], [.ref 51, .ref 70, .ref 89, .ref 108, .ref 127], false, none, false⟩) (sl := ⟨[some (.ref 22), none, some (.str n171 196), some (.str n171 204), some (.builtin "Exception.__new__"), some (.bool true)]⟩) (mA := nsFind ⟨[xE w.params n178 203 (.str n169 194), xE w.params n180 207 (.int 5 206), xE w.params n181 208 (.ref 29), xE w.params n182 210 (.ref 32), xE w.params n2 211 (.none)]⟩) (B.X 31 _ (by kernel_rfl)) (ns_of (K := kK w.params) (n := 3) B.X (by kernel_rfl) (by kernel_rfl)) (by kernel_rfl) .base,
    ns_of (K := kK w.params) (n := 2) B.X (by kernel_rfl) (by kernel_rfl), by kernel_rfl, at_Refusal_init, by kernel_rfl⟩
end
end
noncomputable section
theorem ints_of {R : WRecords} {cl : Str → Option Addr} {h : Heap} : ∀ {vs : List Value} {xs : List WData} {as : List Addr}, ReadsAllW R cl h vs xs as → WShape.hasItems R xs .int = true → ∃ ms, IntsAre vs ms
  | [], _, _, .nil, _ => ⟨[], .nil⟩
  | _ :: _, _, _, .cons r rs, hh => by
    simp only [WShape.hasItems, Bool.and_eq_true] at hh
    obtain ⟨i, rfl⟩ := hasW_int hh.1
    obtain ⟨t, rfl, _⟩ := readsW_int_inv r
    obtain ⟨ms, hm⟩ := ints_of rs hh.2
    exact ⟨i :: ms, .cons i t hm⟩
theorem args_of {cl : Str → Option Addr} {h : Heap} {args : List WData} {vals : List Value} {as : List Addr} (hpre : rw0.row.toRowW.claim.pre args = true) (hrd : ReadsAllW [] cl h vals args as) :
    ∃ scr us ms, vals = [.ref scr] ∧ h.IsList scr us.toArray ∧ IntsAre us ms ∧ us.length ≤ 100 := by
  obtain ⟨hsh, hcond⟩ := pre_splitW hpre
  obtain ⟨d, r, rfl, h1, h2⟩ := hasAllW_cons (e := .list .int) (es := []) hsh
  obtain rfl := hasAllW_nil h2
  obtain ⟨xs, rfl, hxs⟩ := hasW_list h1
  obtain ⟨v, vs, as1, as2, rfl, rfl, r1, r2⟩ := readsAllW_cons_inv hrd
  obtain ⟨rfl, rfl⟩ := readsAllW_nil_inv r2
  obtain ⟨a, us, as', rfl, hl, hr, rfl⟩ := readsW_list_inv r1
  obtain ⟨ms, hm⟩ := ints_of hr hxs
  refine ⟨a, us.toList, ms, rfl, hl, hm, ?_⟩
  rw [hr.length]
  have hc : (WTm.and (.not (.lt (.lit (.int 63)) (.len (.arg 0)))) (.lit (.bool true))).holds [] { args := [.list xs] } = true := hcond
  have h3 : (match (some (WData.bool (!decide ((63 : Int) < (xs.length : Int)))) : Option WData) with | some (.bool true) => true | _ => false) = true := (holds_andW hc).1
  by_cases h : (63 : Int) < (xs.length : Int)
  · rw [decide_eq_true h] at h3
    exact absurd h3 (by decide)
  · omega
theorem post0 (args : List WData) : rw0.row.toRowW.claim.post args (.bool true) args = true := by kernel_rfl
theorem walk0 : WalkN qv lo (fun mg _ => xtP globs mg) (fun w h => (kK w.params).In h) rw0.row.toRowW d0r [] fun f vs => PySem.call f vs := by
  intro w s₀ s₁ mg mb G Y a o pm cd doc dV kV ho hd hcd hD hmg hg args vals as hpre hlay hrd hwl hlo
  have hX : xtP globs mg := G.X
  have B : Base (cX w s₁ mg mb) := base0 Y G.T.g G.T.b G.T.nolimit G.T.builtins
  obtain ⟨scr, us, ms, rfl, hl, hi, hz⟩ := args_of hpre hrd
  have ha : mg "law" = some (.ref 1209) := g_at hX 27 "law" (some (.ref 1209)) (by kernel_rfl)
  have e : a = 1209 := by
    have := hmg.symm.trans (show mg d0r.name = some (.ref 1209) from ha)
    exact Value.ref.inj (Option.some.inj this)
  subst e
  have z := c_law (c := cX w s₁ mg mb) (A := callerA) (f := 1209) (scr := scr) (us := us) (ms := ms) (tk := s₁.toks) (pk0 B hX) (ref0 B hX) at_law rfl rfl (by constructor <;> decide) hl hi hz
  refine wpAny_mono z (fun v s' ⟨e, h', t', e', k⟩ => ?_) (fun _ _ x => x.elim)
  subst e
  subst e'
  exact ⟨.inl ⟨_, .bool true, [], rfl, fun _ => rfl, ReadsW.bool true, post0 args, fun _ => ⟨List.nodup_nil, fun _ hm => (nomatch hm)⟩⟩, k, rfl, hg⟩
end
end Mine.Hd
open PySem PySem.W Mine Mine.Hd
theorem PySem.Challenge.cw_pq1364_01_holds : PySem.Challenge.rw_pq1364_01.Holds :=
  holds_law ws_law fun said => holds_openN (r := rw0.row) (q := qv) (loose := lo) (Xt := xtB globs) (XP := fun mg _ => xtP globs mg) (Yf := Yf0) (Ya := Ya0) (YP := fun w h => (kK w.params).In h) (d := d0r) (kwd := []) (N := 20000)
    left0 (fun w _ e => Frag.in_of (ka_e w.params) e) (fun _ _ _ x k => x.keeps k) (fun _ e => xtB_of e) (fun _ _ _ x _ => x) def0 td0 kw0 (fun _ _ => recFacts_nil rfl) rfl said ok0 ⟨rfl, rfl, rfl, rfl, rfl, tw0⟩ wit0 walk0
